import PyProof.Rows.All
import Wide.All
import OpenK.AllK
import Wide.FinOn
import KE.KStateDown
import Lean
import HandS.ForMost
import HandS.More
import HandS.WordsExc
import HandS.Defaults
import HandS.Head0
import HandS.Head1
import HandS.Head2
import HandS.HeadEnd
import HandS.HeadHook1
import HandS.HeadHook2
import HandS.HeadHook3
import HandS.HeadHook4
import HandS.Walk
import HandS.IsInst
import HandS.Evl
import HandS.StrMore
import HandS.TupAny
import HandS.TupMul
import HandS.TupLe
import HandS.Deep
import HandS.Zip
import HandS.Conv
import HandS.NoneIn
import HandS.Lambda
import HandS.HotCalls
import HandS.SuiteRaise
import HandS.ExcIs
import HandS.TryOnly
import HandS.ExcOwn
import HandS.CallRecv
import HandS.Codes
import HandS.SortInts
import HandS.SetKeys
import HandS.Strs
import HandS.DictComp
import HandS.ListItems
import HandS.WrittenGet
import HandS.Small
import HandS.Flow
import HandS.Style
import HandS.RaiseMore
import HandS.Wide
import HandS.EndTab
import HandS.HeadWalk
import HandS.SetFor
import HandS.Replace
import PyProof.Rows.SortShellAny
import PyProof.Draws
import KE.GoesZip
import KE.GoesMore
import PySem.Challenge.RW_leafroom_k05_whole_leaves_spoilt
set_option Elab.async false
set_option linter.all false
set_option maxRecDepth 100000
set_option maxHeartbeats 4000000
/-! ### a head by facts over a part of the heap that is named by its addresses (own work) -/
namespace LR
open PySem PySem.Spec PyProof.Rows L2
abbrev AlA : Type := Bool × List He.FnW × Bool
/-- what is looked at: the facts, the defs, and one more Bool -/
def okA (as : List Addr) (fa : List He.Fa) (g : Addr → Option Obj) : Bool := fa.all fun f => f.ok (He.frG g as)
def okD (as : List Addr) (fn : List He.DefD) (g : Addr → Option Obj) : Bool := fn.all fun d => d.ok (He.frG g as)
def fnA (as : List Addr) (fn : List He.DefD) (g : Addr → Option Obj) : List He.FnW := fn.map fun d => He.fnW (He.frG g as) d.at_
def emptyAt (g : Addr → Option Obj) (a : Addr) : Bool := match g a with
  | some o => He.emptyTab o
  | none => false
/-- the tables of code objects: empty, not among the addresses -/
def tabA (as : List Addr) (tf : List He.Defn) (g : Addr → Option Obj) : Bool := tf.all fun p => PySem.W.codeHdIn (He.frG g as) (He.cT (He.frG g as) p).1 (He.cT (He.frG g as) p).2 && (emptyAt g (He.cT (He.frG g as) p).2 && !(as.contains (He.cT (He.frG g as) p).2))
structure SaysA (as : List Addr) (fa : List He.Fa) (fn : List He.DefD) (tf : List He.Defn) (ex : PySem.W.Frag → Bool) (ts : List He.Tab) (w : World) (h : Heap) (K : PySem.W.Frag) : Prop where
  fact : ∀ f ∈ fa, f.ok K = true
  defs : ∀ d ∈ fn, d.ok K = true ∧ He.fnW K d.at_ = d.val
  more : ex K = true
  hd : ∀ p ∈ tf, PySem.W.codeHdIn K (He.cT K p).1 (He.cT K p).2 = true
  out : ∀ p ∈ tf, K.lookup (He.cT K p).2 = none
  empty : ∀ p ∈ tf, h.get? (He.cT K p).2 = some { cls := .none, data := .fields #[] }
  dic : ts.map (fun t => He.dicW K (t.1 K)) = ts.map fun t => some (He.keysIn w.params t.2)
abbrev ObA : Type := Bool × Bool × List He.FnW × Bool × List (Option (List (Option (Str × Int))))
/-- the top's dicts, as they stand -/
def dicA (as : List Addr) (ts : List He.Tab) (g : Addr → Option Obj) : List (Option (List (Option (Str × Int)))) := ts.map fun t => He.dicW (He.frG g as) (t.1 (He.frG g as))
def obsA (as : List Addr) (fa : List He.Fa) (fn : List He.DefD) (tf : List He.Defn) (ex : PySem.W.Frag → Bool) (ts : List He.Tab) (g : Addr → Option Obj) : ObA := (okA as fa g, okD as fn g, fnA as fn g, ex (He.frG g as) && tabA as tf g, dicA as ts g)
def valA (fn : List He.DefD) (ts : List He.Tab) (w : World) : ObA := (true, true, fn.map He.DefD.val, true, ts.map fun t => some (He.keysIn w.params t.2))
theorem frG_none {g : Addr → Option Obj} {a : Addr} : ∀ {as : List Addr}, as.contains a = false → (He.frG g as).lookup a = none
  | [], _ => rfl
  | b :: r, h => by
    have h2 : (a == b) = false ∧ r.contains a = false := by
      rw [List.contains_cons] at h
      exact Bool.or_eq_false_iff.mp h
    unfold He.frG
    rw [List.filterMap_cons]
    cases hb : g b with
    | none => exact frG_none h2.2
    | some o =>
      show (match a == b with | true => some o | false => (He.frG g r).lookup a) = none
      rw [h2.1]
      exact frG_none h2.2
theorem saysA_of {as : List Addr} {fa : List He.Fa} {fn : List He.DefD} {tf : List He.Defn} {ex : PySem.W.Frag → Bool} {ts : List He.Tab} {w : World} {h : Heap} (e : obsA as fa fn tf ex ts h.get? = valA fn ts w) : SaysA as fa fn tf ex ts w h (He.frG h.get? as) := by
  have e1 : okA as fa h.get? = true := congrArg (fun z : ObA => z.1) e
  have e2 : okD as fn h.get? = true := congrArg (fun z : ObA => z.2.1) e
  have e3 : fnA as fn h.get? = fn.map He.DefD.val := congrArg (fun z : ObA => z.2.2.1) e
  have e4 : (ex (He.frG h.get? as) && tabA as tf h.get?) = true := congrArg (fun z : ObA => z.2.2.2.1) e
  obtain ⟨e5, e6⟩ := He.ba e4
  have key : ∀ p ∈ tf, PySem.W.codeHdIn (He.frG h.get? as) (He.cT (He.frG h.get? as) p).1 (He.cT (He.frG h.get? as) p).2 = true ∧ emptyAt h.get? (He.cT (He.frG h.get? as) p).2 = true ∧ as.contains (He.cT (He.frG h.get? as) p).2 = false := fun p hp => by
    obtain ⟨a, b⟩ := He.ba (List.all_eq_true.mp e6 p hp)
    obtain ⟨b, c⟩ := He.ba b
    exact ⟨a, b, by simpa using c⟩
  refine ⟨fun f hf => List.all_eq_true.mp e1 f hf, fun d hd => ⟨List.all_eq_true.mp e2 d hd, ?_⟩, e5, fun p hp => (key p hp).1, fun p hp => frG_none (key p hp).2.2, fun p hp => ?_, congrArg (fun z : ObA => z.2.2.2.2) e⟩
  · obtain ⟨i, hi, rfl⟩ := List.mem_iff_getElem.mp hd
    have z : (fnA as fn h.get?)[i]? = (fn.map He.DefD.val)[i]? := by rw [e3]
    unfold fnA at z
    rw [List.getElem?_map, List.getElem?_map, List.getElem?_eq_getElem hi] at z
    exact Option.some.inj z
  · have b := (key p hp).2.1
    unfold emptyAt at b
    cases q : h.get? (He.cT (He.frG h.get? as) p).2 with
    | none =>
      rw [q] at b
      cases b
    | some o =>
      rw [q] at b
      rw [He.emptyTab_eq b]
def hookA (as : List Addr) (fa : List He.Fa) (fn : List He.DefD) (tf : List He.Defn) (ex : PySem.W.Frag → Bool) (ts : List He.Tab) : PySem.W.Hook where
  α := ObA
  obs := fun s => obsA as fa fn tf ex ts s.heap.get?
  val := fun w => valA fn ts w
  says := fun w h => ∃ K : PySem.W.Frag, K.In h ∧ SaysA as fa fn tf ex ts w h K
  of := fun _ _ e => ⟨_, He.frG_in, saysA_of e⟩
  keeps := fun _ _ _ ⟨K, hK, c⟩ k => ⟨K, PySem.W.Frag.In.keeps hK k, ⟨c.fact, c.defs, c.more, c.hd, c.out, fun p hp => k _ _ (c.empty p hp), c.dic⟩⟩
theorem obsA_eq {as : List Addr} {fa : List He.Fa} {fn : List He.DefD} {tf : List He.Defn} {ex : PySem.W.Frag → Bool} {ts : List He.Tab} {g : Addr → Option Obj} {s : Shared} (h : ∀ a, g a = s.heap.get? a) : obsA as fa fn tf ex ts g = (hookA as fa fn tf ex ts).obs s := by
  have e : g = s.heap.get? := funext h
  rw [e] <;> rfl
section
variable {as : List Addr} {fa : List He.Fa} {fn : List He.DefD} {tf : List He.Defn} {ex : PySem.W.Frag → Bool} {ts : List He.Tab} {w : World} {h : Heap} {K : PySem.W.Frag}
/-- d[k] of a dict of the top -/
theorem SaysA.tab (c : SaysA as fa fn tf ex ts w h K) (i : Nat) {t : He.Tab} (ht : ts[i]? = some t) {kvs : List (Str × He.Dv)} (hv : He.valsB K (t.1 K) kvs = true) : ∀ q ∈ kvs, KDct K w (t.1 K) q.1 (q.2.v K) := fun q hq => by
  have e2 : (ts.map fun t => He.dicW K (t.1 K))[i]? = (ts.map fun t => some (He.keysIn w.params t.2))[i]? := by rw [c.dic]
  rw [List.getElem?_map, List.getElem?_map, ht] at e2
  obtain ⟨es, n, hl, hk, _⟩ := He.dicW_ok (Option.some.inj e2)
  obtain ⟨u, hu, ru⟩ := He.valsB_ok hv hq
  exact ⟨es, n, u, hl, hk, hu, ru⟩
theorem SaysA.fnAt (c : SaysA as fa fn tf ex ts w h K) (i : Nat) {d : He.DefD} (hd : fn[i]? = some d) : ∃ fd, FunD K d.name d.qual d.params d.body d.scope (d.dvs K) (d.kws K) (He.fAd K d.at_) fd :=
  He.DefD.funD (c.defs d (List.mem_of_getElem? hd)).2 (c.defs d (List.mem_of_getElem? hd)).1
theorem SaysA.faAt (c : SaysA as fa fn tf ex ts w h K) (i : Nat) {f : He.Fa} (hf : fa[i]? = some f) : f.ok K = true := c.fact f (List.mem_of_getElem? hf)
theorem SaysA.free (c : SaysA as fa fn tf ex ts w h K) {mg : Str → Option Value} (X : K.In h) (G : h.Ns mainGlobals mg) (i : Nat) {x : Str} (hf : fa[i]? = some (.free x)) : mg x = none := He.free_ok X G (c.faAt i hf)
theorem SaysA.glo (c : SaysA as fa fn tf ex ts w h K) {mg : Str → Option Value} (X : K.In h) (G : h.Ns mainGlobals mg) (i : Nat) {x : Str} (hf : fa[i]? = some (.glo x)) : mg x = some (.ref (He.ga K x)) := He.glo_ok X G (c.faAt i hf)
theorem SaysA.int (c : SaysA as fa fn tf ex ts w h K) {mg : Str → Option Value} (X : K.In h) (G : h.Ns mainGlobals mg) (i : Nat) {x : Str} {z : Int} (hf : fa[i]? = some (.int x z)) : ∃ u, mg x = some u ∧ RelV (.int z) u := by
  obtain ⟨t, e⟩ := He.int_ok X G (c.faAt i hf)
  exact ⟨_, e, t, rfl⟩
theorem SaysA.str (c : SaysA as fa fn tf ex ts w h K) {mg : Str → Option Value} (X : K.In h) (G : h.Ns mainGlobals mg) (i : Nat) {x z : Str} (hf : fa[i]? = some (.str x z)) : ∃ u, mg x = some u ∧ RelV (.str z) u := by
  obtain ⟨t, e⟩ := He.str_ok X G (c.faAt i hf)
  exact ⟨_, e, t, rfl⟩
end
/-- the run in parts: each look by a kernel run of its own -/
theorem map_pair {α β γ : Type} {x : Option α} {f : α → β} {g : α → γ} {a : β} {b : γ} (h1 : x.map f = some a) (h2 : x.map g = some b) : x.map (fun s => (f s, g s)) = some (a, b) := by
  cases x with
  | none => cases h1
  | some s =>
    have e1 : f s = a := Option.some.inj h1
    have e2 : g s = b := Option.some.inj h2
    rw [← e1, ← e2] <;> rfl
end LR

/-! ### data: what pure code reckons (own work). H: what is known (a logical heap); the heap that runs is any that holds H -/
namespace LR
open PySem PySem.Spec PyProof.Rows L2 Evl
/-- H' is H with objects that are new (not in H1) -/
structure Ext (H H1 H' : Hp) : Prop where
  ex : Ex H H'
  fresh : ∀ b o, H' b = some o → H b = some o ∨ (H1 b = none ∧ ∀ ps, o ≠ .tbl ps)
theorem Ext.refl (H H1 : Hp) : Ext H H1 H := ⟨Ex.refl H, fun _ _ h => .inl h⟩
theorem Ext.trans {H H1 H' H2 H'' : Hp} (a : Ext H H1 H') (e : Ex H1 H2) (b : Ext H' H2 H'') : Ext H H1 H'' :=
  ⟨a.ex.trans b.ex, fun c o h => by
    rcases b.fresh c o h with z | z
    · exact a.fresh c o z
    · exact .inr ⟨fresh_back e z.1, z.2⟩⟩
theorem Ext.off {H H1 H' : Hp} (a : Ext H H1 H') {l : Addr} {o : HO} (h : H l = none) (h1 : H1 l = some o) : H' l = none := by
  cases q : H' l with
  | none => rfl
  | some u =>
    rcases a.fresh l u q with z | z
    · rw [h] at z
      cases z
    · rw [h1] at z
      cases z.1
theorem Ext.new {H H1 : Hp} {p : Addr} {o : HO} (e : Ex H H1) (h : H1 p = none) (ht : ∀ ps, o ≠ .tbl ps := by intro ps z; cases z) : Ext H H1 (upd H p o) :=
  ⟨Ex.new (fresh_back e h), fun b u q => by
    by_cases z : b = p
    · subst z
      rw [upd_same] at q
      cases q
      exact .inr ⟨h, ht⟩
    · rw [upd_ne z] at q
      exact .inl q⟩
/-- both heaps get the same new object -/
theorem ex_upd {H H1 : Hp} {p : Addr} {o : HO} (e : Ex H H1) : Ex (upd H p o) (upd H1 p o) := fun b u q => by
  by_cases z : b = p
  · subst z
    rw [upd_same] at q ⊢
    exact q
  · rw [upd_ne z] at q ⊢
    exact e b u q
/-- an object that H does not know is changed -/
theorem ex_off {H H1 : Hp} {p : Addr} {o : HO} (e : Ex H H1) (h : H p = none) : Ex H (upd H1 p o) := fun b u q => by
  rw [upd_ne (ne_of_none q h)]
  exact e b u q
/-! data at an address: lists that are tracked, tuples, numbers, texts -/
mutual
inductive Dt (K : PySem.W.Frag) (H : Hp) : V → PyData → Prop
  | non : Dt K H .non .none
  | bl (b : Bool) : Dt K H (.bl b) (.bool b)
  | int (i : Int) : Dt K H (.int i) (.int i)
  | str (x : Str) : Dt K H (.str x) (.str x)
  | lst {a : Addr} {xs : List V} {ds : List PyData} : H a = some (.lst xs) → DtAll K H xs ds → Dt K H (.ref a) (.list ds)
  | tup {a : Addr} {xs : List V} {ds : List PyData} : SqT K H a xs → DtAll K H xs ds → Dt K H (.ref a) (.tuple ds)
  /-- the law's script: a list that is read alone -/
  | scr {a : Addr} (ns : List Int) : SqL K H a (ns.map V.int) → Dt K H (.ref a) (.dict (ns.map fun i => (.int i, .none)))
inductive DtAll (K : PySem.W.Frag) (H : Hp) : List V → List PyData → Prop
  | nil : DtAll K H [] []
  | cons {v : V} {vs : List V} {d : PyData} {ds : List PyData} : Dt K H v d → DtAll K H vs ds → DtAll K H (v :: vs) (d :: ds)
end
section
variable {K : PySem.W.Frag} {H H' : Hp}
mutual
theorem Dt.ex (e : Ex H H') : ∀ {v : V} {d : PyData}, Dt K H v d → Dt K H' v d
  | _, _, .non => .non
  | _, _, .bl b => .bl b
  | _, _, .int i => .int i
  | _, _, .str x => .str x
  | _, _, .lst h r => .lst (e _ _ h) (DtAll.ex e r)
  | _, _, .tup h r => .tup (ex_t e h) (DtAll.ex e r)
  | _, _, .scr ns h => .scr ns (ex_l e h)
theorem DtAll.ex (e : Ex H H') : ∀ {vs : List V} {ds : List PyData}, DtAll K H vs ds → DtAll K H' vs ds
  | _, _, .nil => .nil
  | _, _, .cons a b => .cons (Dt.ex e a) (DtAll.ex e b)
end
mutual
theorem Dt.dp : ∀ {v : V} {d : PyData}, Dt K H v d → d.canLay0 = true → L2.Dp K H v d
  | _, _, .non, _ => .non
  | _, _, .bl b, _ => .bl b
  | _, _, .int i, _ => .int i
  | _, _, .str x, _ => .str x
  | _, _, .lst h r, c => .lst (sq_of h) (DtAll.dp r (by simpa [PyData.canLay0] using c))
  | _, _, .tup h r, c => .tup h (DtAll.dp r (by simpa [PyData.canLay0] using c))
  | _, _, .scr _ _, c => by simp [PyData.canLay0] at c
theorem DtAll.dp : ∀ {vs : List V} {ds : List PyData}, DtAll K H vs ds → PyData.canLayAll0 ds = true → L2.DpAll K H vs ds
  | _, _, .nil, _ => .nil
  | _, _, .cons a b, c => by
    simp only [PyData.canLayAll0, Bool.and_eq_true] at c
    exact .cons (Dt.dp a c.1) (DtAll.dp b c.2)
end
/-- the script as data -/
def scrD (ns : List Int) : PyData := .dict (ns.map fun i => (.int i, .none))
theorem scr_map_inj : ∀ {ns ms : List Int}, ns.map (fun i => ((.int i, .none) : PyData × PyData)) = ms.map (fun i => (.int i, .none)) → ns = ms
  | [], [], _ => rfl
  | [], _ :: _, h => by cases h
  | _ :: _, [], h => by cases h
  | a :: r, b :: q, h => by
    rw [List.map_cons, List.map_cons] at h
    injection h with h1 h2
    injection h1 with h3 _
    injection h3 with h4
    rw [h4, scr_map_inj h2]
theorem Dt.scr_eq {v : V} {ns : List Int} (h : Dt K H v (scrD ns)) : ∃ a, v = .ref a ∧ SqL K H a (ns.map V.int) := by
  unfold scrD at h
  generalize e : (PyData.dict (ns.map fun i => (.int i, .none))) = d at h
  cases h with
  | scr ms h =>
    injection e with e
    rw [scr_map_inj e]
    exact ⟨_, rfl, h⟩
  | _ => cases e
theorem DtAll.length : ∀ {vs : List V} {ds : List PyData}, DtAll K H vs ds → vs.length = ds.length
  | _, _, .nil => rfl
  | _, _, .cons _ b => congrArg Nat.succ (DtAll.length b)
theorem DtAll.get : ∀ {vs : List V} {ds : List PyData} {i : Nat} {d : PyData}, DtAll K H vs ds → ds[i]? = some d → ∃ v, vs[i]? = some v ∧ Dt K H v d
  | _, _, _, _, .nil, e => by simp at e
  | _, _, 0, _, .cons a _, e => by
    simp at e
    subst e
    exact ⟨_, rfl, a⟩
  | _, _, i + 1, d, .cons _ b, e => by
    obtain ⟨v, h1, h2⟩ := DtAll.get (i := i) (d := d) b (by simpa using e)
    exact ⟨v, by simpa using h1, h2⟩
theorem DtAll.get' {vs : List V} {ds : List PyData} {i : Nat} {v : V} (h : DtAll K H vs ds) (e : vs[i]? = some v) : ∃ d, ds[i]? = some d ∧ Dt K H v d := by
  have hl : i < ds.length := by rw [← h.length]; exact (List.getElem?_eq_some_iff.mp e).1
  obtain ⟨w, h1, h2⟩ := h.get (i := i) (d := ds[i]) (List.getElem?_eq_getElem hl)
  rw [e] at h1
  cases h1
  exact ⟨_, List.getElem?_eq_getElem hl, h2⟩
theorem DtAll.append : ∀ {vs ws : List V} {ds es : List PyData}, DtAll K H vs ds → DtAll K H ws es → DtAll K H (vs ++ ws) (ds ++ es)
  | _, _, _, _, .nil, b => b
  | _, _, _, _, .cons a r, b => .cons a (DtAll.append r b)
theorem DtAll.take : ∀ {vs : List V} {ds : List PyData} (n : Nat), DtAll K H vs ds → DtAll K H (vs.take n) (ds.take n)
  | _, _, 0, _ => .nil
  | _, _, _ + 1, .nil => .nil
  | _, _, n + 1, .cons a r => .cons a (DtAll.take n r)
theorem DtAll.drop : ∀ {vs : List V} {ds : List PyData} (n : Nat), DtAll K H vs ds → DtAll K H (vs.drop n) (ds.drop n)
  | _, _, 0, r => r
  | _, _, _ + 1, .nil => .nil
  | _, _, n + 1, .cons _ r => DtAll.drop n r
/-- what is a whole number, a text .. stands alone -/
theorem Dt.int_eq {v : V} {i : Int} (h : Dt K H v (.int i)) : v = .int i := by cases h; rfl
theorem Dt.str_eq {v : V} {x : Str} (h : Dt K H v (.str x)) : v = .str x := by cases h; rfl
theorem Dt.bl_eq {v : V} {b : Bool} (h : Dt K H v (.bool b)) : v = .bl b := by cases h; rfl
theorem Dt.non_eq {v : V} (h : Dt K H v .none) : v = .non := by cases h; rfl
theorem Dt.tup_eq {v : V} {ds : List PyData} (h : Dt K H v (.tuple ds)) : ∃ a xs, v = .ref a ∧ SqT K H a xs ∧ DtAll K H xs ds := by
  cases h with
  | tup h r => exact ⟨_, _, rfl, h, r⟩
theorem Dt.lst_eq {v : V} {ds : List PyData} (h : Dt K H v (.list ds)) : ∃ a xs, v = .ref a ∧ H a = some (.lst xs) ∧ DtAll K H xs ds := by
  cases h with
  | lst h r => exact ⟨_, _, rfl, h, r⟩
theorem dp_strs : ∀ (l : List Str), DtAll K H (l.map V.str) (l.map PyData.str)
  | [] => .nil
  | x :: r => .cons (.str x) (dp_strs r)
theorem dp_ints : ∀ (l : List Int), DtAll K H (l.map V.int) (l.map PyData.int)
  | [] => .nil
  | x :: r => .cons (.int x) (dp_ints r)
theorem strs_dp : ∀ {l : List Str} {vs : List V}, DtAll K H vs (l.map PyData.str) → vs = l.map V.str
  | [], _, .nil => rfl
  | x :: r, _, .cons a b => by rw [a.str_eq, strs_dp b]; rfl
theorem ints_dp : ∀ {l : List Int} {vs : List V}, DtAll K H vs (l.map PyData.int) → vs = l.map V.int
  | [], _, .nil => rfl
  | x :: r, _, .cons a b => by rw [a.int_eq, ints_dp b]; rfl
theorem bls_dp : ∀ {l : List Bool} {vs : List V}, DtAll K H vs (l.map PyData.bool) → vs = l.map V.bl
  | [], _, .nil => rfl
  | x :: r, _, .cons a b => by rw [a.bl_eq, bls_dp b]; rfl
end

/-! ### what evaluates to data -/
/-- two heaps as one -/
def unH (A B : Hp) : Hp := fun b => match A b with
  | some o => some o
  | none => B b
theorem unH_l {A B : Hp} {b : Addr} {o : HO} (h : A b = some o) : unH A B b = some o := by
  unfold unH
  rw [h]
theorem unH_r {A B : Hp} {b : Addr} (h : A b = none) : unH A B b = B b := by
  unfold unH
  rw [h]
theorem unH_ex {A B H2 : Hp} (ea : Ex A H2) (eb : Ex B H2) : Ex (unH A B) H2 := fun b o hb => by
  cases z : A b with
  | some u =>
    rw [unH_l z] at hb
    cases hb
    exact ea b _ z
  | none =>
    rw [unH_r z] at hb
    exact eb b o hb
theorem ex_unH {A B H2 : Hp} (ea : Ex A H2) (eb : Ex B H2) : Ex B (unH A B) := fun b o hb => by
  cases z : A b with
  | some u =>
    have h1 := ea b _ z
    rw [eb b o hb] at h1
    cases h1
    exact unH_l z
  | none =>
    rw [unH_r z]
    exact hb
theorem ext_unH {A B H H1 : Hp} (e : Ex H A) (x : Ext H H1 B) : Ext A H1 (unH A B) := ⟨fun b o hb => unH_l hb, fun b o hb => by
  cases z : A b with
  | some u =>
    rw [unH_l z] at hb
    exact .inl hb
  | none =>
    rw [unH_r z] at hb
    rcases x.fresh b o hb with y | y
    · rw [e b o y] at z
      cases z
    · exact .inr y⟩
/-- what follows an evaluation: the heap has grown, H' holds the answer -/
abbrev KD (K : PySem.W.Frag) (H H1 : Hp) (d : PyData) (Q : VK) : Prop := ∀ v H2 H', Ex H1 H2 → Ex H' H2 → Ext H H1 H' → Dt K H' v d → Q v H2
def EvD (K : PySem.W.Frag) (te : TE) (σ : L2.St) (H : Hp) (d : PyData) : Prop := ∀ H1, Ex H H1 → ∀ Q : VK, KD K H H1 d Q → te σ H1 Q
def EvB (tt : TT) (σ : L2.St) (H : Hp) (b : Bool) : Prop := ∀ H1, Ex H H1 → ∀ Q : Bool → Hp → Prop, (∀ H2, Ex H1 H2 → Q b H2) → tt σ H1 Q
def EvDs (K : PySem.W.Frag) (ta : TA) (σ : L2.St) (H : Hp) (ds : List PyData) : Prop := ∀ H1, Ex H H1 → ∀ Q : List V → Hp → Prop, (∀ vs H2 H', Ex H1 H2 → Ex H' H2 → Ext H H1 H' → DtAll K H' vs ds → Q vs H2) → ta σ H1 Q
/-- a slot's part -/
def EvO (to : TO) (σ : L2.St) (H : Hp) (o : Option Int) : Prop := ∀ H1, Ex H H1 → ∀ Q : Option Int → Hp → Prop, (∀ H2, Ex H1 H2 → Q o H2) → to σ H1 Q
/-- an operation on data -/
def RD2 (K : PySem.W.Frag) (r : R2) (d e : PyData) (H : Hp) (z : PyData) : Prop := ∀ H' x y, Ex H H' → Dt K H' x d → Dt K H' y e → ∀ H1, Ex H' H1 → ∀ Q : VK, KD K H' H1 z Q → r x y H1 Q
def RDU (K : PySem.W.Frag) (r : V → Hp → VK → Prop) (d : PyData) (H : Hp) (z : PyData) : Prop := ∀ H' x, Ex H H' → Dt K H' x d → ∀ H1, Ex H' H1 → ∀ Q : VK, KD K H' H1 z Q → r x H1 Q
def RDC (K : PySem.W.Frag) (r : List V → Hp → VK → Prop) (ds : List PyData) (H : Hp) (z : PyData) : Prop := ∀ H' vs, Ex H H' → DtAll K H' vs ds → ∀ H1, Ex H' H1 → ∀ Q : VK, KD K H' H1 z Q → r vs H1 Q
section
variable {K : PySem.W.Frag} {σ : L2.St} {H H' H1 : Hp} {ta tb te tc : TE} {t u : TT} {d e z : PyData}
theorem KD.now {v : V} {Q : VK} (q : KD K H H1 d Q) (e : Ex H H1) (h : Dt K H v d) : Q v H1 := q v H1 H (Ex.refl _) e (Ext.refl _ _) h
/-- a new object is laid: the answer -/
theorem KD.new {p : Addr} {o : HO} {Q : VK} (q : KD K H H1 d Q) (e : Ex H H1) (h : H1 p = none) (hd : Dt K (upd H p o) (.ref p) d) (ht : ∀ ps, o ≠ .tbl ps := by intro ps z; cases z) : Q (.ref p) (upd H1 p o) :=
  q _ _ (upd H p o) (Ex.new h) (ex_upd e) (Ext.new e h ht) hd
theorem EvD.mono (h : EvD K te σ H d) (e : Ex H H') : EvD K te σ H' d := fun H1 e1 Q q => h H1 (e.trans e1) Q fun v H2 H'' e2 e3 x hd =>
  q v H2 (unH H' H'') e2 (unH_ex (e1.trans e2) e3) (ext_unH e x) (Dt.ex (ex_unH (e1.trans e2) e3) hd)
theorem EvB.mono {b : Bool} (h : EvB t σ H b) (e : Ex H H') : EvB t σ H' b := fun H1 e1 Q q => h H1 (e.trans e1) Q q
theorem EvDs.mono {ta : TA} {ds : List PyData} (h : EvDs K ta σ H ds) (e : Ex H H') : EvDs K ta σ H' ds := fun H1 e1 Q q => h H1 (e.trans e1) Q fun v H2 H'' e2 e3 x hd =>
  q v H2 (unH H' H'') e2 (unH_ex (e1.trans e2) e3) (ext_unH e x) (DtAll.ex (ex_unH (e1.trans e2) e3) hd)
theorem ed_var {i : Nat} {v : V} (h : σ[i]? = some (some v)) (hd : Dt K H v d) : EvD K (tVar i) σ H d := fun H1 e Q q => ⟨v, h, KD.now q e hd⟩
theorem ed_c {v : V} (hd : Dt K H v d) : EvD K (tC v) σ H d := fun H1 e Q q => KD.now q e hd
theorem ed_op {r : R2} (ha : EvD K ta σ H d) (hb : EvD K tb σ H e) (hr : RD2 K r d e H z) : EvD K (tOp r ta tb) σ H z := fun H1 e1 Q q =>
  ha H1 e1 _ fun x H2 Ha e2 ea xa da => (hb.mono xa.ex) H2 ea _ fun y H3 Hb e3 eb xb db => hr Hb x y (xa.ex.trans xb.ex) (Dt.ex xb.ex da) db H3 eb Q fun v H4 Hc e4 ec xc dc =>
    q v H4 Hc ((e2.trans e3).trans e4) ec ((xa.trans e2 xb).trans (e2.trans e3) xc) dc
theorem ed_un {r : V → Hp → VK → Prop} (ha : EvD K ta σ H d) (hr : RDU K r d H z) : EvD K (tUn r ta) σ H z := fun H1 e1 Q q =>
  ha H1 e1 _ fun x H2 Ha e2 ea xa da => hr Ha x xa.ex da H2 ea Q fun v H4 Hc e4 ec xc dc => q v H4 Hc (e2.trans e4) ec (xa.trans e2 xc) dc
theorem ed_cb {r : List V → Hp → VK → Prop} {ta : TA} {ds : List PyData} (ha : EvDs K ta σ H ds) (hr : RDC K r ds H z) : EvD K (tCB r ta) σ H z := fun H1 e1 Q q =>
  ha H1 e1 _ fun x H2 Ha e2 ea xa da => hr Ha x xa.ex da H2 ea Q fun v H4 Hc e4 ec xc dc => q v H4 Hc (e2.trans e4) ec (xa.trans e2 xc) dc
theorem eds_nil : EvDs K tNil σ H [] := fun H1 e Q q => q [] H1 H (Ex.refl _) e (Ext.refl _ _) .nil
theorem eds_cons {tr : TA} {ds : List PyData} (ha : EvD K ta σ H d) (hr : EvDs K tr σ H ds) : EvDs K (tCons ta tr) σ H (d :: ds) := fun H1 e1 Q q =>
  ha H1 e1 _ fun x H2 Ha e2 ea xa da => (hr.mono xa.ex) H2 ea _ fun ys H3 Hb e3 eb xb db => q (x :: ys) H3 Hb (e2.trans e3) eb (xa.trans e2 xb) (.cons (Dt.ex xb.ex da) db)
theorem ed_tup {ta : TA} {ds : List PyData} (ha : EvDs K ta σ H ds) (hl : ds.length ≤ 100000) : EvD K (tTup ta) σ H (.tuple ds) := fun H1 e1 Q q =>
  ha H1 e1 _ fun xs H2 Ha e2 ea xa da => ⟨by rw [da.length]; exact sz_of hl, fun p hp => q _ _ (upd Ha p (.tup xs)) (e2.trans (Ex.new hp)) (ex_upd ea) (xa.trans e2 (Ext.new ea hp)) (.tup (st_of upd_same) (DtAll.ex (Ex.new (fresh_back ea hp)) da))⟩
theorem ed_lst {ta : TA} {ds : List PyData} (ha : EvDs K ta σ H ds) (hl : ds.length ≤ 100000) : EvD K (tLst ta) σ H (.list ds) := fun H1 e1 Q q =>
  ha H1 e1 _ fun xs H2 Ha e2 ea xa da => ⟨by rw [da.length]; exact sz_of hl, fun p hp => q _ _ (upd Ha p (.lst xs)) (e2.trans (Ex.new hp)) (ex_upd ea) (xa.trans e2 (Ext.new ea hp)) (.lst upd_same (DtAll.ex (Ex.new (fresh_back ea hp)) da))⟩
theorem ed_is {w : PyData} (h : EvD K te σ H d) (e : d = w) : EvD K te σ H w := e ▸ h
/-! tests -/
theorem eb_test {b : Bool} (h : EvD K te σ H (.bool b)) : EvB (tTest te) σ H b := fun H1 e _ q => h H1 e _ fun v H2 _ e2 _ _ dv => ⟨b, dv.bl_eq, q H2 e2⟩
theorem eb_B {b : Bool} (h : EvD K te σ H (.bool b)) : EvB (tB te) σ H b := fun H1 e _ q => h H1 e _ fun v H2 _ e2 _ _ dv => ⟨b, dv.bl_eq, q H2 e2⟩
theorem eb_and {a b : Bool} (h1 : EvB t σ H a) (h2 : a = true → EvB u σ H b) : EvB (tAnd t u) σ H (a && b) := fun H1 e Q q => h1 H1 e _ fun H2 e2 => by
  cases a with
  | true => exact h2 rfl H2 (e.trans e2) Q fun H3 e3 => q H3 (e2.trans e3)
  | false => exact q H2 e2
theorem eb_or {a b : Bool} (h1 : EvB t σ H a) (h2 : a = false → EvB u σ H b) : EvB (tOr t u) σ H (a || b) := fun H1 e Q q => h1 H1 e _ fun H2 e2 => by
  cases a with
  | true => exact q H2 e2
  | false => exact h2 rfl H2 (e.trans e2) Q fun H3 e3 => q H3 (e2.trans e3)
theorem eb_not {a : Bool} (h1 : EvB t σ H a) : EvB (tNot t) σ H (!a) := fun H1 e _ q => h1 H1 e _ fun H2 e2 => q H2 e2
theorem eb_is {a b : Bool} (h : EvB t σ H a) (e : a = b) : EvB t σ H b := e ▸ h
theorem ed_and {a b : Bool} (h1 : EvD K ta σ H (.bool a)) (h2 : a = true → EvD K tb σ H (.bool b)) : EvD K (tAndV ta tb) σ H (.bool (a && b)) := fun H1 e Q q => h1 H1 e _ fun v H2 Ha e2 ea xa dv => ⟨a, dv.bl_eq, by
  cases a with
  | true => exact (h2 rfl).mono xa.ex H2 ea Q fun v H3 Hb e3 eb xb db => q v H3 Hb (e2.trans e3) eb (xa.trans e2 xb) db
  | false => exact q _ H2 Ha e2 ea xa (.bl false)⟩
theorem ed_or {a b : Bool} (h1 : EvD K ta σ H (.bool a)) (h2 : a = false → EvD K tb σ H (.bool b)) : EvD K (tOrV ta tb) σ H (.bool (a || b)) := fun H1 e Q q => h1 H1 e _ fun v H2 Ha e2 ea xa dv => ⟨a, dv.bl_eq, by
  cases a with
  | true => exact q _ H2 Ha e2 ea xa (.bl true)
  | false => exact (h2 rfl).mono xa.ex H2 ea Q fun v H3 Hb e3 eb xb db => q v H3 Hb (e2.trans e3) eb (xa.trans e2 xb) db⟩
theorem ed_not {a : Bool} (h1 : EvD K ta σ H (.bool a)) : EvD K (tNotV ta) σ H (.bool (!a)) := fun H1 e Q q => h1 H1 e _ fun v H2 Ha e2 ea xa dv => ⟨a, dv.bl_eq, q _ H2 Ha e2 ea xa (.bl _)⟩
theorem ed_if {b : Bool} (h : EvB t σ H b) (h1 : b = true → EvD K ta σ H d) (h2 : b = false → EvD K tb σ H d) : EvD K (tIf t ta tb) σ H d := fun H1 e Q q => h H1 e _ fun H2 e2 => by
  cases b with
  | true => exact h1 rfl H2 (e.trans e2) Q fun v H3 Hb e3 eb xb db => q v H3 Hb (e2.trans e3) eb ⟨xb.ex, fun b o hb => (xb.fresh b o hb).imp id fun z => ⟨fresh_back e2 z.1, z.2⟩⟩ db
  | false => exact h2 rfl H2 (e.trans e2) Q fun v H3 Hb e3 eb xb db => q v H3 Hb (e2.trans e3) eb ⟨xb.ex, fun b o hb => (xb.fresh b o hb).imp id fun z => ⟨fresh_back e2 z.1, z.2⟩⟩ db
/-- a < b < c -/
theorem ed_chain {r r' : R2} {a b : Bool} {f : PyData} (ha : EvD K ta σ H d) (hb : EvD K tb σ H e) (hr : RD2 K r d e H (.bool a)) (hc : a = true → EvD K tc σ H f) (hr' : a = true → RD2 K r' e f H (.bool b)) : EvD K (tChain r r' ta tb tc) σ H (.bool (a && b)) := fun H1 e1 Q q =>
  ha H1 e1 _ fun x H2 Ha e2 ea xa da => (hb.mono xa.ex) H2 ea _ fun y H3 Hb e3 eb xb db => hr Hb x y (xa.ex.trans xb.ex) (Dt.ex xb.ex da) db H3 eb _ fun v H4 Hc e4 ec xc dc => ⟨a, dc.bl_eq, by
    cases a with
    | true => exact ((hc rfl).mono ((xa.ex.trans xb.ex).trans xc.ex)) H4 ec _ fun z H5 Hd e5 ed xd dd => hr' rfl Hd y z (((xa.ex.trans xb.ex).trans xc.ex).trans xd.ex) (Dt.ex (xc.ex.trans xd.ex) db) dd H5 ed Q fun v H6 He e6 ee xe de => q v H6 He ((((e2.trans e3).trans e4).trans e5).trans e6) ee ((((xa.trans e2 xb).trans (e2.trans e3) xc).trans ((e2.trans e3).trans e4) xd).trans (((e2.trans e3).trans e4).trans e5) xe) de
    | false => exact q _ H4 Hc ((e2.trans e3).trans e4) ec ((xa.trans e2 xb).trans (e2.trans e3) xc) (.bl false)⟩
end
end LR

/-! ### operations on data (own work) -/
namespace LR
open PySem PySem.Spec PyProof.Rows L2 Evl
section
variable {X : Cx}
/-! text times a number -/
def rRepS : R2 := fun x y H Q => ∃ (z : Str) (k : Int), x = .str z ∧ y = .int k ∧ -(2 ^ 60) ≤ k ∧ k ≤ 1000 ∧ z.length ≤ 1000 ∧ Q (.str ⟨(List.replicate k.toNat z.cps.toList).flatten.toArray⟩) H
theorem foldl_app (l : List (Array Nat)) : ∀ a : Array Nat, l.foldl (· ++ ·) a = (a.toList ++ (l.map Array.toList).flatten).toArray := by
  induction l with
  | nil => intro a; simp
  | cons x r ih =>
    intro a
    rw [List.foldl_cons, ih, List.map_cons, List.flatten_cons]
    apply Array.toList_inj.mp
    simp
theorem op_repS : OpR X (binaryOp .Mult) rRepS := by
  intro pins s σ H x y v u Q I rx ry h
  obtain ⟨z, k, rfl, rfl, h1, h2, h3, q⟩ := h
  obtain ⟨t, rfl⟩ := rx
  obtain ⟨t', rfl⟩ := ry
  have e0 : ∀ m : Nat, (List.replicate m z.cps).foldl (· ++ ·) #[] = (List.replicate m z.cps.toList).flatten.toArray := fun m => by
    rw [foldl_app]
    simp
  refine PySem.P.mul_str ?_ (fun a b => ?_) (fun a b => ?_) ?_
  · have a1 : ¬ k < -(2 ^ 63) := by omega
    have a2 : ¬ k ≥ 2 ^ 63 := by omega
    rw [decide_eq_false a1, decide_eq_false a2]
    rfl
  · have : (2 ^ 63 - 1) / k ≥ 1000 := by
      have : (1000 : Int) * k ≤ 2 ^ 63 - 1 := by omega
      exact (Int.le_ediv_iff_mul_le (by omega)).mpr this
    omega
  · have hk : k.toNat ≤ 1000 := by omega
    have : z.length * k.toNat ≤ 1000 * 1000 := Nat.mul_le_mul h3 hk
    unfold Builtin.Str.tooLong
    simp only [decide_eq_false_iff_not, Nat.not_lt, gt_iff_lt]
    exact Nat.le_trans this (by decide)
  · by_cases c1 : k < 1
    · rw [if_pos c1]
      have e1 : k.toNat = 0 := by omega
      rw [e1] at q
      exact ⟨by decide, .str Str.empty, H, I.tok _, ⟨_, rfl⟩, q⟩
    · rw [if_neg c1]
      by_cases c2 : (k == 1 || z.length == 0) = true
      · rw [if_pos c2]
        have e1 : (⟨(List.replicate k.toNat z.cps.toList).flatten.toArray⟩ : Str) = z := by
          apply Str.ext'
          rcases Bool.or_eq_true_iff.mp c2 with c | c
          · have : k = 1 := by simpa using c
            subst this
            simp
          · have hz : z.cps = #[] := by
              have : z.cps.size = 0 := by simpa [Str.length] using c
              exact Array.eq_empty_of_size_eq_zero this
            rw [hz]
            simp
        rw [e1] at q
        exact ⟨.str z, H, I, ⟨_, rfl⟩, q⟩
      · rw [if_neg c2]
        rw [← e0] at q
        refine ⟨?_, .str _, H, I.tok _, ⟨_, rfl⟩, q⟩
        have hk : k.toNat ≤ 1000 := by omega
        have h5 : z.length * k.toNat ≤ 1000 * 1000 := Nat.mul_le_mul h3 hk
        rw [e0]
        have h6 : (⟨(List.replicate k.toNat z.cps.toList).flatten.toArray⟩ : Str).length = z.length * k.toNat := by
          simp [Str.length, Nat.mul_comm]
        rw [h6]
        exact Nat.le_trans h5 (by decide)
/-! the universal operators -/
def rAddU (K : PySem.W.Frag) : R2 := fun x y H Q => (rI0 fun i j => .int (i + j)) x y H Q ∨ ((∃ i j, x = .str i ∧ y = .str j ∧ i.length + j.length ≤ sizeLine ∧ Q (.str (i ++ j)) H) ∨ (rCat x y H Q ∨ rCatA K x y H Q))
theorem op_addU : OpR X (binaryOp .Add) (rAddU X.K) := op_add.or (op_add_str.or (op_cat.or op_catA))
def rMulU (K : PySem.W.Frag) : R2 := fun x y H Q => (rI CMul fun i j => .int (i * j)) x y H Q ∨ (rRepS x y H Q ∨ (rRep x y H Q ∨ rRepT K x y H Q))
theorem op_mulU : OpR X (binaryOp .Mult) (rMulU X.K) := op_mul.or (op_repS.or (op_rep.or op_repT))
def rEqU (K : PySem.W.Frag) : R2 := fun x y H Q => rEq x y H Q ∨ rEqD K x y H Q
theorem op_eqU (hu : X.A.units + 64 < cLine) : OpR X (compareOp .Eq) (rEqU X.K) := op_eq.or (op_eqD hu)
def rNeU (K : PySem.W.Frag) : R2 := fun x y H Q => rNe x y H Q ∨ rNeD K x y H Q
theorem op_neU (hu : X.A.units + 64 < cLine) : OpR X (compareOp .NotEq) (rNeU X.K) := op_ne.or (op_neD hu)
def rLtU : R2 := fun x y H Q => (rI0 fun i j => .bl (decide (i < j))) x y H Q ∨ (∃ i j, x = .str i ∧ y = .str j ∧ Q (.bl (decide (i.cps.toList < j.cps.toList))) H)
theorem op_ltU : OpR X (compareOp .Lt) rLtU := op_lt.or op_lt_str
end
section
variable {K : PySem.W.Frag} {H : Hp}
/-- a value that needs no new object -/
theorem KD.val {d : PyData} {v : V} {H1 : Hp} {Q : VK} (q : KD K H H1 d Q) (e : Ex H H1) (h : ∀ H, Dt K H v d) : Q v H1 := q v H1 H (Ex.refl _) e (Ext.refl _ _) (h H)
theorem rd_I0 {g : Int → Int → Int} {i j : Int} : RD2 K (rI0 fun i j => .int (g i j)) (.int i) (.int j) H (.int (g i j)) := fun H' x y _ dx dy H1 e1 Q q =>
  ⟨i, j, dx.int_eq, dy.int_eq, q.val e1 fun _ => .int _⟩
theorem rd_IB {g : Int → Int → Bool} {i j : Int} : RD2 K (rI0 fun i j => .bl (g i j)) (.int i) (.int j) H (.bool (g i j)) := fun H' x y _ dx dy H1 e1 Q q =>
  ⟨i, j, dx.int_eq, dy.int_eq, q.val e1 fun _ => .bl _⟩
theorem rd_I {C : Int → Int → Prop} {g : Int → Int → Int} {i j : Int} (hc : C i j) : RD2 K (rI C fun i j => .int (g i j)) (.int i) (.int j) H (.int (g i j)) := fun H' x y _ dx dy H1 e1 Q q =>
  ⟨i, j, dx.int_eq, dy.int_eq, hc, q.val e1 fun _ => .int _⟩
theorem rd_addI {i j : Int} : RD2 K (rAddU K) (.int i) (.int j) H (.int (i + j)) := fun H' x y e dx dy H1 e1 Q q => .inl (rd_I0 (g := fun i j => i + j) H' x y e dx dy H1 e1 Q q)
theorem rd_addS {a b : Str} (h : a.length + b.length ≤ sizeLine) : RD2 K (rAddU K) (.str a) (.str b) H (.str (a ++ b)) := fun H' x y _ dx dy H1 e1 Q q =>
  .inr (.inl ⟨a, b, dx.str_eq, dy.str_eq, h, q.val e1 fun _ => .str _⟩)
theorem rd_addL {ds es : List PyData} (h : ds.length + es.length ≤ 100000) : RD2 K (rAddU K) (.list ds) (.list es) H (.list (ds ++ es)) := fun H' x y _ dx dy H1 e1 Q q => by
  obtain ⟨a, xs, rfl, ha, ra⟩ := dx.lst_eq
  obtain ⟨b, ys, rfl, hb, rb⟩ := dy.lst_eq
  refine .inr (.inr (.inl ⟨a, b, xs, ys, rfl, rfl, e1 a _ ha, e1 b _ hb, ?_, fun p hp => ?_⟩))
  · rw [ra.length, rb.length]
    exact sz_of h
  · exact q.new e1 hp (.lst upd_same (DtAll.ex (Ex.new (fresh_back e1 hp)) (ra.append rb)))
theorem rd_addT {ds es : List PyData} (h : ds.length + es.length ≤ 100000) : RD2 K (rAddU K) (.tuple ds) (.tuple es) H (.tuple (ds ++ es)) := fun H' x y _ dx dy H1 e1 Q q => by
  obtain ⟨a, xs, rfl, ha, ra⟩ := dx.tup_eq
  obtain ⟨b, ys, rfl, hb, rb⟩ := dy.tup_eq
  refine .inr (.inr (.inr ⟨a, b, xs, ys, rfl, rfl, ex_t e1 ha, ex_t e1 hb, ?_, fun z => ?_, fun z1 z2 => ?_, fun _ _ p hp => ?_⟩))
  · rw [ra.length, rb.length]
    exact sz_of h
  · subst z
    cases ra
    exact q.now e1 (.tup hb rb)
  · subst z2
    cases rb
    rw [List.append_nil] at q
    exact q.now e1 (.tup ha ra)
  · exact q.new e1 hp (.tup (st_of upd_same) (DtAll.ex (Ex.new (fresh_back e1 hp)) (ra.append rb)))
theorem rd_mulI {i j : Int} (h : CMul i j) : RD2 K (rMulU K) (.int i) (.int j) H (.int (i * j)) := fun H' x y e dx dy H1 e1 Q q => .inl (rd_I (g := fun i j => i * j) h H' x y e dx dy H1 e1 Q q)
theorem rd_mulS {z : Str} {k : Int} (h1 : -(2 ^ 60) ≤ k) (h2 : k ≤ 1000) (h3 : z.length ≤ 1000) : RD2 K (rMulU K) (.str z) (.int k) H (.str ⟨(List.replicate k.toNat z.cps.toList).flatten.toArray⟩) := fun H' x y e dx dy H1 e1 Q q =>
  .inr (.inl ⟨z, k, dx.str_eq, dy.int_eq, h1, h2, h3, q.val e1 fun _ => .str _⟩)
theorem rd_ltS {a b : Str} : RD2 K rLtU (.str a) (.str b) H (.bool (decide (a.cps.toList < b.cps.toList))) := fun H' x y _ dx dy H1 e1 Q q => .inr ⟨a, b, dx.str_eq, dy.str_eq, q.val e1 fun _ => .bl _⟩
theorem rd_ltI {i j : Int} : RD2 K rLtU (.int i) (.int j) H (.bool (decide (i < j))) := fun H' x y e dx dy H1 e1 Q q => .inl (rd_IB (g := fun i j => decide (i < j)) H' x y e dx dy H1 e1 Q q)
theorem rd_eqD {d e : PyData} (h1 : SeqAt.shaped d = true) (h2 : SeqAt.shaped e = true) : RD2 K (rEqD K) d e H (.bool (PyData.eqv d e)) := fun H' x y _ dx dy H1 e1 Q q =>
  ⟨d, e, (Dt.ex e1 dx).dp (SeqAt.canLay_of_shaped h1), (Dt.ex e1 dy).dp (SeqAt.canLay_of_shaped h2), h1, h2, q.val e1 fun _ => .bl _⟩
theorem rd_neD {d e : PyData} (h1 : SeqAt.shaped d = true) (h2 : SeqAt.shaped e = true) : RD2 K (rNeD K) d e H (.bool (!PyData.eqv d e)) := fun H' x y _ dx dy H1 e1 Q q =>
  ⟨d, e, (Dt.ex e1 dx).dp (SeqAt.canLay_of_shaped h1), (Dt.ex e1 dy).dp (SeqAt.canLay_of_shaped h2), h1, h2, q.val e1 fun _ => .bl _⟩
theorem rd_eqU {d e : PyData} (h1 : SeqAt.shaped d = true) (h2 : SeqAt.shaped e = true) : RD2 K (rEqU K) d e H (.bool (PyData.eqv d e)) := fun H' x y ex dx dy H1 e1 Q q => .inr (rd_eqD h1 h2 H' x y ex dx dy H1 e1 Q q)
theorem rd_neU {d e : PyData} (h1 : SeqAt.shaped d = true) (h2 : SeqAt.shaped e = true) : RD2 K (rNeU K) d e H (.bool (!PyData.eqv d e)) := fun H' x y ex dx dy H1 e1 Q q => .inr (rd_neD h1 h2 H' x y ex dx dy H1 e1 Q q)
theorem rd_eqI {i j : Int} : RD2 K (rEqU K) (.int i) (.int j) H (.bool (decide (i = j))) := fun H' x y ex dx dy H1 e1 Q q => by
  rw [dx.int_eq, dy.int_eq]
  refine .inl ⟨rfl, ?_⟩
  have e : decide (V.int i = V.int j) = decide (i = j) := decide_eq_decide.mpr ⟨fun h => V.int.inj h, fun h => by rw [h]⟩
  rw [e]
  exact q.val e1 fun _ => .bl _
theorem rd_neI {i j : Int} : RD2 K (rNeU K) (.int i) (.int j) H (.bool (!decide (i = j))) := fun H' x y ex dx dy H1 e1 Q q => by
  rw [dx.int_eq, dy.int_eq]
  refine .inl ⟨rfl, ?_⟩
  have e : decide (V.int i = V.int j) = decide (i = j) := decide_eq_decide.mpr ⟨fun h => V.int.inj h, fun h => by rw [h]⟩
  rw [e]
  exact q.val e1 fun _ => .bl _
theorem rd_eqS {i j : Str} : RD2 K (rEqU K) (.str i) (.str j) H (.bool (decide (i = j))) := fun H' x y ex dx dy H1 e1 Q q => by
  rw [dx.str_eq, dy.str_eq]
  refine .inl ⟨rfl, ?_⟩
  have e : decide (V.str i = V.str j) = decide (i = j) := decide_eq_decide.mpr ⟨fun h => V.str.inj h, fun h => by rw [h]⟩
  rw [e]
  exact q.val e1 fun _ => .bl _
theorem rd_neS {i j : Str} : RD2 K (rNeU K) (.str i) (.str j) H (.bool (!decide (i = j))) := fun H' x y ex dx dy H1 e1 Q q => by
  rw [dx.str_eq, dy.str_eq]
  refine .inl ⟨rfl, ?_⟩
  have e : decide (V.str i = V.str j) = decide (i = j) := decide_eq_decide.mpr ⟨fun h => V.str.inj h, fun h => by rw [h]⟩
  rw [e]
  exact q.val e1 fun _ => .bl _
theorem rd_eqB {i j : Bool} : RD2 K (rEqU K) (.bool i) (.bool j) H (.bool (decide (i = j))) := fun H' x y ex dx dy H1 e1 Q q => by
  rw [dx.bl_eq, dy.bl_eq]
  refine .inl ⟨rfl, ?_⟩
  have e : decide (V.bl i = V.bl j) = decide (i = j) := decide_eq_decide.mpr ⟨fun h => V.bl.inj h, fun h => by rw [h]⟩
  rw [e]
  exact q.val e1 fun _ => .bl _
theorem rd_neB {i j : Bool} : RD2 K (rNeU K) (.bool i) (.bool j) H (.bool (!decide (i = j))) := fun H' x y ex dx dy H1 e1 Q q => by
  rw [dx.bl_eq, dy.bl_eq]
  refine .inl ⟨rfl, ?_⟩
  have e : decide (V.bl i = V.bl j) = decide (i = j) := decide_eq_decide.mpr ⟨fun h => V.bl.inj h, fun h => by rw [h]⟩
  rw [e]
  exact q.val e1 fun _ => .bl _
/-- is True, is False -/
theorem rd_isB {a b : Bool} : RD2 K (fun x y H Q => ∃ a b, x = .bl a ∧ y = .bl b ∧ Q (.bl (decide (a = b))) H) (.bool a) (.bool b) H (.bool (decide (a = b))) := fun H' x y ex dx dy H1 e1 Q q => ⟨a, b, dx.bl_eq, dy.bl_eq, q.val e1 fun _ => .bl _⟩
theorem rd_isnotB {a b : Bool} : RD2 K (fun x y H Q => ∃ a b, x = .bl a ∧ y = .bl b ∧ Q (.bl (!decide (a = b))) H) (.bool a) (.bool b) H (.bool (!decide (a = b))) := fun H' x y ex dx dy H1 e1 Q q => ⟨a, b, dx.bl_eq, dy.bl_eq, q.val e1 fun _ => .bl _⟩
theorem dp_intsD : ∀ l : List Int, L2.DpAll K H (l.map V.int) (l.map .int)
  | [] => .nil
  | n :: r => .cons (.int n) (dp_intsD r)
theorem lay_ints : ∀ l : List Int, PyData.canLayAll0 (l.map .int) = true
  | [] => rfl
  | n :: r => by simp only [List.map_cons, PyData.canLayAll0, PyData.canLay0, Bool.true_and, lay_ints r]
theorem depth_ints : ∀ l : List Int, PyData.depthAll (l.map .int) = 0
  | [] => rfl
  | n :: r => by simp only [List.map_cons, PyData.depthAll, PyData.depth, depth_ints r]; rfl
/-- script != [] -/
theorem rd_neScr {ns : List Int} : RD2 K (rNeU K) (scrD ns) (.list []) H (.bool (!ns.isEmpty)) := fun H' x y ex dx dy H1 e1 Q q => by
  obtain ⟨a, rfl, h⟩ := dx.scr_eq
  refine .inr ⟨.list (ns.map .int), .list [], .lst (ex_l e1 h) (dp_intsD ns), (Dt.ex e1 dy).dp rfl, ?_, rfl, ?_⟩
  · unfold SeqAt.shaped
    simp only [PyData.canLay0, lay_ints, PyData.depth, depth_ints, Bool.true_and]
    rfl
  · have e : PyData.eqv (.list (ns.map .int)) (.list []) = ns.isEmpty := by
      cases ns <;> rfl
    rw [e]
    exact q.val e1 fun _ => .bl _
/-- script[i] -/
theorem rd_ixScr {ns : List Int} {i : Int} {n : Int} (h : atI ns i = some n) : RD2 K (rIx K) (scrD ns) (.int i) H (.int n) := fun H' x y _ dx dy H1 e1 Q q => by
  obtain ⟨a, rfl, ha⟩ := dx.scr_eq
  unfold atI at h
  obtain ⟨j, hj, hd⟩ := Option.bind_eq_some_iff.mp h
  refine .inl ⟨a, _, i, .int n, rfl, dy.int_eq, ex_l e1 ha, ?_, q.val e1 fun _ => .int _⟩
  unfold atI
  rw [List.length_map, hj]
  show (ns.map V.int)[j]? = some (V.int n)
  rw [List.getElem?_map, hd]
  rfl
theorem rd_ixT {ds : List PyData} {i : Int} {d : PyData} (h : atI ds i = some d) : RD2 K (rIx K) (.tuple ds) (.int i) H d := fun H' x y _ dx dy H1 e1 Q q => by
  obtain ⟨a, xs, rfl, ha, ra⟩ := dx.tup_eq
  unfold atI at h
  rw [← ra.length] at h
  obtain ⟨j, hj, hd⟩ := Option.bind_eq_some_iff.mp h
  obtain ⟨v, hv, dv⟩ := ra.get hd
  refine .inr (.inl ⟨a, xs, i, v, rfl, dy.int_eq, ex_t e1 ha, ?_, q.now e1 dv⟩)
  unfold atI
  rw [hj]
  exact hv
theorem rd_ixL {ds : List PyData} {i : Int} {d : PyData} (h : atI ds i = some d) : RD2 K (rIx K) (.list ds) (.int i) H d := fun H' x y _ dx dy H1 e1 Q q => by
  obtain ⟨a, xs, rfl, ha, ra⟩ := dx.lst_eq
  unfold atI at h
  rw [← ra.length] at h
  obtain ⟨j, hj, hd⟩ := Option.bind_eq_some_iff.mp h
  obtain ⟨v, hv, dv⟩ := ra.get hd
  refine .inl ⟨a, xs, i, v, rfl, dy.int_eq, sq_of (e1 a _ ha), ?_, q.now e1 dv⟩
  unfold atI
  rw [hj]
  exact hv
theorem rd_ixS {z : Str} {i : Int} {c : Nat} (hl : z.length ≤ 100000) (h : atI z.cps.toList i = some c) : RD2 K (rIx K) (.str z) (.int i) H (.str ⟨#[c]⟩) := fun H' x y _ dx dy H1 e1 Q q =>
  .inr (.inr ⟨z, i, c, dx.str_eq, dy.int_eq, sz_of hl, h, q.val e1 fun _ => .str _⟩)
/-- isinstance of a built-in class -/
def tyD : PyData → String
  | .none => "NoneType"
  | .bool _ => "bool"
  | .int _ => "int"
  | .str _ => "str"
  | .list _ => "list"
  | .tuple _ => "tuple"
  | .dict _ => "list"
theorem Dt.ty {v : V} {d : PyData} (h : Dt K H v d) : TyX K H v (.type (tyD d)) := by
  cases h with
  | non => exact .base .non
  | bl b => exact .base (.bl b)
  | int i => exact .base (.int i)
  | str x => exact .base (.str x)
  | lst h _ => exact .base (.lst h)
  | tup h _ =>
    rcases h with (h | ⟨o, h⟩) | ⟨o, its, n, h1, h2, _⟩
    · exact .base (.tup h)
    · exact .fTuple h
    · exact .kTuple h1 h2
  | scr ns h =>
    rcases h with (h | ⟨o, h⟩) | ⟨o, its, n, h1, h2, _⟩
    · exact .base (.lst h)
    · exact .base (.frz h)
    · exact .kList h1 h2
theorem rdc_isi {d : PyData} {n : String} {b : Bool} (h : kitB (tyD d) n = some b) : ∀ H' vs, Ex H H' → ∀ v, Dt K H' v d → vs = [v, V.ty n] → ∀ H1, Ex H' H1 → ∀ Q : VK, KD K H' H1 (.bool b) Q → rIsi K vs H1 Q := fun H' vs _ v dv hv H1 e1 Q q =>
  ⟨v, .ty n, .type (tyD d), .type n, b, hv, .ty n, (Dt.ex e1 dv).ty, kit_ty h, q.val e1 fun _ => .bl _⟩
end
section
variable {K : PySem.W.Frag} {σ : L2.St} {H : Hp} {ta te : TE} {d : PyData}
/-- isinstance(e, T) -/
theorem ed_isi {n : String} {b : Bool} (ha : EvD K ta σ H d) (h : kitB (tyD d) n = some b) : EvD K (tCB (rIsi K) (tCons ta (tCons (tC (.ty n)) tNil))) σ H (.bool b) := fun H1 e1 Q q =>
  ha H1 e1 _ fun x H2 Ha e2 ea xa da => rdc_isi (H := H) h Ha _ xa.ex x da rfl H2 ea Q fun v H4 Hc e4 ec xc dc => q v H4 Hc (e2.trans e4) ec (xa.trans e2 xc) dc
/-- len -/
def lenR (K : PySem.W.Frag) : List V → Hp → VK → Prop := fun xs H Q => ∃ x n, xs = [x] ∧ LenV K x H n ∧ Q (.int n) H
theorem ed_lenS {z : Str} (ha : EvD K ta σ H (.str z)) (h : z.length ≤ sizeLine) : EvD K (tCB (lenR K) (tCons ta tNil)) σ H (.int z.length) := fun H1 e1 Q q =>
  ha H1 e1 _ fun x H2 Ha e2 ea xa da => by
    rw [da.str_eq]
    exact ⟨_, _, rfl, ⟨h, rfl⟩, q _ H2 Ha e2 ea xa (.int _)⟩
theorem ed_lenL {ds : List PyData} (ha : EvD K ta σ H (.list ds)) : EvD K (tCB (lenR K) (tCons ta tNil)) σ H (.int ds.length) := fun H1 e1 Q q =>
  ha H1 e1 _ fun x H2 Ha e2 ea xa da => by
    obtain ⟨a, xs, rfl, h, r⟩ := da.lst_eq
    refine ⟨_, _, rfl, .inl ⟨xs, sq_of (ea a _ h), rfl⟩, ?_⟩
    rw [r.length]
    exact q _ H2 Ha e2 ea xa (.int _)
theorem ed_lenT {ds : List PyData} (ha : EvD K ta σ H (.tuple ds)) : EvD K (tCB (lenR K) (tCons ta tNil)) σ H (.int ds.length) := fun H1 e1 Q q =>
  ha H1 e1 _ fun x H2 Ha e2 ea xa da => by
    obtain ⟨a, xs, rfl, h, r⟩ := da.tup_eq
    refine ⟨_, _, rfl, .inr ⟨xs, ex_t ea h, rfl⟩, ?_⟩
    rw [r.length]
    exact q _ H2 Ha e2 ea xa (.int _)
theorem ed_lenScr {ns : List Int} (ha : EvD K ta σ H (scrD ns)) : EvD K (tCB (lenR K) (tCons ta tNil)) σ H (.int ns.length) := fun H1 e1 Q q =>
  ha H1 e1 _ fun x H2 Ha e2 ea xa da => by
    obtain ⟨a, rfl, h⟩ := da.scr_eq
    refine ⟨_, _, rfl, .inl ⟨_, ex_l ea h, rfl⟩, ?_⟩
    rw [List.length_map]
    exact q _ H2 Ha e2 ea xa (.int _)
/-- all, any of a list of truths -/
theorem ed_all {bs : List Bool} (ha : EvD K ta σ H (.list (bs.map .bool))) : EvD K (tCB (rAll K) (tCons ta tNil)) σ H (.bool (bs.all id)) := fun H1 e1 Q q =>
  ha H1 e1 _ fun x H2 Ha e2 ea xa da => by
    obtain ⟨a, xs, rfl, h, r⟩ := da.lst_eq
    refine ⟨a, bs, rfl, sq_of ?_, q _ H2 Ha e2 ea xa (.bl _)⟩
    rw [← bls_dp r]
    exact ea a _ h
theorem ed_any {bs : List Bool} (ha : EvD K ta σ H (.list (bs.map .bool))) : EvD K (tCB (rAny K) (tCons ta tNil)) σ H (.bool (bs.any id)) := fun H1 e1 Q q =>
  ha H1 e1 _ fun x H2 Ha e2 ea xa da => by
    obtain ⟨a, xs, rfl, h, r⟩ := da.lst_eq
    refine ⟨a, bs, rfl, sq_of ?_, q _ H2 Ha e2 ea xa (.bl _)⟩
    rw [← bls_dp r]
    exact ea a _ h
/-- one sign in a text -/
def rInS : R2 := fun x y H Q => ∃ (c : Nat) (z : Str), x = .str ⟨#[c]⟩ ∧ y = .str z ∧ Q (.bl (decide (c ∈ z.cps.toList))) H
theorem rd_inS {c : Nat} {z : Str} : RD2 K rInS (.str ⟨#[c]⟩) (.str z) H (.bool (decide (c ∈ z.cps.toList))) := fun H' x y _ dx dy H1 e1 Q q => ⟨c, z, dx.str_eq, dy.str_eq, q.val e1 fun _ => .bl _⟩
/-- parts of a slice -/
theorem eo_none : EvO tNoPart σ H none := fun H1 _ _ q => q H1 (Ex.refl H1)
theorem eo_some {i : Int} (h : EvD K te σ H (.int i)) : EvO (tPart te) σ H (some i) := fun H1 e _ q => h H1 e _ fun v H2 _ e2 _ _ dv => ⟨i, dv.int_eq, q H2 e2⟩
theorem EvO.mono {to : TO} {o : Option Int} {H' : Hp} (h : EvO to σ H o) (e : Ex H H') : EvO to σ H' o := fun H1 e1 Q q => h H1 (e.trans e1) Q q
/-- slices: a text, a list, a tuple -/
def rSlU (K : PySem.W.Frag) : V → Option Int → Option Int → Hp → VK → Prop := fun x lo hi H Q => rSlS x lo hi H Q ∨ (rSlL K x lo hi H Q ∨ rSlA K x lo hi H Q)
theorem sl_U {X : Cx} : SlR X (rSlU X.K) := sl_str.or (sl_list.or sl_tupA)
theorem ed_slS {z : Str} {tl th : TO} {lo hi : Option Int} (ha : EvD K ta σ H (.str z)) (h1 : EvO tl σ H lo) (h2 : EvO th σ H hi) (hl : z.length ≤ 100000) : EvD K (tSl (rSlU K) ta tl th) σ H (.str (cutS z lo hi)) := fun H1 e1 Q q =>
  ha H1 e1 _ fun x H2 Ha e2 ea xa da => (h1.mono xa.ex) H2 ea _ fun H3 e3 => (h2.mono xa.ex) H3 (ea.trans e3) _ fun H4 e4 =>
    .inl ⟨z, da.str_eq, sz_of hl, q _ H4 Ha ((e2.trans e3).trans e4) ((ea.trans e3).trans e4) xa (.str _)⟩
def cutD (ds : List PyData) (lo hi : Option Int) : List PyData := (ds.drop (HT.sIx ds.length 0 lo)).take (HT.sIx ds.length ds.length hi - HT.sIx ds.length 0 lo)
theorem cut_dt {xs : List V} {ds : List PyData} (r : DtAll K H xs ds) (lo hi : Option Int) : DtAll K H (cutV xs lo hi) (cutD ds lo hi) := by
  unfold cutV cutD
  rw [r.length]
  exact (r.drop _).take _
theorem ed_slL {ds : List PyData} {tl th : TO} {lo hi : Option Int} (ha : EvD K ta σ H (.list ds)) (h1 : EvO tl σ H lo) (h2 : EvO th σ H hi) : EvD K (tSl (rSlU K) ta tl th) σ H (.list (cutD ds lo hi)) := fun H1 e1 Q q =>
  ha H1 e1 _ fun x H2 Ha e2 ea xa da => (h1.mono xa.ex) H2 ea _ fun H3 e3 => (h2.mono xa.ex) H3 (ea.trans e3) _ fun H4 e4 => by
    obtain ⟨a, xs, rfl, h, r⟩ := da.lst_eq
    refine .inr (.inl ⟨a, xs, rfl, sq_of (((ea.trans e3).trans e4) a _ h), fun p hp => ?_⟩)
    exact q _ _ (upd Ha p _) (((e2.trans e3).trans e4).trans (Ex.new hp)) (ex_upd ((ea.trans e3).trans e4)) (xa.trans ((e2.trans e3).trans e4) (Ext.new ((ea.trans e3).trans e4) hp)) (.lst upd_same (DtAll.ex (Ex.new (fresh_back ((ea.trans e3).trans e4) hp)) (cut_dt r lo hi)))
theorem cut_all {xs : List V} {lo hi : Option Int} (h1 : HT.sIx xs.length 0 lo = 0) (h2 : HT.sIx xs.length xs.length hi = xs.length) {ds : List PyData} (hl : xs.length = ds.length) : cutD ds lo hi = ds := by
  unfold cutD
  rw [← hl, h1, h2, List.drop_zero, Nat.sub_zero, hl, List.take_length]
theorem ed_slT {ds : List PyData} {tl th : TO} {lo hi : Option Int} (ha : EvD K ta σ H (.tuple ds)) (h1 : EvO tl σ H lo) (h2 : EvO th σ H hi) : EvD K (tSl (rSlU K) ta tl th) σ H (.tuple (cutD ds lo hi)) := fun H1 e1 Q q =>
  ha H1 e1 _ fun x H2 Ha e2 ea xa da => (h1.mono xa.ex) H2 ea _ fun H3 e3 => (h2.mono xa.ex) H3 (ea.trans e3) _ fun H4 e4 => by
    obtain ⟨a, xs, rfl, h, r⟩ := da.tup_eq
    refine .inr (.inr ⟨a, xs, rfl, ex_t ((ea.trans e3).trans e4) h, fun z => ?_, fun _ p hp => ?_⟩)
    · rw [cut_all z.1 z.2 r.length] at q
      exact q _ H4 Ha ((e2.trans e3).trans e4) ((ea.trans e3).trans e4) xa (.tup h r)
    · exact q _ _ (upd Ha p _) (((e2.trans e3).trans e4).trans (Ex.new hp)) (ex_upd ((ea.trans e3).trans e4)) (xa.trans ((e2.trans e3).trans e4) (Ext.new ((ea.trans e3).trans e4) hp)) (.tup (st_of upd_same) (DtAll.ex (Ex.new (fresh_back ((ea.trans e3).trans e4) hp)) (cut_dt r lo hi)))
end
end LR

/-! ### slots, statements, loops over data (own work) -/
namespace LR
open PySem PySem.Spec PyProof.Rows L2 Evl
/-- what is known of a slot: data, a value itself, nothing -/
inductive SD where
  | dat (d : PyData)
  | val (v : V)
  | unk
def SdOk (K : PySem.W.Frag) (H : Hp) : Option V → SD → Prop
  | some v, .dat d => Dt K H v d
  | some v, .val w => v = w
  | _, .unk => True
  | none, .dat _ => False
  | none, .val _ => False
/-- the slots as they are known -/
inductive Sl (K : PySem.W.Frag) (H : Hp) : L2.St → List SD → Prop
  | nil : Sl K H [] []
  | cons {o : Option V} {σ : L2.St} {s : SD} {ss : List SD} : SdOk K H o s → Sl K H σ ss → Sl K H (o :: σ) (s :: ss)
section
variable {K : PySem.W.Frag} {H H' : Hp} {σ : L2.St} {ss : List SD}
theorem SdOk.ex (e : Ex H H') {o : Option V} {s : SD} (h : SdOk K H o s) : SdOk K H' o s := by
  cases o with
  | none => cases s <;> exact h
  | some v =>
    cases s with
    | dat d => exact Dt.ex e h
    | val w => exact h
    | unk => trivial
theorem Sl.ex (e : Ex H H') : ∀ {σ : L2.St} {ss : List SD}, Sl K H σ ss → Sl K H' σ ss
  | _, _, .nil => .nil
  | _, _, .cons a b => .cons (a.ex e) (Sl.ex e b)
theorem Sl.get : ∀ {σ : L2.St} {ss : List SD} {i : Nat} {s : SD}, Sl K H σ ss → ss[i]? = some s → ∃ o, σ[i]? = some o ∧ SdOk K H o s
  | _, _, _, _, .nil, e => by simp at e
  | _, _, 0, _, .cons a _, e => by
    simp at e
    subst e
    exact ⟨_, rfl, a⟩
  | _, _, i + 1, s, .cons _ b, e => by
    obtain ⟨v, h1, h2⟩ := Sl.get (i := i) (s := s) b (by simpa using e)
    exact ⟨v, by simpa using h1, h2⟩
theorem Sl.dat {i : Nat} {d : PyData} (s : Sl K H σ ss) (h : ss[i]? = some (.dat d)) : ∃ v, σ[i]? = some (some v) ∧ Dt K H v d := by
  obtain ⟨o, h1, h2⟩ := s.get h
  cases o with
  | none => exact h2.elim
  | some v => exact ⟨v, h1, h2⟩
theorem Sl.val {i : Nat} {v : V} (s : Sl K H σ ss) (h : ss[i]? = some (.val v)) : σ[i]? = some (some v) := by
  obtain ⟨o, h1, h2⟩ := s.get h
  cases o with
  | none => exact h2.elim
  | some w =>
    have e : w = v := h2
    rw [e] at h1
    exact h1
theorem Sl.set {s : SD} {o : Option V} (h : SdOk K H o s) : ∀ {σ : L2.St} {ss : List SD} (i : Nat), Sl K H σ ss → Sl K H (σ.set i o) (ss.set i s)
  | _, _, _, .nil => .nil
  | _, _, 0, .cons _ b => .cons h b
  | _, _, i + 1, .cons a b => .cons a (Sl.set h i b)
theorem Sl.length : ∀ {σ : L2.St} {ss : List SD}, Sl K H σ ss → σ.length = ss.length
  | _, _, .nil => rfl
  | _, _, .cons _ b => congrArg Nat.succ (Sl.length b)
/-- a slot is forgotten -/
theorem Sl.forget : ∀ {σ : L2.St} {ss : List SD} (i : Nat), Sl K H σ ss → Sl K H σ (ss.set i .unk)
  | _, _, _, .nil => .nil
  | _, _, 0, .cons (o := o) _ b => .cons (by cases o <;> trivial) b
  | _, _, i + 1, .cons a b => .cons a (Sl.forget i b)
/-- the slots of a comprehension's own names are forgotten -/
def wipeS (ss : List SD) : List Nat → List SD
  | [] => ss
  | v :: vs => (wipeS ss vs).set v .unk
theorem Sl.wipe : ∀ (vs : List Nat), Sl K H σ ss → Sl K H (L2.wipe σ vs) (wipeS ss vs)
  | [], s => s
  | v :: vs, s => Sl.set (s := .unk) (o := none) trivial v (Sl.wipe vs s)
/-- the start of a def -/
theorem sl_start {vs : List V} : ∀ {ds : List PyData} (n : Nat), DtAll K H vs ds → Sl K H (vs.map some ++ List.replicate n none) (ds.map .dat ++ List.replicate n .unk) := by
  intro ds n h
  induction vs generalizing ds with
  | nil =>
    cases h
    induction n with
    | zero => exact .nil
    | succ n ih => exact .cons trivial ih
  | cons v vs ih =>
    cases h with
    | cons a b => exact .cons a (ih b)
theorem sl_unk : ∀ (n : Nat), Sl K H (List.replicate n none) (List.replicate n .unk)
  | 0 => .nil
  | n + 1 => .cons trivial (sl_unk n)
end
/-- where one stands: H is known, H1 is the heap; H0, H10 the same at the def's entry -/
structure Now (H0 H10 H H1 : Hp) : Prop where
  ex : Ex H H1
  ext : Ext H0 H10 H
  grow : Ex H10 H1
theorem Now.start {H0 H10 : Hp} (e : Ex H0 H10) : Now H0 H10 H0 H10 := ⟨e, Ext.refl _ _, Ex.refl _⟩
theorem Now.on {H0 H10 H H1 H' H2 : Hp} (n : Now H0 H10 H H1) (e2 : Ex H1 H2) (e : Ex H' H2) (x : Ext H H1 H') : Now H0 H10 H' H2 := ⟨e, n.ext.trans n.grow x, n.grow.trans e2⟩
/-- a list of one's own is changed -/
theorem Now.mut {H0 H10 H H1 : Hp} (n : Now H0 H10 H H1) {l : Addr} {o : HO} (h : H l = none) (h0 : H10 l = none) : Now H0 H10 H (upd H1 l o) :=
  ⟨ex_off n.ex h, n.ext, ex_off n.grow h0⟩
section
variable {K : PySem.W.Frag} {H0 H10 H H1 : Hp} {σ : L2.St} {ss : List SD} {te ta : TE} {tt : TT} {d : PyData} {D : Ends} {t1 t2 : TS}
theorem ed_sl {i : Nat} (s : Sl K H σ ss) (h : ss[i]? = some (.dat d)) : EvD K (tVar i) σ H d := by
  obtain ⟨v, h1, h2⟩ := s.dat h
  exact ed_var h1 h2
theorem st_ret {Q : VK} (n : Now H0 H10 H H1) (h : EvD K te σ H d) (q : KD K H0 H10 d Q) (hQ : D.rt = Q := by rfl) : tRet te D σ H1 := by
  subst hQ
  exact h H1 n.ex _ fun v H2 H' e2 e x dv => q v H2 H' (n.grow.trans e2) e (n.ext.trans n.grow x) dv
theorem st_retN {Q : VK} (n : Now H0 H10 H H1) (q : KD K H0 H10 .none Q) (hQ : D.rt = Q := by rfl) : tRetN D σ H1 := by
  subst hQ
  exact q _ H1 H n.grow n.ex n.ext .non
theorem st_asg {i : Nat} (n : Now H0 H10 H H1) (s : Sl K H σ ss) (h : EvD K te σ H d) (k : ∀ σ' H' H2, Ex H H' → Now H0 H10 H' H2 → Sl K H' σ' (ss.set i (.dat d)) → D.nx σ' H2) : tAsg te (gName i) D σ H1 :=
  h H1 n.ex _ fun v H2 H' e2 e x dv => k _ H' H2 x.ex (n.on e2 e x) ((s.ex x.ex).set (s := .dat d) (o := some v) dv i)
theorem st_if {b : Bool} (n : Now H0 H10 H H1) (h : EvB tt σ H b) (k1 : b = true → ∀ H2, Now H0 H10 H H2 → t1 D σ H2) (k2 : b = false → ∀ H2, Now H0 H10 H H2 → t2 D σ H2) : tIfS tt t1 t2 D σ H1 :=
  h H1 n.ex _ fun H2 e2 => by
    have n2 : Now H0 H10 H H2 := ⟨n.ex.trans e2, n.ext, n.grow.trans e2⟩
    cases b with
    | true => exact k1 rfl H2 n2
    | false => exact k2 rfl H2 n2
/-- a new list of one's own, empty, in slot i -/
theorem st_new {i : Nat} (n : Now H0 H10 H H1) (s : Sl K H σ ss) (k : ∀ l σ' H2, H l = none → H10 l = none → H2 l = some (.lst []) → Now H0 H10 H H2 → Sl K H σ' (ss.set i (.val (.ref l))) → D.nx σ' H2) : tAsg (tLst tNil) (gName i) D σ H1 :=
  ⟨by show 0 ≤ sizeLine; exact Nat.zero_le _, fun p hp => k p _ _ (fresh_back n.ex hp) (fresh_back n.grow hp) upd_same ⟨n.ex.trans (Ex.new hp), n.ext, n.grow.trans (Ex.new hp)⟩ (s.set (s := .val (.ref p)) (o := some (.ref p)) rfl i)⟩
/-- l.append(e), the list in slot i -/
theorem st_app {i : Nat} {l : Addr} {vs : List V} (n : Now H0 H10 H H1) (s : Sl K H σ ss) (hi : ss[i]? = some (.val (.ref l))) (hl : H l = none) (h0 : H10 l = none) (h1 : H1 l = some (.lst vs)) (hz : vs.length < 100000) (h : EvD K te σ H d)
    (k : ∀ v H' H2, Ex H H' → H' l = none → Dt K H' v d → H2 l = some (.lst (vs ++ [v])) → Now H0 H10 H' H2 → Sl K H' σ ss → D.nx σ H2) : tDrop (tBM K "list" rAppend (tVar i) (tCons te tNil)) D σ H1 :=
  ⟨.ref l, s.val hi, Or.inl ⟨rfl, vs, sq_of h1⟩, h H1 n.ex _ fun v H2 H' e2 e x dv => ⟨l, vs, v, rfl, rfl, e2 l _ h1, sz_lt hz,
    k v H' _ x.ex (x.off hl h1) dv upd_same ((n.on e2 e x).mut (x.off hl h1) h0) (s.ex x.ex)⟩⟩
end
/-! ### walks -/
/-- what is walked: n turns, the i-th item is told by Y (what is known where it is walked, the turn, the heap then, the item, the heap behind it) -/
def EvI (wi : TI) (σ : L2.St) (H : Hp) (n : Nat) (Y : Hp → Nat → Hp → V → Hp → Prop) : Prop := ∀ H1, Ex H H1 → ∀ R : It → Hp → Prop, (∀ J (G : Hp → Prop) H2 H', Ex H1 H2 → Ex H' H2 → Ext H H1 H' → (∀ H3, Ex H' H3 → G H3) → Walk J n G (Y H') → R J H2) → wi σ H1 R
section
variable {K : PySem.W.Frag} {σ : L2.St} {H : Hp} {te : TE}
/-- items of data -/
def YD (K : PySem.W.Frag) (ds : List PyData) : Hp → Nat → Hp → V → Hp → Prop := fun Hi i H v H' => H' = H ∧ ∃ d, ds[i]? = some d ∧ Dt K Hi v d
/-- signs of a text -/
def YS (z : Str) : Hp → Nat → Hp → V → Hp → Prop := fun _ i H v H' => H' = H ∧ ∃ c, z.cps[i]? = some c ∧ v = .str ⟨#[c]⟩
theorem ei_str {z : Str} (h : EvD K te σ H (.str z)) : EvI (iStr te) σ H z.cps.size (YS z) := fun H1 e1 R r =>
  h H1 e1 _ fun v H2 H' e2 e x dv => ⟨z, dv.str_eq, r _ (fun _ => True) H2 H' e2 e x (fun _ _ => trivial) walk_str⟩
theorem ei_range {ta : TA} {n : Int} (h : EvDs K ta σ H [.int n]) (h1 : -(2 ^ 62) ≤ n) (h2 : n < 2 ^ 62) : EvI (iRng1 ta) σ H n.toNat (fun _ => YFn fun i => .int (0 + i)) := fun H1 e1 R r =>
  h H1 e1 _ fun vs H2 H' e2 e x dv => ⟨n, by cases dv with | cons a b => cases b; rw [a.int_eq], h1, h2, r _ (fun _ => True) H2 H' e2 e x (fun _ _ => trivial) walk_range⟩
theorem ei_range2 {ta : TA} {m n : Int} (h : EvDs K ta σ H [.int m, .int n]) (h1 : -(2 ^ 62) ≤ m ∧ m < 2 ^ 62 ∧ -(2 ^ 62) ≤ n ∧ n < 2 ^ 62) : EvI (iRng2 ta) σ H (n - m).toNat (fun _ => YFn fun i => .int (m + i)) := fun H1 e1 R r =>
  h H1 e1 _ fun vs H2 H' e2 e x dv => ⟨m, n, by cases dv with | cons a b => cases b with | cons c f => cases f; rw [a.int_eq, c.int_eq], h1, r _ (fun _ => True) H2 H' e2 e x (fun _ _ => trivial) walk_range⟩
end
section
variable {K : PySem.W.Frag} {H0 H10 H H1 : Hp} {σ : L2.St} {ss : List SD} {te ta : TE} {tt : TT} {d : PyData} {D : Ends} {t1 t2 : TS}
/-- a for: k is asked where the walked thing is known; Pv by the turn, the slots and the heap -/
theorem st_for {wi : TI} {g : TG} {tb : TS} {n : Nat} {Y : Hp → Nat → Hp → V → Hp → Prop} (nw : Now H0 H10 H H1) (h : EvI wi σ H n Y)
    (k : ∀ Hb H2, Ex H Hb → Now H0 H10 Hb H2 → Ex H1 H2 → ∃ Pv : Nat → L2.St → Hp → Prop, Pv 0 σ H2 ∧ (∀ i σ' H3, Pv i σ' H3 → Ex Hb H3) ∧
      (∀ i x σ' H3 H4, i < n → Pv i σ' H3 → Y Hb i H3 x H4 → g x σ' H4 fun σ2 H5 => tb { D with nx := Pv (i + 1), ct := Pv (i + 1), bk := D.nx } σ2 H5) ∧ ∀ σ' H3, Pv n σ' H3 → D.nx σ' H3) : tFor wi g tb D σ H1 :=
  h H1 nw.ex _ fun J G H2 H' e2 e x hG w => by
    obtain ⟨Pv, p0, pe, pt, pd⟩ := k H' H2 x.ex (nw.on e2 e x) e2
    exact for_it (w.mono (G' := fun H3 => Ex H' H3) (fun H3 e3 => hG H3 e3) fun _ _ _ _ _ _ y => y) Pv p0 (fun i σ' H3 _ p => pe i σ' H3 p) (fun i y σ' H3 H4 hi p yy => pt i y σ' H3 H4 hi p yy) pd
/-- a while: W by a measure, the slots and the heap -/
theorem st_while {tb : TS} {tc : TT} (W : Nat → L2.St → Hp → Prop) (m0 : Nat) (h0 : W m0 σ H1)
    (hs : ∀ m σ' H', W m σ' H' → ∃ Hl b, Ex Hl H' ∧ EvB tc σ' Hl b ∧ (b = true → ∀ H2, Ex H' H2 → tb { D with nx := fun σ2 H3 => ∃ m', m' < m ∧ W m' σ2 H3, ct := fun σ2 H3 => ∃ m', m' < m ∧ W m' σ2 H3, bk := D.nx } σ' H2) ∧ (b = false → ∀ H2, Ex H' H2 → D.nx σ' H2)) : tWhile tc tb D σ H1 :=
  ⟨W, ⟨m0, h0⟩, fun m σ' H' w => by
    obtain ⟨Hl, b, e, eb, k1, k2⟩ := hs m σ' H' w
    refine eb H' e _ fun H2 e2 => ?_
    cases b with
    | true => exact ⟨_, fun _ _ z => z, k1 rfl H2 e2⟩
    | false => exact k2 rfl H2 e2⟩
/-! ### list comprehensions -/
/-- a target takes an item: the slots behind it -/
def EvG (g : TG) (x : V) (σ : L2.St) (H : Hp) (σ2 : L2.St) : Prop := ∀ Q : L2.St → Hp → Prop, Q σ2 H → g x σ H Q
theorem eg_name {j : Nat} {x : V} : EvG (gName j) x σ H (σ.set j (some x)) := fun _ q => q
theorem eg_nil : ∀ Q : L2.St → Hp → Prop, Q σ H → gNil [] σ H Q := fun _ q => ⟨rfl, q⟩
/-- (a, b) = a pair -/
theorem eg_pair {i j : Nat} {a : Addr} {x y : V} (h : SqT K H a [x, y]) : EvG (gTup K 2 (gCons (gName i) (gCons (gName j) gNil))) (.ref a) σ H ((σ.set i (some x)).set j (some y)) := fun _ q =>
  ⟨a, [x, y], rfl, h, rfl, x, [y], rfl, y, [], rfl, rfl, q⟩
theorem ed_lc {wi : TI} {g : TG} {tt : TT} {te : TE} {vs : List Nat} {n : Nat} {Y : Hp → Nat → Hp → V → Hp → Prop} (els : Nat → Option PyData) {out : List PyData} (hw : EvI wi σ H n Y)
    (ht : ∀ i, i < n → ∀ Hi Hb H2 x H3, Ex H Hi → Ex Hi Hb → Ex Hb H2 → Y Hi i H2 x H3 → ∃ Hc σ2, Ext Hb H2 Hc ∧ Ex Hc H3 ∧ Ex H2 H3 ∧ EvG g x (L2.wipe σ vs) H3 σ2 ∧ L2.wipe σ2 vs = L2.wipe σ vs ∧
      ∃ b, EvB tt σ2 Hc b ∧ (b = false → els i = none) ∧ (b = true → ∃ d, els i = some d ∧ EvD K te σ2 Hc d)) (hn : n ≤ 50000) (ho : out = (List.range n).filterMap els) : EvD K (tLc wi g tt te vs) σ H (.list out) := fun H1 e1 Q q =>
  hw H1 e1 _ fun J G H2 Hb e2 eb xb hG w Dl hD => by
    have hDb : Hb Dl = none := fresh_back eb hD
    have hD1 : H1 Dl = none := fresh_back e2 hD
    refine lc_it (w.mono (G' := fun H3 => Ex Hb H3) (fun H3 e3 => hG H3 e3) fun _ _ _ _ _ _ y => y)
      (fun i Hr => ∃ Hl acc, Ex Hb Hl ∧ Ex Hl Hr ∧ Ex H1 Hr ∧ Ext H H1 Hl ∧ Hl Dl = none ∧ Hr Dl = some (.lst acc) ∧ DtAll K Hl acc ((List.range i).filterMap els) ∧ acc.length ≤ i) ?_ ?_ ?_ ?_
    · exact ⟨Hb, [], Ex.refl _, eb.trans (Ex.new hD), e2.trans (Ex.new hD), xb, hDb, upd_same, .nil, Nat.le_refl _⟩
    · rintro i Hr hi ⟨Hl, acc, a1, a2, _⟩
      exact a1.trans a2
    · rintro i x Hr H3 hi ⟨Hl, acc, a1, a2, a3, a4, a5, a6, a7, a8⟩ y
      obtain ⟨Hc, σ2, c1, c2, c3, c4, c5, b, c6, c7, c8⟩ := ht i hi Hb Hl Hr x H3 xb.ex a1 a2 y
      refine c4 _ ⟨c5, c6 H3 c2 _ fun H4 e4 => ?_⟩
      have n1 : Hc Dl = none := c1.off a5 a6
      cases b with
      | false =>
        refine ⟨Hc, acc, a1.trans c1.ex, c2.trans e4, (a3.trans c3).trans e4, a4.trans a3 c1, n1, (c3.trans e4) Dl _ a6, ?_, Nat.le_succ_of_le a8⟩
        rw [List.range_succ, List.filterMap_append, List.filterMap_cons, c7 rfl]
        show DtAll K Hc acc (_ ++ [])
        rw [List.append_nil]
        exact DtAll.ex c1.ex a7
      | true =>
        obtain ⟨d, d1, d2⟩ := c8 rfl
        refine d2 H4 (c2.trans e4) _ fun v H5 Hd e5 ed xd dv => ?_
        have n2 : Hd Dl = none := xd.off n1 ((c3.trans e4) Dl _ a6)
        refine ⟨acc, (((c3.trans e4).trans e5) Dl _ a6), sz_lt (by omega), Hd, acc ++ [v], (a1.trans c1.ex).trans xd.ex, ex_off ed n2, ex_off (((a3.trans c3).trans e4).trans e5) hD1, (a4.trans a3 c1).trans ((a3.trans c3).trans e4) xd, n2, upd_same, ?_, ?_⟩
        · rw [List.range_succ, List.filterMap_append, List.filterMap_cons, d1]
          exact (DtAll.ex (c1.ex.trans xd.ex) a7).append (.cons dv .nil)
        · rw [List.length_append]
          exact Nat.succ_le_succ a8
    · rintro Hr ⟨Hl, acc, a1, a2, a3, a4, a5, a6, a7, a8⟩
      refine q _ Hr (upd Hl Dl (.lst acc)) a3 ?_ ⟨a4.ex.trans (Ex.new a5), fun b o hb => ?_⟩ ?_
      · intro b o hb
        by_cases z : b = Dl
        · subst z
          rw [upd_same] at hb
          cases hb
          exact a6
        · rw [upd_ne z] at hb
          exact a2 b o hb
      · by_cases z : b = Dl
        · subst z
          rw [upd_same] at hb
          cases hb
          exact .inr ⟨hD1, fun ps z => by cases z⟩
        · rw [upd_ne z] at hb
          exact a4.fresh b o hb
      · rw [ho]
        exact .lst upd_same (DtAll.ex (Ex.new a5) a7)
theorem filterMap_range {α β : Type} (l : List α) (f : α → Option β) : (List.range l.length).filterMap (fun i => (l[i]?).bind f) = l.filterMap f := by
  induction l with
  | nil => rfl
  | cons a r ih =>
    rw [List.length_cons, List.range_succ_eq_map, List.filterMap_cons, List.filterMap_map]
    show (match (some a).bind f with | none => _ | some b => b :: _) = _
    rw [List.filterMap_cons]
    have e : (List.range r.length).filterMap ((fun i => ((a :: r)[i]?).bind f) ∘ Nat.succ) = r.filterMap f := by
      rw [← ih]
      apply congrArg (fun g => List.filterMap g (List.range r.length))
      funext i
      simp
    rw [e]
    rfl
end
end LR

/-! ### defs: promises over data, calls, walks of anything (own work) -/
namespace LR
open PySem PySem.Spec PyProof.Rows L2 Evl
/-- the way of exceptions: L2N's -/
abbrev CXL (P : Program) (w : World) : CXT := L2N.CX P w
theorem passN {X : Cx} : Passes (CXL X.prog X.w) X E0 := fun _ _ _ _ _ _ _ h => by
  obtain ⟨_, _, _, _, _, _, _, _, _, _, _, _, z⟩ := h
  exact z.elim
/-- a def that is called by its global name -/
structure Fx (P : Program) (w : World) (K : PySem.W.Frag) (mg : Str → Option Value) (base : Heap) (k : Nat) (x : Str) (ps : List Str) (sp : Sp) : Prop where
  ex : ∃ (f : Addr) (fd : FuncData), FnOk P w K mg base (CXL P w) k f fd ps sp ∧ mg x = some (.ref f) ∧ PySem.W.keepIn K (.ref f) = true ∧ Binds K fd ps []
theorem Fx.mono {P : Program} {w : World} {K : PySem.W.Frag} {mg : Str → Option Value} {base : Heap} {j k : Nat} {x : Str} {ps : List Str} {sp : Sp} (c : Fx P w K mg base j x ps sp) (h : j ≤ k) : Fx P w K mg base k x ps sp := by
  obtain ⟨f, fd, F, r⟩ := c.ex
  exact ⟨f, fd, F.mono h, r⟩
section
variable {X : Cx} {k j : Nat} {x : Str} {ps : List Str} {sp : Sp} {E : XK} {p pos : Pos} {e : Expr} {es : List Expr} {t : TA}
theorem pe_fx (c : Fx X.prog X.w X.K X.mg X.base k x ps sp) (hr : Room j X.A) (hk : k ≤ j) (hg : Gl X x) (hx : Passes (CXL X.prog X.w) X E) (ha : PA X (e :: es) t)
    (hdb : (x == ("__debug__" : Str)) = false := by decide) (he : starEach (e :: es) X.env = (false, eval e X.env) :: starEach es X.env := by rfl) (hpl : (backTo pos (starEach es X.env)).any (·.1) = false := by rfl) :
    PE X (.Call (.Name x p) (e :: es) [] pos) (tCall sp [] E t) := by
  obtain ⟨f, fd, F, hm, kp, b⟩ := c.ex
  exact pe_call F (hr.mono hk) hg hm kp b .nil hx ha hdb he hpl
/-- a for, a comprehension over a list, a tuple or a text -/
def iU (K : PySem.W.Frag) (tl : TE) : TI := fun σ H R => tl σ H fun x H1 => (∃ a, x = .ref a ∧ (∃ xs, SqL K H1 a xs) ∧ R (Itl K a) H1) ∨ (∃ a, x = .ref a ∧ (∃ xs, SqT K H1 a xs) ∧ R (Itt K a) H1) ∨ (∃ z, x = .str z ∧ R (Its z) H1)
theorem pi_U {tg l : Expr} {tl : TE} (hl : PE X l tl) : PI X tg l (iU X.K tl) := by
  refine ⟨fun pins s σ H R I h => ?_⟩
  refine thn (hl.run pins s σ H _ I h) fun v s1 ⟨x, H1, I1, r1, q1⟩ => ?_
  rcases q1 with ⟨a, e, ⟨xs, hq⟩, q⟩ | ⟨a, e, ⟨xs, hq⟩, q⟩ | ⟨z, e, q⟩
  · subst e
    cases r1
    obtain ⟨its, rv, p, hz⟩ := I1.list hq
    exact wpAny_pyIter_list p.isList (pi_one (tk := s1.toks) I1 _ (turn_list a _) ⟨_, Heap.get?_push_size _ rfl, rfl, rfl⟩ q)
  · subst e
    cases r1
    obtain ⟨its, rv, p, hz⟩ := I1.tuple hq
    exact wpAny_pyIter_tuple (show s1.heap.IsTuple a its.toArray from p) (pi_one (tk := s1.toks) I1 _ (turn_tuple a _) ⟨_, Heap.get?_push_size _ rfl, rfl, rfl⟩ q)
  · subst e
    obtain ⟨t, rfl⟩ := r1
    cases ha : z.cps.all (· < 128)
    · exact wpAny_pyIter_wide ha (pi_one (tk := s1.toks) I1 _ (turn_str _ z t "str_iterator" (.inr rfl)) ⟨_, Heap.get?_push_size _ rfl, rfl, rfl⟩ q)
    · exact wpAny_pyIter_ascii ha (pi_one (tk := s1.toks) I1 _ (turn_str _ z t "str_ascii_iterator" (.inl rfl)) ⟨_, Heap.get?_push_size _ rfl, rfl, rfl⟩ q)
end
section
variable {K : PySem.W.Frag} {σ : L2.St} {H : Hp} {te : TE} {ta : TA}
theorem eiU_str {z : Str} (h : EvD K te σ H (.str z)) : EvI (iU K te) σ H z.cps.size (YS z) := fun H1 e1 R r =>
  h H1 e1 _ fun v H2 H' e2 e x dv => .inr (.inr ⟨z, dv.str_eq, r _ (fun _ => True) H2 H' e2 e x (fun _ _ => trivial) walk_str⟩)
/-- items of data; what was known stays -/
theorem eiU_list {ds : List PyData} (h : EvD K te σ H (.list ds)) : EvI (iU K te) σ H ds.length (YD K ds) := fun H1 e1 R r =>
  h H1 e1 _ fun v H2 H' e2 e x dv => by
    obtain ⟨a, xs, rfl, ha, ra⟩ := dv.lst_eq
    refine .inl ⟨a, rfl, ⟨xs, sq_of (e a _ ha)⟩, r _ (fun H3 => Ex H' H3) H2 H' e2 e x (fun H3 e3 => e3) ?_⟩
    rw [← ra.length]
    exact (walk_list (K := K) (a := a) (xs := xs)).mono (fun H3 e3 => sq_of (e3 a _ ha)) fun i H3 y H4 hi e3 z => by
      obtain ⟨d, d1, d2⟩ := ra.get' z.2
      exact ⟨z.1, d, d1, d2⟩
theorem eiU_tup {ds : List PyData} (h : EvD K te σ H (.tuple ds)) : EvI (iU K te) σ H ds.length (YD K ds) := fun H1 e1 R r =>
  h H1 e1 _ fun v H2 H' e2 e x dv => by
    obtain ⟨a, xs, rfl, ha, ra⟩ := dv.tup_eq
    refine .inr (.inl ⟨a, rfl, ⟨xs, ex_t e ha⟩, r _ (fun H3 => Ex H' H3) H2 H' e2 e x (fun H3 e3 => e3) ?_⟩)
    rw [← ra.length]
    exact (walk_tup (K := K) (a := a) (xs := xs)).mono (fun H3 e3 => ex_t e3 ha) fun i H3 y H4 hi e3 z => by
      obtain ⟨d, d1, d2⟩ := ra.get' z.2
      exact ⟨z.1, d, d1, d2⟩
/-- the promise of a pure def: from data to data -/
def spR (K : PySem.W.Frag) (n : Nat) (R : List PyData → PyData → Prop) : Sp := fun vs H1 Q _ => ∃ H ds r, Ex H H1 ∧ DtAll K H vs ds ∧ ds.length = n ∧ R ds r ∧ KD K H H1 r Q
theorem spR_len {n : Nat} {R : List PyData → PyData → Prop} {vs : List V} {H1 : Hp} {Q : VK} {E : XK} (h : spR K n R vs H1 Q E) : vs.length = n := by
  obtain ⟨H, ds, r, _, da, hl, _⟩ := h
  rw [da.length, hl]
theorem ed_call {n : Nat} {R : List PyData → PyData → Prop} {E : XK} {ds : List PyData} {z : PyData} (ha : EvDs K ta σ H ds) (hR : R ds z) (hn : ds.length = n := by rfl) : EvD K (tCall (spR K n R) [] E ta) σ H z := fun H1 e1 Q q =>
  ha H1 e1 _ fun vs H2 Ha e2 ea xa da => by
    show spR K n R (vs ++ []) H2 Q E
    rw [List.append_nil]
    exact ⟨Ha, ds, z, ea, da, hn, hR, fun v H3 Hb e3 eb xb db => q v H3 Hb (e2.trans e3) eb (xa.trans e2 xb) db⟩
end
section
variable {P : Program} {w : World} {K : PySem.W.Frag} {mg : Str → Option Value} {base : Heap}
/-- a pure def of the text keeps its promise -/
theorem fn_pure {nm qual : Str} {st : Stmt} {f : Addr} {fd : FuncData} {N ps : List Str} {k n : Nat} {R : List PyData → PyData → Prop} (F : FunD K nm qual (defArgs st) (defBody st) (defScope st) [] [] f fd) (S : FnScope N ps (defScope st)) (hn : ps.length = n)
    (body : ∀ (cdv : Value) (A : Around) (outer : List Env) (s : Shared) (Hs : Hp) (E : XK), Room k (A.deeper (envOfC qual (defScope st) s.heap.objs.size f cdv)) → ∀ (ds : List PyData) (r : PyData), ds.length = n → R ds r →
      ∃ t, PSs (cxOf (CXL P w) P w K mg base N qual (defScope st) f cdv A outer s Hs E).nox (defBody st) t ∧
        ∀ (σ : L2.St) (H0 H10 : Hp) (Q : VK), Now H0 H10 H0 H10 → Sl K H0 σ (ds.map .dat ++ List.replicate (N.length - n) .unk) → KD K H0 H10 r Q → t { nx := fun _ H' => Q .non H', rt := Q } σ H10) :
    FnOk P w K mg base (CXL P w) (k + 1) f fd ps (spR K n R) := by
  refine F.ok S (fun vs H Q E h => ?_) (fun cdv A outer s H1 vs Q E hr h => ?_)
  · rw [hn]
    exact spR_len h
  · obtain ⟨H, ds, r, e, da, hl, hR, q⟩ := h
    obtain ⟨t, ht, hk⟩ := body cdv A outer s H1 E hr ds r hl hR
    refine ⟨t, ht.nox, hk _ H H1 Q (Now.start e) ?_ q⟩
    have z := sl_start (K := K) (H := H) (N.length - vs.length) da
    have lv : vs.length = n := da.length.trans hl
    rw [lv] at z
    unfold L2.start
    rw [lv]
    exact z
theorem fx_pure {x nm qual : Str} {st : Stmt} {f : Addr} {fd : FuncData} {N ps : List Str} {k n : Nat} {R : List PyData → PyData → Prop} (F : FunD K nm qual (defArgs st) (defBody st) (defScope st) [] [] f fd) (hm : mg x = some (.ref f)) (S : FnScope N ps (defScope st)) (hn : ps.length = n)
    (hb : ∀ (kV doc pm : Value) (an : Option Addr) (cdv ct : Value) (us : List Value), us.length = ps.length → bindArgs (PySem.W.fnOf nm qual (defArgs st) (defBody st) (defScope st) .none kV doc pm an cdv ct) ⟨us, []⟩ = pure (ps.zip us))
    (body : ∀ (cdv : Value) (A : Around) (outer : List Env) (s : Shared) (Hs : Hp) (E : XK), Room k (A.deeper (envOfC qual (defScope st) s.heap.objs.size f cdv)) → ∀ (ds : List PyData) (r : PyData), ds.length = n → R ds r →
      ∃ t, PSs (cxOf (CXL P w) P w K mg base N qual (defScope st) f cdv A outer s Hs E).nox (defBody st) t ∧
        ∀ (σ : L2.St) (H0 H10 : Hp) (Q : VK), Now H0 H10 H0 H10 → Sl K H0 σ (ds.map .dat ++ List.replicate (N.length - n) .unk) → KD K H0 H10 r Q → t { nx := fun _ H' => Q .non H', rt := Q } σ H10) :
    Fx P w K mg base (k + 1) x ps (spR K n R) := ⟨f, fd, fn_pure F S hn body, hm, F.kp, F.bindsN hb⟩
/-- the law's promise, at the end -/
theorem law_sp {H : Hp} {a : Addr} {ns : List Int} {R : List PyData → PyData → Prop} (hR : R [scrD ns] (.bool true)) (hS : SqL K H a (ns.map V.int)) : spR K 1 R [.ref a] H (fun v _ => v = .bl true) fun _ _ _ => False :=
  ⟨H, [scrD ns], .bool true, Ex.refl _, .cons (.scr ns hS) .nil, rfl, hR, fun _ _ _ _ _ _ dv => dv.bl_eq⟩
end
end LR

/-! ### rules with the written part by name (inside a comprehension the context is another, the written part is the same) -/
namespace LR
open PySem PySem.Spec PyProof.Rows L2 Evl
section
variable {X : Cx} {K : PySem.W.Frag}
theorem op_addK (h : X.K = K) : OpR X (binaryOp .Add) (rAddU K) := h ▸ op_addU
theorem op_mulK (h : X.K = K) : OpR X (binaryOp .Mult) (rMulU K) := h ▸ op_mulU
theorem op_eqK (h : X.K = K) (hu : X.A.units + 64 < cLine) : OpR X (compareOp .Eq) (rEqU K) := h ▸ op_eqU hu
theorem op_neK (h : X.K = K) (hu : X.A.units + 64 < cLine) : OpR X (compareOp .NotEq) (rNeU K) := h ▸ op_neU hu
theorem call_lenK (h : X.K = K) : CallR X (.builtin "len") (lenR K) := h ▸ call_len
theorem call_isK (h : X.K = K) : CallR X (.builtin "isinstance") (rIsi K) := h ▸ call_isi
theorem cr_allK (h : X.K = K) (hc : X.calm = true) : CallR X (.builtin "all") (rAll K) := h ▸ cr_all hc
theorem cr_anyK (h : X.K = K) (hc : X.calm = true) : CallR X (.builtin "any") (rAny K) := h ▸ cr_any hc
theorem cr_sumK (h : X.K = K) (hc : X.calm = true) : CallR X (.builtin "sum") (rSum K) := h ▸ cr_sum hc
theorem ix_K (h : X.K = K) : IxR X (rIx K) := h ▸ ix_seq
theorem sl_K (h : X.K = K) : SlR X (rSlU K) := h ▸ sl_U
theorem pi_K {tg l : Expr} {tl : TE} (h : X.K = K) (hl : PE X l tl) : PI X tg l (iU K tl) := h ▸ pi_U hl
theorem pg_tupK {es : List Expr} {k : Nat} {pos : Pos} {t : TGs} {n : Nat} (hK : X.K = K) (hc : X.calm = true) (h : PGs X es t)
    (hn : (assignEach es X.env).length = n := by rfl) (hst : (assignEach es X.env).findIdx? (·.1) = none := by rfl) : PG X (.Tuple es k pos) (gTup K n t) := hK ▸ pg_tup hc h hn hst
def rTupOf (K : PySem.W.Frag) : List V → Hp → VK → Prop := fun xs H Q => ∃ p ys, xs = [.ref p] ∧ ((SqL K H p ys ∧ ∀ l, H l = none → Q (.ref l) (upd H l (.tup ys))) ∨ (SqT K H p ys ∧ Q (.ref p) H))
theorem call_tupK (h : X.K = K) : CallR X (.type "tuple") (rTupOf K) := h ▸ call_tuple_of
def rLstOf (K : PySem.W.Frag) : List V → Hp → VK → Prop := fun xs H Q => ∃ p ys, xs = [.ref p] ∧ (SqL K H p ys ∨ SqT K H p ys) ∧ ∀ l, H l = none → Q (.ref l) (upd H l (.lst ys))
theorem call_lstK (h : X.K = K) : CallR X (.type "list") (rLstOf K) := h ▸ call_list_of
theorem pe_bmK {T : String} {name : Str} {id : String} {r : V → List V → Hp → VK → Prop} {o e : Expr} {es : List Expr} {to : TE} {t : TA} {apos cpos : Pos} (hK : X.K = K) (pa : PlainAttrs T) (slot : Slot T name id) (hty : typeOf (.builtin id) = pure (.type "method_descriptor")) (hm : MtR X id r) (ho : PE X o to) (ha : PA X (e :: es) t)
    (hbase : attributeBase o name X.env (eval o X.env) = eval o X.env := by rfl)
    (hfew : ((backTo cpos (starEach (e :: es) X.env)).all (fun x => !x.1) && (backToKw cpos (keywordEach [] X.env)).all (fun x => x.1.isSome)
      && decide ((e :: es).length + ([] : List Keyword).length + (if ([] : List Keyword).isEmpty then 0 else 1) < 30)) = true := by rfl)
    (hline : (apos.endLine == cpos.line) = true := by rfl) (he : starEach (e :: es) X.env = (false, eval e X.env) :: starEach es X.env := by rfl) (hpl : (backTo cpos (starEach es X.env)).any (·.1) = false := by rfl) :
    PE X (.Call (.Attribute o name apos) (e :: es) [] cpos) (tBM K T r to t) := hK ▸ pe_bm pa slot hty hm ho ha hbase hfew hline he hpl
def rJoin (K : PySem.W.Frag) : V → List V → Hp → VK → Prop := fun x xs H Q => ∃ a p, ∃ ys : List Str, x = .str a ∧ xs = [.ref p] ∧ (SqL K H p (ys.map V.str) ∨ SqT K H p (ys.map V.str)) ∧ (ys.map (·.length)).sum + ys.length * a.length ≤ 16777216 ∧ Q (.str (Txt.join a ys)) H
theorem mt_joinK (h : X.K = K) : MtR X "str.join" (rJoin K) := h ▸ mt_join
theorem pi_zipK {e e2 : Expr} {ta : TA} {p pos tpos : Pos} {elts : List Expr} {kk : Nat} (hK : X.K = K) (hg : Gl X "zip") (hm : X.mg "zip" = none) (ha : PA X [e, e2] ta)
    (hs : starEach [e, e2] X.env = (false, eval e X.env) :: starEach [e2] X.env := by rfl) (hpl : (backTo pos (starEach [e2] X.env)).any (·.1) = false := by rfl) :
    PI X (.Tuple elts kk tpos) (.Call (.Name "zip" p) [e, e2] [] pos) (RZ.iZipA K ta) := hK ▸ RZ.pi_zipA hg hm ha hs hpl
end
end LR

/-! ### sets of texts and whole numbers that can be walked (own work over the kit's tables) -/
namespace LR
open PySem PySem.Spec PyProof.Rows L2
/-- the key of a row -/
def keyE (r : Int × Value) : Key := match r.2 with
  | .int i _ => .inl i
  | .str z _ => .inr z
  | _ => .inl 0
def RowOk (P : Program) (w : World) (r : Int × Value) : Prop := ∃ k, RelV (kV k) r.2 ∧ r.1 = (mixKind P w).hash k
theorem keyE_of {r : Int × Value} {k : Key} (h : RelV (kV k) r.2) : keyE r = k := by
  unfold keyE
  cases k with
  | inl i =>
    obtain ⟨t, e⟩ := (show ∃ t, r.2 = Value.int i t from h)
    rw [e]
  | inr x =>
    obtain ⟨t, e⟩ := (show ∃ t, r.2 = Value.str x t from h)
    rw [e]
theorem row_elems {P : Program} {w : World} {l : List (Int × Value)} (g : ∀ r ∈ l, RowOk P w r) : ElemsOf (mixKind P w) l := fun r hr => by
  obtain ⟨k, h1, h2⟩ := g r hr
  exact ⟨⟨k, kV_is h1, h2⟩, key_scan h1⟩
theorem row_mem {P : Program} {w : World} {l : List (Int × Value)} (g : ∀ r ∈ l, RowOk P w r) (k : Key) : k ∈ l.map keyE ↔ ∃ r ∈ l, (mixKind P w).is k r.2 = true := by
  rw [List.mem_map]
  constructor
  · rintro ⟨r, hr, q⟩
    obtain ⟨k', h1, _⟩ := g r hr
    rw [keyE_of h1] at q
    subst q
    exact ⟨r, hr, kV_is h1⟩
  · rintro ⟨r, hr, q⟩
    obtain ⟨k', h1, _⟩ := g r hr
    exact ⟨r, hr, (keyE_of h1).trans ((mixKind P w).inj _ _ _ (kV_is h1) q)⟩
/-- the set at a, with its rows -/
def KSet (P : Program) (w : World) (h : Heap) (a : Addr) (S : Key → Bool) (n : Nat) : Prop :=
  ∃ ob rows ep tb, h.get? a = some ob ∧ ob.ExactSet ∧ ob.data = .set rows ep tb ∧ (∀ r ∈ rows.toList, RowOk P w r) ∧ (rows.toList.map keyE).Nodup ∧ (∀ k, S k = true ↔ k ∈ rows.toList.map keyE) ∧
    rows.size < scanBound ∧ tb.fits rows.size = true ∧ rows.size = n ∧ Ris tb.place.toList ∧ (w.params.followText "set-order" = true ∨ tb.led = true)
section
variable {P : Program} {w : World} {h h' : Heap} {a : Addr} {S : Key → Bool} {n : Nat}
theorem KSet.at (R : KSet P w h a S n) (k : ∀ ob, h.get? a = some ob → h'.get? a = some ob) : KSet P w h' a S n := by
  obtain ⟨ob, rows, ep, tb, ho, r⟩ := R
  exact ⟨ob, rows, ep, tb, k ob ho, r⟩
theorem KSet.congr {S' : Key → Bool} (R : KSet P w h a S n) (e : ∀ k, S' k = S k) : KSet P w h a S' n := by
  rw [show S' = S from funext e]
  exact R
theorem kset_fresh (ho : h.get? a = some { cls := .type "set", dict := none, data := .set #[] 0 (.fresh 0 0 (!w.params.followText "set-order")) }) : KSet P w h a (fun _ => false) 0 :=
  ⟨_, #[], 0, _, ho, ⟨rfl, rfl, rfl⟩, rfl, (fun r hr => by simp at hr), by simp, (fun k => by simp), by decide, by rfl, rfl, List.Pairwise.nil, by
    cases w.params.followText "set-order" with
    | true => exact .inl rfl
    | false => exact .inr rfl⟩
end
section
variable {P : Program} {w : World} {A : Around} {E : Value → Shared → Prop} {s : Shared} {a : Addr} {S : Key → Bool} {n : Nat}
theorem kset_tail {gv : Bool → Sem Unit} (hgv : ∀ (b : Bool) (z : Shared) (Q' : Unit → Shared → Prop), Q' () z → wpAny (model P w) A (gv b) Q' E z)
    {ob : Obj} {rows : Array (Int × Value)} {ep : Nat} {tb : SetTable} (ho : s.heap.get? a = some ob) (hex : ob.ExactSet) (hd : ob.data = .set rows ep tb)
    {rw1 : Array (Int × Value)} {tb2 : SetTable} {S' : Key → Bool} (g1 : ∀ r ∈ rw1.toList, RowOk P w r) (nd1 : (rw1.toList.map keyE).Nodup) (m1 : ∀ k, S' k = true ↔ k ∈ rw1.toList.map keyE)
    (hb1 : rw1.size < scanBound) (hf2 : tb2.fits rw1.size = true) (hr : Ris tb2.place.toList) (hl : w.params.followText "set-order" = true ∨ tb2.led = true) {was : Bool} {R : Option Bool → Shared → Prop}
    (hR : ∀ h', Heap.SameBut a s.heap h' → KSet P w h' a S' rw1.size → R (some true) { s with heap := h' }) :
    wpAny (model P w) A (do
        storeSet a rw1 tb2
        if (!was && tb2.tooFull) = true then do
            gv (relayAll tb2 rw1 (SetTable.grown rw1.size)).2.2
            storeSet a (relayAll tb2 rw1 (SetTable.grown rw1.size)).1 (relayAll tb2 rw1 (SetTable.grown rw1.size)).2.1
            pure (some true)
          else pure (some true)) R E s := by
  have st1 := store_at (es' := rw1) (t' := tb2) ho hd
  have same1 := Heap.SameBut.update s.heap a (Obj.putSet rw1 tb2)
  refine wpAny_bind (wpAny_storeSet_of ho hd ?_ (fits_of_scanBound hb1))
  split
  · have q1 := relayAll_perm tb2 rw1 (SetTable.grown rw1.size)
    have q2 := relayAll_fits tb2 rw1 (SetTable.grown rw1.size)
    have q3 := relayAll_ris tb2 rw1 (SetTable.grown rw1.size)
    have q4 := relayAll_led tb2 rw1 (SetTable.grown rw1.size)
    generalize relayAll tb2 rw1 (SetTable.grown rw1.size) = Z at q1 q2 q3 q4 ⊢
    obtain ⟨rw2, tb3, gave⟩ := Z
    dsimp only at q1 q2 q3 q4 ⊢
    have hsz : rw2.size = rw1.size := by
      have e := q1.length_eq
      simpa using e
    have hb2 : rw2.size < scanBound := hsz ▸ hb1
    refine wpAny_bind (hgv _ _ _ (wpAny_bind (wpAny_storeSet_of st1 rfl ?_ (fits_of_scanBound hb2))))
    have st2 := store_at (es' := rw2) (t' := tb3) st1 rfl
    refine wpAny_pure (hR _ (same1.trans (Heap.SameBut.update _ a _)) ⟨_, rw2, _, tb3, st2, hex, rfl, fun r hr => g1 r (q1.mem_iff.mp hr), (q1.map keyE).nodup_iff.mpr nd1, fun k => (m1 k).trans (q1.map keyE).mem_iff.symm, hb2, q2, hsz, q3, ?_⟩)
    rcases hl with z | z
    · exact .inl z
    · exact .inr (q4.trans z)
  · exact wpAny_pure (hR _ same1 ⟨_, rw1, _, tb2, st1, hex, rfl, g1, nd1, m1, hb1, hf2, rfl, hr, hl⟩)
theorem kset_add {k : Key} {u : Value} {Q : Bool → Shared → Prop} (hu : RelV (kV k) u) (R : KSet P w s.heap a S n) (room : n + 1 < scanBound)
    (hQ : ∀ h', Heap.SameBut a s.heap h' → KSet P w h' a (fun j => S j || decide (j = k)) (if S k = true then n else n + 1) → Q (!S k) { s with heap := h' }) :
    wpAny (model P w) A (setAddHashed a u ((mixKind P w).hash k)) Q E s := by
  obtain ⟨ob, rows, ep, tb, ho, hex, hd, g, nd, hm, hb, hf, hn, hr, hl⟩ := R
  have hkey : (mixKind P w).is k u = true := kV_is hu
  have hsc := key_scan hu
  have hel := row_elems g
  unfold setAddHashed setAddHashedIn
  refine wpAny_holding (wpAny_bind (wpAny_setState_of ho hd hf ?_))
  dsimp only
  rw [byScan_of hsc hb hel]
  simp only [↓reduceIte]
  unfold setAddByScan
  refine wpAny_bind (wpAny_bind (wpAny_rule (wpAny_bind (wpAny_setScan_of hkey ho hd hf hel ?_))))
  cases fi : List.findIdx? (fun r => (mixKind P w).is k r.2) rows.toList with
  | some j =>
    dsimp only
    obtain ⟨hj, pj, _⟩ := List.findIdx?_eq_some_iff_getElem.mp fi
    have inS : S k = true := (hm k).2 ((row_mem g k).2 ⟨rows.toList[j], List.getElem_mem hj, pj⟩)
    have z := hQ s.heap (Heap.SameBut.refl a s.heap) ⟨ob, rows, ep, tb, ho, hex, hd, g, nd, fun i => by
      rw [Bool.or_eq_true, decide_eq_true_eq, ← hm i]
      constructor
      · rintro (y | rfl)
        · exact y
        · exact inS
      · exact .inl, hb, hf, by rw [if_pos inS]; exact hn, hr, hl⟩
    rw [inS] at z
    exact wpAny_pure (wpAny_pure z)
  | none =>
    dsimp only
    have out : k ∉ rows.toList.map keyE := fun z => by
      obtain ⟨r, hr, q⟩ := (row_mem g k).1 z
      have c := List.findIdx?_eq_none_iff.mp fi r hr
      rw [q] at c
      cases c
    have outS : S k = false := by
      cases q : S k with
      | false => rfl
      | true => exact absurd ((hm k).1 q) out
    have gave : ∀ (b : Bool) {z : Shared} {Q' : Unit → Shared → Prop}, Q' () z → wpAny (model P w) A (match b with | true => rule "set.scan.the-table-gave-way" | false => pure ()) Q' E z := fun b z Q' q => by
      cases b with
      | true => exact wpAny_rule q
      | false => exact wpAny_pure q
    have q1 := layNew_perm tb rows ((mixKind P w).hash k) u
    have q2 := layNew_fits tb rows ((mixKind P w).hash k) u
    have q3 := layNew_ris tb rows ((mixKind P w).hash k) u hr
    have q4 := layNew_led tb rows ((mixKind P w).hash k) u
    generalize layNew tb rows ((mixKind P w).hash k) u = Z at q1 q2 q3 q4 ⊢
    obtain ⟨rw1, tb1, was, gv⟩ := Z
    dsimp only at q1 q2 q3 q4 ⊢
    rw [Array.toList_push] at q1
    have pc : rw1.toList.Perm (((mixKind P w).hash k, u) :: rows.toList) := q1.trans (List.perm_append_singleton _ _)
    have pk : (rw1.toList.map keyE).Perm (k :: rows.toList.map keyE) := by
      have y := pc.map keyE
      rw [List.map_cons, keyE_of (r := ((mixKind P w).hash k, u)) hu] at y
      exact y
    have g1 : ∀ r ∈ rw1.toList, RowOk P w r := fun r hr => by
      rcases List.mem_cons.mp (pc.mem_iff.mp hr) with z | z
      · rw [z]
        exact ⟨k, hu, rfl⟩
      · exact g r z
    have nd1 : (rw1.toList.map keyE).Nodup := pk.nodup_iff.mpr (List.nodup_cons.mpr ⟨out, nd⟩)
    have m1 : ∀ i, (S i || decide (i = k)) = true ↔ i ∈ rw1.toList.map keyE := fun i => by
      rw [pk.mem_iff, List.mem_cons, Bool.or_eq_true, decide_eq_true_eq, hm i]
      exact Or.comm
    have hsz : rw1.size = n + 1 := by
      have e := pc.length_eq
      simp only [List.length_cons, Array.length_toList] at e
      omega
    have hb1 : rw1.size < scanBound := hsz ▸ room
    have led1 : w.params.followText "set-order" = true ∨ tb1.led = true := by
      rcases hl with z | z
      · exact .inl z
      · exact .inr (q4.trans z)
    have fin : ∀ h', Heap.SameBut a s.heap h' → KSet P w h' a (fun j => S j || decide (j = k)) rw1.size → Q true { s with heap := h' } := fun h' sb r => by
      have q := hQ h' sb
      rw [outS, if_neg (by decide), ← hsz] at q
      exact q r
    refine wpAny_bind (gave _ ?_)
    split
    · refine wpAny_bind ?_
      rw [hashByValue_scannable 8 hsc]
      refine wpAny_pure (kset_tail ?_ ho hex hd g1 nd1 m1 hb1 ?_ ?_ ?_ fun h' sb r => ?_)
      · intro b z Q' q; cases b <;> first | exact wpAny_pure q | exact wpAny_rule q
      · first | (split <;> first | exact q2 | exact SetTable.fits_plain_off q2) | exact q2
      · first | (split <;> exact q3) | exact q3
      · first | (split <;> exact led1) | exact led1
      · dsimp only
        exact wpAny_pure (fin h' sb r)
    · refine wpAny_bind (wpAny_pure ?_)
      simp only [↓reduceIte]
      refine kset_tail ?_ ho hex hd g1 nd1 m1 hb1 q2 q3 led1 fun h' sb r => ?_
      · intro b z Q' q; cases b <;> first | exact wpAny_pure q | exact wpAny_rule q
      · dsimp only
        exact wpAny_pure (fin h' sb r)
/-- among the keys -/
def inK (ks : List Key) (j : Key) : Bool := ks.any fun k => decide (j = k)
theorem inK_iff {ks : List Key} {j : Key} : inK ks j = true ↔ j ∈ ks := by
  unfold inK
  rw [List.any_eq_true]
  constructor
  · rintro ⟨k, hk, e⟩
    rw [of_decide_eq_true e]
    exact hk
  · intro h
    exact ⟨j, h, by simp⟩
/-- the loop behind set(..) -/
theorem kset_loop {I : Addr} {fp wr : List Addr} {G : Array GenState → Array GenState → Prop} {m : Nat} {Pv : Nat → Value → Prop} {St : Nat → Shared → Prop} {R : Result → Shared → Prop}
    (W : WalksS P w A.in1 I fp wr G m Pv St) (T : Addr) (hTf : T ∉ fp) (ks : List Key) (hm : m = ks.length) (hb : ks.length + 1 < scanBound) (hval : ∀ i v, Pv i v → ∃ k, ks[i]? = some k ∧ RelV (kV k) v) :
    ∀ (d i : Nat) (s : Shared), m - i = d → i ≤ m → St i s → (∃ c, c ≤ i ∧ KSet P w s.heap T (inK (ks.take i)) c) →
      (∀ s' c, Moved (T :: wr) G s s' → c ≤ m → KSet P w s'.heap T (inK ks) c → R (.ok (.ret .none)) s') →
      codeAny (model P w) A (.builtin "set.update.loop" ⟨[.ref T, .ref I], []⟩) R s := by
  have hTw : T ∉ wr := fun h => hTf (W.sub _ h)
  have sub : ∀ b ∈ wr, b ∈ T :: wr := fun b hb => List.mem_cons_of_mem _ hb
  intro d
  induction d with
  | zero =>
    rintro i z hd hi hst ⟨c, hc, hT⟩ hR
    obtain rfl : i = m := by omega
    refine codeAny_builtin F.entry_set_update_loop ?_
    rw [Around.under_plainId F.plain_set_update_loop _]
    show wpAny _ A.in1 (pyNext (.ref I) >>= _) _ _ z
    refine wpAny_bind (W.done z _ _ hst fun z' mv => ?_)
    show wpAny _ A.in1 (ret Value.none) _ _ z'
    rw [List.take_of_length_le (show ks.length ≤ i by omega)] at hT
    exact wpAny_pure (hR z' c (mv.mono sub) hc (hT.at fun o e => mv.heap T o hTw e))
  | succ d ih =>
    rintro i z hd hi hst ⟨c, hc, hT⟩ hR
    have lt : i < m := by omega
    refine codeAny_builtin F.entry_set_update_loop ?_
    rw [Around.under_plainId F.plain_set_update_loop _]
    show wpAny _ A.in1 (pyNext (.ref I) >>= _) _ _ z
    refine wpAny_bind (W.item i z _ _ lt hst fun v z' hP hst' mv => ?_)
    obtain ⟨k, hk, rv⟩ := hval i v hP
    have hT' := hT.at (h' := z'.heap) fun o e => mv.heap T o hTw e
    show wpAny _ A.in1 (holding [v] (setAdd T v) >>= _) _ _ z'
    refine wpAny_bind (wpAny_holding ?_)
    unfold setAdd
    refine wpAny_holding (wpAny_bind ((mixKind P w).pyHash (k := k) (kV_is rv) ?_))
    refine kset_add (s := { z' with toks := z'.toks + 1 }) rv hT' (by omega) fun h' sb r => ?_
    have r2 : KSet P w h' T (inK (ks.take (i + 1))) (if inK (ks.take i) k = true then c else c + 1) := r.congr fun j => by
      unfold inK
      rw [List.take_add_one, hk, List.any_append]
      simp
    refine wpAny_pure ⟨plainId_quiet F.plain_set_update_loop _, ih (i + 1) _ (by omega) lt (W.frame _ z' _ _ hst' (Nat.le_succ _) fun b hb o e => ?_) ⟨_, by split <;> omega, r2⟩ fun z2 c2 mv2 hc2 hT2 => ?_⟩
    · rw [sb.2 b fun y : b = T => hTf (y ▸ hb)]
      exact e
    · refine hR z2 c2 (Moved.trans W.gtrans ((mv.mono sub).then_heap (Nat.le_succ _) fun b o hb e => ?_) mv2) hc2 hT2
      rw [sb.2 b fun y : b = T => hb (y ▸ List.mem_cons_self)]
      exact e
set_option maxHeartbeats 3200000 in
/-- set(a list of keys) -/
theorem kset_call {l : Addr} {its : Array Value} {ks : List Key} {Q : Value → Shared → Prop} (hh : A.handled = none) (hl : s.heap.IsList l its) (rv : Vals (ks.map kV) its.toList) (hb : ks.length + 1 < scanBound)
    (h : ∀ (h' : Heap) (tk c : Nat), KSet P w h' s.heap.objs.size (inK ks) c → c ≤ ks.length → (∀ b o, s.heap.get? b = some o → h'.get? b = some o) → Q (.ref s.heap.objs.size) { s with heap := h', toks := tk }) :
    wpAny (model P w) A (call (.type "set") [.ref l]) Q E s := by
  have size : its.size = ks.length := by
    have q := rv.length
    rw [List.length_map, Array.length_toList] at q
    exact q.symm
  obtain ⟨_, _, mro⟩ := F.called_set.mro
  have made := F.called_set.made
  have subT := F.called_set.sub
  have c1 := F.called_set.notType
  have c2 := F.called_set.canCreate
  have c3 := F.typeCall_set_1 (.ref l)
  refine wpAny_call (codeAny_of_tree (show wpAny _ _ (callAny (.type "set") _) _ _ _ from wpAny_pure ⟨Code.quiet_builtin _ (by decide +kernel), codeAny_builtin F.entry_type_call ?_⟩))
  rw [Around.under_plain (weight_type_call_type "set" [.ref l] []) rfl]
  repeat (any_goals (first | assumption | wp_step))
  let ob0 : Obj := { cls := .type "set", dict := none, data := .set #[] 0 (.fresh 0 0 (!w.params.followText "set-order")) }
  refine codeAny_mono (code_set_led1 (.ref l) (E := E) (Q₁ := fun ob z => ob = .ref s.heap.objs.size ∧ z = { s with heap := s.heap.push ob0 }) ⟨rfl, rfl⟩) fun r z hr => ?_
  match r, hr with
  | .error _, hr => exact hr
  | .ok (.ret ob), hr =>
    obtain ⟨rfl, rfl⟩ := hr
    have atT : (s.heap.push ob0).get? s.heap.objs.size = some ob0 := Heap.get?_push_size _ rfl
    have tyT : Shared.TypeIs { s with heap := s.heap.push ob0 } (.ref s.heap.objs.size) "set" := ⟨_, atT, rfl⟩
    have i1 := F.called_set.init.lookup
    have i2 := F.called_set.init.bind (.ref s.heap.objs.size)
    repeat (any_goals (first | assumption | wp_step))
    refine codeAny_mono (codeAny_call_builtin (R := wants (fun r z => r = .none ∧ ∃ h' tk c, z = { s with heap := h', toks := tk } ∧ KSet P w h' s.heap.objs.size (inK ks) c ∧ c ≤ ks.length ∧ ∀ b o, s.heap.get? b = some o → h'.get? b = some o) E) F.called_set.init.plain F.entry_set_init (check_set_init_1 tyT ?_)) fun r2 z2 hr2 => ?_
    · have hlT : l < s.heap.objs.size := by
        obtain ⟨o, ho, _⟩ := hl
        exact Heap.lt_size ho
      have hl1 : (s.heap.push ob0).IsList l its := hl.push _
      obtain ⟨ol, hol, hcl, nl, hdl⟩ := hl1
      obtain ⟨oc, od, oda, osl⟩ := ol
      simp only at hcl hdl
      subst hcl; subst hdl
      have n1 := F.sub_list_set
      have n2 := F.sub_list_frozenset
      have n3 : (Value.type "list" == Value.type "dict") = false := by decide
      have hl2 : (s.heap.push ob0).IsList l its := ⟨_, hol, rfl, nl, rfl⟩
      unfold Builtin.«set.__init__» noKeywords Builtin.Frozenset.updateFrom
      generalize hPI : pyIter = PI
      wp_walk
      subst hPI
      refine wpAny_pyIter_list hl2 (wpAny_bind (wpAny_runValue ?_))
      have hneI : l ≠ (s.heap.push ob0).objs.size := by
        rw [Heap.size_push]
        exact Nat.ne_of_lt (Nat.lt_succ_of_lt hlT)
      have hTf : s.heap.objs.size ∉ [(s.heap.push ob0).objs.size, l] := by
        rw [Heap.size_push]
        simp only [List.mem_cons, List.not_mem_nil, or_false, not_or]
        exact ⟨Nat.ne_of_lt (Nat.lt_succ_self _), Nat.ne_of_gt hlT⟩
      have hval : ∀ (i : Nat) (v : Value), its[i]? = some v → ∃ k, ks[i]? = some k ∧ RelV (kV k) v := fun i v hv => by
        have hi : i < ks.length := size ▸ (Array.getElem?_eq_some_iff.mp hv).1
        obtain ⟨u, hu, ru⟩ := rv.get (i := i) (x := kV ks[i]) (by rw [List.getElem?_map, List.getElem?_eq_getElem hi] <;> rfl)
        rw [Array.getElem?_toList, hv] at hu
        cases hu
        exact ⟨_, List.getElem?_eq_getElem hi, ru⟩
      refine kset_loop ((Walks.list (show A.in1.in1.in1.handled = none by simp [hh]) _ l hneI its).toS) s.heap.objs.size hTf ks size hb hval (its.size - 0) 0 _ rfl (Nat.zero_le _) ⟨⟨_, Heap.get?_push_size _ rfl, rfl, rfl⟩, hl2.push _⟩ ⟨0, Nat.le_refl 0, ?_⟩ fun z c mv hc hT => ?_
      · exact (kset_fresh (Heap.get?_push_of_some _ atT)).congr fun _ => rfl
      · obtain ⟨h', g', d', tk', os'⟩ := z
        obtain rfl : g' = s.gens := mv.gens
        obtain rfl : d' = s.drawn := mv.drawn
        obtain rfl : os' = s.os := mv.os
        rw [size] at hc
        refine wpAny_pure (show wpAny _ _ (ret Value.none) _ _ _ from wpAny_pure ⟨rfl, h', tk', c, rfl, hT, hc, fun b o e => ?_⟩)
        have lt := Heap.lt_size e
        refine mv.heap b o ?_ (Heap.get?_push_of_some _ (Heap.get?_push_of_some _ e))
        rw [Heap.size_push]
        simp only [List.mem_cons, List.not_mem_nil, or_false, not_or]
        exact ⟨Nat.ne_of_lt lt, Nat.ne_of_lt (Nat.lt_succ_of_lt lt)⟩
    · match r2, hr2 with
      | .error _, hr2 => exact hr2
      | .ok (.ret _), hr2 =>
        obtain ⟨rfl, h', tk, c, rfl, hT, hc, kp⟩ := hr2
        repeat (any_goals (first | assumption | wp_step))
        exact h _ _ _ hT hc kp
end
end LR

/-! ### sorted(set(..)), len(set(..)) (own work) -/
namespace LR
open PySem PySem.Spec PyProof.Rows L2 Evl
/-- rising, each once -/
def insU {α : Type} (lt : α → α → Bool) (x : α) : List α → List α
  | [] => [x]
  | y :: r => if lt x y then x :: y :: r else if lt y x then y :: insU lt x r else y :: r
def usort {α : Type} (lt : α → α → Bool) (l : List α) : List α := l.foldr (insU lt) []
structure TotO {α : Type} (lt : α → α → Bool) : Prop where
  irr : ∀ a, lt a a = false
  tr : ∀ a b c, lt a b = true → lt b c = true → lt a c = true
  tot : ∀ a b, lt a b = false → lt b a = false → a = b
section
variable {α : Type} {lt : α → α → Bool}
theorem mem_insU (o : TotO lt) {x z : α} : ∀ {l : List α}, z ∈ insU lt x l ↔ z = x ∨ z ∈ l
  | [] => by simp [insU]
  | y :: r => by
    unfold insU
    split
    · simp
    · split
      · simp only [List.mem_cons, mem_insU o]
        constructor
        · rintro (h | h | h) <;> simp [h]
        · rintro (h | h | h) <;> simp [h]
      · have e : x = y := o.tot x y (by simpa using ‹¬lt x y = true›) (by simpa using ‹¬lt y x = true›)
        subst e
        simp
theorem ris_insU (o : TotO lt) {x : α} : ∀ {l : List α}, l.Pairwise (fun a b => lt a b = true) → (insU lt x l).Pairwise (fun a b => lt a b = true)
  | [], _ => by simp [insU]
  | y :: r, h => by
    obtain ⟨h1, h2⟩ := List.pairwise_cons.mp h
    unfold insU
    split
    · rename_i hx
      refine List.pairwise_cons.mpr ⟨fun z hz => ?_, h⟩
      rcases List.mem_cons.mp hz with rfl | hz
      · exact hx
      · exact o.tr _ _ _ hx (h1 z hz)
    · split
      · rename_i hy
        refine List.pairwise_cons.mpr ⟨fun z hz => ?_, ris_insU o h2⟩
        rcases (mem_insU o).mp hz with rfl | hz
        · exact hy
        · exact h1 z hz
      · exact h
theorem mem_usort (o : TotO lt) {z : α} : ∀ {l : List α}, z ∈ usort lt l ↔ z ∈ l
  | [] => by simp [usort]
  | x :: r => by
    show z ∈ insU lt x (usort lt r) ↔ _
    rw [mem_insU o, mem_usort o, List.mem_cons]
theorem ris_usort (o : TotO lt) : ∀ (l : List α), (usort lt l).Pairwise (fun a b => lt a b = true)
  | [] => .nil
  | x :: r => ris_insU o (ris_usort o r)
/-- lists that rise are told by their members -/
theorem ris_eq (o : TotO lt) : ∀ {l m : List α}, l.Pairwise (fun a b => lt a b = true) → m.Pairwise (fun a b => lt a b = true) → (∀ z, z ∈ l ↔ z ∈ m) → l = m
  | [], [], _, _, _ => rfl
  | [], y :: m, _, _, h => absurd ((h y).mpr List.mem_cons_self) (by simp)
  | x :: l, [], _, _, h => absurd ((h x).mp List.mem_cons_self) (by simp)
  | x :: l, y :: m, h1, h2, h => by
    obtain ⟨a1, a2⟩ := List.pairwise_cons.mp h1
    obtain ⟨b1, b2⟩ := List.pairwise_cons.mp h2
    have no : ∀ {a b : α}, lt a b = true → lt b a = true → False := fun p q => by
      have z := o.tr _ _ _ p q
      rw [o.irr] at z
      cases z
    have e : x = y := by
      rcases List.mem_cons.mp ((h x).mp List.mem_cons_self) with z | z
      · exact z
      · rcases List.mem_cons.mp ((h y).mpr List.mem_cons_self) with q | q
        · exact q.symm
        · exact (no (a1 y q) (b1 x z)).elim
    subst e
    congr 1
    refine ris_eq o a2 b2 fun z => ?_
    constructor
    · intro hz
      rcases List.mem_cons.mp ((h z).mp (List.mem_cons_of_mem _ hz)) with q | q
      · subst q
        have w := a1 z hz
        rw [o.irr] at w
        cases w
      · exact q
    · intro hz
      rcases List.mem_cons.mp ((h z).mpr (List.mem_cons_of_mem _ hz)) with q | q
      · subst q
        have w := b1 z hz
        rw [o.irr] at w
        cases w
      · exact q
theorem len_insU {x : α} : ∀ {l : List α}, (insU lt x l).length ≤ l.length + 1
  | [] => by simp [insU]
  | y :: r => by
    unfold insU
    split
    · simp
    · split
      · have := len_insU (x := x) (l := r)
        simp only [List.length_cons]
        omega
      · simp
theorem len_usort : ∀ {l : List α}, (usort lt l).length ≤ l.length
  | [] => Nat.le_refl _
  | x :: r => by
    have h1 := len_insU (lt := lt) (x := x) (l := usort lt r)
    have h2 := len_usort (l := r)
    show (insU lt x (usort lt r)).length ≤ r.length + 1
    omega
end
def ltS (a b : Str) : Bool := ltCps a.cps.toList b.cps.toList
def ltI (a b : Int) : Bool := decide (a < b)
theorem str_cps_inj {a b : Str} (h : a.cps.toList = b.cps.toList) : a = b := Str.ext' (Array.toList_inj.mp h)
theorem tot_ltS : TotO ltS where
  irr := fun a => by
    unfold ltS
    rw [ltCps_eq]
    exact decide_eq_false (List.lt_irrefl _)
  tr := fun a b c h1 h2 => by
    unfold ltS at *
    rw [ltCps_eq] at *
    exact decide_eq_true (List.lt_trans (of_decide_eq_true h1) (of_decide_eq_true h2))
  tot := fun a b h1 h2 => by
    unfold ltS at *
    rw [ltCps_eq] at *
    exact str_cps_inj (List.le_antisymm (List.not_lt.mp (of_decide_eq_false h2)) (List.not_lt.mp (of_decide_eq_false h1)))
theorem tot_ltI : TotO ltI where
  irr := fun a => decide_eq_false (by omega)
  tr := fun a b c h1 h2 => decide_eq_true (by have := of_decide_eq_true h1; have := of_decide_eq_true h2; omega)
  tot := fun a b h1 h2 => by have := of_decide_eq_false h1; have := of_decide_eq_false h2; omega
theorem risingS_pw : ∀ {p : Str} {l : List Str}, risingS p l = true → (p :: l).Pairwise fun a b => ltS b a = false
  | p, [], _ => by simp
  | p, x :: r, h => by
    have h' : (!ltCps x.cps.toList p.cps.toList && risingS x r) = true := h
    simp only [Bool.and_eq_true, Bool.not_eq_true'] at h'
    have ih := risingS_pw h'.2
    refine List.pairwise_cons.mpr ⟨fun z hz => ?_, ih⟩
    rcases List.mem_cons.mp hz with rfl | hz
    · exact h'.1
    · have h1 : ltS x p = false := h'.1
      have h2 : ltS z x = false := (List.pairwise_cons.mp ih).1 z hz
      cases q : ltS z p with
      | false => rfl
      | true =>
        cases q2 : ltS x z with
        | true =>
          have := tot_ltS.tr _ _ _ q2 q
          rw [h1] at this
          cases this
        | false =>
          have e := tot_ltS.tot _ _ q2 h2
          subst e
          rw [h1] at q
          cases q
theorem sortedS_ris {l : List Str} (h : sortedS l = true) (nd : l.Nodup) : l.Pairwise fun a b => ltS a b = true := by
  cases l with
  | nil => exact .nil
  | cons p r =>
    refine (risingS_pw h).imp₂ (fun a b h1 h2 => ?_) nd
    cases q : ltS a b with
    | true => rfl
    | false => exact absurd (tot_ltS.tot _ _ q h1) h2
/-- the set as an object -/
def KSO (P : Program) (w : World) (a : Addr) (S : Key → Bool) (n : Nat) : HO := .ext fun h => KSet P w h a S n
section
variable {X : Cx}
theorem kso_new {P : Program} {w : World} {H : Hp} {h : Heap} {a : Addr} {S : Key → Bool} {n : Nat} (R : KSet P w h a S n) : ObjOk P w H h a (KSO P w a S n) := by
  have ⟨o, _, _, _, ho, _⟩ := R
  exact ⟨R, ⟨o, ho⟩, fun h1 h2 p k => p.at k⟩
theorem kso_get {pins : List (Addr × Obj)} {σ : L2.St} {H : Hp} {s : Shared} {a : Addr} {S : Key → Bool} {n : Nat} (I : Inv X pins σ H s) (ha : H a = some (KSO X.prog X.w a S n)) : KSet X.prog X.w s.heap a S n := (I.hok a _ ha).1
/-- set(a list) -/
def rSetK (K : PySem.W.Frag) (P : Program) (w : World) : List V → Hp → VK → Prop := fun xs H Q => ∃ (p : Addr) (ks : List Key), xs = [.ref p] ∧ SqL K H p (ks.map kV) ∧ ks.length < 4000 ∧ ∀ q c, H q = none → c ≤ ks.length → Q (.ref q) (upd H q (KSO P w q (inK ks) c))
theorem cr_setK (hc : X.calm = true) : CallR X (.type "set") (rSetK X.K X.prog X.w) := by
  intro pins s σ H vs us Q I r h
  obtain ⟨p, ks, rfl, hs, hl, q⟩ := h
  obtain ⟨its, rv, hl', _⟩ := I.list hs
  rw [Vals.ref1 r]
  refine kset_call (I.ok.hd hc) hl'.isList (by simpa using rv) (by show ks.length + 1 < 4096; omega) fun h' tk c hT hcl kp => ?_
  exact ⟨.ref _, upd H s.heap.objs.size (KSO X.prog X.w s.heap.objs.size (inK ks) c), I.laid (t' := tk) kp (Nat.le_refl _) (kso_new hT), rfl, q _ c (I.hok.fresh (Nat.le_refl _)) hcl⟩
/-- len(a set) -/
def rLenK (P : Program) (w : World) : List V → Hp → VK → Prop := fun xs H Q => ∃ (a : Addr) (S : Key → Bool) (n : Nat), xs = [.ref a] ∧ H a = some (KSO P w a S n) ∧ ∀ ks : List Key, ks.Nodup → (∀ k, k ∈ ks ↔ S k = true) → Q (.int ks.length) H
theorem cr_lenK : CallR X (.builtin "len") (rLenK X.prog X.w) := by
  intro pins s σ H vs us Q I r h
  obtain ⟨a, S, n, rfl, ha, q⟩ := h
  obtain ⟨ob, rows, ep, tb, ho, hex, hd, g, nd, hm, hb, hf, hn, hr, hl⟩ := kso_get I ha
  rw [Vals.ref1 r]
  have e : ((rows.toList.map keyE).length : Int) = (rows.size : Int) := by simp
  have z := q _ nd fun k => (hm k).symm
  rw [e] at z
  exact call_len_set ho hex hd hf (by have : rows.size < 4096 := hb; omega) ⟨.int rows.size, H, I.tok _, ⟨_, rfl⟩, z⟩
theorem strs_keys : ∀ {vs : List Value}, (∀ v ∈ vs, ∃ x t, v = Value.str x t) → StrsAre vs (vs.map strOf)
  | [], _ => .nil
  | v :: vs, h => by
    obtain ⟨x, t, rfl⟩ := h v List.mem_cons_self
    exact .cons x t (strs_keys fun u hu => h u (List.mem_cons_of_mem _ hu))
/-- sorted(a set of texts) -/
def rSortKS (P : Program) (w : World) : List V → Hp → VK → Prop := fun xs H Q => ∃ (a : Addr) (zs : List Str) (n : Nat), xs = [.ref a] ∧ H a = some (KSO P w a (inK (zs.map .inr)) n) ∧ ∀ p, H p = none → Q (.ref p) (upd H p (.lst ((usort ltS zs).map V.str)))
theorem cr_sortKS (hc : X.calm = true) : CallR X (.builtin "sorted") (rSortKS X.prog X.w) := by
  intro pins s σ H vs us Q I r h
  obtain ⟨a, zs, n, rfl, ha, q⟩ := h
  obtain ⟨ob, rows, ep, tb, ho, hex, hd, g, nd, hm, hb, hf, hn, hr, hl⟩ := kso_get I ha
  rw [Vals.ref1 r]
  refine Calls.call_function_entry kind_sorted plain_sorted entry_sorted (args_sorted1 _) ?_
  unfold Builtin.«sorted»
  refine wpAny_bind (m := checkCount "sorted" 1 1 _) (wpAny_pure (wpAny_bind (collect_set (A := X.A.in1) (I.ok.hd hc) ⟨ob, ho, hex.1, hd⟩ hf hb hr hl fun s1 vs k1 hz g1 o1 pm => ?_)))
  have row : ∀ r ∈ rows.toList, ∃ x t, r.2 = Value.str x t ∧ keyE r = .inr x := fun r hr => by
    obtain ⟨k, h1, _⟩ := g r hr
    have e := keyE_of h1
    have hk : k ∈ zs.map Sum.inr := inK_iff.mp ((hm k).mpr (e ▸ List.mem_map_of_mem hr))
    obtain ⟨x, _, rfl⟩ := List.mem_map.mp hk
    obtain ⟨t, ht⟩ := (show ∃ t, r.2 = Value.str x t from h1)
    exact ⟨x, t, ht, e⟩
  have hI : StrsAre vs (vs.map strOf) := strs_keys fun v hv => by
    obtain ⟨r, hr, e⟩ := List.mem_map.mp (pm.mem_iff.mp hv)
    obtain ⟨x, t, h1, _⟩ := row r hr
    exact ⟨x, t, by rw [← e]; exact h1⟩
  have pk : ((vs.map strOf).map Sum.inr : List Key).Perm (rows.toList.map keyE) := by
    have y := (pm.map strOf).map (Sum.inr : Str → Key)
    have e : ((rows.toList.map (·.2)).map strOf).map (Sum.inr : Str → Key) = rows.toList.map keyE := by
      rw [List.map_map, List.map_map]
      refine List.map_congr_left fun r hr => ?_
      obtain ⟨x, t, h1, h2⟩ := row r hr
      rw [h2]
      show Sum.inr (strOf r.2) = Sum.inr x
      rw [h1]
      rfl
    rw [← e]
    exact y
  have hvl : vs.length = rows.size := by
    have y := pm.length_eq
    simpa using y
  have hvz : vs.length ≤ sizeLine := hvl ▸ fits_of_scanBound hb
  refine wpAny_bind (wpAny_newList ?_ hvz)
  have hoL : (s1.heap.push (seqObj "list" vs.toArray 0)).get? s1.heap.objs.size = some (seqObj "list" vs.toArray 0) := Heap.get?_push_size _ rfl
  refine wpAny_bind (wpAny_holding (wpAny_call_entry slot_list_sort ⟨_, hoL, rfl⟩ entry_list_sort (list_sort_treeKAny strKind_oneLt hoL hI.keysOf (fun v₁ v₂ rest e => keyKind_strs (by rw [← e]; exact hI)) hvz fun st' hp hs => ?_) (args_list_sort _)))
  obtain ⟨ys, y1, y2, y3⟩ := sorted_out_str hI hp hs
  have inj : ∀ {x y : Str}, (Sum.inr x : Key) = Sum.inr y → x = y := fun h => Sum.inr.inj h
  have nd2 : (vs.map strOf).Nodup := by
    have z := pk.nodup_iff.mpr nd
    exact (List.pairwise_map.mp z).imp fun h e => h (congrArg _ e)
  have same : ys = usort ltS zs := by
    refine ris_eq tot_ltS (sortedS_ris y3 (y2.nodup_iff.mpr nd2)) (ris_usort tot_ltS _) fun z => ?_
    rw [y2.mem_iff, mem_usort tot_ltS]
    constructor
    · intro hz
      have h1 : (Sum.inr z : Key) ∈ zs.map Sum.inr := inK_iff.mp ((hm _).mpr (pk.mem_iff.mp (List.mem_map_of_mem hz)))
      obtain ⟨z', hz', e⟩ := List.mem_map.mp h1
      rw [← inj e]
      exact hz'
    · intro hz
      have h1 : (Sum.inr z : Key) ∈ (vs.map strOf).map Sum.inr := pk.mem_iff.mpr ((hm _).mp (inK_iff.mpr (List.mem_map_of_mem hz)))
      obtain ⟨z', hz', e⟩ := List.mem_map.mp h1
      rw [← inj e]
      exact hz'
  subst same
  obtain ⟨c, hc'⟩ := sortedHeap_at (vs := vs) (out := (arrOf st').map (·.2)) hoL
  have hlen : ((usort ltS zs).map V.str).length ≤ sizeLine := by
    rw [List.length_map, y2.length_eq, List.length_map]
    exact hvz
  have kp : ∀ b u, s.heap.get? b = some u → (sortedHeap (s1.heap.push (seqObj "list" vs.toArray 0)) s1.heap.objs.size vs ((arrOf st').map (·.2))).get? b = some u := fun b u e => by
    have y := k1 b u e
    have lt := Heap.lt_size y
    rw [sortedHeap_old (Nat.ne_of_lt lt) (by rw [Heap.size_push]; exact Nat.lt_succ_of_lt lt)]
    exact Heap.get?_push_of_some _ y
  have hn' : H s1.heap.objs.size = none := I.hok.fresh hz
  refine ⟨.none, rfl, wpAny_pure ⟨_, rfl, ?_⟩⟩
  have J : Inv X pins σ (upd H s1.heap.objs.size (.lst ((usort ltS zs).map V.str))) { s with heap := sortedHeap (s1.heap.push (seqObj "list" vs.toArray 0)) s1.heap.objs.size vs ((arrOf st').map (·.2)), gens := s1.gens, drawn := s1.drawn, toks := s1.toks } :=
    I.call (ch := []) (Un.laid kp hz hn') (I.hok.laid kp hz ⟨hlen, ((arrOf st').map (·.2)).toList, c, vals_of_strs y1, by rw [Array.toArray_toList]; exact hc'⟩) (by rw [g1]; exact I.bare) (fun _ z => nomatch z)
  have e : ({ s1 with heap := sortedHeap (s1.heap.push (seqObj "list" vs.toArray 0)) s1.heap.objs.size vs ((arrOf st').map (·.2)) } : Shared) = { s with heap := sortedHeap (s1.heap.push (seqObj "list" vs.toArray 0)) s1.heap.objs.size vs ((arrOf st').map (·.2)), gens := s1.gens, drawn := s1.drawn, toks := s1.toks } := by
    cases s1
    cases s
    cases o1
    rfl
  show EP X pins σ Q _ ({ s1 with heap := sortedHeap (s1.heap.push (seqObj "list" vs.toArray 0)) s1.heap.objs.size vs ((arrOf st').map (·.2)) } : Shared)
  rw [e]
  exact ⟨.ref _, _, J, rfl, q _ hn'⟩
end
end LR

/-! ### more rules over data (own work) -/
namespace LR
open PySem PySem.Spec PyProof.Rows L2 Evl
/-- the small letters, the figures -/
abbrev smallS : Str := "abcdefghijklmnopqrstuvwxyz"
abbrev figS : Str := "0123456789"
def isKeyS (z : Str) : Bool := decide (1 ≤ z.length) && decide (z.length ≤ 10) && z.cps.toList.all fun c => decide (c ∈ smallS.cps.toList)
def isValS (z : Str) : Bool := decide (z.length ≤ 12) && z.cps.toList.all fun c => decide (c ∈ (smallS ++ figS).cps.toList)
def isKeyD : PyData → Bool
  | .str z => isKeyS z
  | _ => false
def isValD : PyData → Bool
  | .str z => isValS z
  | _ => false
/-- texts are not without bound -/
def lenOk : PyData → Prop
  | .str z => z.length ≤ 50000
  | _ => True
theorem rdu_neg {K : PySem.W.Frag} {H : Hp} {i : Int} : RDU K (rU fun i => .int (-i)) (.int i) H (.int (-i)) := fun H' x _ dx H1 e1 Q q => ⟨i, dx.int_eq, q.val e1 fun _ => .int _⟩
abbrev mk (l : List Nat) : Str := ⟨l.toArray⟩
section
variable {K : PySem.W.Frag} {σ : L2.St} {H : Hp} {ta tb te ti : TE} {P : Program} {w : World}
theorem strs_keyV (zs : List Str) : zs.map V.str = (zs.map (Sum.inr : Str → Key)).map kV := by
  rw [List.map_map]
  rfl
theorem ints_keyV (zs : List Int) : zs.map V.int = (zs.map (Sum.inl : Int → Key)).map kV := by
  rw [List.map_map]
  rfl
/-- sorted(set(texts)) -/
theorem ed_sortSetS {zs : List Str} (h : EvD K te σ H (.list (zs.map .str))) (hl : zs.length < 4000) : EvD K (tCB (rSortKS P w) (tCons (tCB (rSetK K P w) (tCons te tNil)) tNil)) σ H (.list ((usort ltS zs).map .str)) := fun H1 e1 Q q =>
  h H1 e1 _ fun v H2 Ha e2 ea xa da => by
    obtain ⟨a, xs, rfl, ha, ra⟩ := da.lst_eq
    have ex := strs_dp ra
    subst ex
    refine ⟨a, zs.map .inr, rfl, by rw [← strs_keyV]; exact sq_of (ea a _ ha), by rw [List.length_map]; exact hl, fun p c hp hc => ?_⟩
    refine ⟨p, zs, c, rfl, upd_same, fun p2 hp2 => ?_⟩
    exact q _ _ (upd Ha p2 _) ((e2.trans (Ex.new hp)).trans (Ex.new hp2)) (ex_upd (ea.trans (Ex.new hp))) (xa.trans (e2.trans (Ex.new hp)) (Ext.new (ea.trans (Ex.new hp)) hp2)) (.lst upd_same (dp_strs _))
/-- len(set(..)) of keys -/
theorem nodup_ulen {ks : List Key} {n : List Key} (h1 : ks.Nodup) (h2 : n.Nodup) (h : ∀ k, k ∈ ks ↔ k ∈ n) : ks.length = n.length := by
  have a := List.Nodup.length_le_of_subset h1 (fun k hk => (h k).mp hk)
  have b := List.Nodup.length_le_of_subset h2 (fun k hk => (h k).mpr hk)
  omega
/-- sep.join(texts) -/
theorem ed_join {a : Str} {zs : List Str} {N : Nat} (ha : EvD K ta σ H (.str a)) (hb : EvD K tb σ H (.list (zs.map .str))) (hl : (zs.map (·.length)).sum + zs.length * a.length ≤ N) (hN : N ≤ 16777216 := by decide) : EvD K (tM1 (rJoin K) ta tb) σ H (.str (Txt.join a zs)) := fun H1 e1 Q q =>
  ha H1 e1 _ fun v H2 Ha e2 ea xa da => ⟨⟨a, da.str_eq⟩, (hb.mono xa.ex) H2 ea _ fun v' H3 Hb e3 eb xb db => by
    obtain ⟨p, xs, rfl, hp, rp⟩ := db.lst_eq
    have ex := strs_dp rp
    subst ex
    exact ⟨a, p, zs, da.str_eq, rfl, .inl (sq_of (eb p _ hp)), Nat.le_trans hl hN, q _ H3 Hb (e2.trans e3) eb (xa.trans e2 xb) (.str _)⟩⟩
/-- text.index(text) -/
theorem ed_sindex {a b : Str} {i : Nat} {rest : List Nat} (ha : EvD K ta σ H (.str a)) (hb : EvD K tb σ H (.str b)) (hi : Builtin.Str.occurrences a b 0 a.length 1 = i :: rest) : EvD K (tM1 (fun x xs H Q => ∃ a b i rest, x = .str a ∧ xs = [.str b] ∧ Builtin.Str.occurrences a b 0 a.length 1 = i :: rest ∧ Q (.int (i : Nat)) H) ta tb) σ H (.int i) := fun H1 e1 Q q =>
  ha H1 e1 _ fun v H2 Ha e2 ea xa da => ⟨⟨a, da.str_eq⟩, (hb.mono xa.ex) H2 ea _ fun v' H3 Hb e3 eb xb db => ⟨a, b, i, rest, da.str_eq, by rw [db.str_eq], hi, q _ H3 Hb (e2.trans e3) eb (xa.trans e2 xb) (.int _)⟩⟩
theorem ed_sfind {a b : Str} (ha : EvD K ta σ H (.str a)) (hb : EvD K tb σ H (.str b)) : EvD K (tM1 (fun x xs H Q => ∃ a b, x = .str a ∧ xs = [.str b] ∧ Q (.int (Txt.find a b)) H) ta tb) σ H (.int (Txt.find a b)) := fun H1 e1 Q q =>
  ha H1 e1 _ fun v H2 Ha e2 ea xa da => ⟨⟨a, da.str_eq⟩, (hb.mono xa.ex) H2 ea _ fun v' H3 Hb e3 eb xb db => ⟨a, b, da.str_eq, by rw [db.str_eq], q _ H3 Hb (e2.trans e3) eb (xa.trans e2 xb) (.int _)⟩⟩
/-- sum(whole numbers) -/
theorem ed_sum {ns : List Int} (h : EvD K te σ H (.list (ns.map .int))) : EvD K (tCB (rSum K) (tCons te tNil)) σ H (.int ns.sum) := fun H1 e1 Q q =>
  h H1 e1 _ fun v H2 Ha e2 ea xa da => by
    obtain ⟨a, xs, rfl, ha, ra⟩ := da.lst_eq
    have ex := ints_dp ra
    subst ex
    exact ⟨a, ns, rfl, sq_of (ea a _ ha), q _ H2 Ha e2 ea xa (.int _)⟩
/-- list(a list) -/
theorem ed_listL {ds : List PyData} (h : EvD K te σ H (.list ds)) : EvD K (tCB (rLstOf K) (tCons te tNil)) σ H (.list ds) := fun H1 e1 Q q =>
  h H1 e1 _ fun v H2 Ha e2 ea xa da => by
    obtain ⟨a, xs, rfl, ha, ra⟩ := da.lst_eq
    refine ⟨a, xs, rfl, .inl (sq_of (ea a _ ha)), fun p hp => ?_⟩
    exact q _ _ (upd Ha p _) (e2.trans (Ex.new hp)) (ex_upd ea) (xa.trans e2 (Ext.new ea hp)) (.lst upd_same (DtAll.ex (Ex.new (fresh_back ea hp)) ra))
theorem ed_listT {ds : List PyData} (h : EvD K te σ H (.tuple ds)) : EvD K (tCB (rLstOf K) (tCons te tNil)) σ H (.list ds) := fun H1 e1 Q q =>
  h H1 e1 _ fun v H2 Ha e2 ea xa da => by
    obtain ⟨a, xs, rfl, ha, ra⟩ := da.tup_eq
    refine ⟨a, xs, rfl, .inr (ex_t ea ha), fun p hp => ?_⟩
    exact q _ _ (upd Ha p _) (e2.trans (Ex.new hp)) (ex_upd ea) (xa.trans e2 (Ext.new ea hp)) (.lst upd_same (DtAll.ex (Ex.new (fresh_back ea hp)) ra))
theorem ed_min2 {a b : Int} {tA : TA} (h : EvDs K tA σ H [.int a, .int b]) : EvD K (tCB (fun xs H Q => ∃ i j, xs = [.int i, .int j] ∧ Q (.int (if j < i then j else i)) H) tA) σ H (.int (if b < a then b else a)) :=
  ed_cb h fun H' vs e dv H1 e1 Q q => by
    cases dv with
    | cons x y =>
      cases y with
      | cons y z =>
        cases z
        rw [x.int_eq, y.int_eq]
        exact ⟨a, b, rfl, q.val e1 fun _ => .int _⟩
/-- [e for k in range(n)] -/
theorem ed_lcR {tA : TA} {n : Int} {j : Nat} {vs : List Nat} {ss : List SD} (f : Nat → PyData) (s : Sl K H σ ss) (hn : EvDs K tA σ H [.int n]) (h2 : n ≤ 50000) (hv : vs = [j])
    (he : ∀ i, i < n.toNat → ∀ (σ2 : L2.St) (Hc : Hp), Ex H Hc → Sl K Hc σ2 ((wipeS ss vs).set j (.dat (.int i))) → EvD K te σ2 Hc (f i)) (h1 : -(2 ^ 62) ≤ n := by omega) :
    EvD K (tLc (iRng1 tA) (gName j) tYes te vs) σ H (.list ((List.range n.toNat).map f)) := by
  subst hv
  refine ed_lc (fun i => some (f i)) (ei_range hn h1 (by omega)) (fun i hi Hi Hb H2 x H3 e0 e1 e2 y => ?_) (by omega) ?_
  · obtain ⟨rfl, rfl⟩ := y
    refine ⟨Hb, _, Ext.refl _ _, e2, Ex.refl _, eg_name, ?_, true, fun H1 _ Q q => q H1 (Ex.refl _), (fun h => nomatch h), fun _ => ⟨f i, rfl, ?_⟩⟩
    · show ((L2.wipe σ []).set j none |>.set j _).set j none = (L2.wipe σ []).set j none
      simp
    · refine he i hi _ Hb (e0.trans e1) ?_
      have z := (((s.ex (e0.trans e1)).wipe [j]).set (s := .dat (.int i)) (o := some (.int (0 + i))) (by show Dt K Hb (.int (0 + (i : Int))) (.int i); rw [Int.zero_add]; exact .int _) j)
      exact z
  · induction List.range n.toNat with
    | nil => rfl
    | cons a r ih => rw [List.filterMap_cons, List.map_cons, ih]
/-- [e for x in data if ..] -/
theorem ed_lcW {ds : List PyData} {j : Nat} {vs : List Nat} {ss : List SD} {tt : TT} (f : PyData → Option PyData) (s : Sl K H σ ss) (hw : EvI (iU K ti) σ H ds.length (YD K ds)) (h2 : ds.length ≤ 50000) (hv : vs = [j])
    (he : ∀ d ∈ ds, ∀ (σ2 : L2.St) (Hc : Hp), Ex H Hc → Sl K Hc σ2 ((wipeS ss vs).set j (.dat d)) → ∃ b, EvB tt σ2 Hc b ∧ (b = false → f d = none) ∧ (b = true → ∃ z, f d = some z ∧ EvD K te σ2 Hc z)) :
    EvD K (tLc (iU K ti) (gName j) tt te vs) σ H (.list (ds.filterMap f)) := by
  subst hv
  refine ed_lc (fun i => (ds[i]?).bind f) hw (fun i hi Hi Hb H2 x H3 e0 e1 e2 y => ?_) h2 (filterMap_range ds f).symm
  obtain ⟨rfl, d, hd, dx⟩ := y
  obtain ⟨b, b1, b2, b3⟩ := he d (List.mem_of_getElem? hd) _ Hb (e0.trans e1) (((s.ex (e0.trans e1)).wipe [j]).set (s := .dat d) (o := some x) (Dt.ex e1 dx) j)
  refine ⟨Hb, _, Ext.refl _ _, e2, Ex.refl _, eg_name, ?_, b, b1, fun h => ?_, fun h => ?_⟩
  · show ((L2.wipe σ []).set j none |>.set j _).set j none = (L2.wipe σ []).set j none
    simp
  · show (ds[i]?).bind f = none
    rw [hd]
    exact b2 h
  · obtain ⟨z, z1, z2⟩ := b3 h
    refine ⟨z, ?_, z2⟩
    show (ds[i]?).bind f = some z
    rw [hd]
    exact z1
theorem ed_lcD {ds : List PyData} {j : Nat} {vs : List Nat} {ss : List SD} (f : PyData → PyData) (s : Sl K H σ ss) (hw : EvI (iU K ti) σ H ds.length (YD K ds)) (h2 : ds.length ≤ 50000) (hv : vs = [j])
    (he : ∀ d ∈ ds, ∀ (σ2 : L2.St) (Hc : Hp), Ex H Hc → Sl K Hc σ2 ((wipeS ss vs).set j (.dat d)) → EvD K te σ2 Hc (f d)) : EvD K (tLc (iU K ti) (gName j) tYes te vs) σ H (.list (ds.map f)) := by
  have z := ed_lcW (te := te) (tt := tYes) (fun d => some (f d)) s hw h2 hv fun d hd σ2 Hc e1 s2 => ⟨true, fun H1 _ Q q => q H1 (Ex.refl _), (fun h => nomatch h), fun _ => ⟨f d, rfl, he d hd σ2 Hc e1 s2⟩⟩
  refine ed_is z ?_
  congr 1
  exact congrFun List.filterMap_eq_map' ds
/-- [e for c in text] -/
theorem ed_lcS {z : Str} {j : Nat} {ss : List SD} {vs : List Nat} (f : Nat → PyData) (hz : z.length ≤ 50000) (s : Sl K H σ ss) (hi : EvD K ti σ H (.str z)) (hv : vs = [j])
    (he : ∀ c ∈ z.cps.toList, ∀ (σ2 : L2.St) (Hc : Hp), Ex H Hc → Sl K Hc σ2 ((wipeS ss vs).set j (.dat (.str ⟨#[c]⟩))) → EvD K te σ2 Hc (f c)) :
    EvD K (tLc (iU K ti) (gName j) tYes te vs) σ H (.list (z.cps.toList.map f)) := by
  subst hv
  refine ed_lc (fun i => (z.cps.toList[i]?).bind fun c => some (f c)) (eiU_str hi) (fun i hi Hi Hb H2 x H3 e0 e1' e2 y => ?_) (by show z.cps.size ≤ 50000; exact hz) ?_
  · have e1 := e0.trans e1'
    obtain ⟨rfl, c, hc, rfl⟩ := y
    have hc' : z.cps.toList[i]? = some c := by simpa using hc
    refine ⟨Hb, _, Ext.refl _ _, e2, Ex.refl _, eg_name, ?_, true, fun H1 _ Q q => q H1 (Ex.refl _), (fun h => nomatch h), fun _ => ⟨f c, ?_, ?_⟩⟩
    · show ((L2.wipe σ []).set j none |>.set j _).set j none = (L2.wipe σ []).set j none
      simp
    · rw [hc']
      rfl
    · exact he c (List.mem_of_getElem? hc') _ Hb e1 (((s.ex e1).wipe [j]).set (s := .dat (.str ⟨#[c]⟩)) (o := some (.str ⟨#[c]⟩)) (.str _) j)
  · have e : z.cps.size = z.cps.toList.length := by simp
    rw [e, filterMap_range]
    exact (congrFun List.filterMap_eq_map' _).symm
/-- zip of two lists -/
def YZ (K : PySem.W.Frag) (ds es : List PyData) : Hp → Nat → Hp → V → Hp → Prop := fun Hi i H v H' => ∃ T x y d e, v = .ref T ∧ H T = none ∧ H' = upd H T (.tup [x, y]) ∧ ds[i]? = some d ∧ es[i]? = some e ∧ Dt K Hi x d ∧ Dt K Hi y e
theorem ei_zip {tA : TA} {ds es : List PyData} (h : EvDs K tA σ H [.list ds, .list es]) : EvI (RZ.iZipA K tA) σ H (min ds.length es.length) (YZ K ds es) := fun H1 e1 R r =>
  h H1 e1 _ fun vs H2 H' e2 e x dv => by
    cases dv with
    | cons d1 d2 =>
      cases d2 with
      | cons d2 d3 =>
        cases d3
        obtain ⟨a, xs, rfl, ha, ra⟩ := d1.lst_eq
        obtain ⟨b, ys, rfl, hb, rb⟩ := d2.lst_eq
        refine ⟨a, b, xs, ys, rfl, .inl ⟨sq_of (e a _ ha), sq_of (e b _ hb), r _ (fun H3 => Ex H' H3) H2 H' e2 e x (fun H3 e3 => e3) ?_⟩⟩
        refine (walk_zip (K := K) (a := a) (b := b) (xs := xs) (ys := ys) (by rw [ra.length, rb.length])).mono (fun H3 e3 => ⟨sq_of (e3 a _ ha), sq_of (e3 b _ hb)⟩) fun i H3 v H4 hi e3 z => ?_
        obtain ⟨T, x, y, h1, h2, h3, h4, h5⟩ := z
        obtain ⟨d, q1, q2⟩ := ra.get' h4
        obtain ⟨d', q3, q4⟩ := rb.get' h5
        exact ⟨T, x, y, d, d', h1, h2, h3, q1, q3, q2, q4⟩
end
section
variable {K : PySem.W.Frag} {H0 H10 H H1 : Hp} {σ : L2.St} {ss : List SD} {te tb : TE} {d : PyData} {D : Ends}
/-- a for, with what the walked thing has laid -/
theorem st_forX {wi : TI} {g : TG} {tb : TS} {n : Nat} {Y : Hp → Nat → Hp → V → Hp → Prop} (nw : Now H0 H10 H H1) (h : EvI wi σ H n Y)
    (k : ∀ Hb H2, Ext H H1 Hb → Now H0 H10 Hb H2 → Ex H1 H2 → ∃ Pv : Nat → L2.St → Hp → Prop, Pv 0 σ H2 ∧ (∀ i σ' H3, Pv i σ' H3 → Ex Hb H3) ∧
      (∀ i x σ' H3 H4, i < n → Pv i σ' H3 → Y Hb i H3 x H4 → g x σ' H4 fun σ2 H5 => tb { D with nx := Pv (i + 1), ct := Pv (i + 1), bk := D.nx } σ2 H5) ∧ ∀ σ' H3, Pv n σ' H3 → D.nx σ' H3) : tFor wi g tb D σ H1 :=
  h H1 nw.ex _ fun J G H2 H' e2 e x hG w => by
    obtain ⟨Pv, p0, pe, pt, pd⟩ := k H' H2 x (nw.on e2 e x) e2
    exact for_it (w.mono (G' := fun H3 => Ex H' H3) (fun H3 e3 => hG H3 e3) fun _ _ _ _ _ _ y => y) Pv p0 (fun i σ' H3 _ p => pe i σ' H3 p) (fun i y σ' H3 H4 hi p yy => pt i y σ' H3 H4 hi p yy) pd
/-- a, b = [], x -/
theorem st_parNew {i j : Nat} (n : Now H0 H10 H H1) (s : Sl K H σ ss) (h : ∀ H', Ex H H' → EvD K tb σ H' d) (k : ∀ l σ' H' H2, Ex H H' → H' l = none → H10 l = none → H2 l = some (.lst []) → Now H0 H10 H' H2 → Sl K H' σ' ((ss.set i (.val (.ref l))).set j (.dat d)) → D.nx σ' H2) :
    tPar i j (tCons (tLst tNil) (tCons tb tNil)) D σ H1 :=
  ⟨by show 0 ≤ sizeLine; exact Nat.zero_le _, fun p hp => by
    refine (h H (Ex.refl _)) _ (n.ex.trans (Ex.new hp)) _ fun v H2 H' e2 e x dv => ?_
    have hl : H' p = none := x.off (fresh_back n.ex hp) upd_same
    exact ⟨_, _, rfl, k p _ H' H2 x.ex hl (fresh_back n.grow hp) (e2 p _ upd_same) ⟨e, n.ext.trans (n.grow.trans (Ex.new hp)) x, (n.grow.trans (Ex.new hp)).trans e2⟩ (((s.ex x.ex).set (s := .val (.ref p)) (o := some (.ref p)) rfl i).set (s := .dat d) (o := some v) dv j)⟩⟩
/-- a list of one's own: at l, with ds in it -/
structure Own (K : PySem.W.Frag) (H10 H H1 : Hp) (l : Addr) (ds : List PyData) : Prop where
  no : H l = none
  old : H10 l = none
  ex : ∃ vs, H1 l = some (.lst vs) ∧ DtAll K H vs ds
theorem Own.on {l : Addr} {ds : List PyData} {H' H2 : Hp} (o : Own K H10 H H1 l ds) (x : Ext H H1 H') (e : Ex H1 H2) : Own K H10 H' H2 l ds := by
  obtain ⟨vs, h1, h2⟩ := o.ex
  exact ⟨x.off o.no h1, o.old, vs, e l _ h1, DtAll.ex x.ex h2⟩
/-- x = e, with what is laid -/
theorem st_asgX {i : Nat} (n : Now H0 H10 H H1) (s : Sl K H σ ss) (h : EvD K te σ H d) (k : ∀ σ' H' H2, Ext H H1 H' → Ex H1 H2 → Now H0 H10 H' H2 → Sl K H' σ' (ss.set i (.dat d)) → D.nx σ' H2) : tAsg te (gName i) D σ H1 :=
  h H1 n.ex _ fun v H2 H' e2 e x dv => k _ H' H2 x e2 (n.on e2 e x) ((s.ex x.ex).set (s := .dat d) (o := some v) dv i)
theorem st_ifX {b : Bool} {tt : TT} {t1 t2 : TS} (n : Now H0 H10 H H1) (h : EvB tt σ H b) (k1 : b = true → ∀ H2, Ex H1 H2 → Now H0 H10 H H2 → t1 D σ H2) (k2 : b = false → ∀ H2, Ex H1 H2 → Now H0 H10 H H2 → t2 D σ H2) : tIfS tt t1 t2 D σ H1 :=
  h H1 n.ex _ fun H2 e2 => by
    have n2 : Now H0 H10 H H2 := ⟨n.ex.trans e2, n.ext, n.grow.trans e2⟩
    cases b with
    | true => exact k1 rfl H2 e2 n2
    | false => exact k2 rfl H2 e2 n2
/-- l.append(e) -/
theorem st_appO {i : Nat} {l : Addr} {ds : List PyData} (n : Now H0 H10 H H1) (s : Sl K H σ ss) (hi : ss[i]? = some (.val (.ref l))) (o : Own K H10 H H1 l ds) (hz : ds.length < 100000) (h : EvD K te σ H d)
    (k : ∀ H' H2, Ext H H1 H' → Own K H10 H' H2 l (ds ++ [d]) → (∀ b u, b ≠ l → H1 b = some u → H2 b = some u) → Now H0 H10 H' H2 → Sl K H' σ ss → D.nx σ H2) : tDrop (tBM K "list" rAppend (tVar i) (tCons te tNil)) D σ H1 := by
  obtain ⟨vs, h1, h2⟩ := o.ex
  refine ⟨.ref l, s.val hi, Or.inl ⟨rfl, vs, sq_of h1⟩, h H1 n.ex _ fun v H2 H' e2 e x dv => ⟨l, vs, v, rfl, rfl, e2 l _ h1, sz_lt (by rw [h2.length]; exact hz), ?_⟩⟩
  have off := x.off o.no h1
  exact k H' _ x ⟨off, o.old, _, upd_same, (DtAll.ex x.ex h2).append (.cons dv .nil)⟩ (fun b u hb hu => by rw [upd_ne hb]; exact e2 b u hu) ((n.on e2 e x).mut off o.old) (s.ex x.ex)
/-- x = [..], a list of one's own -/
theorem st_newD {i : Nat} {ta : TA} {ds : List PyData} (n : Now H0 H10 H H1) (s : Sl K H σ ss) (h : EvDs K ta σ H ds) (hl : ds.length ≤ 100000) (k : ∀ l σ' H' H2, Ext H H1 H' → Ex H1 H2 → H1 l = none → Own K H10 H' H2 l ds → Now H0 H10 H' H2 → Sl K H' σ' (ss.set i (.val (.ref l))) → D.nx σ' H2) : tAsg (tLst ta) (gName i) D σ H1 :=
  h H1 n.ex _ fun vs H2 H' e2 e x dv => ⟨by rw [dv.length]; exact sz_of hl, fun p hp => k p _ H' _ x (e2.trans (Ex.new hp)) (fresh_back e2 hp) ⟨fresh_back e hp, fresh_back (n.grow.trans e2) hp, vs, upd_same, dv⟩ ⟨e.trans (Ex.new hp), n.ext.trans n.grow x, (n.grow.trans e2).trans (Ex.new hp)⟩ ((s.ex x.ex).set (s := .val (.ref p)) (o := some (.ref p)) rfl i)⟩
/-- l.extend(e) -/
theorem st_extO {i : Nat} {l : Addr} {ds es : List PyData} (n : Now H0 H10 H H1) (s : Sl K H σ ss) (hi : ss[i]? = some (.val (.ref l))) (o : Own K H10 H H1 l ds) (hz : ds.length + es.length ≤ 100000) (h : EvD K te σ H (.list es))
    (k : ∀ H' H2, Ext H H1 H' → Own K H10 H' H2 l (ds ++ es) → (∀ b u, b ≠ l → H1 b = some u → H2 b = some u) → Now H0 H10 H' H2 → Sl K H' σ ss → D.nx σ H2) : tDrop (tBM K "list" rExtend (tVar i) (tCons te tNil)) D σ H1 := by
  obtain ⟨vs, h1, h2⟩ := o.ex
  refine ⟨.ref l, s.val hi, Or.inl ⟨rfl, vs, sq_of h1⟩, h H1 n.ex _ fun v H2 H' e2 e x dv => ?_⟩
  obtain ⟨b, zs, rfl, hb, rb⟩ := dv.lst_eq
  have off := x.off o.no h1
  refine ⟨l, b, vs, zs, rfl, rfl, e2 l _ h1, e b _ hb, sz_of (by rw [h2.length, rb.length]; exact hz), ?_⟩
  exact k H' _ x ⟨off, o.old, _, upd_same, (DtAll.ex x.ex h2).append rb⟩ (fun b u hb hu => by rw [upd_ne hb]; exact e2 b u hu) ((n.on e2 e x).mut off o.old) (s.ex x.ex)
/-- a slot, told otherwise -/
theorem Sl.as {s' : SD} {o : Option V} : ∀ {σ : L2.St} {ss : List SD} {i : Nat}, Sl K H σ ss → σ[i]? = some o → SdOk K H o s' → Sl K H σ (ss.set i s')
  | _, _, _, .nil, h, _ => by simp at h
  | _, _, 0, .cons a b, h, ok => by
    simp at h
    subst h
    exact .cons ok b
  | _, _, i + 1, .cons a b, h, ok => .cons a (Sl.as b (by simpa using h) ok)
/-- a list of one's own that is not changed any more -/
theorem Own.freeze {i : Nat} {l : Addr} {ds : List PyData} (n : Now H0 H10 H H1) (s : Sl K H σ ss) (hi : ss[i]? = some (.val (.ref l))) (o : Own K H10 H H1 l ds) : ∃ H', Ex H H' ∧ (∀ b, b ≠ l → H' b = H b) ∧ Now H0 H10 H' H1 ∧ Sl K H' σ (ss.set i (.dat (.list ds))) := by
  obtain ⟨vs, h1, h2⟩ := o.ex
  have e1 : Ex H (upd H l (.lst vs)) := Ex.new o.no
  refine ⟨upd H l (.lst vs), e1, fun b hb => upd_ne hb, ⟨?_, ⟨n.ext.ex.trans e1, fun b u hb => ?_⟩, n.grow⟩, (s.ex e1).as (s.val hi) (.lst upd_same (DtAll.ex e1 h2))⟩
  · intro b u hb
    by_cases z : b = l
    · subst z
      rw [upd_same] at hb
      cases hb
      exact h1
    · rw [upd_ne z] at hb
      exact n.ex b u hb
  · by_cases z : b = l
    · subst z
      rw [upd_same] at hb
      cases hb
      exact .inr ⟨o.old, fun ps z => by cases z⟩
    · rw [upd_ne z] at hb
      exact n.ext.fresh b u hb
/-- a list of one's own is told -/
theorem st_retOwn {i : Nat} {l : Addr} {vs : List V} {ds : List PyData} {Q : VK} (n : Now H0 H10 H H1) (s : Sl K H σ ss) (hi : ss[i]? = some (.val (.ref l))) (hl : H l = none) (h0 : H10 l = none) (h1 : H1 l = some (.lst vs)) (dv : DtAll K H vs ds) (q : KD K H0 H10 (.list ds) Q) (hQ : D.rt = Q := by rfl) : tRet (tVar i) D σ H1 := by
  subst hQ
  refine ⟨.ref l, s.val hi, ?_⟩
  refine q _ H1 (upd H l (.lst vs)) n.grow ?_ ⟨n.ext.ex.trans (Ex.new hl), fun b o hb => ?_⟩ (.lst upd_same (DtAll.ex (Ex.new hl) dv))
  · intro b o hb
    by_cases z : b = l
    · subst z
      rw [upd_same] at hb
      cases hb
      exact h1
    · rw [upd_ne z] at hb
      exact n.ex b o hb
  · by_cases z : b = l
    · subst z
      rw [upd_same] at hb
      cases hb
      exact .inr ⟨h0, fun ps z => by cases z⟩
    · rw [upd_ne z] at hb
      exact n.ext.fresh b o hb
end
def lstD : PyData → Bool
  | .list _ => true
  | .dict _ => true
  | _ => false
theorem kit_lst (d : PyData) : kitB (tyD d) "list" = some (lstD d) := by
  cases d with
  | none => exact (by decide +kernel : kitB "NoneType" "list" = some false)
  | bool _ => exact (by decide +kernel : kitB "bool" "list" = some false)
  | int _ => exact (by decide +kernel : kitB "int" "list" = some false)
  | str _ => exact (by decide +kernel : kitB "str" "list" = some false)
  | list _ => exact (by decide +kernel : kitB "list" "list" = some true)
  | tuple _ => exact (by decide +kernel : kitB "tuple" "list" = some false)
  | dict _ => exact (by decide +kernel : kitB "list" "list" = some true)
def tupD : PyData → Bool
  | .tuple _ => true
  | _ => false
theorem kit_tup (d : PyData) : kitB (tyD d) "tuple" = some (tupD d) := by
  cases d with
  | none => exact (by decide +kernel : kitB "NoneType" "tuple" = some false)
  | bool _ => exact (by decide +kernel : kitB "bool" "tuple" = some false)
  | int _ => exact (by decide +kernel : kitB "int" "tuple" = some false)
  | str _ => exact (by decide +kernel : kitB "str" "tuple" = some false)
  | list _ => exact (by decide +kernel : kitB "list" "tuple" = some false)
  | tuple _ => exact (by decide +kernel : kitB "tuple" "tuple" = some true)
  | dict _ => exact (by decide +kernel : kitB "list" "tuple" = some false)
def intD : PyData → Bool
  | .bool _ => true
  | .int _ => true
  | _ => false
theorem kit_int (d : PyData) : kitB (tyD d) "int" = some (intD d) := by
  cases d with
  | none => exact (by decide +kernel : kitB "NoneType" "int" = some false)
  | bool _ => exact (by decide +kernel : kitB "bool" "int" = some true)
  | int _ => exact (by decide +kernel : kitB "int" "int" = some true)
  | str _ => exact (by decide +kernel : kitB "str" "int" = some false)
  | list _ => exact (by decide +kernel : kitB "list" "int" = some false)
  | tuple _ => exact (by decide +kernel : kitB "tuple" "int" = some false)
  | dict _ => exact (by decide +kernel : kitB "list" "int" = some false)
def boolD : PyData → Bool
  | .bool _ => true
  | _ => false
theorem kit_bool (d : PyData) : kitB (tyD d) "bool" = some (boolD d) := by
  cases d with
  | none => exact (by decide +kernel : kitB "NoneType" "bool" = some false)
  | bool _ => exact (by decide +kernel : kitB "bool" "bool" = some true)
  | int _ => exact (by decide +kernel : kitB "int" "bool" = some false)
  | str _ => exact (by decide +kernel : kitB "str" "bool" = some false)
  | list _ => exact (by decide +kernel : kitB "list" "bool" = some false)
  | tuple _ => exact (by decide +kernel : kitB "tuple" "bool" = some false)
  | dict _ => exact (by decide +kernel : kitB "list" "bool" = some false)
theorem cr_minK {X : Cx} {K : PySem.W.Frag} (h : X.K = K) (hc : X.calm = true) : CallR X (.builtin "min") (rMin K) := h ▸ cr_min hc
theorem cr_maxK {X : Cx} {K : PySem.W.Frag} (h : X.K = K) (hc : X.calm = true) : CallR X (.builtin "max") (rMax K) := h ▸ cr_max hc
/-- min, max of a list; what is least, greatest -/
theorem ed_minL {K : PySem.W.Frag} {σ : L2.St} {H : Hp} {te : TE} {ns : List Int} {m : Int} (h : EvD K te σ H (.list (ns.map .int))) (h1 : m ∈ ns) (h2 : ∀ y ∈ ns, m ≤ y) : EvD K (tCB (rMin K) (tCons te tNil)) σ H (.int m) := fun H1 e1 Q q =>
  h H1 e1 _ fun v H2 Ha e2 ea xa da => by
    obtain ⟨a, xs, rfl, ha, ra⟩ := da.lst_eq
    have ex := ints_dp ra
    subst ex
    refine ⟨a, ns, rfl, sq_of (ea a _ ha), List.length_pos_of_mem h1, fun m' m1 m2 => ?_⟩
    have e : m' = m := Int.le_antisymm (m2 m h1) (h2 m' m1)
    subst e
    exact q _ H2 Ha e2 ea xa (.int _)
theorem ed_maxL {K : PySem.W.Frag} {σ : L2.St} {H : Hp} {te : TE} {ns : List Int} {m : Int} (h : EvD K te σ H (.list (ns.map .int))) (h1 : m ∈ ns) (h2 : ∀ y ∈ ns, y ≤ m) : EvD K (tCB (rMax K) (tCons te tNil)) σ H (.int m) := fun H1 e1 Q q =>
  h H1 e1 _ fun v H2 Ha e2 ea xa da => by
    obtain ⟨a, xs, rfl, ha, ra⟩ := da.lst_eq
    have ex := ints_dp ra
    subst ex
    refine ⟨a, ns, rfl, sq_of (ea a _ ha), List.length_pos_of_mem h1, fun m' m1 m2 => ?_⟩
    have e : m' = m := Int.le_antisymm (h2 m' m1) (m2 m h1)
    subst e
    exact q _ H2 Ha e2 ea xa (.int _)
/-- len(set(whole numbers that are all unlike)) -/
theorem ed_lenSetI {P : Program} {w : World} {K : PySem.W.Frag} {σ : L2.St} {H : Hp} {te : TE} {ns : List Int} (h : EvD K te σ H (.list (ns.map .int))) (hl : ns.length < 4000) (nd : ns.Nodup) : EvD K (tCB (rLenK P w) (tCons (tCB (rSetK K P w) (tCons te tNil)) tNil)) σ H (.int ns.length) := fun H1 e1 Q q =>
  h H1 e1 _ fun v H2 Ha e2 ea xa da => by
    obtain ⟨a, xs, rfl, ha, ra⟩ := da.lst_eq
    have ex := ints_dp ra
    subst ex
    refine ⟨a, ns.map .inl, rfl, by rw [← ints_keyV]; exact sq_of (ea a _ ha), by rw [List.length_map]; exact hl, fun p c hp hc => ?_⟩
    refine ⟨p, _, c, rfl, upd_same, fun ks k1 k2 => ?_⟩
    have e : ks.length = ns.length := by
      have z := nodup_ulen k1 (n := ns.map (Sum.inl : Int → Key)) (List.pairwise_map.mpr (nd.imp fun h e => h (Sum.inl.inj e))) fun k => (k2 k).trans inK_iff
      rw [List.length_map] at z
      exact z
    rw [e]
    exact q _ _ Ha (e2.trans (Ex.new hp)) (ea.trans (Ex.new hp)) xa (.int _)
theorem st_retO {K : PySem.W.Frag} {H0 H10 H H1 : Hp} {σ : L2.St} {ss : List SD} {D : Ends} {i : Nat} {l : Addr} {ds : List PyData} {Q : VK} (n : Now H0 H10 H H1) (s : Sl K H σ ss) (hi : ss[i]? = some (.val (.ref l))) (o : Own K H10 H H1 l ds) (q : KD K H0 H10 (.list ds) Q) (hQ : D.rt = Q := by rfl) : tRet (tVar i) D σ H1 := by
  obtain ⟨vs, h1, h2⟩ := o.ex
  exact st_retOwn n s hi o.no o.old h1 h2 q hQ
theorem lay_strs : ∀ l : List Str, (∀ z ∈ l, PyData.strOk z = true) → PyData.canLayAll0 (l.map .str) = true
  | [], _ => rfl
  | n :: r, h => by simp only [List.map_cons, PyData.canLayAll0, PyData.canLay0, h n List.mem_cons_self, Bool.true_and, lay_strs r fun z hz => h z (List.mem_cons_of_mem _ hz)]
theorem depth_strs : ∀ l : List Str, PyData.depthAll (l.map .str) = 0
  | [] => rfl
  | n :: r => by simp only [List.map_cons, PyData.depthAll, PyData.depth, depth_strs r]; rfl
theorem shaped_strs {l : List Str} (h : ∀ z ∈ l, PyData.strOk z = true) : SeqAt.shaped (.list (l.map .str)) = true := by
  unfold SeqAt.shaped
  simp only [PyData.canLay0, lay_strs l h, PyData.depth, depth_strs, Bool.true_and]
  rfl
theorem eqv_refl' {d : PyData} (h : SeqAt.shaped d = true) : PyData.eqv d d = true := SeqAt.eqv_refl d (SeqAt.canLay_of_shaped h)
end LR

/-! ### the program's own exceptions: facts (own work) -/
namespace LR
open PySem PySem.Spec PyProof.Rows L2 Evl
abbrev gaE (K : PySem.W.Frag) (x : Str) : Addr := He.ga K x
def excOne (K : PySem.W.Frag) (x : Str) : Bool :=
  (He.Fa.exc x).ok K && ((He.Fa.glo x).ok K && (He.eqO (PySem.W.findIn K (.ref (gaE K x)) "__getattribute__") (some (some (.builtin "BaseException.__getattribute__"))) && (He.eqO (PySem.W.findIn K (.ref (gaE K x)) "__getattr__") (some none) &&
  (PySem.W.hasDictIn K (gaE K x) && (He.eqO (PySem.W.findIn K (.ref (gaE K x)) "__class__") (some (some (.builtin "object.__class__"))) && (He.eqO (PySem.W.specialIn K (.builtin "object.__class__") "__get__") (some (some (.builtin "getset_descriptor.__get__"))) &&
  (decide (PySem.W.takesIn K (.builtin "object.__class__") = some true) && decide (PySem.W.mroIn K (gaE K x) (.type "object") = some true))))))))
def excTwo (K : PySem.W.Frag) (x y : Str) : Bool := decide (PySem.W.kitOne K (.ref (gaE K x)) (.ref (gaE K y)) = some (decide (x = y))) && decide (PySem.W.exmOne K (.ref (gaE K x)) (.ref (gaE K y)) = some (decide (x = y)))
def excTop (K : PySem.W.Frag) (x : Str) : Bool := decide (PySem.W.kitOne K (.ref (gaE K x)) (.type "ValueError") = some true) && decide (PySem.W.exmOne K (.ref (gaE K x)) (.ref (gaE K "LeafError")) = some true)
def exOk (ns : List Str) (K : PySem.W.Frag) : Bool := (He.Fa.glo "LeafError").ok K && ns.all fun x => excOne K x && (excTop K x && ns.all fun y => excTwo K x y)
/-- what is known of the exceptions ns -/
structure ExT (ns : List Str) (K : PySem.W.Frag) (mg : Str → Option Value) : Prop where
  leaf : mg "LeafError" = some (.ref (gaE K "LeafError"))
  glo : ∀ x ∈ ns, mg x = some (.ref (gaE K x))
  exc : ∀ x ∈ ns, PySem.W.excIn K (gaE K x) He.veBase "ValueError.__new__" = true
  keep : ∀ x ∈ ns, PySem.W.keepIn K (.ref (gaE K x)) = true
  sub : ∀ x ∈ ns, PySem.W.subIn K (.ref (gaE K x)) (.type "BaseException") = some true
  ty : ∀ x ∈ ns, PySem.W.typeIn K (.ref (gaE K x)) = some (.type "type")
  own : ∀ x ∈ ns, ExcC K (gaE K x)
  kit : ∀ x ∈ ns, ∀ y ∈ ns, PySem.W.kitOne K (.ref (gaE K x)) (.ref (gaE K y)) = some (decide (x = y))
  exm : ∀ x ∈ ns, ∀ y ∈ ns, PySem.W.exmOne K (.ref (gaE K x)) (.ref (gaE K y)) = some (decide (x = y))
  ve : ∀ x ∈ ns, PySem.W.kitOne K (.ref (gaE K x)) (.type "ValueError") = some true
  exl : ∀ x ∈ ns, PySem.W.exmOne K (.ref (gaE K x)) (.ref (gaE K "LeafError")) = some true
theorem exT_of {ns : List Str} {K : PySem.W.Frag} {h : Heap} {mg : Str → Option Value} (X : K.In h) (G : h.Ns mainGlobals mg) (c : exOk ns K = true) : ExT ns K mg := by
  obtain ⟨c0, c⟩ := He.ba c
  have a : ∀ x ∈ ns, excOne K x = true ∧ excTop K x = true ∧ ∀ y ∈ ns, excTwo K x y = true := fun x hx => by
    obtain ⟨c1, c⟩ := He.ba (List.all_eq_true.mp c x hx)
    obtain ⟨c2, c3⟩ := He.ba c
    exact ⟨c1, c2, List.all_eq_true.mp c3⟩
  have b : ∀ x ∈ ns, (He.Fa.exc x).ok K = true ∧ (He.Fa.glo x).ok K = true ∧ PySem.W.findIn K (.ref (gaE K x)) "__getattribute__" = some (some (.builtin "BaseException.__getattribute__")) ∧ PySem.W.findIn K (.ref (gaE K x)) "__getattr__" = some none ∧
      PySem.W.hasDictIn K (gaE K x) = true ∧ PySem.W.findIn K (.ref (gaE K x)) "__class__" = some (some (.builtin "object.__class__")) ∧ PySem.W.specialIn K (.builtin "object.__class__") "__get__" = some (some (.builtin "getset_descriptor.__get__")) ∧
      PySem.W.takesIn K (.builtin "object.__class__") = some true ∧ PySem.W.mroIn K (gaE K x) (.type "object") = some true := fun x hx => by
    obtain ⟨c1, c⟩ := He.ba (a x hx).1
    obtain ⟨c2, c⟩ := He.ba c
    obtain ⟨c3, c⟩ := He.ba c
    obtain ⟨c4, c⟩ := He.ba c
    obtain ⟨c5, c⟩ := He.ba c
    obtain ⟨c6, c⟩ := He.ba c
    obtain ⟨c7, c⟩ := He.ba c
    obtain ⟨c8, c9⟩ := He.ba c
    exact ⟨c1, c2, He.eqO_ok c3, He.eqO_ok c4, c5, He.eqO_ok c6, He.eqO_ok c7, of_decide_eq_true c8, of_decide_eq_true c9⟩
  have e : ∀ x ∈ ns, _ := fun x hx => He.exc_ok (b x hx).1
  exact {
    leaf := He.glo_ok X G c0
    glo := fun x hx => He.glo_ok X G (b x hx).2.1
    exc := fun x hx => (e x hx).1
    keep := fun x hx => (e x hx).2.1
    sub := fun x hx => (e x hx).2.2.1
    ty := fun x hx => (e x hx).2.2.2
    own := fun x hx => ⟨(b x hx).2.2.1, (b x hx).2.2.2.1, (e x hx).2.2.1, (b x hx).2.2.2.2.1, (b x hx).2.2.2.2.2.1, (b x hx).2.2.2.2.2.2.1, (b x hx).2.2.2.2.2.2.2.1, (b x hx).2.2.2.2.2.2.2.2⟩
    kit := fun x hx y hy => of_decide_eq_true (He.ba ((a x hx).2.2 y hy)).1
    exm := fun x hx y hy => of_decide_eq_true (He.ba ((a x hx).2.2 y hy)).2
    ve := fun x hx => of_decide_eq_true (He.ba (a x hx).2.1).1
    exl := fun x hx => of_decide_eq_true (He.ba (a x hx).2.1).2 }
end LR

/-! ### within an except suite (own work) -/
namespace LR
open PySem PySem.Spec PyProof.Rows L2 Evl L2H
section
variable {X : Cx}
/-- isinstance(e, c), e the exception that is pinned -/
theorem call_isP {a D : Addr} {oe : Obj} (C : ExcC X.K D) (hz : Zc (.ref D) none oe) (hf : ∃ vs, oe.data = .fields vs) (hp : (a, oe) ∈ X.pn) : CallR X (.builtin "isinstance") (rIsE X.K D a) := by
  rintro pins s σ H xs us Q I r ⟨c, cv, b, rfl, hcv, e, q⟩
  match us, r with
  | _, .cons rx (.cons rt .nil) =>
    cases rx
    obtain rfl := hcv _ rt
    obtain ⟨get, _⟩ := I.pin (a, oe) (List.mem_append_left _ hp)
    have J : PySem.W.InstAt s.heap a oe D none := by
      obtain ⟨vs, hv⟩ := hf
      obtain ⟨c1, c2, c3, c4⟩ := oe
      obtain ⟨z1, z2⟩ := hz
      simp only at z1 z2 hv
      subst z1 z2 hv
      exact ⟨get, rfl, rfl, trivial⟩
    exact PySem.W.kia_one (PySem.W.handS_kitx_exc C.hg C.hk C.hs C.hd C.ha C.hn C.ht C.hm) I.kIn J e (fun z => nomatch z) fun tk => ⟨.bl b, H, I.kept (t' := tk) fun _ _ z => z, rfl, q⟩
/-- xs.count(b), truths -/
def eqb (b : Bool) (v : Value) : Bool := match v with
  | .bool c => c == b
  | _ => false
def rCntB (K : PySem.W.Frag) : V → List V → Hp → VK → Prop := fun x xs H Q => ∃ (p : Addr) (bs : List Bool) (b : Bool), x = .ref p ∧ xs = [.bl b] ∧ SqL K H p (bs.map V.bl) ∧ Q (.int (bs.count b : Nat)) H
theorem eqb_count {b : Bool} : ∀ bs : List Bool, (bs.map Value.bool).countP (eqb b) = bs.count b
  | [] => rfl
  | c :: r => by
    rw [List.map_cons, List.countP_cons, List.count_cons, eqb_count r]
    rfl
theorem mt_lcountB : MtR X "list.count" (rCntB X.K) := by
  rintro pins s σ H x xs v us Q I rx rxs ⟨p, bs, b, rfl, rfl, hs, q⟩
  cases rx
  obtain ⟨u, rfl, ru⟩ := rxs.one
  cases ru
  obtain ⟨its, rv, ⟨⟨cls, dd, data, sl⟩, n, ho, hc, hdn, hd⟩, hlen⟩ := I.list hs
  simp only at hc hd
  subst hc hd
  have hi := rv.bls
  subst hi
  refine call_meets PySem.F.slot_list_count ⟨_, ho, rfl⟩ PySem.F.entry_list_count (PySem.F.args_list_count_2 _ _)
    (SeqAt.list_countAt p (bs.map Value.bool).toArray n dd sl (.bool b) (eqb b)) ⟨ho, fun y hy => ?_, ?_⟩
  · have hy' : y ∈ bs.map Value.bool := List.mem_toArray.mp hy
    obtain ⟨c, _, rfl⟩ := List.mem_map.mp hy'
    exact SeqAt.EqAt.bool_bool c b
  · refine ⟨.int (bs.count b : Nat), H, I.tok _, ⟨s.toks, ?_⟩, q⟩
    show Value.int (((bs.map Value.bool).toArray.toList.countP (eqb b) : Nat) : Int) s.toks = _
    rw [show ((bs.map Value.bool).toArray.toList) = bs.map Value.bool from rfl, eqb_count]
theorem mt_lcountK {K : PySem.W.Frag} (h : X.K = K) : MtR X "list.count" (rCntB K) := h ▸ mt_lcountB
theorem mt_idxK {K : PySem.W.Frag} (h : X.K = K) : MtR X "list.index" (rIndex K) := h ▸ mt_index
theorem call_isPK {K : PySem.W.Frag} {a D : Addr} {oe : Obj} (h : X.K = K) (C : ExcC K D) (hz : Zc (.ref D) none oe) (hf : ∃ vs, oe.data = .fields vs) (hp : (a, oe) ∈ X.pn) : CallR X (.builtin "isinstance") (rIsE K D a) := by
  subst h
  exact call_isP C hz hf hp
end
section
variable {K : PySem.W.Frag} {σ : L2.St} {H : Hp} {ss : List SD} {ta tb te : TE}
theorem ed_isE {a D : Addr} {i : Nat} {c : V} {cv : Value} {b : Bool} (s : Sl K H σ ss) (hi : ss[i]? = some (.val (.ref a))) (hc : ∀ u, RelV c u → u = cv) (hk : PySem.W.kitOne K (.ref D) cv = some b) : EvD K (tCB (rIsE K D a) (tCons (tVar i) (tCons (tC c) tNil))) σ H (.bool b) := fun H1 e1 Q q =>
  ⟨.ref a, s.val hi, c, cv, b, rfl, hc, hk, q.val e1 fun _ => .bl b⟩
theorem ed_countB {bs : List Bool} {b : Bool} (ha : EvD K ta σ H (.list (bs.map .bool))) (hb : EvD K tb σ H (.bool b)) : EvD K (tBM K "list" (rCntB K) ta (tCons tb tNil)) σ H (.int (bs.count b : Nat)) := fun H1 e1 Q q =>
  ha H1 e1 _ fun v H2 Ha e2 ea xa da => by
    obtain ⟨a, xs, rfl, h, r⟩ := da.lst_eq
    refine ⟨.inl ⟨rfl, xs, sq_of (ea a _ h)⟩, (hb.mono xa.ex) H2 ea _ fun v' H3 Hb e3 eb xb db => ?_⟩
    rw [db.bl_eq]
    refine ⟨a, bs, b, rfl, rfl, sq_of ?_, q _ H3 Hb (e2.trans e3) eb (xa.trans e2 xb) (.int _)⟩
    rw [← bls_dp r]
    exact eb a _ (xb.ex a _ h)
theorem ed_indexB {bs : List Bool} {b : Bool} {j : Nat} (ha : EvD K ta σ H (.list (bs.map .bool))) (hb : EvD K tb σ H (.bool b)) (hj : bs[j]? = some b) (hf : ∀ m z, m < j → bs[m]? = some z → z ≠ b) : EvD K (tBM K "list" (rIndex K) ta (tCons tb tNil)) σ H (.int (j : Nat)) := fun H1 e1 Q q =>
  ha H1 e1 _ fun v H2 Ha e2 ea xa da => by
    obtain ⟨a, xs, rfl, h, r⟩ := da.lst_eq
    have ex := bls_dp r
    subst ex
    refine ⟨.inl ⟨rfl, _, sq_of (ea a _ h)⟩, (hb.mono xa.ex) H2 ea _ fun v' H3 Hb e3 eb xb db => ?_⟩
    rw [db.bl_eq]
    refine ⟨a, bs.map V.bl, .bl b, j, .bl b, rfl, rfl, sq_of (eb a _ (xb.ex a _ h)), rfl, ?_, by rw [List.getElem?_map, hj] <;> rfl, by cases b <;> rfl, fun m z hm hz => ?_, q _ H3 Hb (e2.trans e3) eb (xa.trans e2 xb) (.int _)⟩
    · exact List.all_eq_true.mpr fun z hz => by
        obtain ⟨c, _, rfl⟩ := List.mem_map.mp hz
        rfl
    · rw [List.getElem?_map] at hz
      obtain ⟨c, hc, rfl⟩ := Option.map_eq_some_iff.mp hz
      have := hf m c hm hc
      cases b <;> cases c <;> first | rfl | exact absurd rfl this
end
/-- a def's call where p's exception is handled, p known -/
theorem run_hot {CX : CXT} {P : Program} {w : World} {K : PySem.W.Frag} {mg : Str → Option Value} {base : Heap} {k : Nat} {f : Addr} {nm qual : Str} {pa : Arguments} {bd : List Stmt} {sc : Scope} {fd : FuncData} {N ps : List Str} (F : FunD K nm qual pa bd sc [] [] f fd) (S : FnScope N ps sc)
    {A : Around} {outer : List Env} {s : Shared} {H : Hp} {args : Args} {us : List Value} {vs : List V} {Q : VK} {E : XK} {p : Addr × Obj} (hr : RoomH (k + 1) A) (hpin : PinOk outer H s p) (e0 : Env0 P w K mg base A outer s H) (hb : BindsTo s fd args (ps.zip us)) (r : Vals vs us) (hl : vs.length = ps.length)
    (hbody : ∀ cdv : Value, RoomH k (A.deeper (envOfC qual sc s.heap.objs.size f cdv)) → ∃ t, PSs (cxH CX P w K mg base N qual sc f cdv A outer s H E p) bd t ∧ t { nx := fun _ H' => Q .non H', rt := Q } (L2.start N vs) H) :
    codeAny (model P w) A (.call (.ref f) args) (CR CX outer P w H s Q E) s := by
  obtain ⟨oc, od, dV, kV, doc, pm, an, cdv, ct, osl, rfl, lk, hcd, _, _⟩ := F.ex
  have kin : K.In s.heap := e0.mod.kin.keeps fun b o e => (e0.bs b o e).1
  have lim : s.heap.NoLimit := e0.mod.nolimit.keeps fun b o e => (e0.bs b o e).1
  have kinds : ∀ y ∈ ps.zip us, sc.names.lookup y.1 = some .local ∨ (sc.names.lookup y.1 = some .cell ∧ ((cellsFrom (s.heap.objs.size + 1) sc.names []).lookup y.1).isSome = true) := by
    rintro ⟨n, v⟩ hy
    rcases S.par n (List.of_mem_zip hy).1 with z | z
    · exact .inl z
    · exact .inr ⟨z, PySem.W.cellsFrom_some _ _ _ (.inl z)⟩
  refine codeAny_call_function hr.depth (kin _ _ lk) rfl S.co S.gen rfl (PySem.W.codeRec_of kin hcd) (hb _ _ _ _ (wpAny_newFunctionEnv_cells S.kind kinds fun env he s1 x => ?_))
  subst he
  obtain ⟨t, ht, hq⟩ := hbody cdv (hr.deeper _)
  refine ⟨lim.keeps x.toInCall.keep, codeAny_func (wpAny_mono (ht.run [] s1 (L2.start N vs) H _ (inv_startH S hpin e0 hl r x) hq) (fun fl s' hs => ?_) fun e s' hs => hs)⟩
  match fl, hs with
  | .ret u, ⟨v, σ', H', J, rv, q⟩ => exact ⟨v, H', J.os, J.bare, J.base, J.hok, rv, q⟩
  | .next, ⟨σ', H', J, q⟩ => exact ⟨V.non, H', J.os, J.bare, J.base, J.hok, rfl, q⟩
  | .brk, ⟨_, _, _, q⟩ => exact False.elim q
  | .cont, ⟨_, _, _, q⟩ => exact False.elim q
/-- x(e), e the handled exception, x a def that raises nothing -/
theorem pe_hot {X : Cx} {k i : Nat} {f a : Addr} {oe : Obj} {nm qual : Str} {pa : Arguments} {bd : List Stmt} {sc : Scope} {fd : FuncData} {N : List Str} {p1 n x : Str} {q q2 pos : Pos} {te : Hp → VK → Prop} (F : FunD X.K nm qual pa bd sc [] [] f fd) (S : FnScope N [p1] sc)
    (hr : RoomH (k + 1) X.A) (hp : (a, oe) ∈ X.pn) (hg : Gl X x) (hm : X.mg x = some (.ref f)) (hb : Binds X.K fd [p1] []) (hi : X.N[i]? = some n) (hv : Vis X.env.scope n)
    (hbody : ∀ (s : Shared) (H : Hp) (cdv : Value) (Q : VK), RoomH k (X.A.deeper (envOfC qual sc s.heap.objs.size f cdv)) → te H Q → ∃ t, PSs (cxH (CXL X.prog X.w) X.prog X.w X.K X.mg X.base N qual sc f cdv X.A X.stack s H E0 (a, oe)) bd t ∧ t { nx := fun _ H' => Q .non H', rt := Q } (L2.start N [.ref a]) H)
    (hdb : (x == ("__debug__" : Str)) = false := by decide) (hd : (n == ("__debug__" : Str)) = false := by decide) (hcd : (n == ("__classdict__" : Str)) = false := by decide) :
    PE X (.Call (.Name x q) [.Name n q2] [] pos) (fun σ H Q => σ[i]? = some (some (.ref a)) ∧ te H Q) := by
  refine ⟨fun pins s σ H Q I ⟨hs, h⟩ => ?_⟩
  refine wpAny_Call_Name_kw (ld_glob I hg hm ?_ hdb)
  have pv : PE X (.Name n q2) (tVar i) := pe_var hi hv hd hcd
  have pa1 : PA X [.Name n q2] (tCons (tVar i) tNil) := pa_cons pv pa_nil
  refine PySem.W.callWith_K (h₀ := X.base) I.ok.mod.kin F.kp (thn (pa1.run pos pins s σ H (fun vs H1 => vs = [.ref a] ∧ te H1 Q) I ⟨_, hs, rfl, h⟩) fun us s1 ⟨vs, H1, I1, r, e, hq⟩ => ⟨I1.kIn, ?_⟩) (by rfl) (by rfl)
  subst e
  have P1 := I1.pin (a, oe) (List.mem_append_left _ hp)
  have hpin : PinOk X.stack H1 s1 (a, oe) := ⟨P1.1, P1.2.1, fun z => (List.mem_cons.mp (I1.stkSub a z)).elim P1.2.2.1 P1.2.2.2.1, P1.2.2.2.2⟩
  have b := hb s1 us I1.kIn (by rw [List.append_nil, ← r.length]; rfl)
  rw [List.append_nil] at b
  refine wpAny_call (codeAny_mono (run_hot (E := E0) (Q := Q) F S hr hpin I1.env0 b r rfl fun cdv hr' => hbody s1 H1 cdv Q hr' hq) fun z s' hz => ?_)
  match z, hz with
  | .error e, ⟨_, _, _, _, _, _, _, _, _, _, _, _, y⟩ => exact y.elim
  | .ok (.ret u), hz => exact I1.after hz
  | .ok .next, hz => exact False.elim hz
  | .ok .brk, hz => exact False.elim hz
  | .ok .cont, hz => exact False.elim hz
end LR

/-! ### x(lambda: ..), what the lambda raises has no context (own work over the kit's lambdas) -/
namespace LR
open PySem PySem.Spec PyProof.Rows L2 Evl L2H LamX
/-- the body's context -/
def lamN (X : Cx) (A : Around) (outer : List Env) (s : Shared) (H : Hp) (E : XK) (scope : Scope) (f c' : Addr) : Cx :=
  { lamCx X A outer s H E scope f c' with xe := fun u z => wpAny (model X.prog X.w) (A.deeper (lamEnv X scope s.heap.objs.size f c')) (leaving (lamEnv X scope s.heap.objs.size f c') u) (fun _ z2 => CXL X.prog X.w outer H s E u z2) (fun u2 z2 => CXL X.prog X.w outer H s E u2 z2) z }
section
variable {X : Cx} {pins : List (Addr × Obj)} {σ : L2.St} {H HZ : Hp} {s s1 : Shared}
theorem lamN_takes {A : Around} {outer : List Env} {E : XK} {scope : Scope} {f c' : Addr} : L2N.Takes (lamN X A outer s H E scope f c') (fun cls d _ H' => E cls d H') := L2N.takes_of rfl rfl rfl rfl
theorem lamN_pass {A : Around} {outer : List Env} {E : XK} {scope : Scope} {f c' : Addr} : Passes (CXL (lamN X A outer s H E scope f c').prog (lamN X A outer s H E scope f c').w) (lamN X A outer s H E scope f c') E := L2N.passes_call lamN_takes fun _ _ _ _ h => h
/-- a(), in the def that got the lambda -/
theorem pe_actN {CXg : CXT} {Eg : XK} {Ng : List Str} {qg : Str} {sg : Scope} {g f c' : Addr} {cdg pm ctv : Value} {params : Arguments} {body : Expr} {scope : Scope} {k i : Nat} {a : Str} {pn : List (Addr × Obj)} {xe : Value → Shared → Prop} {W : WX} {E : XK} {tb : TE} {p1 p2 : Pos}
    (I : Inv X pins σ H s) (L : LamS X.env.scope scope) (at_f : s.heap.get? f = some (PySem.W.kla_obj "<lambda>" (X.env.qual ++ "<lambda>") params body scope (cloFrom X.env.cells scope.names []) pm c' ctv)) (no_f : H f = none) (fr_f : f ∉ frs X.stack)
    (bind0 : bindArgs (PySem.W.kla_fn "<lambda>" (X.env.qual ++ "<lambda>") params body scope (cloFrom X.env.cells scope.names []) pm (.ref c') ctv) ⟨[], []⟩ = pure [])
    (tk : L2N.Takes ((cxOf CXg X.prog X.w X.K X.mg X.base Ng qg sg g cdg X.A X.stack s H Eg).tr pn xe) W) (hr : Room (k + 1) (X.A.deeper (envOfC qg sg s.heap.objs.size g cdg)))
    (hbody : ∀ (A : Around) (outer : List Env) (s : Shared) (H : Hp), Room k (A.deeper (lamEnv X scope s.heap.objs.size f c')) → PE (lamN X A outer s H E scope f c') body tb)
    (hN : Ng[i]? = some a) (hv : Vis sg a) (hd : (a == ("__debug__" : Str)) = false := by decide) (hcd : (a == ("__classdict__" : Str)) = false := by decide) :
    PE ((cxOf CXg X.prog X.w X.K X.mg X.base Ng qg sg g cdg X.A X.stack s H Eg).tr pn xe) (.Call (.Name a p1) [] [] p2) (fun σZ HZ Q => (∀ cls d H', E cls d H' → W cls d σZ H') ∧ σZ[i]? = some (some (.ref f)) ∧ HZ c' = some (CodeO c' (X.env.qual ++ "<lambda>")) ∧ tb σ HZ Q) := by
  refine ⟨fun pz sZ σZ HZ Q IZ ⟨hW, hs, hc, ht⟩ => ?_⟩
  refine wpAny_Call_Name_kw (thn ((pe_var (pos := p1) (i := i) hN hv hd hcd).run pz sZ σZ HZ (fun v H1 => v = .ref f ∧ H1 = HZ) IZ ⟨.ref f, hs, rfl, rfl⟩) ?_)
  rintro u s1 ⟨v, H1, I1, r1, rfl, rfl⟩
  obtain rfl : u = Value.ref f := r1
  have f1 : s1.heap.get? f = some (PySem.W.kla_obj "<lambda>" (X.env.qual ++ "<lambda>") params body scope (cloFrom X.env.cells scope.names []) pm c' ctv) := I1.base.keep f _ at_f no_f fr_f (fun z => nomatch (show f ∈ ([] : List Addr) from z))
  obtain ⟨⟨oc, vs, t, c1, c2, c3⟩, _, _⟩ := I1.hok c' _ hc
  have un : Un (frs X.stack) [] H H1 s.heap s1.heap := I1.base
  have rc : codeAny (model X.prog X.w) (X.A.deeper (envOfC qg sg s.heap.objs.size g cdg)) (.call (.ref f) ⟨[], []⟩) (CR (CXL X.prog X.w) (envOfC qg sg s.heap.objs.size g cdg :: X.stack) X.prog X.w H1 s1 Q E) s1 := by
    refine PySem.W.kla_callFunE hr.depth f1 rfl L.co L.gen rfl ⟨c', oc, vs, t, rfl, c1, c2, c3⟩ ?_
    rw [bind0]
    refine wpAny_pure (wpAny_newFunctionEnv (fun y hy => (L.own y hy).2) (fun y hy => absurd hy (by simp)) (fun h₁ ns sb => ⟨I1.nolimit.fresh _ sb, ?_⟩) L.kind)
    have kp : ∀ b o, s1.heap.get? b = some o → h₁.get? b = some o := fun b o e => sb.extBut b o (Nat.ne_of_lt (Heap.lt_size e)) (Heap.get?_push_of_some _ e)
    have J0 := lam_start2 (A := X.A.deeper (envOfC qg sg s.heap.objs.size g cdg)) (outer := envOfC qg sg s.heap.objs.size g cdg :: X.stack) (E := E) (scope := scope) (f := f) (c' := c') (tk := s1.toks + ([] : List (Str × Value)).length) I L I1.env0 hr.hd un ns kp
    have J : Inv (lamN X (X.A.deeper (envOfC qg sg s.heap.objs.size g cdg)) (envOfC qg sg s.heap.objs.size g cdg :: X.stack) s1 H1 E scope f c') [] σ H1 { s1 with heap := h₁, toks := s1.toks + ([] : List (Str × Value)).length } :=
      Inv.unwish (X := lamN X (X.A.deeper (envOfC qg sg s.heap.objs.size g cdg)) (envOfC qg sg s.heap.objs.size g cdg :: X.stack) s1 H1 E scope f c') (E := (lamCx X (X.A.deeper (envOfC qg sg s.heap.objs.size g cdg)) (envOfC qg sg s.heap.objs.size g cdg :: X.stack) s1 H1 E scope f c').xe) J0
    show codeAny _ _ (.expr body (lamEnv X scope s1.heap.objs.size f c')) _ _
    refine PySem.W.kla_codeExpr (wpAny_mono ((hbody _ _ s1 H1 (hr.deeper _)).run [] _ _ H1 Q J ht) ?_ fun e s' hq => hq)
    rintro v s' ⟨w', H', J', rv, q⟩
    exact ⟨w', H', J'.os, J'.bare, J'.base, J'.hok, rv, q⟩
  refine PySem.W.callWith_F0 ⟨_, _, _, _, f1⟩ (wpAny_call (codeAny_mono rc fun r s' hq => ?_))
  match r, hq with
  | .error e, hq => exact tk e s' (L2N.XE.of_call I1 hW hq)
  | .ok (.ret u), hq => exact I1.after hq
  | .ok .next, hq => exact False.elim hq
  | .ok .brk, hq => exact False.elim hq
  | .ok .cont, hq => exact False.elim hq
end
/-- the def that calls what it got: TT is what it makes of the lambda's reading -/
def GivesN (X : Cx) (Ng : List Str) (x : Str) (sg : Scope) (g : Addr) (cdg : Value) (bg : List Stmt) (a : Str) (q : Str) (TT : (XK → Hp → VK → Prop) → Hp → VK → Prop) : Prop :=
  ∀ (f c' : Addr) (s : Shared) (H : Hp) (Q : VK) (tl : XK → Hp → VK → Prop),
    (∀ (W : WX) (pn : List (Addr × Obj)) (xe : Value → Shared → Prop) (E : XK) (p1 p2 : Pos), L2N.Takes ((cxOf (CXL X.prog X.w) X.prog X.w X.K X.mg X.base Ng x sg g cdg X.A X.stack s H E0).tr pn xe) W →
      PE ((cxOf (CXL X.prog X.w) X.prog X.w X.K X.mg X.base Ng x sg g cdg X.A X.stack s H E0).tr pn xe) (.Call (.Name a p1) [] [] p2) (fun σZ HZ Q => (∀ cls d H', E cls d H' → W cls d σZ H') ∧ σZ[0]? = some (some (.ref f)) ∧ HZ c' = some (CodeO c' q) ∧ tl E HZ Q)) →
    Room 1 (X.A.deeper (envOfC x sg s.heap.objs.size g cdg)) → H c' = some (CodeO c' q) → TT tl H Q →
    ∃ t, PSs (cxOf (CXL X.prog X.w) X.prog X.w X.K X.mg X.base Ng x sg g cdg X.A X.stack s H E0).nox bg t ∧ t { nx := fun _ H' => Q .non H', rt := Q } (L2.start Ng [.ref f]) H
section
variable {X : Cx}
/-- x(lambda: body) -/
theorem pe_lamN {T : List (Addr × Str)} {TT : (XK → Hp → VK → Prop) → Hp → VK → Prop} {x a : Str} {g c P : Addr} {k : Nat} {pg : Arguments} {bg : List Stmt} {sg : Scope} {fd : FuncData} {Ng : List Str}
    {params : Arguments} {body : Expr} {scope : Scope} {t : XK → TE} {p lpos pos : Pos} (hg : Gl X x) (hm : X.mg x = some (.ref g)) (F : FunD X.K x x pg bg sg [] [] g fd) (hb : L2.Binds X.K fd [a] []) (Sg : FnScope Ng [a] sg) (hNg : Ng[0]? = some a) (hva : Vis sg a)
    (hG : ∀ cdv, GivesN X Ng x sg g cdv bg a (X.env.qual ++ "<lambda>") TT)
    (TB : TabB X.base X.mg c P) (hcode : X.env.code = .ref c) (hmT : (P, X.env.qual ++ "<lambda>") ∈ T) (hu : ∀ p ∈ T, p.1 = P → p.2 = X.env.qual ++ "<lambda>") (hr : Room (k + 3) X.A) (L : LamS X.env.scope scope) (hdef : defaultsOf params X.env = ([], []))
    (hbind : ∀ (q : Str) (cl : List (Str × Addr)) (pm cv ctv : Value), bindArgs (PySem.W.kla_fn "<lambda>" q params body scope cl pm cv ctv) ⟨[], []⟩ = pure [])
    (hbody : ∀ (A : Around) (outer : List Env) (s : Shared) (H : Hp) (E : XK) (f c' : Addr), Room (k + 1) (A.deeper (lamEnv X scope s.heap.objs.size f c')) → PE (lamN X A outer s H E scope f c') body (t E))
    (hdb : (x == ("__debug__" : Str)) = false := by decide) (hd : (a == ("__debug__" : Str)) = false := by decide) (hcd : (a == ("__classdict__" : Str)) = false := by decide) :
    PE X (.Call (.Name x p) [.Lambda params body scope lpos] [] pos) (tLam T TT t) := by
  refine ⟨fun pins s σ H Q I ⟨hT, h⟩ => ?_⟩
  obtain ⟨oc, od, dV, kV, doc, pm, an, cdv, ct, osl, rfl, lk, hcg, _, _⟩ := F.ex
  refine wpAny_Call_Name_kw (ld_glob I hg hm (PySem.W.callWith_K (h₀ := X.base) I.ok.mod.kin F.kp ?_ (by rfl) (by rfl)) hdb)
  show wpAny _ _ (spliced ((false, eval (.Lambda params body scope lpos) X.env) :: backTo pos (starEach [] X.env))) _ _ s
  refine Calls.spliced_cons (lam_make2 I TB hcode hmT hu hT hdef (L.has I.ok) fun f c' pm' ctv H1 s' I1 eN T1 hf hfn hfr hco => Calls.spliced_nil ⟨I1.kIn, ?_⟩)
  have rc : codeAny (model X.prog X.w) X.A (.call (.ref g) ⟨[.ref f], []⟩) (CR (CXL X.prog X.w) X.stack X.prog X.w H1 s' Q E0) s' := by
    refine run_ofS (N := Ng) (ps := [a]) (us := [.ref f]) (vs := [.ref f]) lk hcg Sg hr I1.env0 (hb s' [.ref f] I1.kIn rfl) (.cons rfl .nil) rfl fun hr' => ?_
    obtain ⟨t', w1, w2⟩ := hG cdv f c' s' H1 Q (fun E H' Q' => t E σ H' Q') (fun W pn xe E p1 p2 tk => pe_actN (i := 0) I1 L hf hfn hfr (hbind _ _ _ _ _) tk hr' (fun A outer s H hr2 => hbody A outer s H E f c' hr2) hNg hva hd hcd) (hr'.mono (by omega)) hco (h H1 eN T1)
    exact ⟨t', w1.nox, w2⟩
  refine wpAny_call (codeAny_mono rc fun r s2 hq => ?_)
  match r, hq with
  | .error e, ⟨_, _, _, _, _, _, _, _, _, _, _, _, y⟩ => exact y.elim
  | .ok (.ret u), hq => exact I1.after hq
  | .ok .next, hq => exact False.elim hq
  | .ok .brk, hq => exact False.elim hq
  | .ok .cont, hq => exact False.elim hq
theorem takesN0 : L2N.Takes X (fun _ _ _ _ => False) := fun _ _ x => by
  obtain ⟨_, _, _, _, _, _, _, _, _, _, _, _, _, _, _, _, z⟩ := x
  exact z.elim
end
end LR

/-! ### defs that may raise; laws that hand lambdas on (own work) -/
namespace LR
open PySem PySem.Spec PyProof.Rows L2 Evl L2H LamX
/-- what a deed comes to: data, or the name of what is raised -/
abbrev Ans := Except Str PyData
/-- what follows -/
def KX (K : PySem.W.Frag) (E : XK) (H H1 : Hp) (Q : VK) : Ans → Prop
  | .ok d => KD K H H1 d Q
  | .error x => ∀ H2, Ex H1 H2 → E (.ref (gaE K x)) none H2
def spX (K : PySem.W.Frag) (n : Nat) (R : List PyData → Ans → Prop) : Sp := fun vs H1 Q E => ∃ H ds r, Ex H H1 ∧ DtAll K H vs ds ∧ ds.length = n ∧ R ds r ∧ KX K E H H1 Q r
theorem spX_len {K : PySem.W.Frag} {n : Nat} {R : List PyData → Ans → Prop} {vs : List V} {H1 : Hp} {Q : VK} {E : XK} (h : spX K n R vs H1 Q E) : vs.length = n := by
  obtain ⟨H, ds, r, _, da, hl, _⟩ := h
  rw [da.length, hl]
def EvX (K : PySem.W.Frag) (E : XK) (te : TE) (σ : L2.St) (H : Hp) (r : Ans) : Prop := ∀ H1, Ex H H1 → ∀ Q : VK, KX K E H H1 Q r → te σ H1 Q
section
variable {K : PySem.W.Frag} {σ : L2.St} {H H0 H10 H1 : Hp} {te : TE} {ta : TA} {E : XK} {r : Ans} {d : PyData} {D : Ends} {ss : List SD}
theorem EvX.ed (h : EvX K E te σ H (.ok d)) : EvD K te σ H d := h
theorem EvD.ex (h : EvD K te σ H d) : EvX K E te σ H (.ok d) := h
theorem ex_call {n : Nat} {R : List PyData → Ans → Prop} {ds : List PyData} (ha : EvDs K ta σ H ds) (hR : R ds r) (hn : ds.length = n := by rfl) : EvX K E (tCall (spX K n R) [] E ta) σ H r := fun H1 e1 Q q =>
  ha H1 e1 _ fun vs H2 Ha e2 ea xa da => by
    show spX K n R (vs ++ []) H2 Q E
    rw [List.append_nil]
    refine ⟨Ha, ds, r, ea, da, hn, hR, ?_⟩
    cases r with
    | ok d => exact fun v H3 Hb e3 eb xb db => q v H3 Hb (e2.trans e3) eb (xa.trans e2 xb) db
    | error x => exact fun H3 e3 => q H3 (e2.trans e3)
/-- e, for what it does -/
theorem st_doX (n : Now H0 H10 H H1) (s : Sl K H σ ss) (h : EvX K E te σ H r) (ok : ∀ d, r = .ok d → ∀ H' H2, Ext H H1 H' → Ex H1 H2 → Now H0 H10 H' H2 → Sl K H' σ ss → D.nx σ H2) (er : ∀ x, r = .error x → ∀ H2, Ex H10 H2 → E (.ref (gaE K x)) none H2) : tDrop te D σ H1 := by
  refine h H1 n.ex _ ?_
  cases r with
  | ok d => exact fun v H2 H' e2 e x dv => ok d rfl H' H2 x e2 (n.on e2 e x) (s.ex x.ex)
  | error x => exact fun H2 e2 => er x rfl H2 (n.grow.trans e2)
/-- x = e -/
theorem st_setX {i : Nat} (n : Now H0 H10 H H1) (s : Sl K H σ ss) (h : EvX K E te σ H r) (ok : ∀ d, r = .ok d → ∀ σ' H' H2, Ext H H1 H' → Ex H1 H2 → Now H0 H10 H' H2 → Sl K H' σ' (ss.set i (.dat d)) → D.nx σ' H2) (er : ∀ x, r = .error x → ∀ H2, Ex H10 H2 → E (.ref (gaE K x)) none H2) : tAsg te (gName i) D σ H1 := by
  refine h H1 n.ex _ ?_
  cases r with
  | ok d => exact fun v H2 H' e2 e x dv => ok d rfl _ H' H2 x e2 (n.on e2 e x) ((s.ex x.ex).set (s := .dat d) (o := some v) dv i)
  | error x => exact fun H2 e2 => er x rfl H2 (n.grow.trans e2)
/-- return e -/
theorem st_retX {Q : VK} (n : Now H0 H10 H H1) (h : EvX K E te σ H r) (q : KX K E H0 H10 Q r) (hQ : D.rt = Q := by rfl) : tRet te D σ H1 := by
  subst hQ
  refine h H1 n.ex _ ?_
  cases r with
  | ok d => exact fun v H2 H' e2 e x dv => q v H2 H' (n.grow.trans e2) e (n.ext.trans n.grow x) dv
  | error x => exact fun H2 e2 => q H2 (n.grow.trans e2)
end
section
variable {P : Program} {w : World} {K : PySem.W.Frag} {mg : Str → Option Value} {base : Heap}
theorem passE {X : Cx} {E : XK} {E₁ : Value → Shared → Prop} (hs : X.stack = X.env :: X.outer) (hf : X.env.frame = some X.env.locals) (hex : X.ex = [])
    (hx : X.xe = fun e s' => wpAny (model X.prog X.w) X.A (leaving X.env e) (fun _ s'' => L2N.CX X.prog X.w X.outer X.H_0 X.s_0 E e s'') E₁ s') : Passes (CXL X.prog X.w) X E := L2N.passes_call (L2N.takes_of hs hf hex hx) fun _ _ _ _ h => h
/-- a def that may raise keeps its promise -/
theorem fx_raise {x nm qual : Str} {st : Stmt} {f : Addr} {fd : FuncData} {N ps : List Str} {k n : Nat} {R : List PyData → Ans → Prop} (F : FunD K nm qual (defArgs st) (defBody st) (defScope st) [] [] f fd) (hm : mg x = some (.ref f)) (S : FnScope N ps (defScope st)) (hn : ps.length = n)
    (hb : ∀ (kV doc pm : Value) (an : Option Addr) (cdv ct : Value) (us : List Value), us.length = ps.length → bindArgs (PySem.W.fnOf nm qual (defArgs st) (defBody st) (defScope st) .none kV doc pm an cdv ct) ⟨us, []⟩ = pure (ps.zip us))
    (body : ∀ (cdv : Value) (A : Around) (outer : List Env) (s : Shared) (Hs : Hp) (E : XK), Room k (A.deeper (envOfC qual (defScope st) s.heap.objs.size f cdv)) → ∀ (ds : List PyData) (r : Ans), ds.length = n → R ds r →
      ∃ t, PSs (cxOf (CXL P w) P w K mg base N qual (defScope st) f cdv A outer s Hs E) (defBody st) t ∧
        ∀ (σ : L2.St) (H0 H10 : Hp) (Q : VK), Now H0 H10 H0 H10 → Sl K H0 σ (ds.map .dat ++ List.replicate (N.length - n) .unk) → KX K E H0 H10 Q r → t { nx := fun _ H' => Q .non H', rt := Q } σ H10) :
    Fx P w K mg base (k + 1) x ps (spX K n R) := by
  refine ⟨f, fd, F.ok S (fun vs H Q E h => by rw [hn]; exact spX_len h) (fun cdv A outer s H1 vs Q E hr h => ?_), hm, F.kp, F.bindsN hb⟩
  obtain ⟨H, ds, r, e, da, hl, hR, q⟩ := h
  obtain ⟨t, ht, hk⟩ := body cdv A outer s H1 E hr ds r hl hR
  refine ⟨t, ht, hk _ H H1 Q (Now.start e) ?_ q⟩
  have lv : vs.length = n := da.length.trans hl
  have z := sl_start (K := K) (H := H) (N.length - vs.length) da
  rw [lv] at z
  unfold L2.start
  rw [lv]
  exact z
end
/-! ### laws with lambdas: the tables of code objects are written -/
def NT (H : Hp) : Prop := ∀ b ps, H b ≠ some (.tbl ps)
theorem ex_nt {H H1 H2 : Hp} (nt : NT H) (e : Ex H H1) (x : ExtN H1 H2) : Ex H H2 := fun b o h => x b o (e b o h) fun ps z => nt b ps (z ▸ h)
/-- new objects that are no tables, and not where one was that is none -/
structure ExtL (H H1 H' : Hp) : Prop where
  ex : Ex H H'
  fresh : ∀ b o, H' b = some o → H b = some o ∨ ((∀ o', H1 b = some o' → ∃ ps, o' = .tbl ps) ∧ ∀ ps, o ≠ .tbl ps)
theorem Ext.l {H H1 H' : Hp} (x : Ext H H1 H') : ExtL H H1 H' := ⟨x.ex, fun b o h => (x.fresh b o h).imp id fun z => ⟨fun o' q => (by rw [z.1] at q; cases q), z.2⟩⟩
theorem ExtL.nt {H H1 H' : Hp} (x : ExtL H H1 H') (n : NT H) : NT H' := fun b ps h => by
  rcases x.fresh b _ h with z | z
  · exact n b ps z
  · exact z.2 ps rfl
theorem ExtL.trans {H H1 H' H2 H'' : Hp} (a : ExtL H H1 H') (e : ExtN H1 H2) (b : ExtL H' H2 H'') : ExtL H H1 H'' := ⟨a.ex.trans b.ex, fun c o h => by
  rcases b.fresh c o h with z | z
  · exact a.fresh c o z
  · refine .inr ⟨fun o' h' => ?_, z.2⟩
    by_cases q : ∃ ps, o' = .tbl ps
    · exact q
    · exact z.1 o' (e c o' h' fun ps y => q ⟨ps, y⟩)⟩

/-- the law's own: nothing is asked of what was there, but that what is known is no table -/
abbrev E00 : Hp := fun _ => none
theorem now_l {H H1 : Hp} (nt : NT H) (e : Ex H H1) : Now E00 E00 H H1 := ⟨e, ⟨(fun b o h => nomatch h), fun b o h => .inr ⟨rfl, fun ps z => nt b ps (z ▸ h)⟩⟩, fun b o h => nomatch h⟩
theorem Now.nt {H H1 : Hp} (n : Now E00 E00 H H1) : NT H := fun b ps h => by
  rcases n.ext.fresh b _ h with z | z
  · cases z
  · exact z.2 ps rfl
def EvL (K : PySem.W.Frag) (T : List (Addr × Str)) (te : TE) (σ : L2.St) (H : Hp) (d : PyData) : Prop := ∀ H1, Ex H H1 → NT H → Tabs T H1 → ∀ Q : VK, (∀ v H2 H', ExtN H1 H2 → Tabs T H2 → Ex H' H2 → ExtL H H1 H' → Dt K H' v d → Q v H2) → te σ H1 Q
def EvBL (T : List (Addr × Str)) (tt : TT) (σ : L2.St) (H : Hp) (b : Bool) : Prop := ∀ H1, Ex H H1 → NT H → Tabs T H1 → ∀ Q : Bool → Hp → Prop, (∀ H2, ExtN H1 H2 → Tabs T H2 → Ex H H2 → Q b H2) → tt σ H1 Q
section
variable {K : PySem.W.Frag} {T : List (Addr × Str)} {σ : L2.St} {H H1 : Hp} {ta tb te : TE} {d e z : PyData} {t u : TT} {D : Ends} {ss : List SD}
theorem EvD.l (h : EvD K te σ H d) : EvL K T te σ H d := fun H1 e1 _ tb Q q => h H1 e1 Q fun v H2 H' e2 e x dv => q v H2 H' (.of e2) (tb.ext e2) e x.l dv
theorem EvB.l {b : Bool} (h : EvB t σ H b) : EvBL T t σ H b := fun H1 e1 _ tb Q q => h H1 e1 Q fun H2 e2 => q H2 (.of e2) (tb.ext e2) (e1.trans e2)
theorem el_op {r : R2} (ha : EvL K T ta σ H d) (hb : EvD K tb σ H e) (hr : RD2 K r d e H z) : EvL K T (tOp r ta tb) σ H z := fun H1 e1 nt tbs Q q =>
  ha H1 e1 nt tbs _ fun x H2 Ha e2 t2 ea xa da => (hb.mono xa.ex) H2 ea _ fun y H3 Hb e3 eb xb db => hr Hb x y (xa.ex.trans xb.ex) (Dt.ex xb.ex da) db H3 eb Q fun v H4 Hc e4 ec xc dc =>
    q v H4 Hc ((e2.trans (.of e3)).trans (.of e4)) ((t2.ext e3).ext e4) ec ((xa.trans e2 xb.l).trans (e2.trans (.of e3)) xc.l) dc
theorem el_isi {n : String} {b : Bool} (ha : EvL K T ta σ H d) (h : kitB (tyD d) n = some b) : EvL K T (tCB (rIsi K) (tCons ta (tCons (tC (.ty n)) tNil))) σ H (.bool b) := fun H1 e1 nt tbs Q q =>
  ha H1 e1 nt tbs _ fun x H2 Ha e2 t2 ea xa da => rdc_isi (H := H) h Ha _ xa.ex x da rfl H2 ea Q fun v H4 Hc e4 ec xc dc => q v H4 Hc (e2.trans (.of e4)) (t2.ext e4) ec (xa.trans e2 xc.l) dc
theorem ebl_test {b : Bool} (h : EvL K T te σ H (.bool b)) : EvBL T (tTest te) σ H b := fun H1 e1 nt tbs Q q => h H1 e1 nt tbs _ fun v H2 H' e2 t2 e x dv => ⟨b, dv.bl_eq, q H2 e2 t2 (x.ex.trans e)⟩
theorem ebl_B {b : Bool} (h : EvL K T te σ H (.bool b)) : EvBL T (tB te) σ H b := fun H1 e1 nt tbs Q q => h H1 e1 nt tbs _ fun v H2 H' e2 t2 e x dv => ⟨b, dv.bl_eq, q H2 e2 t2 (x.ex.trans e)⟩
theorem ebl_and {a b : Bool} (h1 : EvBL T t σ H a) (h2 : a = true → EvBL T u σ H b) : EvBL T (tAnd t u) σ H (a && b) := fun H1 e1 nt tbs Q q => h1 H1 e1 nt tbs _ fun H2 e2 t2 ex => by
  cases a with
  | true => exact h2 rfl H2 ex nt t2 Q fun H3 e3 t3 ex3 => q H3 (e2.trans e3) t3 ex3
  | false => exact q H2 e2 t2 ex
theorem ebl_or {a b : Bool} (h1 : EvBL T t σ H a) (h2 : a = false → EvBL T u σ H b) : EvBL T (tOr t u) σ H (a || b) := fun H1 e1 nt tbs Q q => h1 H1 e1 nt tbs _ fun H2 e2 t2 ex => by
  cases a with
  | true => exact q H2 e2 t2 ex
  | false => exact h2 rfl H2 ex nt t2 Q fun H3 e3 t3 ex3 => q H3 (e2.trans e3) t3 ex3
theorem ebl_not {a : Bool} (h1 : EvBL T t σ H a) : EvBL T (tNot t) σ H (!a) := fun H1 e1 nt tbs Q q => h1 H1 e1 nt tbs _ fun H2 e2 t2 ex => q H2 e2 t2 ex
theorem ebl_is {a b : Bool} (h : EvBL T t σ H a) (e : a = b) : EvBL T t σ H b := e ▸ h
/-- if, at the law -/
theorem sl_if {b : Bool} {t1 t2 : TS} (n : Now E00 E00 H H1) (tb : Tabs T H1) (h : EvBL T t σ H b) (k1 : b = true → ∀ H2, ExtN H1 H2 → Now E00 E00 H H2 → Tabs T H2 → t1 D σ H2) (k2 : b = false → ∀ H2, ExtN H1 H2 → Now E00 E00 H H2 → Tabs T H2 → t2 D σ H2) : tIfS t t1 t2 D σ H1 :=
  h H1 n.ex n.nt tb _ fun H2 e2 tb2 ex => by
    cases b with
    | true => exact k1 rfl H2 e2 (now_l n.nt ex) tb2
    | false => exact k2 rfl H2 e2 (now_l n.nt ex) tb2
/-- x = e, at the law -/
theorem sl_asg {i : Nat} (n : Now E00 E00 H H1) (tb : Tabs T H1) (s : Sl K H σ ss) (h : EvL K T te σ H d) (k : ∀ σ' H' H2, ExtL H H1 H' → ExtN H1 H2 → Now E00 E00 H' H2 → Tabs T H2 → Sl K H' σ' (ss.set i (.dat d)) → D.nx σ' H2) : tAsg te (gName i) D σ H1 :=
  h H1 n.ex n.nt tb _ fun v H2 H' e2 t2 e x dv => k _ H' H2 x e2 (now_l (x.nt n.nt) e) t2 ((s.ex x.ex).set (s := .dat d) (o := some v) dv i)
/-- return e, at the law: Q asks of the value alone -/
theorem sl_ret {Q : VK} (n : Now E00 E00 H H1) (tb : Tabs T H1) (h : EvL K T te σ H d) (q : ∀ v H2 H', Dt K H' v d → Q v H2) (hQ : D.rt = Q := by rfl) : tRet te D σ H1 := by
  subst hQ
  exact h H1 n.ex n.nt tb _ fun v H2 H' _ _ _ _ dv => q v H2 H' dv
end
/-- a, b = x, y, by a tuple -/
theorem st_asgPair {K : PySem.W.Frag} {H0 H10 H H1 : Hp} {σ : L2.St} {ss : List SD} {D : Ends} {i j : Nat} {tA : TA} {d e : PyData} (n : Now H0 H10 H H1) (s : Sl K H σ ss) (h : EvDs K tA σ H [d, e]) (k : ∀ σ' H' H2, Ext H H1 H' → Ex H1 H2 → Now H0 H10 H' H2 → Sl K H' σ' ((ss.set i (.dat d)).set j (.dat e)) → D.nx σ' H2) : tAsg (tTup tA) (gTup K 2 (gCons (gName i) (gCons (gName j) gNil))) D σ H1 :=
  h H1 n.ex _ fun vs H2 H' e2 ex x dv => by
    cases dv with
    | cons a b =>
      cases b with
      | cons b c =>
        cases c
        refine ⟨by show 2 ≤ sizeLine; decide, fun p hp => eg_pair (st_of upd_same) _ ?_⟩
        exact k _ H' _ x (e2.trans (Ex.new hp)) ⟨ex.trans (Ex.new hp), n.ext.trans n.grow x, (n.grow.trans e2).trans (Ex.new hp)⟩ (((s.ex x.ex).set (s := .dat d) (o := some _) a i).set (s := .dat e) (o := some _) b j)
/-- the law's promise: the tables are there -/
def spL (K : PySem.W.Frag) (T : List (Addr × Str)) : Sp := fun vs H1 Q _ => ∃ (a : Addr) (ns : List Int), vs = [.ref a] ∧ ns.length ≤ 63 ∧ SqL K H1 a (ns.map V.int) ∧ Tabs T H1 ∧ ∀ H2, Q (.bl true) H2
/-- what the law knows of the script -/
theorem script_only {K : PySem.W.Frag} {H1 : Hp} {a : Addr} {xs : List V} (h : SqL K H1 a xs) : ∃ H : Hp, Ex H H1 ∧ NT H ∧ SqL K H a xs := by
  rcases h with h | h
  · have only : ∀ b o, (if b = a then H1 b else none) = some o → b = a ∧ H1 b = some o := fun b o z => by
      by_cases e : b = a
      · rw [if_pos e] at z
        exact ⟨e, z⟩
      · rw [if_neg e] at z
        cases z
    refine ⟨fun b => if b = a then H1 b else none, fun b o z => (only b o z).2, fun b ps z => ?_, .inl ?_⟩
    · obtain ⟨rfl, z2⟩ := only b _ z
      rcases h with q | ⟨o, q⟩
      · rw [z2] at q
        cases q
      · rw [z2] at q
        cases q
    · have e : (fun b => if b = a then H1 b else none) a = H1 a := if_pos rfl
      rcases h with q | ⟨o, q⟩
      · exact .inl (e.trans q)
      · exact .inr ⟨o, e.trans q⟩
  · exact ⟨E00, (fun b o z => nomatch z), (fun b ps z => nomatch z), .inr h⟩
/-- the law by its body, its code object known -/
theorem fn_law {P : Program} {w : World} {K : PySem.W.Frag} {mg : Str → Option Value} {base : Heap} {nm qual : Str} {st : Stmt} {f : Addr} {fd : FuncData} {N ps : List Str} {k : Nat} {p : He.Defn} {sp : Sp} (F : FunD K nm qual (defArgs st) (defBody st) (defScope st) [] [] f fd) (hf : f = He.fAd K p) (S : FnScope N ps (defScope st)) (len : ∀ vs H Q E, sp vs H Q E → vs.length = ps.length)
    (body : ∀ (cdv : Value), cdv = .ref (He.codeOf K p) → ∀ (A : Around) (outer : List Env) (s : Shared) (H : Hp) (vs : List V) (Q : VK) (E : XK), Room k (A.deeper (envOfC qual (defScope st) s.heap.objs.size f cdv)) → sp vs H Q E →
      ∃ t, PSs (cxOf (CXL P w) P w K mg base N qual (defScope st) f cdv A outer s H E).nox (defBody st) t ∧ t { nx := fun _ H' => Q .non H', rt := Q } (L2.start N vs) H) : FnOk P w K mg base (CXL P w) (k + 1) f fd ps sp := by
  obtain ⟨oc, od, dV, kV, doc, pm, an, cdv, ct, osl, rfl, lk, hcd, _, _⟩ := F.ex
  have hc : ∃ c, cdv = .ref c := by
    cases cdv with
    | ref c => exact ⟨c, rfl⟩
    | _ => cases hcd
  obtain ⟨c, rfl⟩ := hc
  subst hf
  have e : He.codeOf K p = c := He.codeOf_eq lk rfl
  subst e
  refine fn_of lk hcd S len fun A outer s H vs Q E hr hsp => ?_
  obtain ⟨t, h1, h2⟩ := body _ rfl A outer s H vs Q E hr hsp
  exact ⟨t, h1.nox, h2⟩
/-- what _law_told tells -/
def toldD : Ans → PyData
  | .ok d => d
  | .error x => .tuple [.str "refused", .str x]
end LR

/-! ### enumerate(text) (own work) -/
namespace LR
open PySem PySem.Spec PyProof.Rows L2 Evl
/-- a text's signs, each with its place, in new pairs -/
def ItEs (x : Str) : It := ⟨fun i _ => i < x.cps.size, fun i H v H' => ∃ T c, v = .ref T ∧ H T = none ∧ x.cps[i]? = some c ∧ H' = upd H T (.tup [.int (i : Nat), .str ⟨#[c]⟩]), fun i _ => i = x.cps.size⟩
theorem draws_str {P : Program} {w : World} {A : Around} (hh : A.handled = none) (it : Addr) (x : Str) (t : Tok) : Draws P w A it [it] x.cps.size (fun i v => ∃ c u, x.cps[i]? = some c ∧ v = .str ⟨#[c]⟩ u) (fun i h => h.IsStrIter it (strIterType x) x t i) := by
  unfold strIterType
  cases x.cps.all (· < 128) with
  | true => exact Draws.strAscii hh it x t
  | false => exact Draws.strWide hh it x t
theorem turn_enumS {P : Program} {w : World} {K : PySem.W.Frag} {elts : List Expr} {kk : Nat} {tpos : Pos} (x : Str) (t : Tok) (e it : Addr) :
    Turn P w K (.Tuple elts kk tpos) (ItEs x) [e, it] e (fun i h => (∃ old, IsEnum h e it ((i : Nat) : Int) old) ∧ h.IsStrIter it (strIterType x) x t i ∧ e ≠ it) where
  mem := List.mem_cons_self
  obj := by
    rintro i h ⟨⟨old, he⟩, ⟨o, ho, hc, hd⟩, _⟩ b hb
    simp only [List.mem_cons, List.not_mem_nil, or_false] at hb
    rcases hb with rfl | rfl
    · exact ⟨_, he, fun v q => nomatch q⟩
    · exact ⟨o, ho, fun v q => by rw [hd] at q; cases q⟩
  keep := by
    rintro i h h' ⟨⟨old, he⟩, ⟨o, ho, r⟩, hne⟩ k
    exact ⟨⟨old, k e (by simp) _ he⟩, ⟨o, k it (by simp) o ho, r⟩, hne⟩
  item := by
    rintro X rfl rfl rfl hc i pins s σ H E I hf ⟨⟨old, he⟩, hit, hne⟩ hg
    have D := draws_str (P := X.prog) (w := X.w) (A := X.A.in1) (by simpa using I.ok.hd hc) it x t
    have lt1 : e < s.heap.objs.size := Heap.lt_size he
    have lt2 : it < s.heap.objs.size := by
      obtain ⟨_, z, _⟩ := hit
      exact Heap.lt_size z
    refine wpAny_pyNext_enum_itemD D he hit hg hne (by simpa using hne) fun v h' tk hv ho hit' hT hsz hk => ?_
    obtain ⟨c, u, hcx, rfl⟩ := hv
    refine ⟨_, rfl, wpAny_letOwnedTupleGo_enum (s := { s with heap := h', toks := tk + 1 }) ho fun h2 he2 sb => ?_⟩
    have at2 : h2.get? s.heap.objs.size = some { cls := .type "tuple", data := .seq #[.int i tk, .str ⟨#[c]⟩ u] } := (sb.2 _ (Nat.ne_of_gt lt1)).trans hT
    have new : ObjOk X.prog X.w (upd H s.heap.objs.size (.tup [.int (i : Nat), .str ⟨#[c]⟩])) h2 s.heap.objs.size (.tup [.int (i : Nat), .str ⟨#[c]⟩]) :=
      ⟨by show 2 ≤ sizeLine; decide, [.int i tk, .str ⟨#[c]⟩ u], .cons ⟨_, rfl⟩ (.cons ⟨_, rfl⟩ .nil), ⟨_, at2, rfl, _, rfl⟩⟩
    have I1 : Inv X pins σ (upd H s.heap.objs.size (.tup [.int (i : Nat), .str ⟨#[c]⟩])) { s with heap := h2, toks := tk + 1 } :=
      I.turnedNew (ch := [e, it]) (fun b ob hb z => by
        have n1 : b ≠ e := fun y => hb (y ▸ List.mem_cons_self)
        have n2 : b ≠ it := fun y => hb (y ▸ List.mem_cons_of_mem _ List.mem_cons_self)
        exact (sb.2 b n1).trans (hk b ob n1 n2 z)) hf (Nat.le_refl _) new
    refine ⟨.ref s.heap.objs.size, _, I1, rfl, ⟨_, c, rfl, I.hok.fresh (Nat.le_refl _), hcx, rfl⟩, ⟨⟨.str ⟨#[c]⟩ u, ?_⟩, ?_, hne⟩, fun b hb => ?_⟩
    · rw [show ((i + 1 : Nat) : Int) = (i : Int) + 1 by omega]
      exact he2
    · obtain ⟨o, z, r⟩ := hit'
      exact ⟨o, (sb.2 it (Ne.symm hne)).trans z, r⟩
    · have lt : b < s.heap.objs.size := by
        simp only [List.mem_cons, List.not_mem_nil, or_false] at hb
        rcases hb with rfl | rfl
        · exact lt1
        · exact lt2
      rw [upd_ne (Nat.ne_of_lt lt)]
      exact (hf b hb).1
  done := by
    rintro X rfl rfl rfl hc i pins s σ H E I hf ⟨⟨old, he⟩, hit, hne⟩ hg
    have D := draws_str (P := X.prog) (w := X.w) (A := X.A.in1) (by simpa using I.ok.hd hc) it x t
    have hi : i = x.cps.size := hg
    subst hi
    obtain ⟨f0, f1, _, f3, f4, f5⟩ := hf it (by simp)
    exact wpAny_pyNext_enum_endD D he hit fun h' eb => ⟨rfl, I.turned (t' := s.toks) (fun b o hb z => eb b o hb z) f0 f1 f3 f4 f5⟩
  self := fun A i s Q E st h => by
    obtain ⟨⟨_, he⟩, _⟩ := st
    exact wpAny_pyIter_enum he h
def iEnumS (ta : TA) : TI := fun σ H R => ta σ H fun vs H1 => ∃ x, vs = [.str x] ∧ R (ItEs x) H1
theorem pi_enumS {X : Cx} {e : Expr} {ta : TA} {p pos tpos : Pos} {elts : List Expr} {kk : Nat} (hg : Gl X "enumerate") (hm : X.mg "enumerate" = none) (ha : PA X [e] ta) (hs : starEach [e] X.env = [(false, eval e X.env)] := by rfl) :
    PI X (.Tuple elts kk tpos) (.Call (.Name "enumerate" p) [e] [] pos) (iEnumS ta) := by
  refine ⟨fun pins s σ H R I h => Call_ (ld_blt I hg hm boot_enumerate (PyProof.Rows.callWith_type1 (thn (ha.run pos pins s σ H _ I h) ?_) hs rfl))⟩
  rintro us s1 ⟨vs, H1, I1, r1, x, rfl, q⟩
  match us, r1 with
  | _, .cons r .nil =>
    obtain ⟨t, rfl⟩ := r
    refine call_enumerate_str fun h' he hit hsz hk => wpAny_pyIter_enum he ⟨s1.heap.objs.size + 1, [s1.heap.objs.size + 1, s1.heap.objs.size], _, _, H1, rfl, I1.kept (t' := s1.toks) hk, turn_enumS x t (s1.heap.objs.size + 1) s1.heap.objs.size, ⟨⟨.none, he⟩, hit, Nat.succ_ne_self _⟩, fun b hb => ?_, q⟩
    have le : s1.heap.objs.size ≤ b := by
      simp only [List.mem_cons, List.not_mem_nil, or_false] at hb
      rcases hb with z | z
      · rw [z]; exact Nat.le_succ _
      · rw [z]; exact Nat.le_refl _
    exact I1.fpOk le (I1.hok.fresh le)
/-- for place, sign in enumerate(text) -/
def YE (z : Str) : Hp → Nat → Hp → V → Hp → Prop := fun _ i H v H' => ∃ T c, v = .ref T ∧ H T = none ∧ z.cps[i]? = some c ∧ H' = upd H T (.tup [.int (i : Nat), .str ⟨#[c]⟩])
theorem ei_enumS {K : PySem.W.Frag} {σ : L2.St} {H : Hp} {te : TE} {z : Str} (h : EvD K te σ H (.str z)) : EvI (iEnumS (tCons te tNil)) σ H z.cps.size (YE z) := fun H1 e1 R r =>
  h H1 e1 _ fun v H2 H' e2 e x dv => ⟨z, by rw [dv.str_eq], r _ (fun _ => True) H2 H' e2 e x (fun _ _ => trivial) ⟨fun _ _ hi _ => hi, fun _ _ => rfl, fun _ _ _ _ _ _ y => y⟩⟩
end LR

/-! ### comprehensions over pairs (own work) -/
namespace LR
open PySem PySem.Spec PyProof.Rows L2 Evl
/-- [e for a, b in data if ..], the items pairs -/
theorem wipe2 {σ : L2.St} {i j : Nat} {x y : V} : L2.wipe (((L2.wipe σ [i, j]).set i (some x)).set j (some y)) [i, j] = L2.wipe σ [i, j] := by
  have e : ∀ τ : L2.St, L2.wipe τ [i, j] = (τ.set j none).set i none := fun τ => rfl
  rw [e, e]
  generalize hτ : σ.set j none = τ
  apply List.ext_getElem?
  intro k
  subst hτ
  simp only [List.length_set, List.getElem?_set]
  by_cases h1 : i = k
  · simp [h1]
  · by_cases h2 : j = k
    · simp [h1, h2]
    · simp [h1, h2]
theorem ed_lcP {K : PySem.W.Frag} {σ : L2.St} {H : Hp} {ti te : TE} {tt : TT} {ds : List PyData} {i j : Nat} {vs : List Nat} {ss : List SD} (f : PyData → Option PyData) (s : Sl K H σ ss) (hw : EvI (iU K ti) σ H ds.length (YD K ds)) (h2 : ds.length ≤ 50000) (hv : vs = [i, j])
    (he : ∀ d ∈ ds, ∃ x y, d = .tuple [x, y] ∧ ∀ (σ2 : L2.St) (Hc : Hp), Ex H Hc → Sl K Hc σ2 (((wipeS ss vs).set i (.dat x)).set j (.dat y)) → ∃ b, EvB tt σ2 Hc b ∧ (b = false → f d = none) ∧ (b = true → ∃ z, f d = some z ∧ EvD K te σ2 Hc z)) :
    EvD K (tLc (iU K ti) (gTup K 2 (gCons (gName i) (gCons (gName j) gNil))) tt te vs) σ H (.list (ds.filterMap f)) := by
  subst hv
  refine ed_lc (fun k => (ds[k]?).bind f) hw (fun k hk Hi Hb H2 x H3 e0 e1 e2 y => ?_) h2 (filterMap_range ds f).symm
  obtain ⟨rfl, d, hd, dx⟩ := y
  obtain ⟨p, q, rfl, hb⟩ := he d (List.mem_of_getElem? hd)
  obtain ⟨a, xs, rfl, ha, ra⟩ := dx.tup_eq
  obtain ⟨v1, v2, rfl, r1, r2⟩ : ∃ v1 v2, xs = [v1, v2] ∧ Dt K Hi v1 p ∧ Dt K Hi v2 q := by
    cases ra with
    | cons r1 rr =>
      cases rr with
      | cons r2 rr =>
        cases rr
        exact ⟨_, _, rfl, r1, r2⟩
  have sl : Sl K Hb (((L2.wipe σ [i, j]).set i (some v1)).set j (some v2)) (((wipeS ss [i, j]).set i (.dat p)).set j (.dat q)) := Sl.set (s := .dat q) (o := some v2) (Dt.ex e1 r2) j (Sl.set (s := .dat p) (o := some v1) (Dt.ex e1 r1) i (Sl.wipe [i, j] (s.ex (e0.trans e1))))
  obtain ⟨b, b1, b2, b3⟩ := hb _ Hb (e0.trans e1) sl
  refine ⟨Hb, ((L2.wipe σ [i, j]).set i (some v1)).set j (some v2), Ext.refl _ _, e2, Ex.refl _, eg_pair (ex_t (e1.trans e2) ha), wipe2 (σ := σ) (x := v1) (y := v2), b, b1, fun h => ?_, fun h => ?_⟩
  · show (ds[k]?).bind f = none
    rw [hd]
    exact b2 h
  · obtain ⟨z, z1, z2⟩ := b3 h
    refine ⟨z, ?_, z2⟩
    show (ds[k]?).bind f = some z
    rw [hd]
    exact z1
end LR

/-! ### zip of a list and a tuple; comprehensions over zips; dicts of the top (own work) -/
namespace LR
open PySem PySem.Spec PyProof.Rows L2 Evl
/-- the list at a and the tuple at b as they stand at each turn, the items in new pairs -/
def ItzM (K : PySem.W.Frag) (a b : Addr) : It :=
  ⟨fun i H => ∃ (xs ys : List V) (x y : V), SqL K H a xs ∧ SqT K H b ys ∧ xs[i]? = some x ∧ ys[i]? = some y,
    fun i H v H' => ∃ T x y, v = .ref T ∧ H T = none ∧ H' = upd H T (.tup [x, y]) ∧ (∀ xs, SqL K H a xs → xs[i]? = some x) ∧ ∀ ys, SqT K H b ys → ys[i]? = some y,
    fun i H => ∃ xs ys : List V, SqL K H a xs ∧ SqT K H b ys ∧ i ≤ xs.length ∧ i ≤ ys.length ∧ (i = xs.length ∨ i = ys.length)⟩
structure MApart (z TI TO i1 i2 a b : Addr) : Prop where
  TIz : TI ≠ z
  TOz : TO ≠ z
  TITO : TI ≠ TO
  TIi1 : TI ≠ i1
  TIi2 : TI ≠ i2
  TOi1 : TO ≠ i1
  TOi2 : TO ≠ i2
  i1z : i1 ≠ z
  i2z : i2 ≠ z
  i12 : i1 ≠ i2
  az : a ≠ z
  bz : b ≠ z
  aTO : a ≠ TO
  bTO : b ≠ TO
  ai1 : a ≠ i1
  ai2 : a ≠ i2
  bi1 : b ≠ i1
  bi2 : b ≠ i2
theorem MApart.sep {z TI TO i1 i2 a b : Addr} (D : MApart z TI TO i1 i2 a b) : ZipSep2 z TI TO i1 i2 [i1, a] [i2, b] where
  TIz := D.TIz
  TOz := D.TOz
  TITO := D.TITO
  TIi1 := D.TIi1
  mem1 := List.mem_cons_self
  zf1 := by simp [D.i1z.symm, D.az.symm]
  Tf1 := by simp [D.TOi1, D.aTO.symm]
  TIi2 := D.TIi2
  mem2 := List.mem_cons_self
  zf2 := by simp [D.i2z.symm, D.bz.symm]
  Tf2 := by simp [D.TOi2, D.bTO.symm]
  sep1_2 := by simp [D.i12, D.bi1.symm]
  sep2_1 := by simp [D.i12.symm, D.ai2.symm]
theorem turn_zipM {P : Program} {w : World} {K : PySem.W.Frag} {elts : List Expr} {kk : Nat} {tpos : Pos} {a b z TI TO i1 i2 : Addr} (D : MApart z TI TO i1 i2 a b) :
    Turn P w K (.Tuple elts kk tpos) (ItzM K a b) [z, TI, TO, i1, i2] z (fun i h => IsZip h z TI TO .none ∧ IsTupOf2 h TI (.ref i1) (.ref i2) ∧ (∃ x y, IsTupOf2 h TO x y) ∧ h.IsListIter i1 a i ∧ h.IsTupleIter i2 b i) where
  mem := by simp
  obj := fun i h st c hc => by
    obtain ⟨hz, hTI, ⟨x, y, hTO⟩, ⟨o1, e1, _, d1⟩, ⟨o2, e2, _, d2⟩⟩ := st
    have e' : c = z ∨ c = TI ∨ c = TO ∨ c = i1 ∨ c = i2 := by simpa using hc
    rcases e' with q | q | q | q | q
    · rw [q]; exact ⟨_, hz, fun v q => nomatch q⟩
    · rw [q]; exact ⟨_, hTI, fun v q => nomatch q⟩
    · rw [q]; exact ⟨_, hTO, fun v q => nomatch q⟩
    · rw [q]; exact ⟨o1, e1, fun v q => by rw [d1] at q; cases q⟩
    · rw [q]; exact ⟨o2, e2, fun v q => by rw [d2] at q; cases q⟩
  keep := fun i h h' st k => by
    obtain ⟨hz, hTI, ⟨x, y, hTO⟩, h1, h2⟩ := st
    exact ⟨k z (by simp) _ hz, k TI (by simp) _ hTI, ⟨x, y, k TO (by simp) _ hTO⟩, h1.at fun o q => k i1 (by simp) o q, h2.at fun o q => k i2 (by simp) o q⟩
  item := by
    intro X hP hw hK hc i pins s σ H E I hf st hg
    subst hP hw hK
    obtain ⟨hz, hTI, ⟨x0, y0, hTO⟩, h1, h2⟩ := st
    obtain ⟨xs, ys, x, y, hqx, hqy, hx, hy⟩ := hg
    obtain ⟨its, rv, p, _⟩ := I.list hqx
    obtain ⟨its2, rv2, p2, _⟩ := I.tuple hqy
    obtain ⟨u, hu, ru⟩ := rv.get hx
    obtain ⟨u2, hu2, ru2⟩ := rv2.get hy
    have hzl : z < s.heap.objs.size := Heap.lt_size hz
    have hh : X.A.in1.in1.handled = none := by simpa using I.ok.hd hc
    have D1 := Draws.list (prog := X.prog) (w := X.w) (A := X.A.in1) (by simpa using I.ok.hd hc) i1 a D.ai1 its.toArray
    have D2 := Draws.tuple (prog := X.prog) (w := X.w) (A := X.A.in1) (by simpa using I.ok.hd hc) i2 b D.bi2 its2.toArray
    have lt1 : i < its.toArray.size := by simpa using (List.getElem?_eq_some_iff.mp hu).1
    have lt2 : i < its2.toArray.size := by simpa using (List.getElem?_eq_some_iff.mp hu2).1
    refine wpAny_pyNext_zipD2_item D.sep D1 D2 hz hTI hTO ⟨h1, p.isList⟩ ⟨h2, p2⟩ lt1 lt2 fun v1 v2 h' tk y1 y2 z' TO' st1 st2 hT hsz hk => ?_
    have e1 : v1 = u := by
      have : its[i]? = some v1 := by simpa using y1
      rw [hu] at this
      exact (Option.some.inj this).symm
    have e2 : v2 = u2 := by
      have : its2[i]? = some v2 := by simpa using y2
      rw [hu2] at this
      exact (Option.some.inj this).symm
    subst e1 e2
    refine ⟨_, rfl, wpAny_letOwnedTupleGo_zip (s := { s with heap := h', toks := tk }) z' fun h'' z'' sb => ?_⟩
    have hT2 : h''.get? s.heap.objs.size = some { cls := .type "tuple", data := .seq #[v1, v2] } := (sb.2 _ (Nat.ne_of_gt hzl)).trans hT
    have new : ObjOk X.prog X.w (upd H s.heap.objs.size (.tup [x, y])) h'' s.heap.objs.size (.tup [x, y]) :=
      ⟨by show 2 ≤ sizeLine; decide, [v1, v2], .cons ru (.cons ru2 .nil), ⟨_, hT2, rfl, _, rfl⟩⟩
    have I1 : Inv X pins σ (upd H s.heap.objs.size (.tup [x, y])) { s with heap := h'', toks := tk } :=
      I.turnedNew (t' := tk) (ch := [z, TI, TO, i1, i2]) (fun c o hb q => (sb.2 c (fun q' => hb (by simp [q']))).trans (hk c o (fun q' => hb (by simp [q'])) (fun q' => hb (by simp [q'])) (fun q' => hb (by simp [q'])) (fun q' => hb (by simp [q'])) q)) hf (Nat.le_refl _) new
    refine ⟨.ref s.heap.objs.size, _, I1, rfl, ⟨_, x, y, rfl, I.hok.fresh (Nat.le_refl _), rfl, fun l hl => by rw [I.list_inj hl hqx]; exact hx, fun l hl => by rw [I.tuple_inj hl hqy]; exact hy⟩, ⟨z'', ?_, ⟨v1, v2, ?_⟩, ?_, ?_⟩, fun c hcm => ?_⟩
    · exact (sb.2 _ D.TIz).trans (hk _ _ D.TIz D.TITO D.TIi1 D.TIi2 hTI)
    · exact (sb.2 _ D.TOz).trans TO'
    · exact st1.1.at fun o q => (sb.2 _ D.i1z).trans q
    · exact st2.1.at fun o q => (sb.2 _ D.i2z).trans q
    · have hlt : c < s.heap.objs.size := by
        have e' : c = z ∨ c = TI ∨ c = TO ∨ c = i1 ∨ c = i2 := by simpa using hcm
        rcases e' with q | q | q | q | q
        · rw [q]; exact hzl
        · rw [q]; exact Heap.lt_size hTI
        · rw [q]; exact Heap.lt_size hTO
        · rw [q]; obtain ⟨_, e1, _⟩ := h1; exact Heap.lt_size e1
        · rw [q]; obtain ⟨_, e2, _⟩ := h2; exact Heap.lt_size e2
      rw [upd_ne (Nat.ne_of_lt hlt)]
      exact (hf c hcm).1
  done := by
    intro X hP hw hK hc i pins s σ H E I hf st hg
    subst hP hw hK
    obtain ⟨hz, hTI, ⟨x0, y0, hTO⟩, h1, h2⟩ := st
    obtain ⟨xs, ys, hqx, hqy, le1, le2, hend⟩ := hg
    obtain ⟨its, rv, p, _⟩ := I.list hqx
    obtain ⟨its2, rv2, p2, _⟩ := I.tuple hqy
    have l1 := rv.length
    have l2 := rv2.length
    have D1 := Draws.list (prog := X.prog) (w := X.w) (A := X.A.in1) (by simpa using I.ok.hd hc) i1 a D.ai1 its.toArray
    have D2 := Draws.tuple (prog := X.prog) (w := X.w) (A := X.A.in1) (by simpa using I.ok.hd hc) i2 b D.bi2 its2.toArray
    have s1 : its.toArray.size = its.length := by simp
    have s2 : its2.toArray.size = its2.length := by simp
    refine wpAny_pyNext_zipD2_end D.sep D1 D2 hz hTI hTO ⟨h1, p.isList⟩ ⟨h2, p2⟩ (by omega) (by omega) (by omega) fun h' tk hk => ⟨rfl, I.turnedL (t' := tk) (ch := [z, TI, TO, i1, i2]) (fun c o hb q =>
      hk c o (fun q' => hb (by simp [q'])) (fun q' => hb (by simp [q'])) (fun q' => hb (by simp [q'])) (fun q' => hb (by simp [q'])) q) hf⟩
  self := fun A i s Q E st h => wpAny_pyIter_zip st.1 h
theorem mapart {n a b : Nat} (ha : a < n) (hb : b < n) : MApart (n + 4) (n + 2) (n + 3) n (n + 1) a b := by
  constructor <;> (show @Ne Nat _ _; omega)
/-- zip of two lists, two tuples, a list and a tuple -/
def iZipU (K : PySem.W.Frag) (ta : TA) : TI := fun σ H R => ta σ H fun vs H1 => ∃ a b xs ys, vs = [.ref a, .ref b] ∧ ((SqL K H1 a xs ∧ SqL K H1 b ys ∧ R (Itz K a b) H1) ∨ ((SqT K H1 a xs ∧ SqT K H1 b ys ∧ R (RZ.ItzT K a b) H1) ∨ (SqL K H1 a xs ∧ SqT K H1 b ys ∧ R (ItzM K a b) H1)))
theorem pi_zipU {X : Cx} {e e2 : Expr} {ta : TA} {p pos tpos : Pos} {elts : List Expr} {kk : Nat} (hg : Gl X "zip") (hm : X.mg "zip" = none) (ha : PA X [e, e2] ta)
    (hs : starEach [e, e2] X.env = (false, eval e X.env) :: starEach [e2] X.env := by rfl) (hpl : (backTo pos (starEach [e2] X.env)).any (·.1) = false := by rfl) :
    PI X (.Tuple elts kk tpos) (.Call (.Name "zip" p) [e, e2] [] pos) (iZipU X.K ta) := by
  refine ⟨fun pins s σ H R I h => ?_⟩
  refine Call_ (ld_blt I hg hm PyProof.Rows.boot_zip (PyProof.Rows.callWith_type1 (thn (ha.run pos pins s σ H _ I h) fun us s1 ⟨vs, H1, I1, r1, q1⟩ => ?_) hs hpl))
  obtain ⟨a, b, xs, ys, ex, q1⟩ := q1
  subst ex
  cases r1 with
  | cons r rr =>
    cases rr with
    | cons r' rr =>
      cases rr
      cases r
      cases r'
      have fresh5 : ∀ c, c ∈ [s1.heap.objs.size + 4, s1.heap.objs.size + 2, s1.heap.objs.size + 3, s1.heap.objs.size, s1.heap.objs.size + 1] → FpOk X pins H1 c := fun c hcm => by
        have e' : c = s1.heap.objs.size + 4 ∨ c = s1.heap.objs.size + 2 ∨ c = s1.heap.objs.size + 3 ∨ c = s1.heap.objs.size ∨ c = s1.heap.objs.size + 1 := by simpa using hcm
        have hle : s1.heap.objs.size ≤ c := by omega
        exact I1.fpOk hle (I1.hok.fresh hle)
      rcases q1 with ⟨hqx, hqy, q⟩ | ⟨hqx, hqy, q⟩ | ⟨hqx, hqy, q⟩
      · obtain ⟨its, rv, p1, _⟩ := I1.list hqx
        obtain ⟨its2, rv2, p2, _⟩ := I1.list hqy
        refine call_zip_2 p1.isList p2.isList fun h' hz hTI hTO h1 h2 hsz hk => wpAny_pyIter_zip hz ?_
        have I2 : Inv X pins σ H1 { s1 with heap := h' } := I1.kept (t' := s1.toks) hk
        exact ⟨s1.heap.objs.size + 4, [s1.heap.objs.size + 4, s1.heap.objs.size + 2, s1.heap.objs.size + 3, s1.heap.objs.size, s1.heap.objs.size + 1], _, _, H1, rfl, I2, turn_zip (PySem.W.ktu_apart s1.heap.objs.size a b p1.lt p2.lt), ⟨hz, hTI, ⟨_, _, hTO⟩, h1, h2⟩, fresh5, q⟩
      · obtain ⟨its, rv, p1, _⟩ := I1.tuple hqx
        obtain ⟨its2, rv2, p2, _⟩ := I1.tuple hqy
        obtain ⟨o1, ho1, _⟩ := id p1
        obtain ⟨o2, ho2, _⟩ := id p2
        refine RZ.call_zipT (show s1.heap.IsTuple a its.toArray from p1) (show s1.heap.IsTuple b its2.toArray from p2) fun h' hz hTI hTO h1 h2 hsz hk => wpAny_pyIter_zip hz ?_
        have I2 : Inv X pins σ H1 { s1 with heap := h' } := I1.kept (t' := s1.toks) hk
        exact ⟨s1.heap.objs.size + 4, [s1.heap.objs.size + 4, s1.heap.objs.size + 2, s1.heap.objs.size + 3, s1.heap.objs.size, s1.heap.objs.size + 1], _, _, H1, rfl, I2, RZ.turn_zipT (PySem.W.ktu_apart s1.heap.objs.size a b (Heap.lt_size ho1) (Heap.lt_size ho2)), ⟨hz, hTI, ⟨_, _, hTO⟩, h1, h2⟩, fresh5, q⟩
      · obtain ⟨its, rv, p1, _⟩ := I1.list hqx
        obtain ⟨its2, rv2, p2, _⟩ := I1.tuple hqy
        obtain ⟨o2, ho2, _⟩ := id p2
        refine zip_begins2 (begins_list a its.toArray) (begins_tuple b its2.toArray) p1.isList (show s1.heap.IsTuple b its2.toArray from p2) fun h' hz hTI hTO h1 h2 hsz hk => wpAny_pyIter_zip hz ?_
        have I2 : Inv X pins σ H1 { s1 with heap := h' } := I1.kept (t' := s1.toks) hk
        exact ⟨s1.heap.objs.size + 4, [s1.heap.objs.size + 4, s1.heap.objs.size + 2, s1.heap.objs.size + 3, s1.heap.objs.size, s1.heap.objs.size + 1], _, _, H1, rfl, I2, turn_zipM (mapart p1.lt (Heap.lt_size ho2)), ⟨hz, hTI, ⟨_, _, hTO⟩, ⟨_, h1, rfl, rfl⟩, ⟨_, h2, rfl, rfl⟩⟩, fresh5, q⟩
theorem pi_zipUK {X : Cx} {K : PySem.W.Frag} {e e2 : Expr} {ta : TA} {p pos tpos : Pos} {elts : List Expr} {kk : Nat} (hK : X.K = K) (hg : Gl X "zip") (hm : X.mg "zip" = none) (ha : PA X [e, e2] ta)
    (hs : starEach [e, e2] X.env = (false, eval e X.env) :: starEach [e2] X.env := by rfl) (hpl : (backTo pos (starEach [e2] X.env)).any (·.1) = false := by rfl) :
    PI X (.Tuple elts kk tpos) (.Call (.Name "zip" p) [e, e2] [] pos) (iZipU K ta) := hK ▸ pi_zipU hg hm ha hs hpl
section
variable {K : PySem.W.Frag} {a b : Addr} {xs ys : List V}
theorem walk_zipM {n : Nat} (hn : n = min xs.length ys.length) : Walk (ItzM K a b) n (fun H => SqL K H a xs ∧ SqT K H b ys) (YPair (fun i => xs[i]?) (fun i => ys[i]?)) := by
  refine ⟨fun i H hi h => ?_, fun H h => ?_, fun i H v H' hi h y => ?_⟩
  · have l1 : i < xs.length := by omega
    have l2 : i < ys.length := by omega
    exact ⟨xs, ys, _, _, h.1, h.2, List.getElem?_eq_getElem l1, List.getElem?_eq_getElem l2⟩
  · exact ⟨xs, ys, h.1, h.2, by omega, by omega, by omega⟩
  · obtain ⟨T, x, y, e1, e2, e3, e4, e5⟩ := y
    exact ⟨T, x, y, e1, e2, e3, e4 xs h.1, e5 ys h.2⟩
theorem walk_zipTT {n : Nat} (hn : n = min xs.length ys.length) : Walk (RZ.ItzT K a b) n (fun H => SqT K H a xs ∧ SqT K H b ys) (YPair (fun i => xs[i]?) (fun i => ys[i]?)) := by
  refine ⟨fun i H hi h => ?_, fun H h => ?_, fun i H v H' hi h y => ?_⟩
  · have l1 : i < xs.length := by omega
    have l2 : i < ys.length := by omega
    exact ⟨xs, ys, _, _, h.1, h.2, List.getElem?_eq_getElem l1, List.getElem?_eq_getElem l2⟩
  · exact ⟨xs, ys, h.1, h.2, by omega⟩
  · obtain ⟨T, x, y, e1, e2, e3, e4, e5⟩ := y
    exact ⟨T, x, y, e1, e2, e3, e4 xs h.1, e5 ys h.2⟩
end
section
variable {K : PySem.W.Frag} {σ : L2.St} {H : Hp} {tA : TA} {ds es : List PyData}
theorem two_dt {vs : List V} {d e : PyData} (h : DtAll K H vs [d, e]) : ∃ x y, vs = [x, y] ∧ Dt K H x d ∧ Dt K H y e := by
  cases h with
  | cons d1 d2 =>
    cases d2 with
    | cons d2 d3 =>
      cases d3
      exact ⟨_, _, rfl, d1, d2⟩
theorem ei_zipLL (h : EvDs K tA σ H [.list ds, .list es]) : EvI (iZipU K tA) σ H (min ds.length es.length) (YZ K ds es) := fun H1 e1 R r =>
  h H1 e1 _ fun vs H2 H' e2 e x dv => by
    obtain ⟨v1, v2, rfl, d1, d2⟩ := two_dt dv
    obtain ⟨a, xs, rfl, ha, ra⟩ := d1.lst_eq
    obtain ⟨b, ys, rfl, hb, rb⟩ := d2.lst_eq
    refine ⟨a, b, xs, ys, rfl, .inl ⟨sq_of (e a _ ha), sq_of (e b _ hb), r _ (fun H3 => Ex H' H3) H2 H' e2 e x (fun H3 e3 => e3) ?_⟩⟩
    refine (walk_zip (K := K) (a := a) (b := b) (xs := xs) (ys := ys) (by rw [ra.length, rb.length])).mono (fun H3 e3 => ⟨sq_of (e3 a _ ha), sq_of (e3 b _ hb)⟩) fun i H3 v H4 hi e3 z => ?_
    obtain ⟨T, x, y, h1, h2, h3, h4, h5⟩ := z
    obtain ⟨d, q1, q2⟩ := ra.get' h4
    obtain ⟨d', q3, q4⟩ := rb.get' h5
    exact ⟨T, x, y, d, d', h1, h2, h3, q1, q3, q2, q4⟩
theorem ei_zipTT (h : EvDs K tA σ H [.tuple ds, .tuple es]) : EvI (iZipU K tA) σ H (min ds.length es.length) (YZ K ds es) := fun H1 e1 R r =>
  h H1 e1 _ fun vs H2 H' e2 e x dv => by
    obtain ⟨v1, v2, rfl, d1, d2⟩ := two_dt dv
    obtain ⟨a, xs, rfl, ha, ra⟩ := d1.tup_eq
    obtain ⟨b, ys, rfl, hb, rb⟩ := d2.tup_eq
    refine ⟨a, b, xs, ys, rfl, .inr (.inl ⟨ex_t e ha, ex_t e hb, r _ (fun H3 => Ex H' H3) H2 H' e2 e x (fun H3 e3 => e3) ?_⟩)⟩
    refine (walk_zipTT (K := K) (a := a) (b := b) (xs := xs) (ys := ys) (by rw [ra.length, rb.length])).mono (fun H3 e3 => ⟨ex_t e3 ha, ex_t e3 hb⟩) fun i H3 v H4 hi e3 z => ?_
    obtain ⟨T, x, y, h1, h2, h3, h4, h5⟩ := z
    obtain ⟨d, q1, q2⟩ := ra.get' h4
    obtain ⟨d', q3, q4⟩ := rb.get' h5
    exact ⟨T, x, y, d, d', h1, h2, h3, q1, q3, q2, q4⟩
theorem ei_zipLT (h : EvDs K tA σ H [.list ds, .tuple es]) : EvI (iZipU K tA) σ H (min ds.length es.length) (YZ K ds es) := fun H1 e1 R r =>
  h H1 e1 _ fun vs H2 H' e2 e x dv => by
    obtain ⟨v1, v2, rfl, d1, d2⟩ := two_dt dv
    obtain ⟨a, xs, rfl, ha, ra⟩ := d1.lst_eq
    obtain ⟨b, ys, rfl, hb, rb⟩ := d2.tup_eq
    refine ⟨a, b, xs, ys, rfl, .inr (.inr ⟨sq_of (e a _ ha), ex_t e hb, r _ (fun H3 => Ex H' H3) H2 H' e2 e x (fun H3 e3 => e3) ?_⟩)⟩
    refine (walk_zipM (K := K) (a := a) (b := b) (xs := xs) (ys := ys) (by rw [ra.length, rb.length])).mono (fun H3 e3 => ⟨sq_of (e3 a _ ha), ex_t e3 hb⟩) fun i H3 v H4 hi e3 z => ?_
    obtain ⟨T, x, y, h1, h2, h3, h4, h5⟩ := z
    obtain ⟨d, q1, q2⟩ := ra.get' h4
    obtain ⟨d', q3, q4⟩ := rb.get' h5
    exact ⟨T, x, y, d, d', h1, h2, h3, q1, q3, q2, q4⟩
/-- [e for a, b in zip(..)] -/
theorem ed_lcZ {wi : TI} {te : TE} {i j : Nat} {vs : List Nat} {ss : List SD} (f : PyData → PyData → PyData) (s : Sl K H σ ss) (hw : EvI wi σ H (min ds.length es.length) (YZ K ds es)) (h2 : min ds.length es.length ≤ 50000) (hv : vs = [i, j])
    (he : ∀ (k : Nat) (x y : PyData), ds[k]? = some x → es[k]? = some y → ∀ (σ2 : L2.St) (Hc : Hp), Ex H Hc → Sl K Hc σ2 (((wipeS ss vs).set i (.dat x)).set j (.dat y)) → EvD K te σ2 Hc (f x y)) :
    EvD K (tLc wi (gTup K 2 (gCons (gName i) (gCons (gName j) gNil))) tYes te vs) σ H (.list (List.zipWith f ds es)) := by
  subst hv
  have e0 : (ds.zip es).length = min ds.length es.length := List.length_zip
  refine ed_lc (fun k => ((ds.zip es)[k]?).bind fun p => some (f p.1 p.2)) hw (fun k hk Hi Hb H2 x H3 e0 e1 e2 y => ?_) h2 ?_
  · obtain ⟨Tt, v1, v2, d, e, rfl, hT, rfl, hd, hes, r1, r2⟩ := y
    have hz : (ds.zip es)[k]? = some (d, e) := by
      rw [List.getElem?_zip_eq_some]
      exact ⟨hd, hes⟩
    have sl : Sl K Hb (((L2.wipe σ [i, j]).set i (some v1)).set j (some v2)) (((wipeS ss [i, j]).set i (.dat d)).set j (.dat e)) := Sl.set (s := .dat e) (o := some v2) (Dt.ex e1 r2) j (Sl.set (s := .dat d) (o := some v1) (Dt.ex e1 r1) i (Sl.wipe [i, j] (s.ex (e0.trans e1))))
    refine ⟨Hb, ((L2.wipe σ [i, j]).set i (some v1)).set j (some v2), Ext.refl _ _, e2.trans (Ex.new hT), Ex.new hT, eg_pair (st_of upd_same), wipe2 (σ := σ) (x := v1) (y := v2), true, fun H1 _ Q q => q H1 (Ex.refl _), (fun h => nomatch h), fun _ => ⟨f d e, ?_, he k d e hd hes _ Hb (e0.trans e1) sl⟩⟩
    show ((ds.zip es)[k]?).bind _ = _
    rw [hz]
    rfl
  · rw [← e0, filterMap_range]
    have : List.zipWith f ds es = (ds.zip es).map fun p => f p.1 p.2 := by
      rw [List.zip, List.map_zipWith]
    rw [this]
    exact (congrFun List.filterMap_eq_map' _).symm
end
/-! dicts of the top -/
structure DcT (w : World) (K : PySem.W.Frag) (mg : Str → Option Value) (x : Str) (kvs : List (Str × He.Dv)) : Prop where
  glo : mg x = some (.ref (gaE K x))
  at_ : ∀ q ∈ kvs, KDct K w (gaE K x) q.1 (q.2.v K)
theorem ix_kdK {X : Cx} {K : PySem.W.Frag} {w : World} (hK : X.K = K) (hw : X.w = w) : IxR X (rIxD K w) := hK ▸ hw ▸ ix_kdict
theorem ed_ixK {K : PySem.W.Frag} {w : World} {σ : L2.St} {H : Hp} {te : TE} {a : Addr} {z : Str} {v : V} {d : PyData} (h : EvD K te σ H (.str z)) (hk : KDct K w a z v) (hd : ∀ H, Dt K H v d) : EvD K (tOp (rIxD K w) (tC (.ref a)) te) σ H d := fun H1 e1 Q q =>
  h H1 e1 _ fun y H2 Ha e2 ea xa da => ⟨a, z, v, rfl, da.str_eq, hk, q v H2 Ha e2 ea xa (hd Ha)⟩
/-- text.split(text) -/
theorem ed_split {K : PySem.W.Frag} {σ : L2.St} {H : Hp} {ta tb : TE} {a b : Str} (ha : EvD K ta σ H (.str a)) (hb : EvD K tb σ H (.str b)) (h1 : (b.length == 0) = false) (h2 : a.length ≤ 60000) : EvD K (tM1 (fun x xs H Q => ∃ a b, x = .str a ∧ xs = [.str b] ∧ (b.length == 0) = false ∧ a.length + 2 ≤ sizeLine ∧ rNewStrs (Txt.split a b) H Q) ta tb) σ H (.list ((Txt.split a b).map .str)) := fun H1 e1 Q q =>
  ha H1 e1 _ fun v H2 Ha e2 ea xa da => ⟨⟨a, da.str_eq⟩, (hb.mono xa.ex) H2 ea _ fun v' H3 Hb e3 eb xb db => ⟨a, b, da.str_eq, by rw [db.str_eq], h1, Nat.le_trans (show a.length + 2 ≤ 60002 by omega) (by decide), fun p hp =>
    q _ _ (upd Hb p _) ((e2.trans e3).trans (Ex.new hp)) (ex_upd eb) ((xa.trans e2 xb).trans (e2.trans e3) (Ext.new eb hp)) (.lst upd_same (dp_strs _))⟩⟩
end LR

/-! ### t[::-1] of a tuple; enumerate(list); tuples times a number (own work) -/
namespace LR
open PySem PySem.Spec PyProof.Rows L2 Evl
theorem rev_places (n : Nat) : Builtin.Slice.sliceAdjust none none (-1) (n : Int) = ((n : Int) - 1, -1) ∧ Builtin.Slice.slicePlaces ((n : Int) - 1) (-1) (-1) = n := by
  refine ⟨rfl, ?_⟩
  unfold Builtin.Slice.slicePlaces
  have h1 : ¬ ((-1 : Int) > 0) := by decide
  simp only [h1, if_false]
  have e : (-(-1) : Int) = 1 := by decide
  rw [e]
  split
  · rw [Int.ediv_one]
    omega
  · omega
theorem fm_congr {α β : Type} {f g : α → Option β} : ∀ {l : List α}, (∀ a ∈ l, f a = g a) → l.filterMap f = l.filterMap g
  | [], _ => rfl
  | a :: r, h => by
    rw [List.filterMap_cons, List.filterMap_cons, h a List.mem_cons_self, fm_congr fun x hx => h x (List.mem_cons_of_mem _ hx)]
theorem rev_pick (xs : Array Value) : ((List.range xs.size).filterMap fun (m : Nat) => xs[(((xs.size : Int) - 1) + (m : Int) * (-1)).toNat]?).toArray = xs.toList.reverse.toArray := by
  congr 1
  have h := filterMap_range xs.toList.reverse some
  rw [List.length_reverse, Array.length_toList] at h
  rw [show xs.toList.reverse.filterMap some = xs.toList.reverse by rw [List.filterMap_some]] at h
  rw [← h]
  refine fm_congr fun m hm => ?_
  have hm' := List.mem_range.mp hm
  have hl : m < xs.toList.length := by rw [Array.length_toList]; exact hm'
  rw [List.getElem?_reverse hl, Array.length_toList]
  have e : (((xs.size : Int) - 1) + (m : Int) * (-1)).toNat = xs.size - 1 - m := by omega
  rw [e]
  cases q : xs[xs.size - 1 - m]? with
  | none =>
    have : xs.toList[xs.size - 1 - m]? = none := by rw [Array.getElem?_toList]; exact q
    rw [this]
    rfl
  | some v =>
    have : xs.toList[xs.size - 1 - m]? = some v := by rw [Array.getElem?_toList]; exact q
    rw [this]
    rfl
section
variable {prog : Program} {w : World} {A : Around} {E : Value → Shared → Prop} {s : Shared}
theorem sliceApplied_rev {sl : Addr} {tk : Tok} {n : Nat} {Q : Int × Int × Nat → Shared → Prop} (hs : s.heap.IsSliceOf sl .none .none (.int (-1) tk)) (h : Q ((n : Int) - 1, -1, n) s) : wpAny (model prog w) A (Builtin.Slice.sliceApplied (.ref sl) (pure (n : Int))) Q E s := by
  obtain ⟨os, hos, hcs, hds⟩ := id hs
  unfold Builtin.Slice.sliceApplied Builtin.Slice.sliceFields
  refine wpAny_bind (wpAny_bind (wpAny_field hos hds (x := .none) rfl (wpAny_bind (wpAny_field hos hds (x := .none) rfl (wpAny_bind (wpAny_field hos hds (x := .int (-1) tk) rfl (wpAny_pure ?_)))))))
  refine wpAny_bind (HT.slicePart_ (IsPart.int (-1) tk) ?_)
  show wpAny _ _ (if ((-1 : Int) == 0) = true then _ else _) _ _ s
  rw [if_neg (by decide)]
  refine wpAny_bind (HT.slicePart_ IsPart.none (wpAny_bind (HT.slicePart_ IsPart.none (wpAny_bind (wpAny_pure ?_)))))
  show wpAny _ _ (match Builtin.Slice.sliceAdjust none none (-1) (n : Int) with | (lo, hi) => pure (lo, (-1 : Int), Builtin.Slice.slicePlaces lo hi (-1))) _ _ s
  rw [(rev_places n).1]
  show wpAny _ _ (pure ((n : Int) - 1, (-1 : Int), Builtin.Slice.slicePlaces ((n : Int) - 1) (-1) (-1))) _ _ s
  rw [(rev_places n).2]
  exact wpAny_pure h
theorem getItem_tuple_rev {t sl : Addr} {tk : Tok} {items : Array Value} {Q : Value → Shared → Prop} (ht : IsTup s.heap t items) (hs : s.heap.IsSliceOf sl .none .none (.int (-1) tk))
    (h : Q (.ref s.heap.objs.size) { s with heap := s.heap.push { cls := .type "tuple", data := .seq items.toList.reverse.toArray } })
    (hsz : items.size ≤ sizeLine) : wpAny (model prog w) A (getItem (.ref t) (.ref sl)) Q E s := by
  have htake : sizeOk (.seq items.toList.reverse.toArray) := by
    show items.toList.reverse.toArray.size ≤ sizeLine
    rw [List.size_toArray, List.length_reverse, Array.length_toList]
    exact hsz
  obtain ⟨os, hos, hcs, hds⟩ := id hs
  have hTs : s.TypeIs (.ref sl) "slice" := ⟨os, hos, hcs⟩
  unfold getItem
  try with_reducible refine wpAny_holding ?_
  first | refine wpAny_bind (wpAny_pure ?_) | skip
  refine wpAny_bind (wpAny_sequenceKey ht.typeIs (by decide) ?_)
  refine wpAny_bind (wpAny_callSpecial?_slot (name := Str.ofString "__getitem__") ht.typeIs PyProof.Rows.slot_tuple_getitem
    (wpAny_call_entry PyProof.Rows.slot_tuple_getitem ht.typeIs PyProof.Rows.entry_tuple_getitem ?_ (PyProof.Rows.args_tuple_getitem _ _)))
  show wpAny _ _ (Builtin.Tuple.tupleItemsOf (.ref t) >>= _) _ _ s
  refine wpAny_bind (PyProof.Rows.tupleItemsOf_ ht ?_)
  refine wpAny_bind (wpAny_typeOf hTs ?_)
  rw [if_pos (by decide)]
  refine wpAny_bind (sliceApplied_rev hs ?_)
  have hno : ¬ (((items.size : Int) - 1 == 0 && (-1 : Int) == 1 && items.size == items.size) = true) := by
    intro q
    rw [Bool.and_eq_true, Bool.and_eq_true] at q
    exact absurd q.1.2 (by decide)
  show wpAny _ _ (if ((items.size : Int) - 1 == 0 && (-1 : Int) == 1 && items.size == items.size) = true then _ else _) _ _ s
  rw [if_neg hno, rev_pick]
  first
    | exact wpAny_bind (m := Builtin.Tuple.tupleExact _) (wpAny_newObj_type (wpAny_pure ⟨_, rfl, wpAny_pure h⟩) htake)
    | exact wpAny_bind (m := Builtin.Tuple.tupleExact _) (wpAny_newObj_type (wpAny_bind (wpAny_pure (wpAny_pure ⟨_, rfl, wpAny_pure h⟩))) htake)
    | exact wpAny_bind (wpAny_bind (m := Builtin.Tuple.tupleExact _) (wpAny_newObj_type (wpAny_pure (wpAny_pure ⟨_, rfl, wpAny_pure h⟩)) htake))
    | exact wpAny_bind (wpAny_bind (m := Builtin.Tuple.tupleExact _) (wpAny_newObj_type (wpAny_pure ⟨_, rfl, wpAny_pure h⟩) htake))
end
theorem Vals.reverse {xs : List V} {us : List Value} (r : Vals xs us) : Vals xs.reverse us.reverse := by
  induction r with
  | nil => exact .nil
  | cons a _ ih =>
    rw [List.reverse_cons, List.reverse_cons]
    exact ih.append (.cons a .nil)
def tRev (K : PySem.W.Frag) (te ts : TE) : TE := fun σ H Q => te σ H fun x H1 => ts σ H1 fun y H2 => y = .int (-1) ∧ ∃ a xs, x = .ref a ∧ SqT K H2 a xs ∧ ∀ p, H2 p = none → Q (.ref p) (upd H2 p (.tup xs.reverse))
theorem pe_rev {X : Cx} {K : PySem.W.Frag} {e st : Expr} {te ts : TE} {p2 pos : Pos} (hK : X.K = K) (he : PE X e te) (hst : PE X st ts) : PE X (.Subscript e (.Slice none none (some st) p2) pos) (tRev K te ts) := by
  subst hK
  refine ⟨fun pins s σ H Q I h => ?_⟩
  refine Subscript_ (thn (he.run pins s σ H _ I h) fun v s1 ⟨x, H1, I1, r1, q1⟩ => ?_)
  refine wpAny_Slice ?_
  rw [evalPart_none]
  refine wpAny_pure (wpAny_pure ?_)
  rw [evalPart_some]
  refine thn (hst.run pins s1 σ H1 _ I1 q1) fun vs s3 ⟨y, H3, I3, ry, q3⟩ => ?_
  obtain ⟨rfl, a, xs, rfl, hx, q⟩ := q3
  obtain ⟨tk, rfl⟩ := ry
  have I4 : Inv X pins σ H3 { s3 with heap := s3.heap.push { cls := .type "slice", data := .fields #[.none, .none, .int (-1) tk] } } := I3.kept (t' := s3.toks) fun b ob q => Heap.get?_push_of_some _ q
  cases r1
  obtain ⟨its, r, ht, hz⟩ := I4.tuple hx
  show wpAny (model X.prog X.w) X.A (subscriptTail e (.Slice none none (some st) p2) (.ref a) (.ref s3.heap.objs.size)) (EP X pins σ Q) X.xe { s3 with heap := s3.heap.push { cls := .type "slice", data := .fields #[.none, .none, .int (-1) tk] } }
  refine tail_any (ops := [.ref a, .ref s3.heap.objs.size]) ht.typeIs PyProof.Rows.slot_tuple_getitem.lookup ?_ (by with_unfolding_all rfl)
  have hlen : its.toArray.size = xs.length := by rw [List.size_toArray]; exact r.length.symm
  refine getItem_tuple_rev ht (Heap.IsSliceOf.new ..) ?_ (by rw [hlen]; exact hz)
  refine ⟨.ref _, _, I4.laid (t' := s3.toks) (o := .tup xs.reverse) (fun b ob q => Heap.get?_push_of_some _ q) (Nat.le_refl _) ?_, rfl, q _ (I4.hok.fresh (Nat.le_refl _))⟩
  exact ⟨by rw [List.length_reverse]; exact hz, _, Vals.reverse r, IsTup.new _ _⟩
section
variable {K : PySem.W.Frag} {σ : L2.St} {H : Hp} {te ts : TE}
theorem DtAll.reverse : ∀ {vs : List V} {ds : List PyData}, DtAll K H vs ds → DtAll K H vs.reverse ds.reverse
  | _, _, .nil => .nil
  | _, _, .cons a b => by
    rw [List.reverse_cons, List.reverse_cons]
    exact (DtAll.reverse b).append (.cons a .nil)
theorem ed_rev {ds : List PyData} (h : EvD K te σ H (.tuple ds)) (hs : EvD K ts σ H (.int (-1))) : EvD K (tRev K te ts) σ H (.tuple ds.reverse) := fun H1 e1 Q q =>
  h H1 e1 _ fun v H2 Ha e2 ea xa da => (hs.mono xa.ex) H2 ea _ fun y H3 Hb e3 eb xb db => by
    obtain ⟨a, xs, rfl, ha, ra⟩ := da.tup_eq
    refine ⟨db.int_eq, a, xs, rfl, ex_t (xb.ex.trans eb) ha, fun p hp => ?_⟩
    exact q _ _ (upd Hb p _) ((e2.trans e3).trans (Ex.new hp)) (ex_upd eb) ((xa.trans e2 xb).trans (e2.trans e3) (Ext.new eb hp)) (.tup (st_of upd_same) (DtAll.ex (xb.ex.trans (Ex.new (fresh_back eb hp))) (DtAll.reverse ra)))
end
end LR
namespace LR
open PySem PySem.Spec PyProof.Rows L2 Evl
section
variable {K : PySem.W.Frag} {σ : L2.St} {H : Hp} {te : TE}
/-- enumerate(list) -/
theorem ei_enumL {ds : List PyData} (h : EvD K te σ H (.list ds)) : EvI (iEnum K (tCons te tNil)) σ H (min ((List.range ds.length).map fun i : Nat => PyData.int i).length ds.length) (YZ K ((List.range ds.length).map fun i : Nat => PyData.int i) ds) := fun H1 e1 R r =>
  h H1 e1 _ fun v H2 H' e2 e x dv => by
    obtain ⟨a, xs, rfl, ha, ra⟩ := dv.lst_eq
    refine ⟨a, xs, rfl, sq_of (e a _ ha), r _ (fun H3 => Ex H' H3) H2 H' e2 e x (fun H3 e3 => e3) ?_⟩
    rw [List.length_map, List.length_range, Nat.min_self, ← ra.length]
    refine (walk_enum (K := K) (a := a) (xs := xs)).mono (fun H3 e3 => sq_of (e3 a _ ha)) fun i H3 v H4 hi e3 z => ?_
    obtain ⟨T, x, y, h1, h2, h3, h4, h5⟩ := z
    obtain ⟨d', q3, q4⟩ := ra.get' h5
    cases h4
    refine ⟨T, _, y, .int i, d', h1, h2, h3, ?_, q3, .int _, q4⟩
    rw [List.getElem?_map, List.getElem?_range hi]
    rfl
theorem pi_enumK {X : Cx} {e : Expr} {ta : TA} {p pos tpos : Pos} {elts : List Expr} {kk : Nat} (hK : X.K = K) (hg : Gl X "enumerate") (hm : X.mg "enumerate" = none) (ha : PA X [e] ta) (hs : starEach [e] X.env = [(false, eval e X.env)] := by rfl) :
    PI X (.Tuple elts kk tpos) (.Call (.Name "enumerate" p) [e] [] pos) (iEnum K ta) := hK ▸ pi_enum hg hm ha hs
end
end LR
namespace LR
open PySem PySem.Spec PyProof.Rows L2 Evl
section
variable {K : PySem.W.Frag} {σ : L2.St} {H : Hp} {te : TE}
theorem DtAll.rep {vs : List V} {ds : List PyData} (h : DtAll K H vs ds) : ∀ n : Nat, DtAll K H (List.replicate n vs).flatten (List.replicate n ds).flatten
  | 0 => .nil
  | n + 1 => by
    rw [List.replicate_succ, List.replicate_succ, List.flatten_cons, List.flatten_cons]
    exact h.append (DtAll.rep h n)
/-- t * k -/
theorem rd_mulT {ds : List PyData} {k : Int} (hne : ds ≠ []) (h2 : 2 ≤ k) (h3 : k ≤ 1000) (hl : ds.length ≤ 1000) : RD2 K (rMulU K) (.tuple ds) (.int k) H (.tuple (List.replicate k.toNat ds).flatten) := fun H' x y _ dx dy H1 e1 Q q => by
  obtain ⟨a, xs, rfl, ha, ra⟩ := dx.tup_eq
  refine .inr (.inr (.inr ⟨a, k, xs, rfl, dy.int_eq, ex_t e1 ha, fun z => ?_, h2, h3, by rw [ra.length]; exact hl, fun p hp => ?_⟩))
  · subst z
    cases ra
    exact hne rfl
  · exact q.new e1 hp (.tup (st_of upd_same) (DtAll.ex (Ex.new (fresh_back e1 hp)) (DtAll.rep ra _)))
end
end LR

/-! ### dicts of one's own: text or number to plain values (own work) -/
namespace LR
open PySem PySem.Spec PyProof.Rows L2 Evl
theorem units1 {n : Nat} (h : n + 64 < cLine) : n + 1 < cLine := Nat.lt_of_le_of_lt (Nat.add_le_add_left (by decide) n) h
/-- an object of one's own, as it stands -/
structure OwnO (H10 H H1 : Hp) (l : Addr) (o : HO) : Prop where
  no : H l = none
  old : H10 l = none
  at_ : H1 l = some o
section
variable {K : PySem.W.Frag} {H0 H10 H H1 : Hp} {σ : L2.St} {ss : List SD} {te ty tv : TE} {d : PyData} {D : Ends} {l : Addr} {o : HO}
theorem OwnO.on {H' H2 : Hp} (w : OwnO H10 H H1 l o) (x : Ext H H1 H') (e : Ex H1 H2) : OwnO H10 H' H2 l o := ⟨x.off w.no w.at_, w.old, e l _ w.at_⟩
theorem OwnO.to {o' : HO} (w : OwnO H10 H H1 l o) : OwnO H10 H (upd H1 l o') l o' := ⟨w.no, w.old, upd_same⟩
/-- another object is changed -/
theorem OwnO.past {b : Addr} {o' : HO} (w : OwnO H10 H H1 l o) (h : l ≠ b) : OwnO H10 H (upd H1 b o') l o := ⟨w.no, w.old, by rw [upd_ne h]; exact w.at_⟩
/-- it is not changed any more -/
theorem OwnO.freeze (w : OwnO H10 H H1 l o) (n : Now H0 H10 H H1) (ht : ∀ ps, o ≠ .tbl ps) : Ex H (upd H l o) ∧ Now H0 H10 (upd H l o) H1 := by
  have e1 : Ex H (upd H l o) := Ex.new w.no
  refine ⟨e1, ?_, ⟨n.ext.ex.trans e1, fun b u hb => ?_⟩, n.grow⟩
  · intro b u hb
    by_cases z : b = l
    · subst z
      rw [upd_same] at hb
      cases hb
      exact w.at_
    · rw [upd_ne z] at hb
      exact n.ex b u hb
  · by_cases z : b = l
    · subst z
      rw [upd_same] at hb
      cases hb
      exact .inr ⟨w.old, ht⟩
    · rw [upd_ne z] at hb
      exact n.ext.fresh b u hb
/-- x = {} -/
theorem st_newDk {i : Nat} (n : Now H0 H10 H H1) (s : Sl K H σ ss) (k : ∀ l σ' H2, Ex H1 H2 → H1 l = none → OwnO H10 H H2 l (.dK []) → Now H0 H10 H H2 → Sl K H σ' (ss.set i (.val (.ref l))) → D.nx σ' H2) : tAsg tDNewK (gName i) D σ H1 :=
  fun p hp => k p _ _ (Ex.new hp) hp ⟨fresh_back n.ex hp, fresh_back n.grow hp, upd_same⟩ ⟨n.ex.trans (Ex.new hp), n.ext, n.grow.trans (Ex.new hp)⟩ (s.set (s := .val (.ref p)) (o := some (.ref p)) rfl i)
/-- d[k] = v -/
theorem st_dput {i : Nat} {kvs : List (Key × V)} {k : Key} {kd : PyData} {v : V} (n : Now H0 H10 H H1) (s : Sl K H σ ss) (hi : ss[i]? = some (.val (.ref l))) (w : OwnO H10 H H1 l (.dK kvs)) (hz : kvs.length < 100000) (hy : EvD K ty σ H kd) (hk : ∀ H v, Dt K H v kd → v = kV k) (hv : EvD K tv σ H d) (hd : ∀ H u, Dt K H u d → u = v)
    (q : ∀ H' H2, Ext H H1 H' → OwnO H10 H' H2 l (.dK (putK kvs k v)) → (∀ b u, b ≠ l → H1 b = some u → H2 b = some u) → Now H0 H10 H' H2 → Sl K H' σ ss → D.nx σ H2) : sDPut (tVar i) ty tv D σ H1 :=
  hv H1 n.ex _ fun u H2 Ha e2 ea xa da => ⟨.ref l, s.val hi, (hy.mono xa.ex) H2 ea _ fun y H3 Hb e3 eb xb db => by
    have w3 := (w.on xa e2).on xb e3
    refine ⟨l, _, rfl, .inl ⟨kvs, k, w3.at_, hk _ _ db, sz_lt hz, rfl⟩, ?_⟩
    rw [hd _ _ da]
    exact q Hb _ (xa.trans e2 xb) w3.to (fun b u hb hu => by rw [upd_ne hb]; exact e3 b u (e2 b u hu)) (((n.on e2 ea xa).on e3 eb xb).mut w3.no w3.old) ((s.ex xa.ex).ex xb.ex)⟩
/-- d[k], the dict known -/
theorem ed_dget {i : Nat} {kvs : List (Key × V)} {k : Key} {kd : PyData} {v : V} (s : Sl K H σ ss) (hi : ss[i]? = some (.val (.ref l))) (hl : H l = some (.dK kvs)) (hy : EvD K ty σ H kd) (hk : ∀ H v, Dt K H v kd → v = kV k) (hv : valV kvs k = some v) (hd : ∀ H, Dt K H v d) : EvD K (tDGet (tVar i) ty) σ H d := fun H1 e1 Q q =>
  ⟨.ref l, s.val hi, hy H1 e1 _ fun y H2 Ha e2 ea xa da => by
    refine ⟨l, v, rfl, ?_, q v H2 Ha e2 ea xa (hd Ha)⟩
    rw [hk _ _ da, ← hv]
    exact DGet.k ((e1.trans e2) l _ hl)⟩
theorem key_str {z : Str} : ∀ (H : Hp) (v : V), Dt K H v (.str z) → v = kV (.inr z) := fun _ _ h => h.str_eq
theorem key_int {z : Int} : ∀ (H : Hp) (v : V), Dt K H v (.int z) → v = kV (.inl z) := fun _ _ h => h.int_eq
theorem val_str {z : Str} : ∀ (H : Hp) (v : V), Dt K H v (.str z) → v = .str z := fun _ _ h => h.str_eq
/-- sorted(d) -/
def rSortD : List V → Hp → VK → Prop := fun xs H Q => ∃ (a : Addr) (kvs : List (Key × V)) (ks : List Str), xs = [.ref a] ∧ Rd H a (.dK kvs) ∧ kvs.map (·.1) = ks.map Sum.inr ∧ ks.length < 64 ∧
    ∀ ys p, ys.Perm ks → sortedS ys = true → H p = none → Q (.ref p) (upd H p (.lst (ys.map V.str)))
theorem cr_sortD {X : Cx} (hc : X.calm = true) : CallR X (.builtin "sorted") rSortD := call_sortedD hc
theorem ed_sortD {i : Nat} {kvs : List (Key × V)} {ks : List Str} (s : Sl K H σ ss) (hi : ss[i]? = some (.val (.ref l))) (hl : H l = some (.dK kvs)) (hk : kvs.map (·.1) = ks.map Sum.inr) (nd : ks.Nodup) (hn : ks.length < 64) : EvD K (tCB rSortD (tCons (tVar i) tNil)) σ H (.list ((usort ltS ks).map .str)) := fun H1 e1 Q q =>
  ⟨.ref l, s.val hi, l, kvs, ks, rfl, .inl (e1 l _ hl), hk, hn, fun ys p pm so hp => by
    have e : ys = usort ltS ks := ris_eq tot_ltS (sortedS_ris so (pm.nodup_iff.mpr nd)) (ris_usort tot_ltS ks) fun z => pm.mem_iff.trans (mem_usort tot_ltS).symm
    rw [e]
    exact q _ _ (upd H p _) (Ex.new hp) (ex_upd e1) (Ext.new e1 hp) (.lst upd_same (dp_strs _))⟩
end
/-! a book of texts -/
def bookK (b : List (Str × Str)) : List (Key × V) := b.map fun p => (Sum.inr p.1, V.str p.2)
def putB (b : List (Str × Str)) (k v : Str) : List (Str × Str) := if (b.any fun p => decide (p.1 = k)) = true then b.map (fun p => if p.1 = k then (p.1, v) else p) else b ++ [(k, v)]
theorem book_put (b : List (Str × Str)) (k v : Str) : putK (bookK b) (.inr k) (.str v) = bookK (putB b k v) := by
  have e : ∀ b : List (Str × Str), ((bookK b).any fun kv => decide (kv.1 = Sum.inr k)) = b.any fun p => decide (p.1 = k) := fun b => by
    unfold bookK
    rw [List.any_map]
    congr 1
    funext p
    show decide ((Sum.inr p.1 : Key) = Sum.inr k) = decide (p.1 = k)
    exact decide_eq_decide.mpr ⟨fun h => Sum.inr.inj h, fun h => by rw [h]⟩
  unfold putK putB
  rw [e]
  split
  · unfold bookK
    rw [List.map_map, List.map_map]
    apply List.map_congr_left
    intro p _
    show (if (Sum.inr p.1 : Key) = Sum.inr k then _ else _) = (fun p : Str × Str => ((Sum.inr p.1 : Key), V.str p.2)) (if p.1 = k then (p.1, v) else p)
    by_cases z : p.1 = k
    · rw [if_pos z, if_pos (by rw [z])]
    · rw [if_neg z, if_neg fun h => z (Sum.inr.inj h)]
  · unfold bookK
    rw [List.map_append]
    rfl
theorem book_keys (b : List (Str × Str)) : (bookK b).map (·.1) = (b.map (·.1)).map Sum.inr := by
  unfold bookK
  rw [List.map_map, List.map_map]
  rfl
theorem putB_len (b : List (Str × Str)) (k v : Str) : (putB b k v).length ≤ b.length + 1 := by
  unfold putB
  split
  · rw [List.length_map]; omega
  · rw [List.length_append]; exact Nat.le_refl _
theorem putB_keys (b : List (Str × Str)) (k v : Str) : (putB b k v).map (·.1) = if (b.any fun p => decide (p.1 = k)) = true then b.map (·.1) else b.map (·.1) ++ [k] := by
  unfold putB
  split
  · rw [List.map_map]
    apply List.map_congr_left
    intro p _
    show (if p.1 = k then (p.1, v) else p).1 = p.1
    split <;> rfl
  · rw [List.map_append]
    rfl
theorem putB_nodup {b : List (Str × Str)} {k v : Str} (h : (b.map (·.1)).Nodup) : ((putB b k v).map (·.1)).Nodup := by
  rw [putB_keys]
  split
  · exact h
  · rename_i c
    rw [List.nodup_append]
    refine ⟨h, by simp, fun x hx y hy => ?_⟩
    rw [List.mem_singleton.mp hy]
    intro z
    subst z
    obtain ⟨p, hp, e⟩ := List.mem_map.mp hx
    exact c (List.any_eq_true.mpr ⟨p, hp, decide_eq_true e⟩)
theorem putB_all {q : Str × Str → Prop} {b : List (Str × Str)} {k v : Str} (h : ∀ p ∈ b, q p) (hn : q (k, v)) : ∀ p ∈ putB b k v, q p := by
  intro p hp
  unfold putB at hp
  split at hp
  · obtain ⟨p', hp', e⟩ := List.mem_map.mp hp
    by_cases z : p'.1 = k
    · rw [if_pos z] at e
      rw [← e, z]
      exact hn
    · rw [if_neg z] at e
      rw [← e]
      exact h p' hp'
  · rcases List.mem_append.mp hp with m | m
    · exact h p m
    · rw [List.mem_singleton.mp m]
      exact hn
/-- what stands under a key -/
theorem book_get {b : List (Str × Str)} {k : Str} (h : k ∈ b.map (·.1)) : ∃ v, valV (bookK b) (.inr k) = some (.str v) ∧ (k, v) ∈ b := by
  induction b with
  | nil => cases h
  | cons p r ih =>
    by_cases z : p.1 = k
    · refine ⟨p.2, ?_, ?_⟩
      · show valV (((Sum.inr p.1 : Key), V.str p.2) :: bookK r) (Sum.inr k) = _
        rw [valV_pos (by show (Sum.inr p.1 : Key) = _; rw [z])]
      · rw [← z]
        exact List.mem_cons_self
    · rw [List.map_cons] at h
      rcases List.mem_cons.mp h with e | e
      · exact absurd e.symm z
      · obtain ⟨v, h1, h2⟩ := ih e
        refine ⟨v, ?_, List.mem_cons_of_mem _ h2⟩
        show valV (((Sum.inr p.1 : Key), V.str p.2) :: bookK r) (Sum.inr k) = _
        rw [valV_neg (by show ¬ (Sum.inr p.1 : Key) = _; exact fun h => z (Sum.inr.inj h))]
        exact h1
end LR

namespace LR
open PySem PySem.Spec PySem.W PySem.Calls PyProof.Rows L2
def top (i : Nat) : Stmt := PySem.Challenge.pw_leafroom_k05_whole_leaves_spoilt.main.body.getD i (.Pass ⟨0, 0, 0, 0⟩)
abbrev s_is_key : Stmt := (top 21)
abbrev s_is_value : Stmt := (top 22)
abbrev s_alike : Stmt := (top 23)
abbrev s_check_of : Stmt := (top 33)
abbrev s_sealed : Stmt := (top 34)
abbrev s_unsealed : Stmt := (top 35)
abbrev s_packed : Stmt := (top 36)
abbrev s_are_entries : Stmt := (top 37)
abbrev s_entries_text : Stmt := (top 38)
abbrev s_leaf_text : Stmt := (top 39)
abbrev s_unpacked : Stmt := (top 40)
abbrev s_parts_of : Stmt := (top 41)
abbrev s_entries_in : Stmt := (top 42)
abbrev s_read_leaf : Stmt := (top 43)
abbrev s_is_sound : Stmt := (top 44)
abbrev s_law_pick : Stmt := (top 46)
abbrev s_law_key : Stmt := (top 47)
abbrev s_law_value : Stmt := (top 48)
abbrev s_law_class : Stmt := (top 49)
abbrev s_law_told : Stmt := (top 50)
abbrev s_law_odd : Stmt := (top 51)
abbrev s_law : Stmt := (top 52)
def d_is_key : He.DefD := ⟨("is_key", none), "is_key", "is_key", defArgs s_is_key, defBody s_is_key, defScope s_is_key, [], []⟩
def d_is_value : He.DefD := ⟨("is_value", none), "is_value", "is_value", defArgs s_is_value, defBody s_is_value, defScope s_is_value, [], []⟩
def d_alike : He.DefD := ⟨("alike", none), "alike", "alike", defArgs s_alike, defBody s_alike, defScope s_alike, [], []⟩
def d_check_of : He.DefD := ⟨("check_of", none), "check_of", "check_of", defArgs s_check_of, defBody s_check_of, defScope s_check_of, [], []⟩
def d_sealed : He.DefD := ⟨("sealed", none), "sealed", "sealed", defArgs s_sealed, defBody s_sealed, defScope s_sealed, [], []⟩
def d_unsealed : He.DefD := ⟨("unsealed", none), "unsealed", "unsealed", defArgs s_unsealed, defBody s_unsealed, defScope s_unsealed, [], []⟩
def d_packed : He.DefD := ⟨("packed", none), "packed", "packed", defArgs s_packed, defBody s_packed, defScope s_packed, [], []⟩
def d_are_entries : He.DefD := ⟨("are_entries", none), "are_entries", "are_entries", defArgs s_are_entries, defBody s_are_entries, defScope s_are_entries, [], []⟩
def d_entries_text : He.DefD := ⟨("entries_text", none), "entries_text", "entries_text", defArgs s_entries_text, defBody s_entries_text, defScope s_entries_text, [], []⟩
def d_leaf_text : He.DefD := ⟨("leaf_text", none), "leaf_text", "leaf_text", defArgs s_leaf_text, defBody s_leaf_text, defScope s_leaf_text, [], []⟩
def d_unpacked : He.DefD := ⟨("unpacked", none), "unpacked", "unpacked", defArgs s_unpacked, defBody s_unpacked, defScope s_unpacked, [], []⟩
def d_parts_of : He.DefD := ⟨("parts_of", none), "parts_of", "parts_of", defArgs s_parts_of, defBody s_parts_of, defScope s_parts_of, [], []⟩
def d_entries_in : He.DefD := ⟨("entries_in", none), "entries_in", "entries_in", defArgs s_entries_in, defBody s_entries_in, defScope s_entries_in, [], []⟩
def d_read_leaf : He.DefD := ⟨("read_leaf", none), "read_leaf", "read_leaf", defArgs s_read_leaf, defBody s_read_leaf, defScope s_read_leaf, [], []⟩
def d_is_sound : He.DefD := ⟨("is_sound", none), "is_sound", "is_sound", defArgs s_is_sound, defBody s_is_sound, defScope s_is_sound, [], []⟩
def d_law_pick : He.DefD := ⟨("_law_pick", none), "_law_pick", "_law_pick", defArgs s_law_pick, defBody s_law_pick, defScope s_law_pick, [], []⟩
def d_law_key : He.DefD := ⟨("_law_key", none), "_law_key", "_law_key", defArgs s_law_key, defBody s_law_key, defScope s_law_key, [], []⟩
def d_law_value : He.DefD := ⟨("_law_value", none), "_law_value", "_law_value", defArgs s_law_value, defBody s_law_value, defScope s_law_value, [], []⟩
def d_law_class : He.DefD := ⟨("_law_class", none), "_law_class", "_law_class", defArgs s_law_class, defBody s_law_class, defScope s_law_class, [], []⟩
def d_law_told : He.DefD := ⟨("_law_told", none), "_law_told", "_law_told", defArgs s_law_told, defBody s_law_told, defScope s_law_told, [], []⟩
def d_law_odd : He.DefD := ⟨("_law_odd", none), "_law_odd", "_law_odd", defArgs s_law_odd, defBody s_law_odd, defScope s_law_odd, [], []⟩
def d_law : He.DefD := ⟨("law", none), "law", "law", defArgs s_law, defBody s_law, defScope s_law, [], []⟩
def fn0 : List He.DefD := [d_is_key, d_is_value, d_alike, d_check_of, d_sealed, d_unsealed, d_packed, d_are_entries, d_entries_text, d_leaf_text, d_unpacked, d_parts_of, d_entries_in, d_read_leaf, d_is_sound, d_law_pick, d_law_key, d_law_value, d_law_class, d_law_told, d_law_odd, d_law]
def fn : List He.DefD := fn0
def fa0 : List He.Fa := [.glo "is_key", .glo "is_value", .glo "alike", .glo "check_of", .glo "sealed", .glo "unsealed", .glo "packed", .glo "are_entries", .glo "entries_text", .glo "leaf_text", .glo "unpacked", .glo "parts_of", .glo "entries_in", .glo "read_leaf", .glo "is_sound", .glo "_law_pick", .glo "_law_key", .glo "_law_value", .glo "_law_class", .glo "_law_told", .glo "_law_odd", .glo "law", .free "len", .free "isinstance", .free "str", .free "tuple", .free "all", .free "max", .free "min", .free "sorted"]
def fa1 : List He.Fa := [.free "range", .free "zip", .free "enumerate", .free "ord", .free "ValueError", .str "SMALL" "abcdefghijklmnopqrstuvwxyz", .str "FIGURES" "0123456789", .int "LONGEST_KEY" (10), .int "LONGEST_VALUE" (12), .str "LETTERS" "ABCDEFGHIJK", .str "MARK" "#", .int "MODULE" (9973), .str "LEAF" "leaf", .str "FORK" "fork", .str "ROSE" "rose", .str "HEAD" "head", .glo "SIGNS", .glo "LeafError", .glo "NoKey", .glo "NoValue", .glo "NoNumber", .glo "NoKind", .glo "NoEntries", .glo "NoPiece", .glo "NoWalk", .glo "Open", .glo "NoBatch", .glo "NoMap", .glo "NoChoices", .glo "Fallen"]
def fa2 : List He.Fa := [.glo "NoDeeds", .glo "NoText"]
def fa : List He.Fa := fa0 ++ fa1 ++ fa2
def tf : List He.Defn := [("law", none)]
def ts : List He.Tab := [(fun K => He.ga K "SIGNS", ["leaf", "fork", "rose", "head"])]
def kv_SIGNS : List (Str × He.Dv) := [("leaf", .str "L"), ("fork", .str "F"), ("rose", .str "R"), ("head", .str "H")]
def ex (K : PySem.W.Frag) : Bool := exOk ["NoKey", "NoValue", "NoNumber", "NoKind", "NoEntries", "NoPiece", "NoWalk", "Open", "NoBatch", "NoMap", "NoChoices", "Fallen", "NoDeeds", "NoText"] K && (He.valsB K (He.ga K "SIGNS") kv_SIGNS)
def as0 : List Addr := [3, 24, 23, 37, 36, 49, 48, 61, 60, 73, 72, 85, 84, 97, 96, 109, 108, 121, 120, 133, 132, 145, 144, 157, 156, 169, 168, 181, 180, 193, 192, 200, 199, 205, 204, 212, 211, 213, 220, 219]
def as1 : List Addr := [227, 226, 234, 233, 241, 240, 246, 245, 251, 250, 258, 257, 265, 264, 270, 269, 275, 274, 282, 281, 289, 288, 296, 295, 301, 300, 308, 307, 315, 314, 322, 321, 329, 328, 334, 333]
def as : List Addr := as0 ++ as1
def nms0 : List PySem.Str := ["LeafError", "NoKey", "NoValue", "NoNumber", "NoKind", "NoEntries", "NoPiece", "NoWalk", "Open", "NoBatch", "NoMap", "NoChoices", "Fallen", "NoDeeds", "NoText", "SMALL", "FIGURES", "LONGEST_KEY", "LONGEST_VALUE", "is_key", "is_value", "alike", "LETTERS", "MARK", "MODULE", "LEAF", "FORK", "ROSE", "HEAD", "SIGNS"]
def nms1 : List PySem.Str := ["check_of", "sealed", "unsealed", "packed", "are_entries", "entries_text", "leaf_text", "unpacked", "parts_of", "entries_in", "read_leaf", "is_sound", "_law_pick", "_law_key", "_law_value", "_law_class", "_law_told", "_law_odd"]
def nms : List PySem.Str := nms0 ++ nms1
abbrev R : PySem.W.OpenRow := PySem.W.OpenLaw.row PySem.Challenge.rw_leafroom_k05_whole_leaves_spoilt
abbrev qv : Program := PySem.W.view R.prog [52]
abbrev hk : PySem.W.Hook := hookA as fa fn tf ex ts
def ob (s : PySem.W.SharedT) : ObA := obsA as fa fn tf ex ts (HandSHeadRun.getT s)
theorem ob_eq (s : PySem.W.SharedT) : ob s = hk.obs s.abs := obsA_eq (HandSHeadRun.getT_eq s)
theorem run_looksF (w : World) (os : OsState) : (HandSHeadRun.endF (HandSHeadRun.stepQ (HandSHeadRun.denQ HandSHeadRun.tabQ) R.prog (w.withFollow "special-get-raises" false)) 20000 R.prog (w.withFollow "special-get-raises" false) os).map (fun s => HandSHeadRun.looksF R.prog (boot_heap (w.withFollow "special-get-raises" false).params) s.abs) = some (true) := by
  kernel_rfl
theorem run_seenF (w : World) (os : OsState) : (HandSHeadRun.endF (HandSHeadRun.stepQ (HandSHeadRun.denQ HandSHeadRun.tabQ) R.prog (w.withFollow "special-get-raises" false)) 20000 R.prog (w.withFollow "special-get-raises" false) os).map (fun s => HandSHeadRun.seenQ qv nms (importedModules R.prog.main.body) (fun s => PySem.W.xlAt qv [] s && PySem.W.recOk R.toRowW.records s) s.abs) = some (PySem.W.openGood qv nms) := by
  kernel_rfl
theorem run_okAF (w : World) (os : OsState) : (HandSHeadRun.endF (HandSHeadRun.stepQ (HandSHeadRun.denQ HandSHeadRun.tabQ) R.prog (w.withFollow "special-get-raises" false)) 20000 R.prog (w.withFollow "special-get-raises" false) os).map (fun s => okA as fa (HandSHeadRun.getT s)) = some (true) := by
  kernel_rfl
theorem run_okDF (w : World) (os : OsState) : (HandSHeadRun.endF (HandSHeadRun.stepQ (HandSHeadRun.denQ HandSHeadRun.tabQ) R.prog (w.withFollow "special-get-raises" false)) 20000 R.prog (w.withFollow "special-get-raises" false) os).map (fun s => okD as fn (HandSHeadRun.getT s)) = some (true) := by
  kernel_rfl
theorem run_fnAF (w : World) (os : OsState) : (HandSHeadRun.endF (HandSHeadRun.stepQ (HandSHeadRun.denQ HandSHeadRun.tabQ) R.prog (w.withFollow "special-get-raises" false)) 20000 R.prog (w.withFollow "special-get-raises" false) os).map (fun s => fnA as fn (HandSHeadRun.getT s)) = some (fn.map He.DefD.val) := by
  kernel_rfl
theorem run_exF (w : World) (os : OsState) : (HandSHeadRun.endF (HandSHeadRun.stepQ (HandSHeadRun.denQ HandSHeadRun.tabQ) R.prog (w.withFollow "special-get-raises" false)) 20000 R.prog (w.withFollow "special-get-raises" false) os).map (fun s => ex (He.frG (HandSHeadRun.getT s) as) && tabA as tf (HandSHeadRun.getT s)) = some (true) := by
  kernel_rfl
theorem run_dicF (w : World) (os : OsState) : (HandSHeadRun.endF (HandSHeadRun.stepQ (HandSHeadRun.denQ HandSHeadRun.tabQ) R.prog (w.withFollow "special-get-raises" false)) 20000 R.prog (w.withFollow "special-get-raises" false) os).map (fun s => dicA as ts (HandSHeadRun.getT s)) = some (ts.map fun t => some (He.keysIn (w.withFollow "special-get-raises" false).params t.2)) := by
  kernel_rfl
theorem runF (w : World) : HandSHeadRun.RunEq R qv hk ob 20000 nms (w.withFollow "special-get-raises" false) := fun os => map_pair (run_looksF w os) (map_pair (run_seenF w os) (map_pair (run_okAF w os) (map_pair (run_okDF w os) (map_pair (run_fnAF w os) (map_pair (run_exF w os) (run_dicF w os))))))
theorem run_looksT (w : World) (os : OsState) : (HandSHeadRun.endF (HandSHeadRun.stepQ (HandSHeadRun.denQ HandSHeadRun.tabQ) R.prog (w.withFollow "special-get-raises" true)) 20000 R.prog (w.withFollow "special-get-raises" true) os).map (fun s => HandSHeadRun.looksF R.prog (boot_heap (w.withFollow "special-get-raises" true).params) s.abs) = some (true) := by
  kernel_rfl
theorem run_seenT (w : World) (os : OsState) : (HandSHeadRun.endF (HandSHeadRun.stepQ (HandSHeadRun.denQ HandSHeadRun.tabQ) R.prog (w.withFollow "special-get-raises" true)) 20000 R.prog (w.withFollow "special-get-raises" true) os).map (fun s => HandSHeadRun.seenQ qv nms (importedModules R.prog.main.body) (fun s => PySem.W.xlAt qv [] s && PySem.W.recOk R.toRowW.records s) s.abs) = some (PySem.W.openGood qv nms) := by
  kernel_rfl
theorem run_okAT (w : World) (os : OsState) : (HandSHeadRun.endF (HandSHeadRun.stepQ (HandSHeadRun.denQ HandSHeadRun.tabQ) R.prog (w.withFollow "special-get-raises" true)) 20000 R.prog (w.withFollow "special-get-raises" true) os).map (fun s => okA as fa (HandSHeadRun.getT s)) = some (true) := by
  kernel_rfl
theorem run_okDT (w : World) (os : OsState) : (HandSHeadRun.endF (HandSHeadRun.stepQ (HandSHeadRun.denQ HandSHeadRun.tabQ) R.prog (w.withFollow "special-get-raises" true)) 20000 R.prog (w.withFollow "special-get-raises" true) os).map (fun s => okD as fn (HandSHeadRun.getT s)) = some (true) := by
  kernel_rfl
theorem run_fnAT (w : World) (os : OsState) : (HandSHeadRun.endF (HandSHeadRun.stepQ (HandSHeadRun.denQ HandSHeadRun.tabQ) R.prog (w.withFollow "special-get-raises" true)) 20000 R.prog (w.withFollow "special-get-raises" true) os).map (fun s => fnA as fn (HandSHeadRun.getT s)) = some (fn.map He.DefD.val) := by
  kernel_rfl
theorem run_exT (w : World) (os : OsState) : (HandSHeadRun.endF (HandSHeadRun.stepQ (HandSHeadRun.denQ HandSHeadRun.tabQ) R.prog (w.withFollow "special-get-raises" true)) 20000 R.prog (w.withFollow "special-get-raises" true) os).map (fun s => ex (He.frG (HandSHeadRun.getT s) as) && tabA as tf (HandSHeadRun.getT s)) = some (true) := by
  kernel_rfl
theorem run_dicT (w : World) (os : OsState) : (HandSHeadRun.endF (HandSHeadRun.stepQ (HandSHeadRun.denQ HandSHeadRun.tabQ) R.prog (w.withFollow "special-get-raises" true)) 20000 R.prog (w.withFollow "special-get-raises" true) os).map (fun s => dicA as ts (HandSHeadRun.getT s)) = some (ts.map fun t => some (He.keysIn (w.withFollow "special-get-raises" true).params t.2)) := by
  kernel_rfl
theorem runT (w : World) : HandSHeadRun.RunEq R qv hk ob 20000 nms (w.withFollow "special-get-raises" true) := fun os => map_pair (run_looksT w os) (map_pair (run_seenT w os) (map_pair (run_okAT w os) (map_pair (run_okDT w os) (map_pair (run_fnAT w os) (map_pair (run_exT w os) (run_dicT w os))))))
theorem run (w : World) : HandSHeadRun.RunEq R qv hk ob 20000 nms w := PySem.W.byRow2 "special-get-raises" runF runT w
end LR
namespace LR
open PySem PySem.Spec PyProof.Rows L2 Evl
/-- what the walk asks of the module's names -/
structure Txt (mg : Str → Option Value) : Prop where
  m_len : mg "len" = none
  m_isinstance : mg "isinstance" = none
  m_str : mg "str" = none
  m_tuple : mg "tuple" = none
  m_all : mg "all" = none
  m_max : mg "max" = none
  m_min : mg "min" = none
  m_sorted : mg "sorted" = none
  m_range : mg "range" = none
  m_zip : mg "zip" = none
  m_enumerate : mg "enumerate" = none
  m_ord : mg "ord" = none
  m_ValueError : mg "ValueError" = none
  c_SMALL : ∃ u, mg "SMALL" = some u ∧ RelV (.str (Str.ofString "abcdefghijklmnopqrstuvwxyz")) u
  c_FIGURES : ∃ u, mg "FIGURES" = some u ∧ RelV (.str (Str.ofString "0123456789")) u
  c_LONGEST_KEY : ∃ u, mg "LONGEST_KEY" = some u ∧ RelV (.int 10) u
  c_LONGEST_VALUE : ∃ u, mg "LONGEST_VALUE" = some u ∧ RelV (.int 12) u
  c_LETTERS : ∃ u, mg "LETTERS" = some u ∧ RelV (.str (Str.ofString "ABCDEFGHIJK")) u
  c_MARK : ∃ u, mg "MARK" = some u ∧ RelV (.str (Str.ofString "#")) u
  c_MODULE : ∃ u, mg "MODULE" = some u ∧ RelV (.int 9973) u
  c_LEAF : ∃ u, mg "LEAF" = some u ∧ RelV (.str (Str.ofString "leaf")) u
  c_FORK : ∃ u, mg "FORK" = some u ∧ RelV (.str (Str.ofString "fork")) u
  c_ROSE : ∃ u, mg "ROSE" = some u ∧ RelV (.str (Str.ofString "rose")) u
  c_HEAD : ∃ u, mg "HEAD" = some u ∧ RelV (.str (Str.ofString "head")) u
abbrev exNs : List Str := ["NoKey", "NoValue", "NoNumber", "NoKind", "NoEntries", "NoPiece", "NoWalk", "Open", "NoBatch", "NoMap", "NoChoices", "Fallen", "NoDeeds", "NoText"]
end LR
/-! ### signs: is_key, is_value -/
namespace LR
open PySem PySem.Spec PyProof.Rows L2 Evl
def strD : PyData → Bool
  | .str _ => true
  | _ => false
theorem kit_str (d : PyData) : kitB (tyD d) "str" = some (strD d) := by
  cases d with
  | none => exact (by decide +kernel : kitB "NoneType" "str" = some false)
  | bool _ => exact (by decide +kernel : kitB "bool" "str" = some false)
  | int _ => exact (by decide +kernel : kitB "int" "str" = some false)
  | str _ => exact (by decide +kernel : kitB "str" "str" = some true)
  | list _ => exact (by decide +kernel : kitB "list" "str" = some false)
  | tuple _ => exact (by decide +kernel : kitB "tuple" "str" = some false)
  | dict _ => exact (by decide +kernel : kitB "list" "str" = some false)
def RisKey (ds : List PyData) (r : PyData) : Prop := ∃ d, ds = [d] ∧ lenOk d ∧ r = .bool (isKeyD d)
def RisVal (ds : List PyData) (r : PyData) : Prop := ∃ d, ds = [d] ∧ lenOk d ∧ r = .bool (isValD d)
theorem all_map_id (l : List Nat) (f : Nat → Bool) : (l.map f).all id = l.all f := by simp
theorem cps_get {z : Str} {i : Nat} {c : Nat} (h : z.cps[i]? = some c) : z.cps.toList[i]? = some c := by simpa using h
theorem small_len {z : Str} (h : z.length ≤ 50000) : z.length ≤ sizeLine := Nat.le_trans h (by decide)
section
variable {P : Program} {w : World} {K : PySem.W.Frag} {mg : Str → Option Value} {base : Heap} {f : Addr} {fd : FuncData}
/-- [c in .. for c in text] -/
theorem ed_signs {σ : L2.St} {H : Hp} {ti te : TE} {z : Str} {j : Nat} {ss : List SD} {vs : List Nat} (p : Nat → Bool) (hz : z.length ≤ 50000) (s : Sl K H σ ss) (hi : EvD K ti σ H (.str z)) (hv : vs = [j])
    (he : ∀ (σ2 : L2.St) (Hc : Hp) (c : Nat), Ex H Hc → Sl K Hc σ2 ((wipeS ss vs).set j (.dat (.str ⟨#[c]⟩))) → EvD K te σ2 Hc (.bool (p c))) :
    EvD K (tLc (iU K ti) (gName j) tYes te vs) σ H (.list ((z.cps.toList.map p).map .bool)) := by
  subst hv
  refine ed_lc (fun i => (z.cps.toList[i]?).bind fun c => some (.bool (p c))) (eiU_str hi) (fun i hi Hi Hb H2 x H3 e0 e1' e2 y => ?_) (by show z.cps.size ≤ 50000; exact hz) ?_
  · have e1 := e0.trans e1'
    obtain ⟨rfl, c, hc, rfl⟩ := y
    refine ⟨Hb, _, Ext.refl _ _, e2, Ex.refl _, eg_name, ?_, true, fun H1 _ Q q => q H1 (Ex.refl _), (fun h => nomatch h), fun _ => ⟨.bool (p c), ?_, ?_⟩⟩
    · show ((L2.wipe σ []).set j none |>.set j _).set j none = (L2.wipe σ []).set j none
      simp
    · rw [cps_get hc]
      rfl
    · exact he _ Hb c e1 (((s.ex e1).wipe [j]).set (s := .dat (.str ⟨#[c]⟩)) (o := some (.str ⟨#[c]⟩)) (.str _) j)
  · have e : z.cps.size = z.cps.toList.length := by simp
    rw [e, filterMap_range, List.map_map]
    clear e hi he hz
    induction z.cps.toList with
    | nil => rfl
    | cons c r ih => rw [List.filterMap_cons, List.map_cons, ← ih]; rfl
theorem sc_is_key : FnScope ["thing", "sign"] ["thing"] (defScope s_is_key) := ⟨rfl, rfl, rfl, by decide +kernel, rfl, by decide +kernel, by decide +kernel⟩
theorem fx_is_key (T : Txt mg) (F : FunD K "is_key" "is_key" (defArgs s_is_key) (defBody s_is_key) (defScope s_is_key) [] [] f fd) (hm : mg "is_key" = some (.ref f)) : Fx P w K mg base 1 "is_key" ["thing"] (spR K 1 RisKey) := by
  refine fx_pure F hm sc_is_key rfl (fun _ _ _ _ _ _ us hl => match us, hl with | [_], _ => rfl) fun cdv A outer s Hs E hr ds r hl hR => ?_
  refine ⟨_, (pss_one (ps_ret (pe_and (pe_callB (call_isK (K := K) rfl) (by rfl) T.m_isinstance (by decide +kernel) (pa_cons (pv 0) (pa_cons (pe_bltn (v := .ty "str") (by rfl) T.m_str (by decide +kernel) rfl) pa_nil))) (pe_and (pe_chain op_le op_le pe_int (pe_callB (call_lenK (K := K) rfl) (by rfl) T.m_len (by decide +kernel) (pa_cons (pv 0) pa_nil)) (C8.pe_gc (by rfl) T.c_LONGEST_KEY)) (pe_one (pe_callB (cr_allK (K := K) rfl rfl) (by rfl) T.m_all (by decide +kernel) (pa_cons (pe_lc (own := [("sign", 1)]) rfl sc_is_key.nd (pi_K (K := K) rfl (pv 0)) (blkOk_by (N := ["thing", "sign"]) (sc := defScope s_is_key) (by decide +kernel)) (fun _ _ _ _ _ => (pg_name (i := 1) sc_is_key.nd rfl (by first | exact Or.inl rfl | exact Or.inr rfl))) (fun _ _ _ _ _ => pts_nil) (fun _ _ _ _ _ => (pe_cmpR op_in_sign (pv 1) (C8.pe_gc (by rfl) T.c_SMALL) (by rfl)))) pa_nil))))))), ?_⟩
  obtain ⟨d, rfl, hd, rfl⟩ := hR
  intro σ H0 H10 Q n s q
  refine st_ret (d := .bool (isKeyD d)) n ?_ q
  refine ed_is (ed_and (b := isKeyD d) (ed_isi (ed_sl s rfl) (kit_str d)) fun h => ?_) ?_
  · cases d with
    | str z =>
      have hz : z.length ≤ 50000 := hd
      refine ed_is (ed_and (b := z.cps.toList.all fun c => decide (c ∈ smallS.cps.toList)) (ed_chain (a := decide ((1 : Int) ≤ z.length)) (b := decide ((z.length : Int) ≤ 10)) (ed_c (.int 1)) (ed_lenS (ed_sl s rfl) (small_len hz)) rd_IB (fun _ => ed_c (.int 10)) fun _ => rd_IB) fun _ => ?_) ?_
      · have z1 := ed_signs (K := K) (H := H0) (ti := tVar 0) (te := tOp rInS (tVar 1) (tC (.str smallS))) (vs := [1]) (fun c => decide (c ∈ smallS.cps.toList)) hz s (ed_sl s rfl) rfl (fun σ2 Hc c e1 s2 => ed_op (ed_sl s2 rfl) (ed_c (.str _)) rd_inS)
        refine ed_is (ed_all z1) ?_
        rw [all_map_id]
      · show PyData.bool _ = PyData.bool _
        unfold isKeyD isKeyS
        congr 1
        have e1 : decide ((1 : Int) ≤ (z.length : Int)) = decide (1 ≤ z.length) := decide_eq_decide.mpr (by omega)
        have e2 : decide ((z.length : Int) ≤ 10) = decide (z.length ≤ 10) := decide_eq_decide.mpr (by omega)
        rw [e1, e2]
    | _ => cases h
  · cases d with
    | str z => rfl
    | _ => rfl
end
end LR

/-! ### is_value -/
namespace LR
open PySem PySem.Spec PyProof.Rows L2 Evl
section
variable {P : Program} {w : World} {K : PySem.W.Frag} {mg : Str → Option Value} {base : Heap} {f : Addr} {fd : FuncData}
theorem sc_is_value : FnScope ["thing", "sign"] ["thing"] (defScope s_is_value) := ⟨rfl, rfl, rfl, by decide +kernel, rfl, by decide +kernel, by decide +kernel⟩
theorem fx_is_value (T : Txt mg) (F : FunD K "is_value" "is_value" (defArgs s_is_value) (defBody s_is_value) (defScope s_is_value) [] [] f fd) (hm : mg "is_value" = some (.ref f)) : Fx P w K mg base 1 "is_value" ["thing"] (spR K 1 RisVal) := by
  refine fx_pure F hm sc_is_value rfl (fun _ _ _ _ _ _ us hl => match us, hl with | [_], _ => rfl) fun cdv A outer s Hs E hr ds r hl hR => ?_
  refine ⟨_, (pss_cons (ps_if (PW.pt (pw_or (pt_not (pt_val (pe_callB (call_isK (K := K) rfl) (by rfl) T.m_isinstance (by decide +kernel) (pa_cons (pv 0) (pa_cons (pe_bltn (v := .ty "str") (by rfl) T.m_str (by decide +kernel) rfl) pa_nil))))) (pw_or1 (pt_cmpR op_gt (pe_callB (call_lenK (K := K) rfl) (by rfl) T.m_len (by decide +kernel) (pa_cons (pv 0) pa_nil)) (C8.pe_gc (by rfl) T.c_LONGEST_VALUE) (nomark _))))) (pss_one (ps_ret pe_bl)) pss_nil) (pss_one (ps_ret (pe_callB (cr_allK (K := K) rfl rfl) (by rfl) T.m_all (by decide +kernel) (pa_cons (pe_lc (own := [("sign", 1)]) rfl sc_is_value.nd (pi_K (K := K) rfl (pv 0)) (blkOk_by (N := ["thing", "sign"]) (sc := defScope s_is_value) (by decide +kernel)) (fun _ _ _ _ _ => (pg_name (i := 1) sc_is_value.nd rfl (by first | exact Or.inl rfl | exact Or.inr rfl))) (fun _ _ _ _ _ => pts_nil) (fun _ _ _ _ _ => (pe_cmpR op_in_sign (pv 1) (pe_op (op_addK (K := K) rfl) (C8.pe_gc (by rfl) T.c_SMALL) (C8.pe_gc (by rfl) T.c_FIGURES)) (by rfl)))) pa_nil))))), ?_⟩
  obtain ⟨d, rfl, hd, rfl⟩ := hR
  intro σ H0 H10 Q n s q
  have key : ∀ z, d = .str z → EvD K (tCB (lenR K) (tCons (tVar 0) tNil)) σ H0 (.int z.length) := fun z e => by
    subst e
    exact ed_lenS (ed_sl s rfl) (small_len hd)
  cases d with
  | str z =>
    have hz : z.length ≤ 50000 := hd
    refine st_if n (eb_or (b := decide (12 < z.length)) (eb_not (eb_B (ed_isi (ed_sl s rfl) (kit_str _)))) fun _ => ?_) (fun h H2 n2 => ?_) (fun h H2 n2 => ?_)
    · refine eb_is (eb_test (ed_op (key z rfl) (ed_c (.int 12)) rd_IB)) ?_
      exact decide_eq_decide.mpr (by omega)
    · refine st_ret (K := K) (d := .bool false) n2 (ed_c (.bl false)) ?_
      have e : isValD (.str z) = false := by
        have h2 : 12 < z.length := by simpa [strD] using h
        show isValS z = false
        unfold isValS
        rw [decide_eq_false (show ¬ z.length ≤ 12 by omega)]
        rfl
      rw [e] at q
      exact q
    · have h2 : ¬ 12 < z.length := by simpa [strD] using h
      have z1 := ed_signs (K := K) (H := H0) (ti := tVar 0) (te := tOp rInS (tVar 1) (tOp (rAddU K) (tC (.str smallS)) (tC (.str figS)))) (vs := [1]) (fun c => decide (c ∈ (smallS ++ figS).cps.toList)) hz s (ed_sl s rfl) rfl (fun σ2 Hc c e1 s2 => ed_op (ed_sl s2 rfl) (ed_op (ed_c (.str _)) (ed_c (.str _)) (rd_addS (by decide))) rd_inS)
      refine st_ret n2 (ed_is (ed_all z1) ?_) q
      rw [all_map_id]
      show _ = PyData.bool (isValS z)
      unfold isValS
      rw [decide_eq_true (show z.length ≤ 12 by omega), Bool.true_and]
  | _ =>
    refine st_if n (eb_or (b := false) (eb_not (eb_B (ed_isi (ed_sl s rfl) (kit_str _)))) fun h => nomatch h) (fun h H2 n2 => ?_) (fun h H2 n2 => nomatch h)
    exact st_ret n2 (ed_c (.bl false)) q
end
end LR

/-! ### the law's draws -/
namespace LR
open PySem PySem.Spec PyProof.Rows L2 Evl
/-- the while of _law_pick -/
def pickLoop : Nat → Int → Int × Int
  | 0, r => (r, 0)
  | t + 1, r => if 0 < r then pickLoop t (r / 840) else (r, (t : Int) + 1)
def pickCell (ns : List Int) (k : Int) : Int := if ns.isEmpty then 0 else ns.getD (k % ns.length).toNat 0
def pickRest (ns : List Int) (k : Int) : Int := (pickLoop (k / (if 1 > (ns.length : Int) then 1 else (ns.length : Int))).toNat (pickCell ns k / 10 ^ 18)).1
def pickDrawn (ns : List Int) (k : Int) : Int := (pickCell ns k * 31 + 6151 * (k + 1)) * 40692 % 2147483399
/-- what _law_pick draws -/
def pick (ns : List Int) (k many : Int) : Int := if 0 < pickRest ns k then pickRest ns k % 840 % many else (pickDrawn ns k * pickDrawn ns k + pickDrawn ns k / 31) % 2147483629 % many
theorem pick_lo (ns : List Int) (k : Int) {many : Int} (h : 0 < many) : 0 ≤ pick ns k many := by
  unfold pick
  split
  · exact Int.emod_nonneg _ (by omega)
  · exact Int.emod_nonneg _ (by omega)
theorem pick_hi (ns : List Int) (k : Int) {many : Int} (h : 0 < many) : pick ns k many < many := by
  unfold pick
  split
  · exact Int.emod_lt_of_pos _ h
  · exact Int.emod_lt_of_pos _ h
theorem pickLoop_snd : ∀ (t : Nat) (r : Int), 0 ≤ (pickLoop t r).2 ∧ (0 < (pickLoop t r).1 → (pickLoop t r).2 = 0)
  | 0, r => ⟨Int.le_refl _, fun _ => rfl⟩
  | t + 1, r => by
    unfold pickLoop
    split
    · exact pickLoop_snd t _
    · exact ⟨by show (0 : Int) ≤ (t : Int) + 1; omega, fun h => absurd h (by assumption)⟩
def Rpick (ds : List PyData) (r : PyData) : Prop := ∃ (ns : List Int) (k many : Int), ds = [scrD ns, .int k, .int many] ∧ ns.length ≤ 63 ∧ 0 ≤ k ∧ k ≤ 1000000 ∧ 0 < many ∧ r = .int (pick ns k many)
theorem max2 (a b : Int) : (if b > a then b else a) = if b > a then b else a := rfl
theorem CMul_r {i j : Int} (h1 : -(2 ^ 64) < j) (h2 : j < 2 ^ 64) : CMul i j := .inr ⟨h1, h2⟩
theorem CMul_l {i j : Int} (h1 : -(2 ^ 64) < i) (h2 : i < 2 ^ 64) : CMul i j := .inl ⟨h1, h2⟩
section
variable {K : PySem.W.Frag} {σ : L2.St} {H H0 H10 H1 : Hp} {ta tb : TE} {ss : List SD} {D : Ends}
/-- a, b = x, y -/
theorem st_par {i j : Nat} {d e : PyData} {tA : TA} (n : Now H0 H10 H H1) (s : Sl K H σ ss) (h : EvDs K tA σ H [d, e]) (k : ∀ σ' H' H2, Ex H H' → Now H0 H10 H' H2 → Sl K H' σ' ((ss.set i (.dat d)).set j (.dat e)) → D.nx σ' H2) : tPar i j tA D σ H1 :=
  h H1 n.ex _ fun vs H2 H' e2 ex x dv => by
    cases dv with
    | cons a b =>
      cases b with
      | cons b c =>
        cases c
        exact ⟨_, _, rfl, k _ H' H2 x.ex (n.on e2 ex x) (((s.ex x.ex).set (s := .dat d) (o := some _) a i).set (s := .dat e) (o := some _) b j)⟩
theorem ed_max2 {a b : Int} {tA : TA} (h : EvDs K tA σ H [.int a, .int b]) : EvD K (tCB (fun xs H Q => ∃ i j, xs = [.int i, .int j] ∧ Q (.int (if j > i then j else i)) H) tA) σ H (.int (if b > a then b else a)) :=
  ed_cb h fun H' vs e dv H1 e1 Q q => by
    cases dv with
    | cons x y =>
      cases y with
      | cons y z =>
        cases z
        rw [x.int_eq, y.int_eq]
        exact ⟨a, b, rfl, q.val e1 fun _ => .int _⟩
end
section
variable {P : Program} {w : World} {K : PySem.W.Frag} {mg : Str → Option Value} {base : Heap} {f : Addr} {fd : FuncData}
theorem sc_law_pick : FnScope ["script", "k", "many", "cell", "drawn", "rest", "turn"] ["script", "k", "many"] (defScope s_law_pick) := ⟨rfl, rfl, rfl, by decide +kernel, rfl, by decide +kernel, by decide +kernel⟩
theorem fx_law_pick (T : Txt mg) (F : FunD K "_law_pick" "_law_pick" (defArgs s_law_pick) (defBody s_law_pick) (defScope s_law_pick) [] [] f fd) (hm : mg "_law_pick" = some (.ref f)) : Fx P w K mg base 1 "_law_pick" ["script", "k", "many"] (spR K 3 Rpick) := by
  refine fx_pure F hm sc_law_pick rfl (fun _ _ _ _ _ _ us hl => match us, hl with | [_, _, _], _ => rfl) fun cdv A outer s Hs E hr ds r hl hR => ?_
  refine ⟨_, (pss_cons (ps_set (i := 3) sc_law_pick.nd rfl (by first | exact Or.inl rfl | exact Or.inr rfl) (pe_ifExp (pt_cmpR (op_neK (K := K) rfl hr.units) (pv 0) (pe_lst pa_nil) (nomark _)) (pe_ix (ix_K (K := K) rfl) (pv 0) (pe_op op_mod (pv 1) (pe_callB (call_lenK (K := K) rfl) (by rfl) T.m_len (by decide +kernel) (pa_cons (pv 0) pa_nil))) (fun _ _ => rfl)) pe_int)) (pss_cons (ps_par (by rfl) sc_law_pick.nd (i := 5) (j := 6) rfl rfl (by decide) rfl rfl (pa_cons (pe_op op_fdivW (pv 3) (pe_op op_pow pe_int pe_int)) (pa_cons (pe_op op_fdivW (pv 1) (pe_callB (call_max2 rfl) (by rfl) T.m_max (by decide +kernel) (pa_cons (pe_callB (call_lenK (K := K) rfl) (by rfl) T.m_len (by decide +kernel) (pa_cons (pv 0) pa_nil)) (pa_cons pe_int pa_nil)))) pa_nil)) (by rfl)) (pss_cons (ps_while PassesOwn.never (PW.pt (pw_and (pt_cmpR op_gt (pv 5) pe_int (nomark _)) (pw_and1 (pt_cmpR op_gt (pv 6) pe_int (nomark _))))) (pss_one (ps_par (by rfl) sc_law_pick.nd (i := 5) (j := 6) rfl rfl (by decide) rfl rfl (pa_cons (pe_op op_fdivW (pv 5) pe_int) (pa_cons (pe_op op_sub (pv 6) pe_int) pa_nil)) (by rfl)))) (pss_cons (ps_if (pt_cmpR op_gt (pv 5) pe_int (nomark _)) (pss_one (ps_ret (pe_op op_mod (pe_op op_mod (pv 5) pe_int) (pv 2)))) pss_nil) (pss_cons (ps_set (i := 4) sc_law_pick.nd rfl (by first | exact Or.inl rfl | exact Or.inr rfl) (pe_op op_mod (pe_op (op_mulK (K := K) rfl) (pe_op (op_addK (K := K) rfl) (pe_op (op_mulK (K := K) rfl) (pv 3) pe_int) (pe_op (op_mulK (K := K) rfl) pe_int (pe_op (op_addK (K := K) rfl) (pv 1) pe_int))) pe_int) pe_int)) (pss_one (ps_ret (pe_op op_mod (pe_op op_mod (pe_op (op_addK (K := K) rfl) (pe_op (op_mulK (K := K) rfl) (pv 4) (pv 4)) (pe_op op_fdivW (pv 4) pe_int)) pe_int) (pv 2))))))))), ?_⟩
  obtain ⟨ns, k, many, rfl, hns, hk0, hk1, hmany, rfl⟩ := hR
  intro σ H0 H10 Q n s q
  have eLen : ∀ {σ' : L2.St} {H' : Hp} {ss : List SD}, Sl K H' σ' ss → ss[0]? = some (.dat (scrD ns)) → EvD K (tCB (lenR K) (tCons (tVar 0) tNil)) σ' H' (.int ns.length) := fun s h => ed_lenScr (ed_sl s h)
  -- cell = ..
  refine st_asg n s (d := .int (pickCell ns k)) (ed_if (eb_test (ed_op (ed_sl s rfl) (ed_lst eds_nil (by decide)) rd_neScr)) (fun h => ?_) (fun h => ?_)) ?_
  · have he : ns.isEmpty = false := by simpa using h
    have hpos : 0 < ns.length := by
      cases ns with
      | nil => cases he
      | cons _ _ => exact Nat.succ_pos _
    refine ed_op (ed_sl s rfl) (ed_op (ed_sl s rfl) (eLen s rfl) (rd_I (C := fun _ j => 0 < j) (g := fun i j => i % j) (by omega))) (rd_ixScr ?_)
    have h1 : 0 ≤ k % (ns.length : Int) := Int.emod_nonneg _ (by omega)
    have h2 : k % (ns.length : Int) < ns.length := Int.emod_lt_of_pos _ (by omega)
    obtain ⟨m, hm⟩ : ∃ m : Nat, k % (ns.length : Int) = m := ⟨(k % (ns.length : Int)).toNat, by omega⟩
    unfold atI pickCell
    rw [if_neg (by rw [he]; decide), hm, ixN_nat (by omega)]
    show ns[m]? = some (ns.getD (m : Int).toNat 0)
    rw [List.getD_eq_getElem?_getD, Int.toNat_natCast, List.getElem?_eq_getElem (by omega)]
    rfl
  · have he : ns.isEmpty = true := by simpa using h
    unfold pickCell
    rw [if_pos he]
    exact ed_c (.int 0)
  · intro σ1 H1 H11 ex1 n1 s1
    -- rest, turn = ..
    refine st_par n1 s1 (eds_cons (d := .int (pickCell ns k / 10 ^ 18)) (ed_op (ed_sl s1 rfl) (ed_op (ed_c (.int 10)) (ed_c (.int 18)) (rd_I (C := CPow) (g := fun i j => i ^ j.toNat) ⟨by decide, by decide, by decide⟩)) (rd_I (C := CDivW) (g := fun i j => i / j) ⟨by decide, by decide +kernel⟩))
      (eds_cons (d := .int (k / (if 1 > (ns.length : Int) then 1 else (ns.length : Int)))) (ed_op (ed_sl s1 rfl) (ed_max2 (eds_cons (eLen s1 rfl) (eds_cons (ed_c (.int 1)) eds_nil))) (rd_I (C := CDivW) (g := fun i j => i / j) ?_)) eds_nil)) ?_
    · have h1 : (0 : Int) < (if 1 > (ns.length : Int) then 1 else (ns.length : Int)) := by split <;> omega
      have h2 : (if 1 > (ns.length : Int) then 1 else (ns.length : Int)) ≤ 63 := by split <;> omega
      exact wide_div (b := 6) h1 (by omega) (by decide) (by decide)
    · intro σ2 H2 H21 ex2 n2 s2
      -- while
      refine st_while (fun m σ' Hr => ∃ (H' : Hp) (rest : Int) (t : Nat), t = m ∧ Now H0 H10 H' Hr ∧ (pickLoop t rest).1 = pickRest ns k ∧ t ≤ 1000000 ∧ Sl K H' σ' [.dat (scrD ns), .dat (.int k), .dat (.int many), .dat (.int (pickCell ns k)), .unk, .dat (.int rest), .dat (.int t)]) (k / (if 1 > (ns.length : Int) then 1 else (ns.length : Int))).toNat ?_ ?_
      · have h0 : 0 ≤ k / (if 1 > (ns.length : Int) then 1 else (ns.length : Int)) := Int.ediv_nonneg hk0 (by split <;> omega)
        have h1 : k / (if 1 > (ns.length : Int) then 1 else (ns.length : Int)) ≤ k := Int.ediv_le_self _ hk0
        refine ⟨H2, pickCell ns k / 10 ^ 18, _, rfl, n2, rfl, by omega, ?_⟩
        rw [Int.toNat_of_nonneg h0]
        exact s2
      · rintro m σ3 Hr ⟨H3, rest, t, rfl, n3, hp, ht, s3⟩
        refine ⟨H3, decide (0 < rest) && decide ((0 : Int) < t), n3.ex, eb_and (eb_test (ed_op (ed_sl s3 rfl) (ed_c (.int 0)) rd_IB)) (fun _ => eb_test (ed_op (ed_sl s3 rfl) (ed_c (.int 0)) rd_IB)), fun hb H4 e4 => ?_, fun hb H4 e4 => ?_⟩
        · simp only [Bool.and_eq_true, decide_eq_true_eq] at hb
          obtain ⟨t', rfl⟩ : ∃ t', t = t' + 1 := ⟨t - 1, by omega⟩
          have n4 : Now H0 H10 H3 H4 := ⟨n3.ex.trans e4, n3.ext, n3.grow.trans e4⟩
          refine st_par n4 s3 (eds_cons (d := .int (rest / 840)) (ed_op (ed_sl s3 rfl) (ed_c (.int 840)) (rd_I (C := CDivW) (g := fun i j => i / j) ⟨by decide, by decide +kernel⟩)) (eds_cons (d := .int (t' : Int)) (ed_is (ed_op (ed_sl s3 rfl) (ed_c (.int 1)) (rd_I0 (g := fun i j => i - j))) (by congr 1; omega)) eds_nil)) ?_
          intro σ5 H5 H51 ex5 n5 s5
          refine ⟨t', Nat.lt_succ_self _, H5, rest / 840, t', rfl, n5, ?_, by omega, s5⟩
          rw [← hp]
          show _ = (if 0 < rest then pickLoop t' (rest / 840) else (rest, (t' : Int) + 1)).1
          rw [if_pos hb.1]
        · have n4 : Now H0 H10 H3 H4 := ⟨n3.ex.trans e4, n3.ext, n3.grow.trans e4⟩
          have hrest : rest = pickRest ns k := by
            rw [← hp]
            cases t with
            | zero => rfl
            | succ t' =>
              have : ¬ 0 < rest := by
                intro h
                have h2 : ((0 : Int) < ((t' + 1 : Nat) : Int)) := by omega
                rw [decide_eq_true h, decide_eq_true h2] at hb
                cases hb
              show rest = (if 0 < rest then pickLoop t' (rest / 840) else (rest, (t' : Int) + 1)).1
              rw [if_neg this]
          subst hrest
          -- if rest > 0
          refine st_if n4 (eb_test (ed_op (ed_sl s3 rfl) (ed_c (.int 0)) rd_IB)) (fun h H5 n5 => ?_) (fun h H5 n5 => ?_)
          · have h0 : 0 < pickRest ns k := by simpa using h
            refine st_ret (K := K) n5 (ed_op (ed_op (ed_sl s3 rfl) (ed_c (.int 840)) (rd_I (C := fun _ j => 0 < j) (g := fun i j => i % j) (by decide))) (ed_sl s3 rfl) (rd_I (C := fun _ j => 0 < j) (g := fun i j => i % j) hmany)) ?_
            unfold pick at q
            rw [if_pos h0] at q
            exact q
          · have h0 : ¬ 0 < pickRest ns k := by simpa using h
            refine st_asg n5 s3 (d := .int (pickDrawn ns k)) (ed_op (ed_op (ed_op (ed_op (ed_sl s3 rfl) (ed_c (.int 31)) (rd_mulI (CMul_r (by decide) (by decide)))) (ed_op (ed_c (.int 6151)) (ed_op (ed_sl s3 rfl) (ed_c (.int 1)) rd_addI) (rd_mulI (CMul_l (by decide) (by decide)))) rd_addI) (ed_c (.int 40692)) (rd_mulI (CMul_r (by decide) (by decide)))) (ed_c (.int 2147483399)) (rd_I (C := fun _ j => 0 < j) (g := fun i j => i % j) (by decide))) ?_
            intro σ6 H6 H61 ex6 n6 s6
            have d0 : 0 ≤ pickDrawn ns k := Int.emod_nonneg _ (by decide)
            have d1 : pickDrawn ns k < 2147483399 := Int.emod_lt_of_pos _ (by decide)
            refine st_ret (K := K) n6 (ed_op (ed_op (ed_op (ed_op (ed_sl s6 rfl) (ed_sl s6 rfl) (rd_mulI (CMul_r (by omega) (by omega)))) (ed_op (ed_sl s6 rfl) (ed_c (.int 31)) (rd_I (C := CDivW) (g := fun i j => i / j) ⟨by decide, by decide +kernel⟩)) rd_addI) (ed_c (.int 2147483629)) (rd_I (C := fun _ j => 0 < j) (g := fun i j => i % j) (by decide))) (ed_sl s6 rfl) (rd_I (C := fun _ j => 0 < j) (g := fun i j => i % j) hmany)) ?_
            unfold pick at q
            rw [if_neg h0] at q
            exact q
end
end LR

/-! ### signs, joined and drawn -/
namespace LR
open PySem PySem.Spec PyProof.Rows L2 Evl
/-- signs joined -/
theorem join_signs (l : List Nat) : Txt.join "" (l.map fun c => (⟨#[c]⟩ : Str)) = mk l := by
  have e : ∀ l : List Nat, TL.joinL [] (l.map fun c => [c]) = l := fun l => by
    induction l with
    | nil => rfl
    | cons a r ih =>
      cases r with
      | nil => rfl
      | cons b r =>
        show [a] ++ ([] ++ TL.joinL [] ((b :: r).map fun c => [c])) = _
        rw [ih] <;> rfl
  apply str_cps_inj
  have h := TL.tl_join "" (l.map fun c => (⟨#[c]⟩ : Str))
  rw [List.map_map] at h
  rw [TL.join_eq]
  exact h.trans (e l)
theorem signs_size (l : List Nat) : ((l.map fun c => (⟨#[c]⟩ : Str)).map (·.length)).sum + (l.map fun c => (⟨#[c]⟩ : Str)).length * Str.length "" = l.length := by
  have e : Str.length "" = 0 := by decide +kernel
  rw [e, Nat.mul_zero, Nat.add_zero]
  induction l with
  | nil => rfl
  | cons a r ih =>
    rw [List.map_cons, List.map_cons, List.sum_cons, ih, List.length_cons]
    show 1 + r.length = r.length + 1
    omega
section
variable {K : PySem.W.Frag} {σ : L2.St} {H : Hp} {ta tb te ti : TE}
/-- the i-th sign of a text that is written -/
theorem rd_sign {z : Str} {i : Int} {c : Nat} (hz : z.length ≤ 100000) (h0 : 0 ≤ i) (h : z.cps.toList[i.toNat]? = some c) : RD2 K (rIx K) (.str z) (.int i) H (.str ⟨#[c]⟩) := rd_ixS hz (by
  unfold atI
  obtain ⟨n, rfl⟩ : ∃ n : Nat, i = n := ⟨i.toNat, by omega⟩
  rw [Int.toNat_natCast] at h
  have hn : n < z.cps.toList.length := (List.getElem?_eq_some_iff.mp h).1
  rw [ixN_nat hn]
  exact h)
theorem small_at {i : Nat} (h : i < 26) : smallS.cps.toList[i]? = some (97 + i) := by
  have : ∀ i : Fin 26, smallS.cps.toList[i.val]? = some (97 + i.val) := by decide +kernel
  exact this ⟨i, h⟩
/-- ''.join([the signs]) -/
theorem ed_joinSigns {l : List Nat} {N : Nat} (hb : EvD K tb σ H (.list (l.map fun c => .str ⟨#[c]⟩))) (hl : l.length ≤ N) (hN : N ≤ 16777216 := by decide) : EvD K (tM1 (rJoin K) (tC (.str "")) tb) σ H (.str (mk l)) := by
  rw [← join_signs]
  refine ed_join (ed_c (.str _)) (ed_is hb ?_) (N := N) (by rw [signs_size]; exact hl) hN
  rw [List.map_map]
  rfl
end
section
variable {P : Program} {w : World} {K : PySem.W.Frag} {mg : Str → Option Value} {base : Heap} {f : Addr} {fd : FuncData}
theorem callPick {σ : L2.St} {H : Hp} {ta tb tc : TE} {ns : List Int} {k m : Int} {E : XK} (hns : ns.length ≤ 63) (h1 : EvD K ta σ H (scrD ns)) (h2 : EvD K tb σ H (.int k)) (h3 : EvD K tc σ H (.int m)) (hk0 : 0 ≤ k) (hk1 : k ≤ 1000000) (hm : 0 < m) : EvD K (tCall (spR K 3 Rpick) [] E (tCons ta (tCons tb (tCons tc tNil)))) σ H (.int (pick ns k m)) :=
  ed_call (eds_cons h1 (eds_cons h2 (eds_cons h3 eds_nil))) ⟨ns, k, m, rfl, hns, hk0, hk1, hm, rfl⟩
end
end LR

/-! ### the law's keys -/
namespace LR
open PySem PySem.Spec PyProof.Rows L2 Evl
/-- what _law_key makes: its signs -/
def keyL (ns : List Int) (k : Int) : List Nat :=
  if pick ns k 4 = 0 then (List.range (1 + pick ns (k + 9) 3).toNat).map fun (i : Nat) => 97 + (pick ns (k + 1 + i) 3).toNat
  else if pick ns k 4 = 1 then [115, 116, 101, 109] ++ (List.range (1 + pick ns (k + 9) 6).toNat).map fun (i : Nat) => 97 + (pick ns (k + 1 + i) 2).toNat
  else (List.range (1 + pick ns (k + 9) 10).toNat).map fun (i : Nat) => 97 + (pick ns (k + 1 + ((i % 8 : Nat) : Int)) 26).toNat
def lawKey (ns : List Int) (k : Int) : Str := mk (keyL ns k)
theorem keyL_len (ns : List Int) (k : Int) : 1 ≤ (keyL ns k).length ∧ (keyL ns k).length ≤ 10 := by
  unfold keyL
  have a1 := pick_lo ns (k + 9) (many := 3) (by decide)
  have a2 := pick_hi ns (k + 9) (many := 3) (by decide)
  have b1 := pick_lo ns (k + 9) (many := 6) (by decide)
  have b2 := pick_hi ns (k + 9) (many := 6) (by decide)
  have c1 := pick_lo ns (k + 9) (many := 10) (by decide)
  have c2 := pick_hi ns (k + 9) (many := 10) (by decide)
  split
  · rw [List.length_map, List.length_range]
    omega
  · split
    · rw [List.length_append, List.length_map, List.length_range]
      show 1 ≤ 4 + _ ∧ 4 + _ ≤ 10
      omega
    · rw [List.length_map, List.length_range]
      omega
theorem keyL_small (ns : List Int) (k : Int) : ∀ c ∈ keyL ns k, 97 ≤ c ∧ c ≤ 122 := by
  intro c hc
  unfold keyL at hc
  split at hc
  · obtain ⟨i, _, rfl⟩ := List.mem_map.mp hc
    have a1 := pick_lo ns (k + 1 + i) (many := 3) (by decide)
    have a2 := pick_hi ns (k + 1 + i) (many := 3) (by decide)
    omega
  · split at hc
    · rcases List.mem_append.mp hc with h | h
      · simp only [List.mem_cons, List.not_mem_nil, or_false] at h
        omega
      · obtain ⟨i, _, rfl⟩ := List.mem_map.mp h
        have a1 := pick_lo ns (k + 1 + i) (many := 2) (by decide)
        have a2 := pick_hi ns (k + 1 + i) (many := 2) (by decide)
        omega
    · obtain ⟨i, _, rfl⟩ := List.mem_map.mp hc
      have a1 := pick_lo ns (k + 1 + ((i % 8 : Nat) : Int)) (many := 26) (by decide)
      have a2 := pick_hi ns (k + 1 + ((i % 8 : Nat) : Int)) (many := 26) (by decide)
      omega
theorem lawKey_len (ns : List Int) (k : Int) : 1 ≤ (lawKey ns k).length ∧ (lawKey ns k).length ≤ 10 := by
  have h := keyL_len ns k
  show 1 ≤ (keyL ns k).toArray.size ∧ (keyL ns k).toArray.size ≤ 10
  simpa using h
def Rkey (ds : List PyData) (r : PyData) : Prop := ∃ (ns : List Int) (k : Int), ds = [scrD ns, .int k] ∧ ns.length ≤ 63 ∧ 0 ≤ k ∧ k ≤ 900000 ∧ r = .str (lawKey ns k)
section
variable {P : Program} {w : World} {K : PySem.W.Frag} {mg : Str → Option Value} {base : Heap} {f : Addr} {fd : FuncData}
theorem sc_law_key : FnScope ["script", "at", "turn", "many", "k"] ["script", "at"] (defScope s_law_key) := ⟨rfl, rfl, rfl, by decide +kernel, rfl, by decide +kernel, by decide +kernel⟩
theorem fx_law_key (T : Txt mg) (F : FunD K "_law_key" "_law_key" (defArgs s_law_key) (defBody s_law_key) (defScope s_law_key) [] [] f fd) (hm : mg "_law_key" = some (.ref f)) (g_law_pick : Fx P w K mg base 1 "_law_pick" ["script", "k", "many"] (spR K 3 Rpick)) : Fx P w K mg base 2 "_law_key" ["script", "at"] (spR K 2 Rkey) := by
  refine fx_pure F hm sc_law_key rfl (fun _ _ _ _ _ _ us hl => match us, hl with | [_, _], _ => rfl) fun cdv A outer s Hs E hr ds r hl hR => ?_
  refine ⟨_, (pss_cons (ps_set (i := 2) sc_law_key.nd rfl (by first | exact Or.inl rfl | exact Or.inr rfl) (pe_fx g_law_pick hr (by decide) (by rfl) passN (pa_cons (pv 0) (pa_cons (pv 1) (pa_cons pe_int pa_nil))))) (pss_cons (ps_if (pt_cmpR (op_eqK (K := K) rfl hr.units) (pv 2) pe_int (nomark _)) (pss_one (ps_ret (pe_m1 PySem.F.slot_str_join PySem.F.type_str_join (mt_joinK (K := K) rfl) pe_str (pe_lc (own := [("k", 4)]) rfl sc_law_key.nd (pi_range1 (by rfl) T.m_range (pa_cons (pe_op (op_addK (K := K) rfl) pe_int (pe_fx g_law_pick hr (by decide) (by rfl) passN (pa_cons (pv 0) (pa_cons (pe_op (op_addK (K := K) rfl) (pv 1) pe_int) (pa_cons pe_int pa_nil))))) pa_nil)) (blkOk_by (N := ["script", "at", "turn", "many", "k"]) (sc := defScope s_law_key) (by decide +kernel)) (fun _ _ _ _ _ => (pg_name (i := 4) sc_law_key.nd rfl (by first | exact Or.inl rfl | exact Or.inr rfl))) (fun _ _ _ _ _ => pts_nil) (fun _ _ _ _ _ => (pe_ix (ix_K (K := K) rfl) pe_str (pe_fx g_law_pick hr (by decide) (by rfl) passN (pa_cons (pv 0) (pa_cons (pe_op (op_addK (K := K) rfl) (pe_op (op_addK (K := K) rfl) (pv 1) pe_int) (pv 4)) (pa_cons pe_int pa_nil)))) (fun _ _ => rfl))))))) pss_nil) (pss_cons (ps_if (pt_cmpR (op_eqK (K := K) rfl hr.units) (pv 2) pe_int (nomark _)) (pss_cons (ps_set (i := 3) sc_law_key.nd rfl (by first | exact Or.inl rfl | exact Or.inr rfl) (pe_op (op_addK (K := K) rfl) pe_int (pe_fx g_law_pick hr (by decide) (by rfl) passN (pa_cons (pv 0) (pa_cons (pe_op (op_addK (K := K) rfl) (pv 1) pe_int) (pa_cons pe_int pa_nil)))))) (pss_one (ps_ret (pe_op (op_addK (K := K) rfl) pe_str (pe_m1 PySem.F.slot_str_join PySem.F.type_str_join (mt_joinK (K := K) rfl) pe_str (pe_lc (own := [("k", 4)]) rfl sc_law_key.nd (pi_range1 (by rfl) T.m_range (pa_cons (pv 3) pa_nil)) (blkOk_by (N := ["script", "at", "turn", "many", "k"]) (sc := defScope s_law_key) (by decide +kernel)) (fun _ _ _ _ _ => (pg_name (i := 4) sc_law_key.nd rfl (by first | exact Or.inl rfl | exact Or.inr rfl))) (fun _ _ _ _ _ => pts_nil) (fun _ _ _ _ _ => (pe_ix (ix_K (K := K) rfl) pe_str (pe_fx g_law_pick hr (by decide) (by rfl) passN (pa_cons (pv 0) (pa_cons (pe_op (op_addK (K := K) rfl) (pe_op (op_addK (K := K) rfl) (pv 1) pe_int) (pv 4)) (pa_cons pe_int pa_nil)))) (fun _ _ => rfl))))))))) pss_nil) (pss_cons (ps_set (i := 3) sc_law_key.nd rfl (by first | exact Or.inl rfl | exact Or.inr rfl) (pe_op (op_addK (K := K) rfl) pe_int (pe_fx g_law_pick hr (by decide) (by rfl) passN (pa_cons (pv 0) (pa_cons (pe_op (op_addK (K := K) rfl) (pv 1) pe_int) (pa_cons pe_int pa_nil)))))) (pss_one (ps_ret (pe_m1 PySem.F.slot_str_join PySem.F.type_str_join (mt_joinK (K := K) rfl) pe_str (pe_lc (own := [("k", 4)]) rfl sc_law_key.nd (pi_range1 (by rfl) T.m_range (pa_cons (pv 3) pa_nil)) (blkOk_by (N := ["script", "at", "turn", "many", "k"]) (sc := defScope s_law_key) (by decide +kernel)) (fun _ _ _ _ _ => (pg_name (i := 4) sc_law_key.nd rfl (by first | exact Or.inl rfl | exact Or.inr rfl))) (fun _ _ _ _ _ => pts_nil) (fun _ _ _ _ _ => (pe_ix (ix_K (K := K) rfl) pe_str (pe_fx g_law_pick hr (by decide) (by rfl) passN (pa_cons (pv 0) (pa_cons (pe_op (op_addK (K := K) rfl) (pe_op (op_addK (K := K) rfl) (pv 1) pe_int) (pe_op op_mod (pv 4) pe_int)) (pa_cons pe_int pa_nil)))) (fun _ _ => rfl))))))))))), ?_⟩
  obtain ⟨ns, k, rfl, hns, hk0, hk1, rfl⟩ := hR
  intro σ H0 H10 Q n s q
  have len := keyL_len ns k
  have t0 := pick_lo ns k (many := 4) (by decide)
  refine st_asg n s (d := .int (pick ns k 4)) (callPick hns (ed_sl s rfl) (ed_sl s rfl) (ed_c (.int 4)) hk0 (by omega) (by decide)) ?_
  intro σ1 H1 H11 ex1 n1 s1
  have big : ∀ (m : Int) (f : Nat → Nat), 0 < m → m ≤ 10 → (List.range (1 + pick ns (k + 9) m).toNat).map f = (List.range (1 + pick ns (k + 9) m).toNat).map f := fun _ _ _ _ => rfl
  refine st_if n1 (eb_test (ed_op (ed_sl s1 rfl) (ed_c (.int 0)) rd_eqI)) (fun h H2 n2 => ?_) (fun h H2 n2 => ?_)
  · have h0 : pick ns k 4 = 0 := of_decide_eq_true h
    have a1 := pick_lo ns (k + 9) (many := 3) (by decide)
    have a2 := pick_hi ns (k + 9) (many := 3) (by decide)
    have e : lawKey ns k = mk ((List.range (1 + pick ns (k + 9) 3).toNat).map fun (i : Nat) => 97 + (pick ns (k + 1 + i) 3).toNat) := by
      unfold lawKey keyL
      rw [if_pos h0]
    rw [e] at q
    refine st_ret (K := K) n2 (ed_joinSigns (N := 10) ?_ (by rw [List.length_map, List.length_range]; omega)) q
    rw [List.map_map]
    refine ed_lcR _ s1 (eds_cons (ed_op (ed_c (.int 1)) (callPick (k := k + 9) hns (ed_sl s1 rfl) (ed_op (ed_sl s1 rfl) (ed_c (.int 9)) rd_addI) (ed_c (.int 3)) (by omega) (by omega) (by decide)) rd_addI) eds_nil) (by omega) rfl (fun i hi σ2 Hc e1 s2 => ?_)
    have b1 := pick_lo ns (k + 1 + i) (many := 3) (by decide)
    have b2 := pick_hi ns (k + 1 + i) (many := 3) (by decide)
    refine ed_op (ed_c (.str _)) (callPick (k := k + 1 + i) hns (ed_sl s2 rfl) (ed_op (ed_op (ed_sl s2 rfl) (ed_c (.int 1)) rd_addI) (ed_sl s2 rfl) rd_addI) (ed_c (.int 3)) (by omega) (by omega) (by decide)) (rd_sign (by decide +kernel) b1 ?_)
    have g : ∀ i : Fin 3, (Str.ofString "abc").cps.toList[i.val]? = some (97 + i.val) := by decide +kernel
    exact g ⟨(pick ns (k + 1 + i) 3).toNat, by omega⟩
  · have h0 : ¬ pick ns k 4 = 0 := of_decide_eq_false h
    refine st_if n2 (eb_test (ed_op (ed_sl s1 rfl) (ed_c (.int 1)) rd_eqI)) (fun h H3 n3 => ?_) (fun h H3 n3 => ?_)
    · have h1 : pick ns k 4 = 1 := of_decide_eq_true h
      have a1 := pick_lo ns (k + 9) (many := 6) (by decide)
      have a2 := pick_hi ns (k + 9) (many := 6) (by decide)
      refine st_asg n3 s1 (d := .int (1 + pick ns (k + 9) 6)) (ed_op (ed_c (.int 1)) (callPick (k := k + 9) hns (ed_sl s1 rfl) (ed_op (ed_sl s1 rfl) (ed_c (.int 9)) rd_addI) (ed_c (.int 6)) (by omega) (by omega) (by decide)) rd_addI) ?_
      intro σ4 H4 H41 ex4 n4 s4
      have e : lawKey ns k = "stem" ++ mk ((List.range (1 + pick ns (k + 9) 6).toNat).map fun (i : Nat) => 97 + (pick ns (k + 1 + i) 2).toNat) := by
        apply str_cps_inj
        unfold lawKey keyL
        rw [if_neg h0, if_pos h1]
        show _ = (("stem" : Str).cps ++ _).toList
        rw [Array.toList_append] <;> rfl
      rw [e] at q
      refine st_ret (K := K) n4 (ed_op (ed_c (.str _)) (ed_joinSigns (N := 10) ?_ (by rw [List.length_map, List.length_range]; omega)) (rd_addS ?_)) q
      · rw [List.map_map]
        refine ed_lcR _ s4 (eds_cons (ed_sl s4 rfl) eds_nil) (by omega) rfl (fun i hi σ2 Hc e1 s2 => ?_)
        have b1 := pick_lo ns (k + 1 + i) (many := 2) (by decide)
        have b2 := pick_hi ns (k + 1 + i) (many := 2) (by decide)
        refine ed_op (ed_c (.str _)) (callPick (k := k + 1 + i) hns (ed_sl s2 rfl) (ed_op (ed_op (ed_sl s2 rfl) (ed_c (.int 1)) rd_addI) (ed_sl s2 rfl) rd_addI) (ed_c (.int 2)) (by omega) (by omega) (by decide)) (rd_sign (by decide +kernel) b1 ?_)
        have g : ∀ i : Fin 2, (Str.ofString "ab").cps.toList[i.val]? = some (97 + i.val) := by decide +kernel
        exact g ⟨(pick ns (k + 1 + i) 2).toNat, by omega⟩
      · have e4 : (Str.ofString "stem").length = 4 := by decide +kernel
        have e5 : (mk ((List.range (1 + pick ns (k + 9) 6).toNat).map fun (i : Nat) => 97 + (pick ns (k + 1 + i) 2).toNat)).length = (1 + pick ns (k + 9) 6).toNat := by
          show (List.toArray _).size = _
          simp
        show (Str.ofString "stem").length + _ ≤ sizeLine
        rw [e4, e5]
        exact Nat.le_trans (show 4 + (1 + pick ns (k + 9) 6).toNat ≤ 10 by omega) (by decide)
    · have h1 : ¬ pick ns k 4 = 1 := of_decide_eq_false h
      have a1 := pick_lo ns (k + 9) (many := 10) (by decide)
      have a2 := pick_hi ns (k + 9) (many := 10) (by decide)
      refine st_asg n3 s1 (d := .int (1 + pick ns (k + 9) 10)) (ed_op (ed_c (.int 1)) (callPick (k := k + 9) hns (ed_sl s1 rfl) (ed_op (ed_sl s1 rfl) (ed_c (.int 9)) rd_addI) (ed_c (.int 10)) (by omega) (by omega) (by decide)) rd_addI) ?_
      intro σ4 H4 H41 ex4 n4 s4
      have e : lawKey ns k = mk ((List.range (1 + pick ns (k + 9) 10).toNat).map fun (i : Nat) => 97 + (pick ns (k + 1 + ((i % 8 : Nat) : Int)) 26).toNat) := by
        unfold lawKey keyL
        rw [if_neg h0, if_neg h1]
      rw [e] at q
      refine st_ret (K := K) n4 (ed_joinSigns (N := 10) ?_ (by rw [List.length_map, List.length_range]; omega)) q
      rw [List.map_map]
      refine ed_lcR _ s4 (eds_cons (ed_sl s4 rfl) eds_nil) (by omega) rfl (fun i hi σ2 Hc e1 s2 => ?_)
      have b1 := pick_lo ns (k + 1 + ((i % 8 : Nat) : Int)) (many := 26) (by decide)
      have b2 := pick_hi ns (k + 1 + ((i % 8 : Nat) : Int)) (many := 26) (by decide)
      refine ed_op (ed_c (.str _)) (callPick (k := k + 1 + ((i % 8 : Nat) : Int)) hns (ed_sl s2 rfl) (ed_op (ed_op (ed_sl s2 rfl) (ed_c (.int 1)) rd_addI) (ed_is (ed_op (ed_sl s2 rfl) (ed_c (.int 8)) (rd_I (C := fun _ j => 0 < j) (g := fun i j => i % j) (by decide))) rfl) rd_addI) (ed_c (.int 26)) (by omega) (by omega) (by decide)) (rd_sign (by decide +kernel) b1 ?_)
      exact small_at (i := (pick ns (k + 1 + ((i % 8 : Nat) : Int)) 26).toNat) (by omega)
end
end LR

/-! ### things that are none -/
namespace LR
open PySem PySem.Spec PyProof.Rows L2 Evl
def oddL (ns : List Int) (k : Int) : List PyData := [.none, .bool true, .str "A", .str "a-", .list [.int 1], .tuple [.int 1], .int (-1 - pick ns k 9), .str "abcdefghijklm", .list [.list [.str "a"]], .int (10 ^ 9)]
def Rodd (ds : List PyData) (r : PyData) : Prop := ∃ (ns : List Int) (k : Int), ds = [scrD ns, .int k] ∧ ns.length ≤ 63 ∧ 0 ≤ k ∧ k ≤ 1000000 ∧ r = .list (oddL ns k)
section
variable {P : Program} {w : World} {K : PySem.W.Frag} {mg : Str → Option Value} {base : Heap} {f : Addr} {fd : FuncData}
theorem sc_law_odd : FnScope ["script", "at"] ["script", "at"] (defScope s_law_odd) := ⟨rfl, rfl, rfl, by decide +kernel, rfl, by decide +kernel, by decide +kernel⟩
theorem fx_law_odd (T : Txt mg) (F : FunD K "_law_odd" "_law_odd" (defArgs s_law_odd) (defBody s_law_odd) (defScope s_law_odd) [] [] f fd) (hm : mg "_law_odd" = some (.ref f)) (g_law_pick : Fx P w K mg base 1 "_law_pick" ["script", "k", "many"] (spR K 3 Rpick)) : Fx P w K mg base 2 "_law_odd" ["script", "at"] (spR K 2 Rodd) := by
  refine fx_pure F hm sc_law_odd rfl (fun _ _ _ _ _ _ us hl => match us, hl with | [_, _], _ => rfl) fun cdv A outer s Hs E hr ds r hl hR => ?_
  refine ⟨_, (pss_one (ps_ret (pe_lst (pa_cons pe_non (pa_cons pe_bl (pa_cons pe_str (pa_cons pe_str (pa_cons (pe_lst (pa_cons pe_int pa_nil)) (pa_cons (pe_tup (pa_cons pe_int pa_nil)) (pa_cons (pe_op op_sub (pe_un un_neg pe_int) (pe_fx g_law_pick hr (by decide) (by rfl) passN (pa_cons (pv 0) (pa_cons (pv 1) (pa_cons pe_int pa_nil))))) (pa_cons pe_str (pa_cons (pe_lst (pa_cons (pe_lst (pa_cons pe_str pa_nil)) pa_nil)) (pa_cons (pe_op op_pow pe_int pe_int) pa_nil))))))))))))), ?_⟩
  obtain ⟨ns, k, rfl, hns, hk0, hk1, rfl⟩ := hR
  intro σ H0 H10 Q n s q
  refine st_ret (K := K) n (ed_lst ?_ (by show 10 ≤ 100000; decide)) q
  refine eds_cons (ed_c .non) (eds_cons (ed_c (.bl true)) (eds_cons (ed_c (.str _)) (eds_cons (ed_c (.str _)) (eds_cons (ed_lst (eds_cons (ed_c (.int 1)) eds_nil) (by decide)) (eds_cons (ed_tup (eds_cons (ed_c (.int 1)) eds_nil) (by decide))
    (eds_cons (ed_op (ed_un (ed_c (.int 1)) rdu_neg) (ed_call (eds_cons (ed_sl s rfl) (eds_cons (ed_sl s rfl) (eds_cons (ed_c (.int 9)) eds_nil))) ⟨ns, k, 9, rfl, hns, hk0, hk1, by decide, rfl⟩) (rd_I0 (g := fun i j => i - j)))
    (eds_cons (ed_c (.str _)) (eds_cons (ed_lst (eds_cons (ed_lst (eds_cons (ed_c (.str _)) eds_nil) (by decide)) eds_nil) (by decide))
    (eds_cons (ed_op (ed_c (.int 10)) (ed_c (.int 9)) (rd_I (C := CPow) (g := fun i j => i ^ j.toNat) ⟨by decide, by decide, by decide⟩)) eds_nil)))))))))
end
end LR

/-! ### alike, packed -/
namespace LR
open PySem PySem.Spec PyProof.Rows L2 Evl
/-- how many signs are alike at the beginning -/
def alikeL : List Nat → List Nat → Nat
  | a :: r, b :: q => if a = b then alikeL r q + 1 else 0
  | _, _ => 0
theorem alikeL_le : ∀ (a b : List Nat), alikeL a b ≤ a.length ∧ alikeL a b ≤ b.length
  | [], _ => by simp [alikeL]
  | _ :: _, [] => by simp [alikeL]
  | a :: r, b :: q => by
    unfold alikeL
    split
    · have := alikeL_le r q
      simp only [List.length_cons]
      omega
    · simp
theorem alikeL_take : ∀ (a b : List Nat), a.take (alikeL a b) = b.take (alikeL a b)
  | [], b => by simp [alikeL]
  | _ :: _, [] => by simp [alikeL]
  | a :: r, b :: q => by
    unfold alikeL
    split
    · rename_i h
      rw [List.take_succ_cons, List.take_succ_cons, alikeL_take r q, h]
    · simp
theorem alikeL_lt : ∀ {a b : List Nat} {i : Nat}, i < alikeL a b → a[i]? = b[i]?
  | [], b, i, h => by simp [alikeL] at h
  | _ :: _, [], i, h => by simp [alikeL] at h
  | a :: r, b :: q, i, h => by
    unfold alikeL at h
    split at h
    · rename_i e
      cases i with
      | zero => simp [e]
      | succ i => simpa using alikeL_lt (a := r) (b := q) (i := i) (by omega)
    · omega
theorem alikeL_end : ∀ {a b : List Nat} {x y : Nat}, a[alikeL a b]? = some x → b[alikeL a b]? = some y → x ≠ y
  | [], b, x, y, h, _ => by simp at h
  | _ :: _, [], x, y, _, h => by simp at h
  | a :: r, b :: q, x, y, h1, h2 => by
    unfold alikeL at h1 h2
    split at h1
    · rename_i e
      rw [if_pos e] at h2
      exact alikeL_end (a := r) (b := q) (by simpa using h1) (by simpa using h2)
    · rename_i e
      rw [if_neg e] at h2
      simp at h1 h2
      subst h1
      subst h2
      exact e
def alikeS (a b : Str) : Nat := alikeL a.cps.toList b.cps.toList
theorem alikeS_le (a b : Str) : alikeS a b ≤ a.length ∧ alikeS a b ≤ b.length := by
  have h := alikeL_le a.cps.toList b.cps.toList
  simpa [alikeS, Str.length] using h
/-- the text of a key in a leaf -/
def packOne (old key : Str) : Str := mk ((65 + alikeS old key) :: key.cps.toList.drop (alikeS old key))
def packL (old : Str) : List Str → List Str
  | [] => []
  | k :: r => packOne old k :: packL k r
theorem packL_len : ∀ (old : Str) (l : List Str), (packL old l).length = l.length
  | _, [] => rfl
  | _, k :: r => congrArg Nat.succ (packL_len k r)
def lastK (old : Str) (l : List Str) : Str := l.getLastD old
theorem packL_append : ∀ (old : Str) (l : List Str) (k : Str), packL old (l ++ [k]) = packL old l ++ [packOne (l.getLastD old) k]
  | _, [], _ => rfl
  | _, x :: r, k => by
    show packOne _ x :: packL x (r ++ [k]) = packOne _ x :: packL x r ++ [_]
    rw [packL_append x r k, List.cons_append]
    cases r <;> rfl
theorem take_getLastD {l : List Str} {i : Nat} {x d : Str} (h : l[i]? = some x) : (l.take (i + 1)).getLastD d = x := by
  rw [List.take_add_one, h]
  simp
def Ralike (ds : List PyData) (r : PyData) : Prop := ∃ a b : Str, ds = [.str a, .str b] ∧ a.length ≤ 1000 ∧ b.length ≤ 1000 ∧ r = .int (alikeS a b)
def Rpacked (ds : List PyData) (r : PyData) : Prop := ∃ l : List Str, ds = [.list (l.map .str)] ∧ l.length ≤ 1000 ∧ (∀ z ∈ l, z.length ≤ 10) ∧ r = .list ((packL "" l).map .str)
theorem letters_at {i : Nat} (h : i ≤ 10) : (Str.ofString "ABCDEFGHIJK").cps.toList[i]? = some (65 + i) := by
  have : ∀ i : Fin 11, (Str.ofString "ABCDEFGHIJK").cps.toList[i.val]? = some (65 + i.val) := by decide +kernel
  exact this ⟨i, by omega⟩
/-- text[n:], text[:n] -/
theorem cutS_from {z : Str} {n : Nat} (h : n ≤ z.length) : cutS z (some (n : Int)) none = mk (z.cps.toList.drop n) := by
  unfold cutS
  rw [HT.sIx_nat, HT.sIx_none, Nat.min_eq_left h, List.take_of_length_le (by simp [Str.length])]
theorem cutS_to {z : Str} {n : Nat} (h : n ≤ z.length) : cutS z none (some (n : Int)) = mk (z.cps.toList.take n) := by
  unfold cutS
  rw [HT.sIx_nat, HT.sIx_none, Nat.min_eq_left h, List.drop_zero, Nat.sub_zero]
section
variable {K : PySem.W.Frag} {σ : L2.St} {H : Hp} {ta tb te ti : TE}
theorem sign_eq {x y : Nat} : decide ((⟨#[x]⟩ : Str) = ⟨#[y]⟩) = decide (x = y) := decide_eq_decide.mpr ⟨fun h => by
  injection h with h
  have : [x] = [y] := congrArg Array.toList h
  simpa using this, fun h => by rw [h]⟩
end
section
variable {P : Program} {w : World} {K : PySem.W.Frag} {mg : Str → Option Value} {base : Heap} {f : Addr} {fd : FuncData}
theorem sc_alike : FnScope ["one", "other", "many"] ["one", "other"] (defScope s_alike) := ⟨rfl, rfl, rfl, by decide +kernel, rfl, by decide +kernel, by decide +kernel⟩
theorem fx_alike (T : Txt mg) (F : FunD K "alike" "alike" (defArgs s_alike) (defBody s_alike) (defScope s_alike) [] [] f fd) (hm : mg "alike" = some (.ref f)) : Fx P w K mg base 1 "alike" ["one", "other"] (spR K 2 Ralike) := by
  refine fx_pure F hm sc_alike rfl (fun _ _ _ _ _ _ us hl => match us, hl with | [_, _], _ => rfl) fun cdv A outer s Hs E hr ds r hl hR => ?_
  refine ⟨_, (pss_cons (ps_set (i := 2) sc_alike.nd rfl (by first | exact Or.inl rfl | exact Or.inr rfl) pe_int) (pss_cons (ps_while PassesOwn.never (PW.pt (pw_and (pt_cmpR op_ltU (pv 2) (pe_callB (call_min2 rfl) (by rfl) T.m_min (by decide +kernel) (pa_cons (pe_callB (call_lenK (K := K) rfl) (by rfl) T.m_len (by decide +kernel) (pa_cons (pv 0) pa_nil)) (pa_cons (pe_callB (call_lenK (K := K) rfl) (by rfl) T.m_len (by decide +kernel) (pa_cons (pv 1) pa_nil)) pa_nil))) (nomark _)) (pw_and1 (pt_cmpR (op_eqK (K := K) rfl hr.units) (pe_ix (ix_K (K := K) rfl) (pv 0) (pv 2) (fun _ _ => rfl)) (pe_ix (ix_K (K := K) rfl) (pv 1) (pv 2) (fun _ _ => rfl)) (nomark _))))) (pss_one (ps_set (i := 2) sc_alike.nd rfl (by first | exact Or.inl rfl | exact Or.inr rfl) (pe_op (op_addK (K := K) rfl) (pv 2) pe_int)))) (pss_one (ps_ret (pv 2))))), ?_⟩
  obtain ⟨a, b, rfl, ha, hb, rfl⟩ := hR
  intro σ H0 H10 Q n s q
  have le := alikeS_le a b
  have la : a.length ≤ sizeLine := Nat.le_trans ha (by decide)
  have lb : b.length ≤ sizeLine := Nat.le_trans hb (by decide)
  refine st_asg n s (d := .int 0) (ed_c (.int 0)) ?_
  intro σ1 H1 H11 ex1 n1 s1
  refine st_while (fun m σ' Hr => ∃ (H' : Hp) (i : Nat), m + i = alikeS a b ∧ Now H0 H10 H' Hr ∧ Sl K H' σ' [.dat (.str a), .dat (.str b), .dat (.int i)]) (alikeS a b) ⟨H1, 0, rfl, n1, s1⟩ ?_
  rintro m σ3 Hr ⟨H3, i, hi, n3, s3⟩
  have eMin : EvD K _ σ3 H3 (.int (if (b.length : Int) < a.length then (b.length : Int) else a.length)) := ed_min2 (eds_cons (ed_lenS (ed_sl (i := 0) s3 rfl) la) (eds_cons (ed_lenS (ed_sl (i := 1) s3 rfl) lb) eds_nil))
  by_cases hlt : i < a.length ∧ i < b.length
  · obtain ⟨x, hx⟩ : ∃ x, a.cps.toList[i]? = some x := ⟨_, List.getElem?_eq_getElem (by simpa [Str.length] using hlt.1)⟩
    obtain ⟨y, hy⟩ : ∃ y, b.cps.toList[i]? = some y := ⟨_, List.getElem?_eq_getElem (by simpa [Str.length] using hlt.2)⟩
    refine ⟨H3, decide (x = y), n3.ex, eb_is (eb_and (b := decide (x = y)) (eb_test (ed_op (ed_sl s3 rfl) eMin rd_ltI)) fun _ => eb_is (eb_test (ed_op (ed_op (ed_sl s3 rfl) (ed_sl s3 rfl) (rd_sign (by omega) (by omega) (by rw [Int.toNat_natCast]; exact hx))) (ed_op (ed_sl s3 rfl) (ed_sl s3 rfl) (rd_sign (by omega) (by omega) (by rw [Int.toNat_natCast]; exact hy))) rd_eqS)) sign_eq) ?_, fun hb H4 e4 => ?_, fun hb H4 e4 => ?_⟩
    · have : decide ((i : Int) < if (b.length : Int) < a.length then (b.length : Int) else a.length) = true := decide_eq_true (by split <;> omega)
      rw [this, Bool.true_and]
    · have hxy : x = y := of_decide_eq_true hb
      have n4 : Now H0 H10 H3 H4 := ⟨n3.ex.trans e4, n3.ext, n3.grow.trans e4⟩
      have hlt2 : i < alikeS a b := by
        rcases Nat.lt_or_ge i (alikeS a b) with h | h
        · exact h
        · have e : i = alikeS a b := by omega
          rw [e] at hx hy
          exact absurd hxy (alikeL_end hx hy)
      refine st_asg n4 s3 (d := .int ((i + 1 : Nat) : Int)) (ed_is (ed_op (ed_sl s3 rfl) (ed_c (.int 1)) rd_addI) (by congr 1)) ?_
      intro σ5 H5 H51 ex5 n5 s5
      exact ⟨m - 1, by omega, H5, i + 1, by omega, n5, s5⟩
    · have hxy : x ≠ y := of_decide_eq_false hb
      have n4 : Now H0 H10 H3 H4 := ⟨n3.ex.trans e4, n3.ext, n3.grow.trans e4⟩
      have e : i = alikeS a b := by
        rcases Nat.lt_or_ge i (alikeS a b) with h | h
        · have := alikeL_lt h
          rw [hx, hy] at this
          exact absurd (Option.some.inj this) hxy
        · omega
      refine st_ret (K := K) n4 (ed_is (ed_sl s3 rfl) ?_) q
      rw [e]
  · refine ⟨H3, false, n3.ex, eb_is (eb_and (b := false) (eb_test (ed_op (ed_sl s3 rfl) eMin rd_ltI)) fun h => ?_) (by rw [Bool.and_false]), (fun h => nomatch h), fun hb H4 e4 => ?_⟩
    · exfalso
      have := of_decide_eq_true h
      split at this <;> omega
    · have n4 : Now H0 H10 H3 H4 := ⟨n3.ex.trans e4, n3.ext, n3.grow.trans e4⟩
      refine st_ret (K := K) n4 (ed_is (ed_sl s3 rfl) ?_) q
      have e : i = alikeS a b := by omega
      rw [e]
theorem sc_packed : FnScope ["keys", "key", "made", "old", "many"] ["keys"] (defScope s_packed) := ⟨rfl, rfl, rfl, by decide +kernel, rfl, by decide +kernel, by decide +kernel⟩
theorem fx_packed (T : Txt mg) (F : FunD K "packed" "packed" (defArgs s_packed) (defBody s_packed) (defScope s_packed) [] [] f fd) (hm : mg "packed" = some (.ref f)) (g_alike : Fx P w K mg base 1 "alike" ["one", "other"] (spR K 2 Ralike)) : Fx P w K mg base 2 "packed" ["keys"] (spR K 1 Rpacked) := by
  refine fx_pure F hm sc_packed rfl (fun _ _ _ _ _ _ us hl => match us, hl with | [_], _ => rfl) fun cdv A outer s Hs E hr ds r hl hR => ?_
  refine ⟨_, (pss_cons (ps_par (by rfl) sc_packed.nd (i := 2) (j := 3) rfl rfl (by decide) rfl rfl (pa_cons (pe_lst pa_nil) (pa_cons pe_str pa_nil)) (by rfl)) (pss_cons (ps_for PassesOwn.never rfl (pi_K (K := K) rfl (pv 0)) (pg_name (i := 1) sc_packed.nd rfl (by first | exact Or.inl rfl | exact Or.inr rfl)) (pss_cons (ps_set (i := 4) sc_packed.nd rfl (by first | exact Or.inl rfl | exact Or.inr rfl) (pe_fx g_alike hr (by decide) (by rfl) passN (pa_cons (pv 3) (pa_cons (pv 1) pa_nil)))) (pss_cons (ps_expr (pe_bmK (K := K) rfl PySem.F.plainAttrs_list PySem.F.slot_list_append PySem.F.type_list_append mt_append (pv 2) (pa_cons (pe_op (op_addK (K := K) rfl) (pe_ix (ix_K (K := K) rfl) (C8.pe_gc (by rfl) T.c_LETTERS) (pv 4) (fun _ _ => rfl)) (pe_slice (sl_K (K := K) rfl) (pv 1) (po_some (pv 4)) po_none)) pa_nil))) (pss_one (ps_set (i := 3) sc_packed.nd rfl (by first | exact Or.inl rfl | exact Or.inr rfl) (pv 1)))))) (pss_one (ps_ret (pv 2))))), ?_⟩
  obtain ⟨l, rfl, hll, hlen, rfl⟩ := hR
  intro σ H0 H10 Q n s q
  refine st_parNew n s (d := .str "") (fun H' e => ed_c (.str _)) ?_
  intro lo σ1 H1 H11 ex1 hl1 hl0 hlo n1 s1
  refine st_forX n1 (eiU_list (ed_sl s1 rfl)) fun Hb H2 xb n2 e12 => ?_
  refine ⟨fun i σ' Hr => ∃ H', Ex Hb H' ∧ Now H0 H10 H' Hr ∧ Own K H10 H' Hr lo ((packL "" (l.take i)).map .str) ∧ Sl K H' σ' [.dat (.list (l.map .str)), .unk, .val (.ref lo), .dat (.str ((l.take i).getLastD "")), .unk], ⟨Hb, Ex.refl _, n2, (Own.mk hl1 hl0 ⟨[], hlo, .nil⟩).on xb e12, s1.ex xb.ex⟩, fun i σ' Hr ⟨H', a, b, _⟩ => a.trans b.ex, ?_, ?_⟩
  · rintro i x σ3 Hr H6 hi ⟨H', a, b, c1, c5⟩ ⟨rfl, d, hd, dx⟩
    rw [List.getElem?_map] at hd
    obtain ⟨k, hk, rfl⟩ := Option.map_eq_some_iff.mp hd
    have hkl : k.length ≤ 10 := hlen k (List.mem_of_getElem? hk)
    have hil : i < l.length := (List.getElem?_eq_some_iff.mp hk).1
    have s3 := c5.set (s := .dat (.str k)) (o := some x) (Dt.ex a dx) 1
    have oldl : ((l.take i).getLastD "").length ≤ 10 := by
      cases i with
      | zero => show Str.length "" ≤ 10; decide +kernel
      | succ j =>
        have hj : j < l.length := by omega
        rw [take_getLastD (List.getElem?_eq_getElem hj)]
        exact hlen _ (List.getElem_mem hj)
    generalize ho : (l.take i).getLastD "" = old at s3 oldl
    have le := alikeS_le old k
    refine st_asgX b s3 (d := .int (alikeS old k)) (ed_call (eds_cons (ed_sl s3 rfl) (eds_cons (ed_sl s3 rfl) eds_nil)) ⟨old, k, rfl, by omega, by omega, rfl⟩) ?_
    intro σ4 H4 H41 x4 e4 n4 s4
    have eW : EvD K (tOp (rAddU K) (tOp (rIx K) (tC (.str (Str.ofString "ABCDEFGHIJK"))) (tVar 4)) (tSl (rSlU K) (tVar 1) (tPart (tVar 4)) tNoPart)) σ4 H4 (.str (packOne old k)) := by
      refine ed_is (ed_op (ed_op (ed_c (.str _)) (ed_sl s4 rfl) (rd_sign (c := 65 + alikeS old k) (by decide +kernel) (by omega) (by rw [Int.toNat_natCast]; exact letters_at (by omega)))) (ed_slS (ed_sl s4 rfl) (eo_some (K := K) (ed_sl s4 rfl)) eo_none (by omega)) (rd_addS ?_)) ?_
      · rw [cutS_from le.2]
        show 1 + (List.toArray _).size ≤ sizeLine
        have : (k.cps.toList.drop (alikeS old k)).length ≤ 10 := by
          rw [List.length_drop]
          have : k.cps.toList.length ≤ 10 := by simpa [Str.length] using hkl
          omega
        rw [List.size_toArray]
        exact Nat.le_trans (Nat.add_le_add_left this 1) (by decide)
      · rw [cutS_from le.2]
        congr 1
        apply str_cps_inj
        show (#[65 + alikeS old k] ++ (k.cps.toList.drop (alikeS old k)).toArray).toList = _
        rw [Array.toList_append]
        rfl
    refine st_appO n4 s4 rfl (c1.on x4 e4) (by rw [List.length_map, packL_len, List.length_take]; omega) eW ?_
    intro H5 H51 x5 o5 _ n5 s5
    refine st_asgX n5 s5 (ed_sl s5 rfl) ?_
    intro σ6 H6 H61 x6 e6 n6 s6
    refine ⟨H6, ((a.trans x4.ex).trans x5.ex).trans x6.ex, n6, ?_, ?_⟩
    · have e : (packL "" (l.take (i + 1))).map PyData.str = (packL "" (l.take i)).map PyData.str ++ [.str (packOne old k)] := by
        rw [List.take_add_one, hk]
        show (packL "" (l.take i ++ [k])).map PyData.str = _
        rw [packL_append, ho, List.map_append]
        rfl
      rw [e]
      exact o5.on x6 e6
    · rw [take_getLastD hk]
      exact (s6.forget 1).forget 4
  · rintro σ3 Hr ⟨H', a, b, c1, c5⟩
    rw [List.length_map, List.take_of_length_le (Nat.le_refl _)] at c1
    exact st_retO b c5 rfl c1 q
end
end LR

/-! ### check_of, sealed -/
namespace LR
open PySem PySem.Spec PyProof.Rows L2 Evl
/-- the check's number -/
def chkL (made : Int) (place : Nat) : List Nat → Int
  | [] => made
  | c :: r => chkL ((made * 31 + (c : Int) + (place : Int)) % 9973) (place + 1) r
def chkN (z : Str) : Int := chkL 0 0 z.cps.toList
theorem chkL_bd : ∀ (l : List Nat) (m : Int) (p : Nat), 0 ≤ m → m < 9973 → 0 ≤ chkL m p l ∧ chkL m p l < 9973
  | [], _, _, h1, h2 => ⟨h1, h2⟩
  | _ :: r, _, _, _, _ => chkL_bd r _ _ (Int.emod_nonneg _ (by decide)) (Int.emod_lt_of_pos _ (by decide))
theorem chkN_bd (z : Str) : 0 ≤ chkN z ∧ chkN z < 9973 := chkL_bd _ 0 0 (by decide) (by decide)
theorem chkL_append : ∀ (l : List Nat) (m : Int) (p : Nat) (c : Nat), chkL m p (l ++ [c]) = (chkL m p l * 31 + (c : Int) + ((p + l.length : Nat) : Int)) % 9973
  | [], _, _, _ => rfl
  | x :: r, m, p, c => by
    show chkL _ (p + 1) (r ++ [c]) = _
    rw [chkL_append r]
    have e : p + 1 + r.length = p + (x :: r).length := by
      rw [List.length_cons]
      omega
    rw [e]
    rfl
/-- four figures -/
def fig4 (n : Nat) : List Nat := [48 + n / 1000 % 10, 48 + n / 100 % 10, 48 + n / 10 % 10, 48 + n % 10]
def chkS (z : Str) : Str := mk (fig4 (chkN z).toNat)
theorem num5 {n : Nat} (h : n < 10000) : TL.numL (10000 + n) = 49 :: fig4 n := by
  rw [TL.numL_step (by omega), TL.numL_step (by omega), TL.numL_step (by omega), TL.numL_step (by omega), TL.numL_lt (by omega)]
  unfold fig4
  have e1 : (10000 + n) / 10 / 10 / 10 / 10 = 1 := by omega
  have e2 : (10000 + n) / 10 / 10 / 10 % 10 = n / 1000 % 10 := by omega
  have e3 : (10000 + n) / 10 / 10 % 10 = n / 100 % 10 := by omega
  have e4 : (10000 + n) / 10 % 10 = n / 10 % 10 := by omega
  have e5 : (10000 + n) % 10 = n % 10 := by omega
  rw [e1, e2, e3, e4, e5]
  rfl
def Rcheck (ds : List PyData) (r : PyData) : Prop := ∃ z : Str, ds = [.str z] ∧ z.length ≤ 50000 ∧ r = .str (chkS z)
def Rsealed (ds : List PyData) (r : PyData) : Prop := ∃ z : Str, ds = [.str z] ∧ z.length ≤ 50000 ∧ r = .str (z ++ "#" ++ chkS z)
section
variable {K : PySem.W.Frag} {σ : L2.St} {H : Hp} {te : TE}
theorem ed_ord {c : Nat} (h : EvD K te σ H (.str ⟨#[c]⟩)) : EvD K (tCB (fun xs H Q => ∃ x : Str, xs = [.str x] ∧ x.length = 1 ∧ Q (.int (x.cps.getD 0 0 : Nat)) H) (tCons te tNil)) σ H (.int c) := fun H1 e1 Q q =>
  h H1 e1 _ fun v H2 Ha e2 ea xa da => ⟨⟨#[c]⟩, by rw [da.str_eq], rfl, q _ H2 Ha e2 ea xa (.int _)⟩
theorem ed_strI {i : Int} (h : EvD K te σ H (.int i)) (hi : i.natAbs.log2 < 1920) : EvD K (tCB (fun xs H Q => ∃ i : Int, xs = [.int i] ∧ i.natAbs.log2 < 1920 ∧ Q (.str (toString i)) H) (tCons te tNil)) σ H (.str (Str.ofString (toString i))) := fun H1 e1 Q q =>
  h H1 e1 _ fun v H2 Ha e2 ea xa da => ⟨i, by rw [da.int_eq], hi, q _ H2 Ha e2 ea xa (.str _)⟩
end
section
variable {P : Program} {w : World} {K : PySem.W.Frag} {mg : Str → Option Value} {base : Heap} {f : Addr} {fd : FuncData}
theorem sc_check_of : FnScope ["text", "made", "place", "sign"] ["text"] (defScope s_check_of) := ⟨rfl, rfl, rfl, by decide +kernel, rfl, by decide +kernel, by decide +kernel⟩
theorem fx_check_of (T : Txt mg) (F : FunD K "check_of" "check_of" (defArgs s_check_of) (defBody s_check_of) (defScope s_check_of) [] [] f fd) (hm : mg "check_of" = some (.ref f)) : Fx P w K mg base 1 "check_of" ["text"] (spR K 1 Rcheck) := by
  refine fx_pure F hm sc_check_of rfl (fun _ _ _ _ _ _ us hl => match us, hl with | [_], _ => rfl) fun cdv A outer s Hs E hr ds r hl hR => ?_
  refine ⟨_, (pss_cons (ps_set (i := 1) sc_check_of.nd rfl (by first | exact Or.inl rfl | exact Or.inr rfl) pe_int) (pss_cons (ps_for PassesOwn.never rfl (pi_enumS (by rfl) T.m_enumerate (pa_cons (pv 0) pa_nil)) (pg_tupK (K := K) (n := 2) rfl (by rfl) (pgs_cons (pg_name (i := 2) sc_check_of.nd rfl (by first | exact Or.inl rfl | exact Or.inr rfl)) (pgs_cons (pg_name (i := 3) sc_check_of.nd rfl (by first | exact Or.inl rfl | exact Or.inr rfl)) pgs_nil))) (pss_one (ps_set (i := 1) sc_check_of.nd rfl (by first | exact Or.inl rfl | exact Or.inr rfl) (pe_op op_mod (pe_op (op_addK (K := K) rfl) (pe_op (op_addK (K := K) rfl) (pe_op (op_mulK (K := K) rfl) (pv 1) pe_int) (pe_callB call_ord (by rfl) T.m_ord (by decide +kernel) (pa_cons (pv 3) pa_nil))) (pv 2)) (C8.pe_gc (by rfl) T.c_MODULE))))) (pss_one (ps_ret (pe_slice (sl_K (K := K) rfl) (pe_callTy call_str_int (by rfl) T.m_str (by decide +kernel) (pa_cons (pe_op (op_addK (K := K) rfl) pe_int (pv 1)) pa_nil)) (po_some pe_int) po_none))))), ?_⟩
  obtain ⟨z, rfl, hz, rfl⟩ := hR
  intro σ H0 H10 Q n s q
  have lz : z.cps.toList.length = z.cps.size := by simp
  refine st_asg n s (d := .int 0) (ed_c (.int 0)) ?_
  intro σ1 H1 H11 ex1 n1 s1
  refine st_for n1 (ei_enumS (ed_sl s1 rfl)) fun Hb H5 exb n5 _ => ?_
  refine ⟨fun i σ' Hr => ∃ H', Ex Hb H' ∧ Now H0 H10 H' Hr ∧ Sl K H' σ' [.dat (.str z), .dat (.int (chkL 0 0 (z.cps.toList.take i))), .unk, .unk], ⟨Hb, Ex.refl _, n5, s1.ex exb⟩, fun i σ' Hr ⟨H', a, b, _⟩ => a.trans b.ex, ?_, ?_⟩
  · rintro i x σ3 Hr H6 hi ⟨H', a, b, c⟩ ⟨Tt, ch, rfl, hT, hc, rfl⟩
    have hc' : z.cps.toList[i]? = some ch := by simpa using hc
    refine eg_pair (st_of upd_same) _ ?_
    have n6 : Now H0 H10 H' (upd Hr Tt (.tup [.int (i : Nat), .str ⟨#[ch]⟩])) := ⟨b.ex.trans (Ex.new hT), b.ext, b.grow.trans (Ex.new hT)⟩
    have s3 := (c.set (s := .dat (.int i)) (o := some (.int (i : Nat))) (.int _) 2).set (s := .dat (.str ⟨#[ch]⟩)) (o := some (.str ⟨#[ch]⟩)) (.str _) 3
    refine st_asg n6 s3 (d := .int (chkL 0 0 (z.cps.toList.take (i + 1)))) (ed_is (ed_op (ed_op (ed_op (ed_op (ed_sl s3 rfl) (ed_c (.int 31)) (rd_mulI (CMul_r (by decide) (by decide)))) (ed_ord (ed_sl s3 rfl)) rd_addI) (ed_sl s3 rfl) rd_addI) (ed_c (.int 9973)) (rd_I (C := fun _ j => 0 < j) (g := fun i j => i % j) (by decide))) ?_) ?_
    · rw [List.take_add_one, hc']
      show _ = PyData.int (chkL 0 0 (z.cps.toList.take i ++ [ch]))
      rw [chkL_append]
      have hi' : i < z.cps.toList.length := by rw [lz]; exact hi
      rw [List.length_take, Nat.min_eq_left (Nat.le_of_lt hi'), Nat.zero_add]
    · intro σ4 H4 H41 ex4 n4 s4
      exact ⟨H4, a.trans ex4, n4, (s4.forget 2).forget 3⟩
  · rintro σ3 Hr ⟨H', a, b, c⟩
    have e : z.cps.toList.take z.cps.size = z.cps.toList := by rw [← lz, List.take_length]
    rw [e] at c
    have bd := chkN_bd z
    obtain ⟨m, hm'⟩ : ∃ m : Nat, chkN z = m := ⟨(chkN z).toNat, by omega⟩
    have c' : Sl K H' σ3 [.dat (.str z), .dat (.int (m : Int)), .unk, .unk] := by
      rw [← hm']
      exact c
    have e5 : (10000 : Int) + (m : Int) = ((10000 + m : Nat) : Int) := by omega
    have tl5 : (Str.ofString (toString ((10000 : Int) + (m : Int)))).cps.toList = 49 :: fig4 m := by
      rw [e5]
      exact (TL.tl_num _).trans (num5 (by omega))
    have l5 : (Str.ofString (toString ((10000 : Int) + (m : Int)))).length = 5 := by
      have := congrArg List.length tl5
      simpa [Str.length, fig4] using this
    refine st_ret (K := K) b (ed_is (ed_slS (ed_strI (ed_op (ed_c (.int 10000)) (ed_sl c' rfl) rd_addI) ?_) (eo_some (K := K) (ed_c (.int 1))) eo_none (by rw [l5]; decide)) ?_) q
    · rw [e5, Int.natAbs_natCast]
      exact Nat.lt_of_lt_of_le ((Nat.log2_lt (by omega)).mpr (show 10000 + m < 2 ^ 15 by omega)) (by decide)
    · congr 1
      unfold chkS
      rw [hm', Int.toNat_natCast]
      unfold cutS
      rw [show (some (1 : Int)) = some ((1 : Nat) : Int) from rfl, HT.sIx_nat, HT.sIx_none, l5, tl5]
      rfl
end
end LR

/-! ### the law's values -/
namespace LR
open PySem PySem.Spec PyProof.Rows L2 Evl
abbrev valW : Str := "v0123456789x"
def lawVal (ns : List Int) (k : Int) : Str := if pick ns (k + 1) 3 = 0 then mk (TL.numL (pick ns (k + 2) 1000000000000).toNat) else mk (valW.cps.toList.take (pick ns k 13).toNat)
def Rvalue (ds : List PyData) (r : PyData) : Prop := ∃ (ns : List Int) (k : Int), ds = [scrD ns, .int k] ∧ ns.length ≤ 63 ∧ 0 ≤ k ∧ k ≤ 900000 ∧ r = .str (lawVal ns k)
theorem numL_ok : ∀ (d n : Nat), n < 10 ^ (d + 1) → (TL.numL n).length ≤ d + 1 ∧ ∀ c ∈ TL.numL n, 48 ≤ c ∧ c ≤ 57
  | 0, n, h => by
    rw [TL.numL_lt (by simpa using h)]
    refine ⟨Nat.le_refl _, fun c hc => ?_⟩
    have := List.mem_singleton.mp hc
    omega
  | d + 1, n, h => by
    rcases Nat.lt_or_ge n 10 with c | c
    · rw [TL.numL_lt c]
      refine ⟨by show 1 ≤ _; omega, fun c hc => ?_⟩
      have := List.mem_singleton.mp hc
      omega
    · have hn : n / 10 < 10 ^ (d + 1) := by
        rw [Nat.div_lt_iff_lt_mul (by decide)]
        rw [Nat.pow_succ] at h
        exact h
      obtain ⟨h1, h2⟩ := numL_ok d (n / 10) hn
      rw [TL.numL_step c]
      refine ⟨by rw [List.length_append, List.length_singleton]; omega, fun x hx => ?_⟩
      rcases List.mem_append.mp hx with m | m
      · exact h2 x m
      · have := List.mem_singleton.mp m
        omega
theorem val_of {l : List Nat} (hl : l.length ≤ 12) (h : ∀ c ∈ l, (97 ≤ c ∧ c ≤ 122) ∨ (48 ≤ c ∧ c ≤ 57)) : isValS (mk l) = true := by
  have e : (smallS ++ figS).cps.toList = (List.range 26).map (97 + ·) ++ (List.range 10).map (48 + ·) := by decide +kernel
  unfold isValS
  rw [Bool.and_eq_true]
  refine ⟨decide_eq_true (by show (List.toArray l).size ≤ 12; rw [List.size_toArray]; exact hl), List.all_eq_true.mpr fun c hc => decide_eq_true ?_⟩
  rw [e]
  rcases h c hc with q | q
  · exact List.mem_append_left _ (List.mem_map.mpr ⟨c - 97, List.mem_range.mpr (by omega), by omega⟩)
  · exact List.mem_append_right _ (List.mem_map.mpr ⟨c - 48, List.mem_range.mpr (by omega), by omega⟩)
theorem lawVal_val (ns : List Int) (k : Int) : isValS (lawVal ns k) = true := by
  unfold lawVal
  have e : valW.cps.toList = [118, 48, 49, 50, 51, 52, 53, 54, 55, 56, 57, 120] := by decide +kernel
  split
  · have h := pick_hi ns (k + 2) (many := 1000000000000) (by decide)
    have h0 := pick_lo ns (k + 2) (many := 1000000000000) (by decide)
    obtain ⟨h1, h2⟩ := numL_ok 11 (pick ns (k + 2) 1000000000000).toNat (by show _ < 1000000000000; omega)
    exact val_of h1 fun c hc => .inr (h2 c hc)
  · refine val_of (by rw [List.length_take, e]; exact Nat.min_le_right _ _) fun c hc => ?_
    have := List.mem_of_mem_take hc
    rw [e] at this
    simp only [List.mem_cons, List.not_mem_nil, or_false] at this
    omega
section
variable {P : Program} {w : World} {K : PySem.W.Frag} {mg : Str → Option Value} {base : Heap} {f : Addr} {fd : FuncData}
theorem sc_law_value : FnScope ["script", "at"] ["script", "at"] (defScope s_law_value) := ⟨rfl, rfl, rfl, by decide +kernel, rfl, by decide +kernel, by decide +kernel⟩
theorem fx_law_value (T : Txt mg) (F : FunD K "_law_value" "_law_value" (defArgs s_law_value) (defBody s_law_value) (defScope s_law_value) [] [] f fd) (hm : mg "_law_value" = some (.ref f)) (g_law_pick : Fx P w K mg base 1 "_law_pick" ["script", "k", "many"] (spR K 3 Rpick)) : Fx P w K mg base 2 "_law_value" ["script", "at"] (spR K 2 Rvalue) := by
  refine fx_pure F hm sc_law_value rfl (fun _ _ _ _ _ _ us hl => match us, hl with | [_, _], _ => rfl) fun cdv A outer s Hs E hr ds r hl hR => ?_
  refine ⟨_, (pss_cons (ps_if (pt_cmpR (op_eqK (K := K) rfl hr.units) (pe_fx g_law_pick hr (by decide) (by rfl) passN (pa_cons (pv 0) (pa_cons (pe_op (op_addK (K := K) rfl) (pv 1) pe_int) (pa_cons pe_int pa_nil)))) pe_int (nomark _)) (pss_one (ps_ret (pe_callTy call_str_int (by rfl) T.m_str (by decide +kernel) (pa_cons (pe_fx g_law_pick hr (by decide) (by rfl) passN (pa_cons (pv 0) (pa_cons (pe_op (op_addK (K := K) rfl) (pv 1) pe_int) (pa_cons (pe_op op_pow pe_int pe_int) pa_nil)))) pa_nil)))) pss_nil) (pss_one (ps_ret (pe_slice (sl_K (K := K) rfl) pe_str po_none (po_some (pe_fx g_law_pick hr (by decide) (by rfl) passN (pa_cons (pv 0) (pa_cons (pv 1) (pa_cons pe_int pa_nil))))))))), ?_⟩
  obtain ⟨ns, k, rfl, hns, hk0, hk1, rfl⟩ := hR
  intro σ H0 H10 Q n s q
  refine st_if n (b := decide (pick ns (k + 1) 3 = 0)) (eb_test (ed_op (callPick hns (ed_sl s rfl) (ed_op (ed_sl s rfl) (ed_c (.int 1)) rd_addI) (ed_c (.int 3)) (by omega) (by omega) (by decide)) (ed_c (.int 0)) rd_eqI)) (fun h H2 n2 => ?_) (fun h H2 n2 => ?_)
  · have h' := of_decide_eq_true h
    have e : lawVal ns k = mk (TL.numL (pick ns (k + 2) 1000000000000).toNat) := by
      unfold lawVal
      rw [if_pos h']
    rw [e] at q
    have hp := pick_hi ns (k + 2) (many := 1000000000000) (by decide)
    have hp0 := pick_lo ns (k + 2) (many := 1000000000000) (by decide)
    have pow12 : EvD K (tOp (rI CPow fun i j => .int (i ^ j.toNat)) (tC (.int 10)) (tC (.int 12))) σ H0 (.int 1000000000000) := ed_is (ed_op (ed_c (.int 10)) (ed_c (.int 12)) (rd_I (C := CPow) (g := fun i j => i ^ j.toNat) ⟨by decide, by decide, by decide⟩)) rfl
    have ePick := callPick (K := K) (E := E0) hns (ed_sl (i := 0) s rfl) (ed_op (ed_sl (i := 1) s rfl) (ed_c (.int 2)) rd_addI) pow12 (k := k + 2) (m := 1000000000000) (by omega) (by omega) (by decide)
    generalize pick ns (k + 2) 1000000000000 = m at ePick q hp hp0
    obtain ⟨m, rfl⟩ : ∃ j : Nat, m = j := ⟨m.toNat, by omega⟩
    refine st_ret (K := K) n2 (ed_is (ed_strI ePick ?_) ?_) q
    · rw [Int.natAbs_natCast]
      rcases Nat.eq_zero_or_pos m with z | z
      · rw [z]; decide
      · exact Nat.lt_of_lt_of_le ((Nat.log2_lt (by omega)).mpr (show m < 2 ^ 40 by omega)) (by decide)
    · congr 1
      rw [Int.toNat_natCast]
      exact str_cps_inj (TL.tl_num m)
  · have h' := of_decide_eq_false h
    have e : lawVal ns k = mk (valW.cps.toList.take (pick ns k 13).toNat) := by
      unfold lawVal
      rw [if_neg h']
    rw [e] at q
    have hp := pick_hi ns k (many := 13) (by decide)
    have hp0 := pick_lo ns k (many := 13) (by decide)
    have ePick := callPick (K := K) (E := E0) hns (ed_sl (i := 0) s rfl) (ed_sl (i := 1) s rfl) (ed_c (.int 13)) (k := k) (m := 13) (σ := σ) (H := H0) (by omega) (by omega) (by decide)
    generalize pick ns k 13 = m at ePick q hp hp0
    obtain ⟨m, rfl⟩ : ∃ j : Nat, m = j := ⟨m.toNat, by omega⟩
    refine st_ret (K := K) n2 (ed_is (ed_slS (ed_c (.str _)) eo_none (eo_some (K := K) ePick) (by decide +kernel)) ?_) q
    have lw : valW.length = 12 := by decide +kernel
    rw [cutS_to (by rw [lw]; omega), Int.toNat_natCast]
end
end LR

/-! ### sealed, unsealed -/
namespace LR
open PySem PySem.Spec PyProof.Rows L2 Evl L2H LamX
def isStrD : PyData → Bool
  | .str _ => true
  | _ => false
theorem kit_strD (d : PyData) : kitB (tyD d) "str" = some (isStrD d) := by
  cases d with
  | none => exact (by decide +kernel : kitB "NoneType" "str" = some false)
  | bool _ => exact (by decide +kernel : kitB "bool" "str" = some false)
  | int _ => exact (by decide +kernel : kitB "int" "str" = some false)
  | str _ => exact (by decide +kernel : kitB "str" "str" = some true)
  | list _ => exact (by decide +kernel : kitB "list" "str" = some false)
  | tuple _ => exact (by decide +kernel : kitB "tuple" "str" = some false)
  | dict _ => exact (by decide +kernel : kitB "list" "str" = some false)
abbrev innerS (z : Str) : Str := cutS z none (some (-5))
def soundS (z : Str) : Bool := decide (cutS z (some (-5)) (some (-4)) = "#") && decide (chkS (innerS z) = cutS z (some (-4)) none)
def unsealA : PyData → Ans
  | .str z => if soundS z then .ok (.str (innerS z)) else .error "NoPiece"
  | _ => .error "NoPiece"
def Runsealed (ds : List PyData) (r : Ans) : Prop := ∃ d, ds = [d] ∧ lenOk d ∧ r = unsealA d
theorem cutS_len (z : Str) (a b : Option Int) : (cutS z a b).length ≤ z.length := by
  show (List.toArray _).size ≤ _
  rw [List.size_toArray, List.length_take, List.length_drop]
  have : z.cps.toList.length = z.length := by simp [Str.length]
  omega
theorem chkS_len (z : Str) : (chkS z).length = 4 := rfl
section
variable {P : Program} {w : World} {K : PySem.W.Frag} {mg : Str → Option Value} {base : Heap} {f : Addr} {fd : FuncData}
theorem callCheck {σ : L2.St} {H : Hp} {te : TE} {z : Str} {E : XK} (h : EvD K te σ H (.str z)) (hl : z.length ≤ 50000) : EvD K (tCall (spR K 1 Rcheck) [] E (tCons te tNil)) σ H (.str (chkS z)) := ed_call (eds_cons h eds_nil) ⟨z, rfl, hl, rfl⟩
theorem sc_sealed : FnScope ["text"] ["text"] (defScope s_sealed) := ⟨rfl, rfl, rfl, by decide +kernel, rfl, by decide +kernel, by decide +kernel⟩
theorem fx_sealed (T : Txt mg) (F : FunD K "sealed" "sealed" (defArgs s_sealed) (defBody s_sealed) (defScope s_sealed) [] [] f fd) (hm : mg "sealed" = some (.ref f)) (g_check_of : Fx P w K mg base 1 "check_of" ["text"] (spR K 1 Rcheck)) : Fx P w K mg base 2 "sealed" ["text"] (spR K 1 Rsealed) := by
  refine fx_pure F hm sc_sealed rfl (fun _ _ _ _ _ _ us hl => match us, hl with | [_], _ => rfl) fun cdv A outer s Hs E hr ds r hl hR => ?_
  refine ⟨_, (pss_one (ps_ret (pe_op (op_addK (K := K) rfl) (pe_op (op_addK (K := K) rfl) (pv 0) (C8.pe_gc (by rfl) T.c_MARK)) (pe_fx g_check_of hr (by decide) (by rfl) passN (pa_cons (pv 0) pa_nil))))), ?_⟩
  obtain ⟨z, rfl, hz, rfl⟩ := hR
  intro σ H0 H10 Q n s q
  have lm : (Str.ofString "#").length = 1 := by decide +kernel
  have la : ∀ a b : Str, (a ++ b).length = a.length + b.length := fun a b => by
    show (a.cps ++ b.cps).size = _
    rw [Array.size_append]
    rfl
  refine st_ret (K := K) n (ed_op (ed_op (ed_sl s rfl) (ed_c (.str _)) (rd_addS ?_)) (callCheck (ed_sl s rfl) hz) (rd_addS ?_)) q
  · exact Nat.le_trans (show z.length + (Str.ofString "#").length ≤ 60000 by omega) (by decide)
  · exact Nat.le_trans (show (z ++ Str.ofString "#").length + (chkS z).length ≤ 60000 by rw [la, chkS_len]; omega) (by decide)
theorem sc_unsealed : FnScope ["text"] ["text"] (defScope s_unsealed) := ⟨rfl, rfl, rfl, by decide +kernel, rfl, by decide +kernel, by decide +kernel⟩
theorem fx_unsealed (T : Txt mg) (xt : ExT exNs K mg) (F : FunD K "unsealed" "unsealed" (defArgs s_unsealed) (defBody s_unsealed) (defScope s_unsealed) [] [] f fd) (hm : mg "unsealed" = some (.ref f)) (g_check_of : Fx P w K mg base 1 "check_of" ["text"] (spR K 1 Rcheck)) : Fx P w K mg base 2 "unsealed" ["text"] (spX K 1 Runsealed) := by
  refine fx_raise F hm sc_unsealed rfl (fun _ _ _ _ _ _ us hl => match us, hl with | [_], _ => rfl) fun cdv A outer s Hs E hr ds r hl hR => ?_
  refine ⟨_, (pss_cons (ps_if (PW.pt (pw_or (pt_not (pt_val (pe_callB (call_isK (K := K) rfl) (by rfl) T.m_isinstance (by decide +kernel) (pa_cons (pv 0) (pa_cons (pe_bltn (v := .ty "str") (by rfl) T.m_str (by decide +kernel) rfl) pa_nil))))) (pw_or (pt_cmpR (op_neK (K := K) rfl hr.units) (pe_slice (sl_K (K := K) rfl) (pv 0) (po_some (pe_un un_neg pe_int)) (po_some (pe_un un_neg pe_int))) (C8.pe_gc (by rfl) T.c_MARK) (nomark _)) (pw_or1 (pt_cmpR (op_neK (K := K) rfl hr.units) (pe_fx g_check_of hr (by decide) (by rfl) passN (pa_cons (pe_slice (sl_K (K := K) rfl) (pv 0) po_none (po_some (pe_un un_neg pe_int))) pa_nil)) (pe_slice (sl_K (K := K) rfl) (pv 0) (po_some (pe_un un_neg pe_int)) po_none) (nomark _)))))) (pss_one (L2N.ps_raise rfl (L2N.takes_of rfl rfl rfl rfl) (L2N.pmk_own PySem.F.excBase_ValueError (xt.exc "NoPiece" (by decide)) (xt.glo "NoPiece" (by decide)) (xt.keep "NoPiece" (by decide)) (raises_own (xt.sub "NoPiece" (by decide)) (xt.ty "NoPiece" (by decide))) (by rfl)))) pss_nil) (pss_one (ps_ret (pe_slice (sl_K (K := K) rfl) (pv 0) po_none (po_some (pe_un un_neg pe_int)))))), ?_⟩
  obtain ⟨d, rfl, hd, rfl⟩ := hR
  intro σ H0 H10 Q n s q
  cases d with
  | str z =>
    have hz : z.length ≤ 50000 := hd
    have q' : KX K E H0 H10 Q (if soundS z then .ok (.str (innerS z)) else .error "NoPiece") := q
    have m4 : ∀ {σ : L2.St} {H : Hp} (k : Int), EvD K (tUn (rU fun i => .int (-i)) (tC (.int k))) σ H (.int (-k)) := fun k => ed_un (ed_c (.int k)) rdu_neg
    have e1 : EvD K (tSl (rSlU K) (tVar 0) (tPart (tUn (rU fun i => .int (-i)) (tC (.int 5)))) (tPart (tUn (rU fun i => .int (-i)) (tC (.int 4))))) σ H0 (.str (cutS z (some (-5)) (some (-4)))) := ed_slS (ed_sl s rfl) (eo_some (K := K) (m4 5)) (eo_some (K := K) (m4 4)) (by omega)
    have e2 : EvD K (tSl (rSlU K) (tVar 0) tNoPart (tPart (tUn (rU fun i => .int (-i)) (tC (.int 5))))) σ H0 (.str (innerS z)) := ed_slS (ed_sl s rfl) eo_none (eo_some (K := K) (m4 5)) (by omega)
    have e3 : EvD K (tSl (rSlU K) (tVar 0) (tPart (tUn (rU fun i => .int (-i)) (tC (.int 4)))) tNoPart) σ H0 (.str (cutS z (some (-4)) none)) := ed_slS (ed_sl s rfl) (eo_some (K := K) (m4 4)) eo_none (by omega)
    refine st_if n (b := !soundS z) (eb_is (eb_or (b := !soundS z) (eb_not (eb_B (ed_isi (ed_sl s rfl) (kit_strD _)))) fun _ => eb_is (eb_or (b := !decide (chkS (innerS z) = cutS z (some (-4)) none)) (eb_test (ed_op e1 (ed_c (.str _)) rd_neS)) fun _ => eb_test (ed_op (callCheck e2 (Nat.le_trans (cutS_len _ _ _) hz)) e3 rd_neS)) ?_) ?_) (fun h H2 n2 => ?_) (fun h H2 n2 => ?_)
    · unfold soundS
      rw [Bool.not_and]
    · rfl
    · have h' : soundS z = false := by simpa using h
      rw [h'] at q'
      exact q' H2 n2.grow
    · have h' : soundS z = true := by simpa using h
      rw [if_pos h'] at q'
      exact st_ret (K := K) n2 e2 q'
  | _ =>
    refine st_if n (b := true) (eb_is (eb_or (b := false) (eb_not (eb_B (ed_isi (ed_sl s rfl) (kit_strD _)))) fun h => nomatch h) rfl) (fun h H2 n2 => ?_) (fun h => nomatch h)
    exact q H2 n2.grow
end
end LR

/-! ### is_sound -/
namespace LR
open PySem PySem.Spec PyProof.Rows L2 Evl L2H LamX
theorem passT {X : Cx} {W : WX} (tk : L2N.Takes X W) : Passes (CXL X.prog X.w) X (fun cls d H' => ∀ σ', W cls d σ' H') := L2N.passes_call tk fun _ _ σ' _ h => h σ'
def isSoundD : PyData → Bool
  | .str z => soundS z
  | _ => false
def RisSound (ds : List PyData) (r : PyData) : Prop := ∃ d, ds = [d] ∧ lenOk d ∧ r = .bool (isSoundD d)
theorem unseal_of (d : PyData) : (isSoundD d = true ∧ ∃ z, unsealA d = .ok z) ∨ (isSoundD d = false ∧ unsealA d = .error "NoPiece") := by
  cases d with
  | str z =>
    show (soundS z = true ∧ ∃ y, (if soundS z then Except.ok _ else _) = Except.ok y) ∨ (soundS z = false ∧ (if soundS z then _ else _) = _)
    cases h : soundS z with
    | true => exact .inl ⟨rfl, _, rfl⟩
    | false => exact .inr ⟨rfl, rfl⟩
  | _ => exact .inr ⟨rfl, rfl⟩
section
variable {P : Program} {w : World} {K : PySem.W.Frag} {mg : Str → Option Value} {base : Heap} {f : Addr} {fd : FuncData}
theorem sc_is_sound : FnScope ["text"] ["text"] (defScope s_is_sound) := ⟨rfl, rfl, rfl, by decide +kernel, rfl, by decide +kernel, by decide +kernel⟩
theorem fx_is_sound (T : Txt mg) (xt : ExT exNs K mg) (F : FunD K "is_sound" "is_sound" (defArgs s_is_sound) (defBody s_is_sound) (defScope s_is_sound) [] [] f fd) (hm : mg "is_sound" = some (.ref f)) (g_unsealed : Fx P w K mg base 2 "unsealed" ["text"] (spX K 1 Runsealed)) : Fx P w K mg base 3 "is_sound" ["text"] (spR K 1 RisSound) := by
  refine fx_pure F hm sc_is_sound rfl (fun _ _ _ _ _ _ us hl => match us, hl with | [_], _ => rfl) fun cdv A outer s Hs E hr ds r hl hR => ?_
  refine ⟨_, (pss_cons (L2N.ps_try_many rfl rfl takesN0 (fun W pn xe tk _ => (pss_one (ps_expr (pe_fx g_unsealed hr (by decide) (by rfl) (passT tk) (pa_cons (pv 0) pa_nil))))) (L2N.HdsOk.cons ⟨by rfl, by decide, .inl (xt.glo "NoPiece" (by decide))⟩ (fun a oe cls d pn _ _ => (pss_one (ps_ret pe_bl))) .nil)) (pss_one (ps_ret pe_bl))), ?_⟩
  obtain ⟨d, rfl, hd, rfl⟩ := hR
  intro σ H0 H10 Q n s q
  refine st_doX n s (ex_call (r := unsealA d) (eds_cons (ed_sl s rfl) eds_nil) ⟨d, rfl, hd, rfl⟩) (fun z hz H' H2 x2 e2 n2 s2 => ?_) (fun x hx H2 e2 => ?_)
  · rcases unseal_of d with ⟨h1, _⟩ | ⟨_, h2⟩
    · rw [h1] at q
      show tRet (tC (.bl true)) { nx := fun _ H' => Q .non H', rt := Q } σ H2
      exact st_ret (K := K) n2 (ed_c (.bl true)) q
    · rw [h2] at hz
      cases hz
  · rcases unseal_of d with ⟨_, y, h2⟩ | ⟨h1, h2⟩
    · rw [h2] at hx
      cases hx
    · rw [h2] at hx
      cases hx
      rw [h1] at q
      refine fun σ' => ⟨true, xt.exm "NoPiece" (by decide) "NoPiece" (by decide), fun _ a ha => ?_, fun h => nomatch h⟩
      exact q _ H2 H0 e2 (n.ex.trans (n.grow.trans e2)) (Ext.refl _ _) (.bl false)
end
end LR

/-! ### are_entries -/
namespace LR
open PySem PySem.Spec PyProof.Rows L2 Evl L2H LamX
def pairD : PyData → Bool
  | .tuple [_, _] => true
  | _ => false
def entD : PyData → Bool
  | .tuple [k, v] => isKeyD k && isValD v
  | _ => false
def key0 : PyData → Str
  | .tuple (.str k :: _) => k
  | _ => ""
def risL : List Str → Bool
  | a :: b :: r => decide (a.cps.toList < b.cps.toList) && risL (b :: r)
  | _ => true
def areEntD : PyData → Bool
  | .tuple ds => ds.all entD && risL (ds.map key0)
  | _ => false
/-- texts in entries are not without bound -/
def smallE : PyData → Prop
  | .tuple [a, b] => lenOk a ∧ lenOk b
  | _ => True
def smallD : PyData → Prop
  | .tuple ds => ds.length ≤ 50000 ∧ ∀ e ∈ ds, smallE e
  | _ => True
def RareEnt (ds : List PyData) (r : PyData) : Prop := ∃ d, ds = [d] ∧ smallD d ∧ r = .bool (areEntD d)
theorem entD_eq {d : PyData} (h : entD d = true) : ∃ k v, d = .tuple [.str k, .str v] ∧ isKeyS k = true ∧ isValS v = true := by
  cases d with
  | tuple ds =>
    match ds, h with
    | [a, b], h =>
      have h' : (isKeyD a && isValD b) = true := h
      rw [Bool.and_eq_true] at h'
      cases a with
      | str k =>
        cases b with
        | str v => exact ⟨k, v, rfl, h'.1, h'.2⟩
        | _ => exact (Bool.false_ne_true h'.2).elim
      | _ => exact (Bool.false_ne_true h'.1).elim
  | _ => exact (Bool.false_ne_true h).elim
theorem ris_zip : ∀ (ds : List PyData), (List.zipWith (fun x y => decide ((key0 x).cps.toList < (key0 y).cps.toList)) ds (ds.drop 1)).all id = risL (ds.map key0)
  | [] => rfl
  | [_] => rfl
  | a :: b :: r => by
    have h := ris_zip (b :: r)
    show (decide _ && (List.zipWith _ (b :: r) r).all id) = (decide _ && _)
    have e : (b :: r).drop 1 = r := rfl
    rw [e] at h
    rw [h]
    rfl
theorem pair_of_ent {d : PyData} (h : entD d = true) : pairD d = true := by
  obtain ⟨k, v, rfl, _⟩ := entD_eq h
  rfl
theorem pairD_len (ds : List PyData) : pairD (.tuple ds) = decide ((ds.length : Int) = 2) := by
  match ds with
  | [] => rfl
  | [_] => rfl
  | [_, _] => rfl
  | _ :: _ :: _ :: r =>
    symm
    show decide _ = false
    refine decide_eq_false ?_
    simp only [List.length_cons]
    omega
theorem cutD_drop1 (ds : List PyData) : cutD ds (some 1) none = ds.drop 1 := by
  unfold cutD
  have e1 : HT.sIx ds.length 0 (some 1) = min 1 ds.length := by
    rw [show (some (1 : Int)) = some ((1 : Nat) : Int) from rfl, HT.sIx_nat]
  rw [e1, HT.sIx_none]
  cases ds with
  | nil => rfl
  | cons a r =>
    rw [Nat.min_eq_left (by rw [List.length_cons]; omega)]
    exact List.take_of_length_le (by rw [List.length_drop]; omega)
section
variable {P : Program} {w : World} {K : PySem.W.Frag} {mg : Str → Option Value} {base : Heap} {f : Addr} {fd : FuncData}
theorem callKey {σ : L2.St} {H : Hp} {te : TE} {d : PyData} {E : XK} (h : EvD K te σ H d) (hl : lenOk d) : EvD K (tCall (spR K 1 RisKey) [] E (tCons te tNil)) σ H (.bool (isKeyD d)) := ed_call (eds_cons h eds_nil) ⟨d, rfl, hl, rfl⟩
theorem callVal {σ : L2.St} {H : Hp} {te : TE} {d : PyData} {E : XK} (h : EvD K te σ H d) (hl : lenOk d) : EvD K (tCall (spR K 1 RisVal) [] E (tCons te tNil)) σ H (.bool (isValD d)) := ed_call (eds_cons h eds_nil) ⟨d, rfl, hl, rfl⟩
theorem sc_are_entries : FnScope ["thing", "one", "other", "key", "value"] ["thing"] (defScope s_are_entries) := ⟨rfl, rfl, rfl, by decide +kernel, rfl, by decide +kernel, by decide +kernel⟩
theorem fx_are_entries (T : Txt mg) (F : FunD K "are_entries" "are_entries" (defArgs s_are_entries) (defBody s_are_entries) (defScope s_are_entries) [] [] f fd) (hm : mg "are_entries" = some (.ref f)) (g_is_key : Fx P w K mg base 1 "is_key" ["thing"] (spR K 1 RisKey)) (g_is_value : Fx P w K mg base 1 "is_value" ["thing"] (spR K 1 RisVal)) : Fx P w K mg base 2 "are_entries" ["thing"] (spR K 1 RareEnt) := by
  refine fx_pure F hm sc_are_entries rfl (fun _ _ _ _ _ _ us hl => match us, hl with | [_], _ => rfl) fun cdv A outer s Hs E hr ds r hl hR => ?_
  refine ⟨_, (pss_cons (ps_if (PW.pt (pw_or (pt_not (pt_val (pe_callB (call_isK (K := K) rfl) (by rfl) T.m_isinstance (by decide +kernel) (pa_cons (pv 0) (pa_cons (pe_bltn (v := .ty "tuple") (by rfl) T.m_tuple (by decide +kernel) rfl) pa_nil))))) (pw_or1 (pt_not (pt_val (pe_callB (cr_allK (K := K) rfl rfl) (by rfl) T.m_all (by decide +kernel) (pa_cons (pe_lc (own := [("one", 1)]) rfl sc_are_entries.nd (pi_K (K := K) rfl (pv 0)) (blkOk_by (N := ["thing", "one", "other", "key", "value"]) (sc := defScope s_are_entries) (by decide +kernel)) (fun _ _ _ _ _ => (pg_name (i := 1) sc_are_entries.nd rfl (by first | exact Or.inl rfl | exact Or.inr rfl))) (fun _ _ _ _ _ => pts_nil) (fun _ _ _ _ _ => (pe_and (pe_callB (call_isK (K := K) rfl) (by rfl) T.m_isinstance (by decide +kernel) (pa_cons (pv 1) (pa_cons (pe_bltn (v := .ty "tuple") (by rfl) T.m_tuple (by decide +kernel) rfl) pa_nil))) (pe_one (pe_cmpR (op_eqK (K := K) rfl hr.units) (pe_callB (call_lenK (K := K) rfl) (by rfl) T.m_len (by decide +kernel) (pa_cons (pv 1) pa_nil)) pe_int (nomark _)))))) pa_nil))))))) (pss_one (ps_ret pe_bl)) pss_nil) (pss_cons (ps_if (pt_not (pt_val (pe_callB (cr_allK (K := K) rfl rfl) (by rfl) T.m_all (by decide +kernel) (pa_cons (pe_lc (own := [("key", 3), ("value", 4)]) rfl sc_are_entries.nd (pi_K (K := K) rfl (pv 0)) (blkOk_by (N := ["thing", "one", "other", "key", "value"]) (sc := defScope s_are_entries) (by decide +kernel)) (fun _ _ _ _ _ => (pg_tupK (K := K) (n := 2) rfl (by rfl) (pgs_cons (pg_name (i := 3) sc_are_entries.nd rfl (by first | exact Or.inl rfl | exact Or.inr rfl)) (pgs_cons (pg_name (i := 4) sc_are_entries.nd rfl (by first | exact Or.inl rfl | exact Or.inr rfl)) pgs_nil)))) (fun _ _ _ _ _ => pts_nil) (fun _ _ _ _ _ => (pe_and (pe_fx g_is_key hr (by decide) (by rfl) passN (pa_cons (pv 3) pa_nil)) (pe_one (pe_fx g_is_value hr (by decide) (by rfl) passN (pa_cons (pv 4) pa_nil)))))) pa_nil)))) (pss_one (ps_ret pe_bl)) pss_nil) (pss_one (ps_ret (pe_callB (cr_allK (K := K) rfl rfl) (by rfl) T.m_all (by decide +kernel) (pa_cons (pe_lc (own := [("one", 1), ("other", 2)]) rfl sc_are_entries.nd (pi_zipUK (K := K) rfl (by rfl) T.m_zip (pa_cons (pv 0) (pa_cons (pe_slice (sl_K (K := K) rfl) (pv 0) (po_some pe_int) po_none) pa_nil))) (blkOk_by (N := ["thing", "one", "other", "key", "value"]) (sc := defScope s_are_entries) (by decide +kernel)) (fun _ _ _ _ _ => (pg_tupK (K := K) (n := 2) rfl (by rfl) (pgs_cons (pg_name (i := 1) sc_are_entries.nd rfl (by first | exact Or.inl rfl | exact Or.inr rfl)) (pgs_cons (pg_name (i := 2) sc_are_entries.nd rfl (by first | exact Or.inl rfl | exact Or.inr rfl)) pgs_nil)))) (fun _ _ _ _ _ => pts_nil) (fun _ _ _ _ _ => (pe_cmpR op_ltU (pe_ix (ix_K (K := K) rfl) (pv 1) pe_int (fun _ _ => rfl)) (pe_ix (ix_K (K := K) rfl) (pv 2) pe_int (fun _ _ => rfl)) (nomark _)))) pa_nil)))))), ?_⟩
  obtain ⟨d, rfl, hd, rfl⟩ := hR
  intro σ H0 H10 Q n s q
  cases d with
  | tuple ds =>
    obtain ⟨hl, hs⟩ := hd
    have e1 := ed_lcD (K := K) (σ := σ) (H := H0) (ti := tVar 0) (te := tAndV (tCB (rIsi K) (tCons (tVar 1) (tCons (tC (.ty "tuple")) tNil))) (tOp (rEqU K) (tCB (lenR K) (tCons (tVar 1) tNil)) (tC (.int 2)))) (j := 1) (vs := [1]) (fun d => .bool (pairD d)) s (eiU_tup (ed_sl s rfl)) hl rfl (fun d hd σ2 Hc e2 s2 => by
      refine ed_is (ed_and (b := pairD d) (ed_isi (ed_sl s2 rfl) (kit_tup _)) fun h => ?_) ?_
      · cases d with
        | tuple es => exact ed_is (ed_op (ed_lenT (ed_sl s2 rfl)) (ed_c (.int 2)) rd_eqI) (by rw [pairD_len])
        | _ => cases h
      · cases d with
        | tuple es => rfl
        | _ => rfl)
    have e1' : EvD K _ σ H0 (.list ((ds.map pairD).map .bool)) := ed_is e1 (by rw [List.map_map]; rfl)
    refine st_if n (b := !(ds.all pairD)) (eb_is (eb_or (b := !(ds.all pairD)) (eb_not (eb_B (ed_isi (ed_sl s rfl) (kit_tup _)))) fun _ => eb_is (eb_not (eb_B (ed_all e1'))) ?_) ?_) (fun h H2 n2 => ?_) (fun h H2 n2 => ?_)
    · rw [List.all_map]
      rfl
    · rfl
    · have h' : ds.all pairD = false := by simpa using h
      have e : areEntD (.tuple ds) = false := by
        have z : ds.all entD = false := by
          rw [List.all_eq_false] at h' ⊢
          obtain ⟨x, hx, hx2⟩ := h'
          exact ⟨x, hx, fun z => hx2 (pair_of_ent z)⟩
        show (ds.all entD && _) = false
        rw [z]
        rfl
      rw [e] at q
      exact st_ret (K := K) n2 (ed_c (.bl false)) q
    · have hp : ∀ d ∈ ds, pairD d = true := List.all_eq_true.mp (by simpa using h)
      have e2 := ed_lcP (K := K) (σ := σ) (H := H0) (ti := tVar 0) (tt := tYes) (te := tAndV (tCall (spR K 1 RisKey) [] E0 (tCons (tVar 3) tNil)) (tCall (spR K 1 RisVal) [] E0 (tCons (tVar 4) tNil))) (i := 3) (j := 4) (vs := [3, 4]) (fun d => some (.bool (entD d))) s (eiU_tup (ed_sl s rfl)) hl rfl (fun d hd => by
        have z := hp d hd
        have sm := hs d hd
        cases d with
        | tuple es =>
          match es, z, sm with
          | [a, b], _, sm =>
            refine ⟨a, b, rfl, fun σ2 Hc e2 s2 => ⟨true, fun H1 _ Q q => q H1 (Ex.refl _), (fun h => nomatch h), fun _ => ⟨_, rfl, ed_and (callKey (ed_sl s2 rfl) sm.1) fun _ => callVal (ed_sl s2 rfl) sm.2⟩⟩⟩
        | _ => exact (Bool.false_ne_true z).elim)
      have e2' : EvD K _ σ H0 (.list ((ds.map entD).map .bool)) := ed_is e2 (by rw [List.map_map]; exact congrArg _ (congrFun List.filterMap_eq_map' ds))
      refine st_if n2 (b := !(ds.all entD)) (eb_is (eb_not (eb_B (ed_all e2'))) ?_) (fun h H3 n3 => ?_) (fun h H3 n3 => ?_)
      · rw [List.all_map]
        rfl
      · have h' : ds.all entD = false := by simpa using h
        have e : areEntD (.tuple ds) = false := by
          show (ds.all entD && _) = false
          rw [h']
          rfl
        rw [e] at q
        exact st_ret (K := K) n3 (ed_c (.bl false)) q
      · have h' : ds.all entD = true := by simpa using h
        have he : ∀ d ∈ ds, entD d = true := List.all_eq_true.mp h'
        have e3 := ed_lcZ (K := K) (σ := σ) (H := H0) (wi := iZipU K (tCons (tVar 0) (tCons (tSl (rSlU K) (tVar 0) (tPart (tC (.int 1))) tNoPart) tNil))) (te := tOp rLtU (tOp (rIx K) (tVar 1) (tC (.int 0))) (tOp (rIx K) (tVar 2) (tC (.int 0)))) (i := 1) (j := 2) (vs := [1, 2]) (ds := ds) (es := ds.drop 1) (fun x y => .bool (decide ((key0 x).cps.toList < (key0 y).cps.toList))) s
          (ei_zipTT (eds_cons (ed_sl s rfl) (eds_cons (ed_is (ed_slT (ed_sl s rfl) (eo_some (K := K) (ed_c (.int 1))) eo_none) (by rw [cutD_drop1])) eds_nil))) (by omega) rfl (fun k x y hx hy σ2 Hc e2 s2 => by
            obtain ⟨k1, v1, rfl, _⟩ := entD_eq (he x (List.mem_of_getElem? hx))
            obtain ⟨k2, v2, rfl, _⟩ := entD_eq (he y (List.mem_of_mem_drop (List.mem_of_getElem? hy)))
            exact ed_op (ed_op (ed_sl s2 rfl) (ed_c (.int 0)) (rd_ixT (d := .str k1) rfl)) (ed_op (ed_sl s2 rfl) (ed_c (.int 0)) (rd_ixT (d := .str k2) rfl)) rd_ltS)
        have e3' : EvD K _ σ H0 (.list ((List.zipWith (fun x y => decide ((key0 x).cps.toList < (key0 y).cps.toList)) ds (ds.drop 1)).map .bool)) := ed_is e3 (by rw [List.map_zipWith])
        have e : areEntD (.tuple ds) = risL (ds.map key0) := by
          show (ds.all entD && _) = _
          rw [h']
          rfl
        rw [e] at q
        exact st_ret (K := K) n3 (ed_is (ed_all e3') (by rw [ris_zip])) q
  | _ =>
    refine st_if n (b := true) (eb_is (eb_or (b := false) (eb_not (eb_B (ed_isi (ed_sl s rfl) (kit_tup _)))) fun h => nomatch h) rfl) (fun h H2 n2 => ?_) (fun h => nomatch h)
    exact st_ret (K := K) n2 (ed_c (.bl false)) q
end
end LR

/-! ### entries_text, leaf_text, leaf_size -/
namespace LR
open PySem PySem.Spec PyProof.Rows L2 Evl L2H LamX
abbrev entR (p : Str × Str) : PyData := .tuple [.str p.1, .str p.2]
def entsD (rows : List (Str × Str)) : PyData := .tuple (rows.map entR)
/-- the entries as signs -/
def rowL (x : Str) (v : Str) : List Nat := x.cps.toList ++ (61 :: (v.cps.toList ++ [59]))
def rowsL : Str → List (Str × Str) → List Nat
  | _, [] => []
  | old, p :: r => rowL (packOne old p.1) p.2 ++ rowsL p.1 r
def entsT (rows : List (Str × Str)) : Str := mk (76 :: rowsL "" rows)
def sealS (z : Str) : Str := z ++ "#" ++ chkS z
def leafT (rows : List (Str × Str)) : Str := sealS (entsT rows)
theorem tl_mk' (l : List Nat) : (mk l).cps.toList = l := rfl
theorem mk_len (l : List Nat) : (mk l).length = l.length := List.size_toArray ..
theorem tl_len (z : Str) : z.cps.toList.length = z.length := by simp [Str.length]
theorem mk_tl (z : Str) : mk z.cps.toList = z := TL.mk_tl z
theorem tl_app (a b : Str) : (a ++ b).cps.toList = a.cps.toList ++ b.cps.toList := TL.tl_append a b
theorem len_app (a b : Str) : (a ++ b).length = a.length + b.length := by
  rw [← tl_len, tl_app, List.length_append, tl_len, tl_len]
theorem str_tl {a b : Str} (h : a.cps.toList = b.cps.toList) : a = b := by rw [← mk_tl a, ← mk_tl b, h]
theorem join0 (zs : List Str) : Txt.join "" zs = mk (zs.map fun z => z.cps.toList).flatten := by
  apply str_tl
  rw [TL.join_eq]
  have h := TL.tl_join "" zs
  refine h.trans ?_
  have e : ∀ l : List (List Nat), TL.joinL [] l = l.flatten := fun l => by
    induction l with
    | nil => rfl
    | cons a r ih =>
      cases r with
      | nil => show a = a ++ []; simp
      | cons b q =>
        show a ++ ([] ++ TL.joinL [] (b :: q)) = a ++ (b :: q).flatten
        rw [ih]
        rfl
  exact e _
theorem packOne_len (old k : Str) : (packOne old k).length ≤ k.length + 1 := by
  unfold packOne
  rw [mk_len, List.length_cons, List.length_drop, tl_len]
  omega
theorem packL_le : ∀ (l : List Str) (old : Str), (∀ z ∈ l, z.length ≤ 10) → ∀ z ∈ packL old l, z.length ≤ 11
  | [], _, _, z, hz => by cases hz
  | k :: r, old, h, z, hz => by
    rcases List.mem_cons.mp hz with e | e
    · rw [e]
      have := packOne_len old k
      have := h k List.mem_cons_self
      omega
    · exact packL_le r k (fun y hy => h y (List.mem_cons_of_mem _ hy)) z e
theorem rows_zip : ∀ (rows : List (Str × Str)) (old : Str), ((List.zipWith (fun (k : Str) (p : Str × Str) => k ++ "=" ++ p.2 ++ ";") (packL old (rows.map (·.1))) rows).map fun z => z.cps.toList).flatten = rowsL old rows
  | [], _ => rfl
  | p :: r, old => by
    show (packOne old p.1 ++ "=" ++ p.2 ++ ";").cps.toList ++ ((List.zipWith _ (packL p.1 (r.map (·.1))) r).map _).flatten = rowL _ _ ++ rowsL p.1 r
    rw [rows_zip r p.1]
    congr 1
    rw [tl_app, tl_app, tl_app]
    unfold rowL
    show ((_ ++ [61]) ++ _) ++ [59] = _
    simp
theorem rowsL_len : ∀ (rows : List (Str × Str)) (old : Str), (∀ p ∈ rows, p.1.length ≤ 10 ∧ p.2.length ≤ 12) → (rowsL old rows).length ≤ 25 * rows.length
  | [], _, _ => Nat.zero_le _
  | p :: r, old, h => by
    have h1 := h p List.mem_cons_self
    have h2 := rowsL_len r p.1 fun q hq => h q (List.mem_cons_of_mem _ hq)
    have h3 := packOne_len old p.1
    show (rowL _ _ ++ rowsL p.1 r).length ≤ _
    unfold rowL
    simp only [List.length_append, List.length_cons, List.length_nil, tl_len]
    omega
theorem sum_le {c : Nat} : ∀ (zs : List Str), (∀ z ∈ zs, z.length ≤ c) → (zs.map (·.length)).sum ≤ c * zs.length
  | [], _ => Nat.zero_le _
  | z :: r, h => by
    have h1 := h z List.mem_cons_self
    have h2 := sum_le r fun y hy => h y (List.mem_cons_of_mem _ hy)
    rw [List.map_cons, List.sum_cons, List.length_cons, Nat.mul_succ]
    omega
def Rents (ds : List PyData) (r : PyData) : Prop := ∃ rows : List (Str × Str), ds = [entsD rows] ∧ rows.length ≤ 1000 ∧ (∀ p ∈ rows, p.1.length ≤ 10 ∧ p.2.length ≤ 12) ∧ r = .str (entsT rows)
def Rsize (ds : List PyData) (r : PyData) : Prop := ∃ rows : List (Str × Str), ds = [entsD rows] ∧ rows.length ≤ 1000 ∧ (∀ p ∈ rows, p.1.length ≤ 10 ∧ p.2.length ≤ 12) ∧ r = .int ((entsT rows).length + 5 : Nat)
theorem areEnt_eq {d : PyData} (h : areEntD d = true) : ∃ rows : List (Str × Str), d = entsD rows ∧ (∀ p ∈ rows, isKeyS p.1 = true ∧ isValS p.2 = true) ∧ risL (rows.map (·.1)) = true := by
  cases d with
  | tuple ds =>
    have h' : (ds.all entD && risL (ds.map key0)) = true := h
    rw [Bool.and_eq_true] at h'
    have g : ∀ ds : List PyData, (∀ d ∈ ds, entD d = true) → ∃ rows : List (Str × Str), ds = rows.map entR ∧ (∀ p ∈ rows, isKeyS p.1 = true ∧ isValS p.2 = true) := fun ds => by
      induction ds with
      | nil => exact fun _ => ⟨[], rfl, fun p hp => by cases hp⟩
      | cons a r ih =>
        intro hd
        obtain ⟨k, v, rfl, h1, h2⟩ := entD_eq (hd a List.mem_cons_self)
        obtain ⟨rows, rfl, h3⟩ := ih fun d hd' => hd d (List.mem_cons_of_mem _ hd')
        refine ⟨(k, v) :: rows, rfl, fun p hp => ?_⟩
        rcases List.mem_cons.mp hp with e | e
        · rw [e]; exact ⟨h1, h2⟩
        · exact h3 p e
    obtain ⟨rows, rfl, h3⟩ := g ds (List.all_eq_true.mp h'.1)
    refine ⟨rows, rfl, h3, ?_⟩
    have z := h'.2
    rw [List.map_map] at z
    exact z
  | _ => exact (Bool.false_ne_true h).elim
theorem ents_inj {a b : List (Str × Str)} (h : entsD a = entsD b) : a = b := by
  injection h with e
  have inj : ∀ {a b : List (Str × Str)}, a.map entR = b.map entR → a = b := fun {a b} => by
    induction a generalizing b with
    | nil =>
      cases b with
      | nil => exact fun _ => rfl
      | cons _ _ => exact fun h => by cases h
    | cons x r ih =>
      cases b with
      | nil => exact fun h => by cases h
      | cons y r2 =>
        intro h
        rw [List.map_cons, List.map_cons] at h
        injection h with h1 h2
        injection h1 with h1
        injection h1 with h3 h4
        injection h4 with h5 _
        injection h3 with h3
        injection h5 with h5
        rw [ih h2]
        congr 1
        exact Prod.ext h3 h5
  exact inj e
theorem isKeyS_le {z : Str} (h : isKeyS z = true) : z.length ≤ 10 := by
  unfold isKeyS at h
  simp only [Bool.and_eq_true, decide_eq_true_eq] at h
  exact h.1.2
theorem isValS_le {z : Str} (h : isValS z = true) : z.length ≤ 12 := by
  unfold isValS at h
  simp only [Bool.and_eq_true, decide_eq_true_eq] at h
  exact h.1
theorem ents_all {rows : List (Str × Str)} (h : ∀ p ∈ rows, isKeyS p.1 = true ∧ isValS p.2 = true) (hr : risL (rows.map (·.1)) = true) : areEntD (entsD rows) = true := by
  show ((rows.map entR).all entD && risL ((rows.map entR).map key0)) = true
  rw [List.map_map]
  have e : rows.map (key0 ∘ entR) = rows.map (·.1) := rfl
  rw [e, hr, Bool.and_true, List.all_eq_true]
  intro d hd
  obtain ⟨p, hp, rfl⟩ := List.mem_map.mp hd
  show (isKeyS p.1 && isValS p.2) = true
  rw [(h p hp).1, (h p hp).2]
  rfl
/-- leaf_text -/
def leafA (d : PyData) : Ans := if areEntD d then (match d with
  | .tuple ds => .ok (.str (leafT (ds.map fun e => (key0 e, match e with
    | .tuple [_, .str v] => v
    | _ => ""))))
  | _ => .error "NoEntries") else .error "NoEntries"
def RleafText (ds : List PyData) (r : Ans) : Prop := ∃ d, ds = [d] ∧ smallD d ∧ (∀ es, d = .tuple es → es.length ≤ 1000) ∧ r = leafA d
theorem leafA_ents {rows : List (Str × Str)} (h : areEntD (entsD rows) = true) : leafA (entsD rows) = .ok (.str (leafT rows)) := by
  unfold leafA
  rw [if_pos h]
  show Except.ok (PyData.str (leafT ((rows.map entR).map _))) = _
  rw [List.map_map]
  congr 3
  conv => rhs; rw [← List.map_id rows]
  rfl
section
variable {P : Program} {w : World} {K : PySem.W.Frag} {mg : Str → Option Value} {base : Heap} {f : Addr} {fd : FuncData}
theorem sc_entries_text : FnScope ["entries", "keys", "key", "value", "entry"] ["entries"] (defScope s_entries_text) := ⟨rfl, rfl, rfl, by decide +kernel, rfl, by decide +kernel, by decide +kernel⟩
theorem fx_entries_text (T : Txt mg) (dk_SIGNS : DcT w K mg "SIGNS" kv_SIGNS) (F : FunD K "entries_text" "entries_text" (defArgs s_entries_text) (defBody s_entries_text) (defScope s_entries_text) [] [] f fd) (hm : mg "entries_text" = some (.ref f)) (g_packed : Fx P w K mg base 2 "packed" ["keys"] (spR K 1 Rpacked)) : Fx P w K mg base 3 "entries_text" ["entries"] (spR K 1 Rents) := by
  refine fx_pure F hm sc_entries_text rfl (fun _ _ _ _ _ _ us hl => match us, hl with | [_], _ => rfl) fun cdv A outer s Hs E hr ds r hl hR => ?_
  refine ⟨_, (pss_cons (ps_set (i := 1) sc_entries_text.nd rfl (by first | exact Or.inl rfl | exact Or.inr rfl) (pe_fx g_packed hr (by decide) (by rfl) passN (pa_cons (pe_lc (own := [("key", 2), ("value", 3)]) rfl sc_entries_text.nd (pi_K (K := K) rfl (pv 0)) (blkOk_by (N := ["entries", "keys", "key", "value", "entry"]) (sc := defScope s_entries_text) (by decide +kernel)) (fun _ _ _ _ _ => (pg_tupK (K := K) (n := 2) rfl (by rfl) (pgs_cons (pg_name (i := 2) sc_entries_text.nd rfl (by first | exact Or.inl rfl | exact Or.inr rfl)) (pgs_cons (pg_name (i := 3) sc_entries_text.nd rfl (by first | exact Or.inl rfl | exact Or.inr rfl)) pgs_nil)))) (fun _ _ _ _ _ => pts_nil) (fun _ _ _ _ _ => (pv 2))) pa_nil))) (pss_one (ps_ret (pe_op (op_addK (K := K) rfl) (pe_ix (ix_kdK (K := K) (w := w) rfl rfl) (C8.pe_gc (v := .ref (gaE K "SIGNS")) (by rfl) ⟨_, dk_SIGNS.glo, rfl⟩) (C8.pe_gc (by rfl) T.c_LEAF) (fun _ _ => rfl)) (pe_m1 PySem.F.slot_str_join PySem.F.type_str_join (mt_joinK (K := K) rfl) pe_str (pe_lc (own := [("key", 2), ("entry", 4)]) rfl sc_entries_text.nd (pi_zipUK (K := K) rfl (by rfl) T.m_zip (pa_cons (pv 1) (pa_cons (pv 0) pa_nil))) (blkOk_by (N := ["entries", "keys", "key", "value", "entry"]) (sc := defScope s_entries_text) (by decide +kernel)) (fun _ _ _ _ _ => (pg_tupK (K := K) (n := 2) rfl (by rfl) (pgs_cons (pg_name (i := 2) sc_entries_text.nd rfl (by first | exact Or.inl rfl | exact Or.inr rfl)) (pgs_cons (pg_name (i := 4) sc_entries_text.nd rfl (by first | exact Or.inl rfl | exact Or.inr rfl)) pgs_nil)))) (fun _ _ _ _ _ => pts_nil) (fun _ _ _ _ _ => (pe_op (op_addK (K := K) rfl) (pe_op (op_addK (K := K) rfl) (pe_op (op_addK (K := K) rfl) (pv 2) pe_str) (pe_ix (ix_K (K := K) rfl) (pv 4) pe_int (fun _ _ => rfl))) pe_str)))))))), ?_⟩
  obtain ⟨rows, rfl, hl, hs, rfl⟩ := hR
  intro σ H0 H10 Q n s q
  have e1 := ed_lcP (K := K) (σ := σ) (H := H0) (ti := tVar 0) (tt := tYes) (te := tVar 2) (i := 2) (j := 3) (vs := [2, 3]) (fun d => some (.str (key0 d))) s (eiU_tup (ds := rows.map entR) (ed_sl s rfl)) (by rw [List.length_map]; omega) rfl (fun d hd => by
    obtain ⟨p, hp, rfl⟩ := List.mem_map.mp hd
    exact ⟨.str p.1, .str p.2, rfl, fun σ2 Hc e2 s2 => ⟨true, fun H1 _ Q q => q H1 (Ex.refl _), (fun h => nomatch h), fun _ => ⟨_, rfl, ed_sl s2 rfl⟩⟩⟩)
  have e1' : EvD K _ σ H0 (.list ((rows.map (·.1)).map .str)) := ed_is e1 (by rw [List.map_map]; exact congrArg _ ((congrFun List.filterMap_eq_map' _).trans (by rw [List.map_map]; rfl)))
  refine st_asg n s (d := .list ((packL "" (rows.map (·.1))).map .str)) (ed_call (eds_cons e1' eds_nil) ⟨_, rfl, by rw [List.length_map]; exact hl, fun z hz => by obtain ⟨p, hp, rfl⟩ := List.mem_map.mp hz; exact (hs p hp).1, rfl⟩) ?_
  intro σ1 H1 H11 ex1 n1 s1
  have pl := packL_le (rows.map (·.1)) "" fun z hz => by
    obtain ⟨p, hp, rfl⟩ := List.mem_map.mp hz
    exact (hs p hp).1
  have el : (packL "" (rows.map (·.1))).length = rows.length := by rw [packL_len, List.length_map]
  have rz := rows_zip rows ""
  generalize packL "" (rows.map (·.1)) = ks at s1 pl el rz
  have big : ∀ {m : Nat}, m ≤ 100000 → m ≤ sizeLine := fun h => Nat.le_trans h (by decide)
  have e2 := ed_lcZ (K := K) (σ := σ1) (H := H1) (wi := iZipU K (tCons (tVar 1) (tCons (tVar 0) tNil))) (te := tOp (rAddU K) (tOp (rAddU K) (tOp (rAddU K) (tVar 2) (tC (.str (Str.ofString "=")))) (tOp (rIx K) (tVar 4) (tC (.int 1)))) (tC (.str (Str.ofString ";")))) (i := 2) (j := 4) (vs := [2, 4]) (ds := ks.map .str) (es := rows.map entR)
    (fun x y => match x, y with | .str k, .tuple [_, .str v] => .str (k ++ "=" ++ v ++ ";") | _, _ => .none) s1 (ei_zipLT (eds_cons (ed_sl s1 rfl) (eds_cons (ed_sl s1 rfl) eds_nil))) (by rw [List.length_map, List.length_map]; omega) rfl (fun k x y hx hy σ2 Hc e2 s2 => by
      obtain ⟨z, hz, rfl⟩ := List.mem_map.mp (List.mem_of_getElem? hx)
      obtain ⟨p, hp, rfl⟩ := List.mem_map.mp (List.mem_of_getElem? hy)
      have h1 := pl z hz
      have h2 := (hs p hp).2
      have l1 : (Str.ofString "=").length = 1 := by decide +kernel
      have l2 : (Str.ofString ";").length = 1 := by decide +kernel
      exact ed_op (ed_op (ed_op (ed_sl s2 rfl) (ed_c (.str _)) (rd_addS (big (by omega)))) (ed_op (ed_sl s2 rfl) (ed_c (.int 1)) (rd_ixT (d := .str p.2) rfl)) (rd_addS (big (by rw [len_app]; omega)))) (ed_c (.str _)) (rd_addS (big (by rw [len_app, len_app]; omega))))
  have zl : ∀ z ∈ List.zipWith (fun (k : Str) (p : Str × Str) => k ++ "=" ++ p.2 ++ ";") ks rows, z.length ≤ 25 := fun z hz => by
    rw [← List.map_uncurry_zip_eq_zipWith] at hz
    obtain ⟨⟨k, p⟩, hkp, rfl⟩ := List.mem_map.mp hz
    obtain ⟨a1, a2⟩ := List.of_mem_zip hkp
    have h1 := pl k a1
    have h2 := (hs p a2).2
    have l1 : (Str.ofString "=").length = 1 := by decide +kernel
    have l2 : (Str.ofString ";").length = 1 := by decide +kernel
    show (k ++ Str.ofString "=" ++ p.2 ++ Str.ofString ";").length ≤ 25
    rw [len_app, len_app, len_app]
    omega
  have e2' : EvD K _ σ1 H1 (.list ((List.zipWith (fun (k : Str) (p : Str × Str) => k ++ "=" ++ p.2 ++ ";") ks rows).map .str)) := ed_is e2 (by rw [List.map_zipWith, List.zipWith_map])
  have zlen : (List.zipWith (fun (k : Str) (p : Str × Str) => k ++ "=" ++ p.2 ++ ";") ks rows).length ≤ 1000 := by
    rw [List.length_zipWith]
    omega
  have sl := sum_le _ zl
  have l0 : (Str.ofString "").length = 0 := by decide +kernel
  have lL : (Str.ofString "L").length = 1 := by decide +kernel
  refine st_ret (K := K) n1 (ed_is (ed_op (ed_ixK (ed_c (.str _)) (dk_SIGNS.at_ ("leaf", .str "L") List.mem_cons_self) fun _ => .str _) (ed_join (N := 25000) (ed_c (.str _)) e2' ?_) (rd_addS (big ?_))) ?_) q
  · rw [l0]
    omega
  · rw [lL, join0, mk_len, rz]
    have := rowsL_len rows "" hs
    omega
  · rw [join0, rz]
    congr 1
    apply str_tl
    rw [tl_app]
    rfl
theorem sc_leaf_text : FnScope ["entries"] ["entries"] (defScope s_leaf_text) := ⟨rfl, rfl, rfl, by decide +kernel, rfl, by decide +kernel, by decide +kernel⟩
theorem fx_leaf_text (T : Txt mg) (xt : ExT exNs K mg) (F : FunD K "leaf_text" "leaf_text" (defArgs s_leaf_text) (defBody s_leaf_text) (defScope s_leaf_text) [] [] f fd) (hm : mg "leaf_text" = some (.ref f)) (g_are_entries : Fx P w K mg base 2 "are_entries" ["thing"] (spR K 1 RareEnt)) (g_entries_text : Fx P w K mg base 3 "entries_text" ["entries"] (spR K 1 Rents)) (g_sealed : Fx P w K mg base 2 "sealed" ["text"] (spR K 1 Rsealed)) : Fx P w K mg base 4 "leaf_text" ["entries"] (spX K 1 RleafText) := by
  refine fx_raise F hm sc_leaf_text rfl (fun _ _ _ _ _ _ us hl => match us, hl with | [_], _ => rfl) fun cdv A outer s Hs E hr ds r hl hR => ?_
  refine ⟨_, (pss_cons (ps_if (pt_not (pt_val (pe_fx g_are_entries hr (by decide) (by rfl) passN (pa_cons (pv 0) pa_nil)))) (pss_one (L2N.ps_raise rfl (L2N.takes_of rfl rfl rfl rfl) (L2N.pmk_own PySem.F.excBase_ValueError (xt.exc "NoEntries" (by decide)) (xt.glo "NoEntries" (by decide)) (xt.keep "NoEntries" (by decide)) (raises_own (xt.sub "NoEntries" (by decide)) (xt.ty "NoEntries" (by decide))) (by rfl)))) pss_nil) (pss_one (ps_ret (pe_fx g_sealed hr (by decide) (by rfl) passN (pa_cons (pe_fx g_entries_text hr (by decide) (by rfl) passN (pa_cons (pv 0) pa_nil)) pa_nil))))), ?_⟩
  obtain ⟨d, rfl, hd, hlen, rfl⟩ := hR
  intro σ H0 H10 Q n s q
  refine st_if n (b := !areEntD d) (eb_not (eb_B (ed_call (eds_cons (ed_sl s rfl) eds_nil) ⟨d, rfl, hd, rfl⟩))) (fun h H2 n2 => ?_) (fun h H2 n2 => ?_)
  · have h' : areEntD d = false := by simpa using h
    have e : leafA d = .error "NoEntries" := by
      unfold leafA
      rw [if_neg (by rw [h']; decide)]
    rw [e] at q
    exact q H2 n2.grow
  · have h' : areEntD d = true := by simpa using h
    obtain ⟨rows, rfl, h1, h2⟩ := areEnt_eq h'
    rw [leafA_ents h'] at q
    have hl : rows.length ≤ 1000 := by
      have := hlen _ rfl
      rw [List.length_map] at this
      exact this
    have hs : ∀ p ∈ rows, p.1.length ≤ 10 ∧ p.2.length ≤ 12 := fun p hp => ⟨isKeyS_le (h1 p hp).1, isValS_le (h1 p hp).2⟩
    have lt : (entsT rows).length ≤ 50000 := by
      have := rowsL_len rows "" hs
      show (mk _).length ≤ _
      rw [mk_len, List.length_cons]
      omega
    exact st_ret (K := K) n2 (ed_call (eds_cons (ed_call (eds_cons (ed_sl s rfl) eds_nil) ⟨rows, rfl, hl, hs, rfl⟩) eds_nil) ⟨_, rfl, lt, rfl⟩) q
end
end LR

/-! ### unpacked, parts_of, entries_in, read_leaf -/
namespace LR
open PySem PySem.Spec PyProof.Rows L2 Evl L2H LamX
/-- one word of a leaf -/
def unpOne (old word : Str) : Option Str := match word.cps.toList with
  | [] => none
  | c :: t => if 65 ≤ c ∧ c ≤ 75 ∧ c - 65 ≤ old.length then some (mk (old.cps.toList.take (c - 65) ++ t)) else none
def unpL : Str → List Str → Option (List Str)
  | _, [] => some []
  | old, w :: r => (unpOne old w).bind fun o => (unpL o r).map (o :: ·)
def orPiece : Option PyData → Ans
  | some d => .ok d
  | none => .error "NoPiece"
def Runpacked (ds : List PyData) (r : Ans) : Prop := ∃ ws : List Str, ds = [.list (ws.map .str)] ∧ ws.length ≤ 5000 ∧ (∀ z ∈ ws, z.length ≤ 5000) ∧ r = orPiece ((unpL "" ws).map fun l => .list (l.map .str))
theorem idx_letters' {i : Nat} (h : i ≤ 10) : Builtin.Str.occurrences (Str.ofString "ABCDEFGHIJK") ⟨#[65 + i]⟩ 0 (Str.ofString "ABCDEFGHIJK").length 1 = i :: [] := by
  have g : ∀ i : Fin 11, Builtin.Str.occurrences (Str.ofString "ABCDEFGHIJK") ⟨#[65 + i.val]⟩ 0 (Str.ofString "ABCDEFGHIJK").length 1 = [i.val] := by decide +kernel
  exact g ⟨i, by omega⟩
theorem in_letters {c : Nat} : c ∈ (Str.ofString "ABCDEFGHIJK").cps.toList ↔ 65 ≤ c ∧ c ≤ 75 := by
  have e : (Str.ofString "ABCDEFGHIJK").cps.toList = [65, 66, 67, 68, 69, 70, 71, 72, 73, 74, 75] := by decide +kernel
  rw [e]
  simp only [List.mem_cons, List.not_mem_nil, or_false]
  omega
theorem cutS_one (z : Str) : cutS z none (some 1) = mk (z.cps.toList.take 1) := by
  unfold cutS
  rw [show (some (1 : Int)) = some ((1 : Nat) : Int) from rfl, HT.sIx_nat, HT.sIx_none, List.drop_zero, Nat.sub_zero]
  congr 2
  rcases Nat.le_total 1 z.length with c | c
  · rw [Nat.min_eq_left c]
  · rw [Nat.min_eq_right c, List.take_of_length_le (by rw [tl_len]; omega), List.take_of_length_le (by rw [tl_len]; omega)]
theorem cutS_rest (z : Str) : cutS z (some 1) none = mk (z.cps.toList.drop 1) := by
  unfold cutS
  rw [show (some (1 : Int)) = some ((1 : Nat) : Int) from rfl, HT.sIx_nat, HT.sIx_none]
  congr 2
  rcases Nat.le_total 1 z.length with c | c
  · rw [Nat.min_eq_left c, List.take_of_length_le (by rw [List.length_drop, tl_len]; omega)]
  · rw [Nat.min_eq_right c, Nat.sub_self, List.take_zero]
    symm
    exact List.drop_eq_nil_of_le (by rw [tl_len]; omega)
theorem rd_ninS {K : PySem.W.Frag} {H : Hp} {c : Nat} {z : Str} : RD2 K (fun x y H Q => ∃ (c : Nat) (z : Str), x = .str ⟨#[c]⟩ ∧ y = .str z ∧ Q (.bl (!decide (c ∈ z.cps.toList))) H) (.str ⟨#[c]⟩) (.str z) H (.bool (!decide (c ∈ z.cps.toList))) := fun H' x y _ dx dy H1 e1 Q q => ⟨c, z, dx.str_eq, dy.str_eq, q.val e1 fun _ => .bl _⟩
theorem g_set {j : Nat} {x : V} {σ : L2.St} {H : Hp} {Q : L2.St → Hp → Prop} (h : Q (List.set σ j (some x)) H) : gName j x σ H Q := h
theorem t_seq {t1 t2 : TS} {D : Ends} {σ : L2.St} {H : Hp} (h : t1 { D with nx := t2 D } σ H) : tSeq t1 t2 D σ H := h
theorem t_next {D : Ends} {σ : L2.St} {H : Hp} (h : D.nx σ H) : tNext D σ H := h
/-! parts -/
def partsL (z : Str) : List (List Str) := ((Txt.split z ";").dropLast).map fun p => Txt.split p "="
def partsOk (z : Str) : Bool := (z.cps.toList.isEmpty || decide (z.cps.toList.getLast? = some 59)) && (partsL z).all fun r => decide (r.length = 2)
def rowsD (l : List (List Str)) : PyData := .list (l.map fun r => .list (r.map .str))
def Rparts (ds : List PyData) (r : Ans) : Prop := ∃ z : Str, ds = [.str z] ∧ z.length ≤ 5000 ∧ r = if partsOk z then .ok (rowsD (partsL z)) else .error "NoPiece"
theorem cutD_init (ds : List PyData) (h : ds ≠ []) : cutD ds none (some (-1)) = ds.dropLast := by
  unfold cutD
  have e : HT.sIx ds.length ds.length (some (-1)) = ds.length - 1 := by
    show (if (-1 : Int) < 0 then ((-1 : Int) + (ds.length : Int)).toNat else min (-1 : Int).toNat ds.length) = _
    rw [if_pos (by decide)]
    omega
  rw [HT.sIx_none, e, List.drop_zero, Nat.sub_zero, List.dropLast_eq_take]
theorem split_len (a b : Str) (h : b ≠ "") : (Txt.split a b).length ≤ a.length + 2 := PyProof.Rows.split_le a b
section
variable {P : Program} {w : World} {K : PySem.W.Frag} {mg : Str → Option Value} {base : Heap} {f : Addr} {fd : FuncData}
theorem sc_unpacked : FnScope ["words", "word", "made", "old"] ["words"] (defScope s_unpacked) := ⟨rfl, rfl, rfl, by decide +kernel, rfl, by decide +kernel, by decide +kernel⟩
theorem fx_unpacked (T : Txt mg) (xt : ExT exNs K mg) (F : FunD K "unpacked" "unpacked" (defArgs s_unpacked) (defBody s_unpacked) (defScope s_unpacked) [] [] f fd) (hm : mg "unpacked" = some (.ref f)) : Fx P w K mg base 1 "unpacked" ["words"] (spX K 1 Runpacked) := by
  refine fx_raise F hm sc_unpacked rfl (fun _ _ _ _ _ _ us hl => match us, hl with | [_], _ => rfl) fun cdv A outer s Hs E hr ds r hl hR => ?_
  refine ⟨_, (pss_cons (ps_par (by rfl) sc_unpacked.nd (i := 2) (j := 3) rfl rfl (by decide) rfl rfl (pa_cons (pe_lst pa_nil) (pa_cons pe_str pa_nil)) (by rfl)) (pss_cons (ps_for PassesOwn.leaving rfl (pi_K (K := K) rfl (pv 0)) (pg_name (i := 1) sc_unpacked.nd rfl (by first | exact Or.inl rfl | exact Or.inr rfl)) (pss_cons (ps_if (PW.pt (pw_or (pt_cmpR (op_eqK (K := K) rfl hr.units) (pe_slice (sl_K (K := K) rfl) (pv 1) po_none (po_some pe_int)) pe_str (nomark _)) (pw_or (pt_cmpR op_notIn_sign (pe_ix (ix_K (K := K) rfl) (pv 1) pe_int (fun _ _ => rfl)) (C8.pe_gc (by rfl) T.c_LETTERS) (by rfl)) (pw_or1 (pt_cmpR op_gt (pe_m1 PySem.F.slot_str_index PySem.F.type_str_index mt_sindex (C8.pe_gc (by rfl) T.c_LETTERS) (pe_ix (ix_K (K := K) rfl) (pv 1) pe_int (fun _ _ => rfl))) (pe_callB (call_lenK (K := K) rfl) (by rfl) T.m_len (by decide +kernel) (pa_cons (pv 3) pa_nil)) (nomark _)))))) (pss_one (L2N.ps_raise rfl (L2N.takes_of rfl rfl rfl rfl) (L2N.pmk_own PySem.F.excBase_ValueError (xt.exc "NoPiece" (by decide)) (xt.glo "NoPiece" (by decide)) (xt.keep "NoPiece" (by decide)) (raises_own (xt.sub "NoPiece" (by decide)) (xt.ty "NoPiece" (by decide))) (by rfl)))) pss_nil) (pss_cons (ps_set (i := 3) sc_unpacked.nd rfl (by first | exact Or.inl rfl | exact Or.inr rfl) (pe_op (op_addK (K := K) rfl) (pe_slice (sl_K (K := K) rfl) (pv 3) po_none (po_some (pe_m1 PySem.F.slot_str_index PySem.F.type_str_index mt_sindex (C8.pe_gc (by rfl) T.c_LETTERS) (pe_ix (ix_K (K := K) rfl) (pv 1) pe_int (fun _ _ => rfl))))) (pe_slice (sl_K (K := K) rfl) (pv 1) (po_some pe_int) po_none))) (pss_one (ps_expr (pe_bmK (K := K) rfl PySem.F.plainAttrs_list PySem.F.slot_list_append PySem.F.type_list_append mt_append (pv 2) (pa_cons (pv 3) pa_nil))))))) (pss_one (ps_ret (pv 2))))), ?_⟩
  obtain ⟨ws, rfl, hll, hlen, rfl⟩ := hR
  intro σ H0 H10 Q n s q
  refine st_parNew n s (d := .str "") (fun H' e => ed_c (.str _)) ?_
  intro lo σ1 H1 H11 ex1 hl1 hl0 hlo n1 s1
  refine st_forX n1 (eiU_list (ed_sl s1 rfl)) fun Hb H2 xb n2 e12 => ?_
  refine ⟨fun i σ' Hr => ∃ H' acc old, Ex Hb H' ∧ Now H0 H10 H' Hr ∧ Own K H10 H' Hr lo (acc.map .str) ∧ acc.length = i ∧ old.length ≤ 5010 ∧ unpL "" ws = (unpL old (ws.drop i)).map (acc ++ ·) ∧ Sl K H' σ' [.dat (.list (ws.map .str)), .unk, .val (.ref lo), .dat (.str old)], ⟨Hb, [], "", Ex.refl _, n2, (Own.mk hl1 hl0 ⟨[], hlo, .nil⟩).on xb e12, rfl, by decide +kernel, ?_, s1.ex xb.ex⟩, fun i σ' Hr ⟨H', _, _, a, b, _⟩ => a.trans b.ex, ?_, ?_⟩
  · rw [List.drop_zero]
    cases unpL "" ws <;> rfl
  · rintro i x σ3 Hr H6 hi ⟨H', acc, old, a, b, c1, hacc, hold, hun, c5⟩ ⟨rfl, d, hd, dx⟩
    rw [List.getElem?_map] at hd
    obtain ⟨k, hk, rfl⟩ := Option.map_eq_some_iff.mp hd
    have hkl : k.length ≤ 5000 := hlen k (List.mem_of_getElem? hk)
    have hil : i < ws.length := (List.getElem?_eq_some_iff.mp hk).1
    have hdr : ws.drop i = k :: ws.drop (i + 1) := by
      rw [List.drop_eq_getElem_cons hil]
      congr 1
      exact (List.getElem?_eq_some_iff.mp hk).2
    rw [hdr] at hun
    have s3 := c5.set (s := .dat (.str k)) (o := some x) (Dt.ex a dx) 1
    have fail : unpOne old k = none → unpL "" ws = none := fun z => by
      rw [hun]
      show ((unpOne old k).bind _).map _ = none
      rw [z]
      rfl
    have eCut : EvD K (tSl (rSlU K) (tVar 1) tNoPart (tPart (tC (.int 1)))) (List.set σ3 1 (some x)) H' (.str (mk (k.cps.toList.take 1))) := ed_is (ed_slS (ed_sl s3 rfl) eo_none (eo_some (K := K) (ed_c (.int 1))) (by omega)) (by rw [cutS_one])
    refine g_set ?_
    refine t_seq ?_
    cases hkc : k.cps.toList with
    | nil =>
      rw [hkc] at eCut
      refine st_if b (b := true) (eb_is (eb_or (b := false) (eb_test (ed_op eCut (ed_c (.str _)) rd_eqS)) fun h => ?_) ?_) (fun h H2 n2 => ?_) (fun h => nomatch h)
      · exact absurd h (by decide +kernel)
      · decide +kernel
      · have z := fail (by unfold unpOne; rw [hkc])
        rw [z] at q
        exact q H2 n2.grow
    | cons c t =>
      have hk0 : k.cps.toList[0]? = some c := by rw [hkc]; rfl
      have eSign : EvD K (tOp (rIx K) (tVar 1) (tC (.int 0))) (List.set σ3 1 (some x)) H' (.str ⟨#[c]⟩) := ed_op (ed_sl s3 rfl) (ed_c (.int 0)) (rd_sign (by omega) (by decide) hk0)
      have d1 : decide (mk (k.cps.toList.take 1) = Str.ofString "") = false := decide_eq_false fun z => by
        have : k.cps.toList.take 1 = (Str.ofString "").cps.toList := congrArg (fun y : Str => y.cps.toList) z
        rw [hkc] at this
        exact absurd this (by rw [show (Str.ofString "").cps.toList = [] by decide +kernel]; simp)
      by_cases hc : 65 ≤ c ∧ c ≤ 75
      · obtain ⟨m, rfl⟩ : ∃ m, c = 65 + m := ⟨c - 65, by omega⟩
        have hm10 : m ≤ 10 := by omega
        have eIdx : EvD K (tM1 (fun x xs H Q => ∃ a b i rest, x = .str a ∧ xs = [.str b] ∧ Builtin.Str.occurrences a b 0 a.length 1 = i :: rest ∧ Q (.int (i : Nat)) H) (tC (.str (Str.ofString "ABCDEFGHIJK"))) (tOp (rIx K) (tVar 1) (tC (.int 0)))) (List.set σ3 1 (some x)) H' (.int m) := ed_sindex (ed_c (.str _)) eSign (idx_letters' hm10)
        have lold : old.length ≤ sizeLine := Nat.le_trans hold (by decide)
        refine st_ifX b (b := decide (old.length < m)) (eb_is (eb_or (b := decide (old.length < m)) (eb_test (ed_op eCut (ed_c (.str _)) rd_eqS)) fun _ => eb_is (eb_or (b := decide (old.length < m)) (eb_test (ed_op eSign (ed_c (.str _)) rd_ninS)) fun _ => eb_is (eb_test (ed_op eIdx (ed_lenS (ed_sl s3 rfl) lold) rd_IB)) ?_) ?_) ?_) (fun h H2 e2 n2 => ?_) (fun h H2 e2 n2 => ?_)
        · exact decide_eq_decide.mpr (by omega)
        · rw [decide_eq_true (in_letters.mpr hc)]
          rfl
        · rw [d1]
          rfl
        · have z := fail (by
            unfold unpOne
            rw [hkc]
            have := of_decide_eq_true h
            exact if_neg (by omega))
          rw [z] at q
          exact q H2 n2.grow
        · have hle : ¬ old.length < m := of_decide_eq_false h
          have hone : unpOne old k = some (mk (old.cps.toList.take m ++ t)) := by
            unfold unpOne
            rw [hkc]
            show (if _ then some (mk (old.cps.toList.take (65 + m - 65) ++ t)) else _) = _
            rw [if_pos (by omega), Nat.add_sub_cancel_left]
          have tl : t.length + 1 = k.length := by
            rw [← tl_len k, hkc]
            rfl
          have eNew : EvD K (tOp (rAddU K) (tSl (rSlU K) (tVar 3) tNoPart (tPart (tM1 (fun x xs H Q => ∃ a b i rest, x = .str a ∧ xs = [.str b] ∧ Builtin.Str.occurrences a b 0 a.length 1 = i :: rest ∧ Q (.int (i : Nat)) H) (tC (.str (Str.ofString "ABCDEFGHIJK"))) (tOp (rIx K) (tVar 1) (tC (.int 0)))))) (tSl (rSlU K) (tVar 1) (tPart (tC (.int 1))) tNoPart)) (List.set σ3 1 (some x)) H' (.str (mk (old.cps.toList.take m ++ t))) := by
            refine ed_is (ed_op (ed_slS (ed_sl s3 rfl) eo_none (eo_some (K := K) eIdx) (by omega)) (ed_slS (ed_sl s3 rfl) (eo_some (K := K) (ed_c (.int 1))) eo_none (by omega)) (rd_addS ?_)) ?_
            · have l1 := cutS_len old none (some (m : Int))
              have l2 := cutS_len k (some 1) none
              exact Nat.le_trans (Nat.add_le_add l1 l2) (Nat.le_trans (show old.length + k.length ≤ 20000 by omega) (by decide))
            · rw [cutS_to (by omega), cutS_rest, hkc]
              congr 1
              apply str_tl
              rw [tl_app]
              rfl
          refine st_asgX n2 s3 (d := .str (mk (old.cps.toList.take m ++ t))) eNew ?_
          intro σ4 H4 H41 x4 e4 n4 s4
          refine st_appO n4 s4 rfl (c1.on (Ext.refl _ _) e2 |>.on x4 e4) (by rw [List.length_map]; omega) (ed_sl s4 rfl) ?_
          intro H5 H51 x5 o5 _ n5 s5
          refine ⟨H5, acc ++ [mk (old.cps.toList.take m ++ t)], mk (old.cps.toList.take m ++ t), (a.trans x4.ex).trans x5.ex, n5, ?_, ?_, ?_, ?_, s5.forget 1⟩
          · rw [List.map_append]
            exact o5
          · rw [List.length_append, hacc]
            rfl
          · rw [mk_len, List.length_append, List.length_take]
            omega
          · rw [hun]
            show ((unpOne old k).bind _).map _ = _
            rw [hone]
            show ((unpL _ _).map _).map _ = _
            rw [Option.map_map]
            congr 1
            funext y
            show acc ++ (_ :: y) = acc ++ [_] ++ y
            simp
      · refine st_if b (b := true) (eb_is (eb_or (b := true) (eb_test (ed_op eCut (ed_c (.str _)) rd_eqS)) fun _ => eb_is (eb_or (b := true) (eb_test (ed_op eSign (ed_c (.str _)) rd_ninS)) fun h => ?_) ?_) ?_) (fun h H2 n2 => ?_) (fun h => nomatch h)
        · rw [decide_eq_false fun z => hc (in_letters.mp z)] at h
          cases h
        · exact Bool.or_true _
        · exact Bool.or_true _
        · have z := fail (by
            unfold unpOne
            rw [hkc]
            exact if_neg fun y => hc ⟨y.1, y.2.1⟩)
          rw [z] at q
          exact q H2 n2.grow
  · rintro σ3 Hr ⟨H', acc, old, a, b, c1, hacc, hold, hun, c5⟩
    rw [List.drop_of_length_le (by rw [List.length_map]; exact Nat.le_refl _)] at hun
    have e : unpL "" ws = some acc := by
      rw [hun]
      show some (acc ++ []) = _
      rw [List.append_nil]
    rw [e] at q
    exact st_retO b c5 rfl c1 q
end
end LR

/-! ### parts_of, entries_in, read_leaf -/
namespace LR
open PySem PySem.Spec PyProof.Rows L2 Evl L2H LamX
theorem join_mem {y : Str} : ∀ {l : List Str} {p : Str}, p ∈ l → p.length ≤ (Str.join y l).length
  | [], _, h => by cases h
  | [x], p, h => by
    rw [List.mem_singleton.mp h]
    exact Nat.le_refl _
  | x :: z :: r, p, h => by
    show _ ≤ (x ++ y ++ Str.join y (z :: r)).length
    rw [len_app, len_app]
    rcases List.mem_cons.mp h with e | e
    · rw [e]
      omega
    · have := join_mem (y := y) e
      omega
theorem split_mem {x y p : Str} (h : p ∈ Txt.split x y) : p.length ≤ x.length := by
  have := join_mem (y := y) h
  rw [StrLaws.join_split] at this
  exact this
theorem at_last {α : Type} (l : List α) : atI l (-1) = l.getLast? := by
  unfold atI ixN
  rw [if_neg (by decide)]
  cases l with
  | nil => rfl
  | cons a r =>
    rw [if_pos (by rw [List.length_cons]; omega)]
    show (a :: r)[((-1 : Int) + ((a :: r).length : Int)).toNat]? = _
    rw [List.getLast?_eq_getElem?]
    congr 1
    rw [List.length_cons]
    omega
def isPair {α : Type} : List α → Bool
  | [_, _] => true
  | _ => false
theorem parts_len {z : Str} : (partsL z).length ≤ z.length + 2 := by
  unfold partsL
  rw [List.length_map, List.length_dropLast]
  have := split_len z ";" (by decide +kernel)
  omega
theorem parts_mem {z : Str} {r : List Str} {x : Str} (h : r ∈ partsL z) (hx : x ∈ r) : x.length ≤ z.length := by
  unfold partsL at h
  obtain ⟨p, hp, rfl⟩ := List.mem_map.mp h
  exact Nat.le_trans (split_mem hx) (split_mem (List.dropLast_subset _ hp))
/-- the parts as pairs -/
def pairsL (z : Str) : List (Str × Str) := (partsL z).map fun r => (r.getD 0 "", r.getD 1 "")
theorem pairs_eq {z : Str} (h : partsOk z = true) : partsL z = (pairsL z).map fun p => [p.1, p.2] := by
  unfold partsOk at h
  rw [Bool.and_eq_true] at h
  have h2 := List.all_eq_true.mp h.2
  unfold pairsL
  rw [List.map_map]
  have : ∀ l : List (List Str), (∀ r ∈ l, decide (r.length = 2) = true) → l = l.map ((fun p : Str × Str => [p.1, p.2]) ∘ fun r => (r.getD 0 "", r.getD 1 "")) := fun l => by
    induction l with
    | nil => exact fun _ => rfl
    | cons a r ih =>
      intro hl
      rw [List.map_cons, ← ih fun x hx => hl x (List.mem_cons_of_mem _ hx)]
      congr 1
      have := of_decide_eq_true (hl a List.mem_cons_self)
      match a, this with
      | [_, _], _ => rfl
  exact this _ h2
theorem pairs_mem {z : Str} (h : partsOk z = true) {p : Str × Str} (hp : p ∈ pairsL z) : p.1.length ≤ z.length ∧ p.2.length ≤ z.length := by
  have e := pairs_eq h
  have m : [p.1, p.2] ∈ partsL z := by
    rw [e]
    exact List.mem_map.mpr ⟨p, hp, rfl⟩
  exact ⟨parts_mem m List.mem_cons_self, parts_mem m (List.mem_cons_of_mem _ List.mem_cons_self)⟩
theorem unpL_len : ∀ {ws : List Str} {old : Str} {l : List Str}, unpL old ws = some l → l.length = ws.length
  | [], _, l, h => by
    cases h
    rfl
  | w :: r, old, l, h => by
    unfold unpL at h
    obtain ⟨o, _, h2⟩ := Option.bind_eq_some_iff.mp h
    obtain ⟨q, hq, rfl⟩ := Option.map_eq_some_iff.mp h2
    rw [List.length_cons, List.length_cons, unpL_len hq]
theorem unpL_mem {c : Nat} : ∀ {ws : List Str} {old : Str} {l : List Str}, (∀ w ∈ ws, w.length ≤ c) → unpL old ws = some l → ∀ o ∈ l, o.length ≤ 10 + c
  | [], _, l, _, h => by
    cases h
    exact fun o ho => by cases ho
  | w :: r, old, l, hw, h => by
    unfold unpL at h
    obtain ⟨o, h1, h2⟩ := Option.bind_eq_some_iff.mp h
    obtain ⟨q, hq, rfl⟩ := Option.map_eq_some_iff.mp h2
    intro x hx
    rcases List.mem_cons.mp hx with e | e
    · rw [e]
      unfold unpOne at h1
      have wl := hw w List.mem_cons_self
      rw [← tl_len w] at wl
      cases hc : w.cps.toList with
      | nil =>
        rw [hc] at h1
        cases h1
      | cons a t =>
        rw [hc] at h1 wl
        have h1' : (if 65 ≤ a ∧ a ≤ 75 ∧ a - 65 ≤ old.length then some (mk (old.cps.toList.take (a - 65) ++ t)) else none) = some o := h1
        split at h1'
        · rename_i cc
          cases h1'
          rw [mk_len, List.length_append, List.length_take]
          rw [List.length_cons] at wl
          omega
        · cases h1'
    · exact unpL_mem (fun y hy => hw y (List.mem_cons_of_mem _ hy)) hq x e
/-- the entries that a text writes -/
def readIn (z : Str) : Option (List (Str × Str)) :=
  if partsOk (mk (z.cps.toList.drop 1)) then (unpL "" ((pairsL (mk (z.cps.toList.drop 1))).map (·.1))).bind fun ks =>
    if areEntD (entsD (ks.zip ((pairsL (mk (z.cps.toList.drop 1))).map (·.2)))) && decide (entsT (ks.zip ((pairsL (mk (z.cps.toList.drop 1))).map (·.2))) = z) then some (ks.zip ((pairsL (mk (z.cps.toList.drop 1))).map (·.2))) else none
  else none
def RentIn (ds : List PyData) (r : Ans) : Prop := ∃ z : Str, ds = [.str z] ∧ z.length ≤ 900 ∧ r = orPiece ((readIn z).map entsD)
def readA : PyData → Ans
  | .str z => if soundS z && decide (mk ((innerS z).cps.toList.take 1) = "L") then orPiece ((readIn (innerS z)).map entsD) else .error "NoPiece"
  | _ => .error "NoPiece"
def len900 : PyData → Prop
  | .str z => z.length ≤ 900
  | _ => True
def RreadLeaf (ds : List PyData) (r : Ans) : Prop := ∃ d, ds = [d] ∧ len900 d ∧ r = readA d
theorem cutD_last (ds : List PyData) : cutD ds none (some (-1)) = ds.dropLast := by
  cases ds with
  | nil => rfl
  | cons a r => exact cutD_init _ (by simp)
section
variable {K : PySem.W.Frag} {σ : L2.St} {H : Hp} {te : TE}
theorem ed_tupL {ds : List PyData} (h : EvD K te σ H (.list ds)) : EvD K (tCB (rTupOf K) (tCons te tNil)) σ H (.tuple ds) := fun H1 e1 Q q =>
  h H1 e1 _ fun v H2 Ha e2 ea xa da => by
    obtain ⟨a, xs, rfl, ha, ra⟩ := da.lst_eq
    refine ⟨a, xs, rfl, .inl ⟨sq_of (ea a _ ha), fun p hp => ?_⟩⟩
    exact q _ _ (upd Ha p _) (e2.trans (Ex.new hp)) (ex_upd ea) (xa.trans e2 (Ext.new ea hp)) (.tup (st_of upd_same) (DtAll.ex (Ex.new (fresh_back ea hp)) ra))
end
section
variable {P : Program} {w : World} {K : PySem.W.Frag} {mg : Str → Option Value} {base : Heap} {f : Addr} {fd : FuncData}
theorem sc_parts_of : FnScope ["text", "rows", "part", "row"] ["text"] (defScope s_parts_of) := ⟨rfl, rfl, rfl, by decide +kernel, rfl, by decide +kernel, by decide +kernel⟩
theorem fx_parts_of (T : Txt mg) (xt : ExT exNs K mg) (F : FunD K "parts_of" "parts_of" (defArgs s_parts_of) (defBody s_parts_of) (defScope s_parts_of) [] [] f fd) (hm : mg "parts_of" = some (.ref f)) : Fx P w K mg base 1 "parts_of" ["text"] (spX K 1 Rparts) := by
  refine fx_raise F hm sc_parts_of rfl (fun _ _ _ _ _ _ us hl => match us, hl with | [_], _ => rfl) fun cdv A outer s Hs E hr ds r hl hR => ?_
  refine ⟨_, (pss_cons (ps_setLc (i := 1) (own := [("part", 2)]) rfl sc_parts_of.nd rfl rfl (sw_true rfl rfl rfl (by decide +kernel)) (pi_K (K := K) rfl (pe_slice (sl_K (K := K) rfl) (pe_m1 PySem.F.slot_str_split PySem.F.type_str_split mt_split (pv 0) pe_str) po_none (po_some (pe_un un_neg pe_int)))) (blkOk_by (N := ["text", "rows", "part", "row"]) (sc := defScope s_parts_of) (by decide +kernel)) (fun _ _ _ _ _ => (pg_name (i := 2) sc_parts_of.nd rfl (by first | exact Or.inl rfl | exact Or.inr rfl))) (fun _ _ _ _ _ => pts_nil) (fun _ _ _ _ _ => (pe_m1 PySem.F.slot_str_split PySem.F.type_str_split mt_split (pv 2) pe_str))) (pss_cons (ps_if (PW.pt (pw_or (PW.pt (pw_and (pt_cmpR (op_neK (K := K) rfl hr.units) (pv 0) pe_str (nomark _)) (pw_and1 (pt_cmpR (op_neK (K := K) rfl hr.units) (pe_ix (ix_K (K := K) rfl) (pv 0) (pe_un un_neg pe_int) (fun _ _ => rfl)) pe_str (nomark _))))) (pw_or1 (pt_not (pt_val (pe_callB (cr_allK (K := K) rfl rfl) (by rfl) T.m_all (by decide +kernel) (pa_cons (pe_lc (own := [("row", 3)]) rfl sc_parts_of.nd (pi_K (K := K) rfl (pv 1)) (blkOk_by (N := ["text", "rows", "part", "row"]) (sc := defScope s_parts_of) (by decide +kernel)) (fun _ _ _ _ _ => (pg_name (i := 3) sc_parts_of.nd rfl (by first | exact Or.inl rfl | exact Or.inr rfl))) (fun _ _ _ _ _ => pts_nil) (fun _ _ _ _ _ => (pe_cmpR (op_eqK (K := K) rfl hr.units) (pe_callB (call_lenK (K := K) rfl) (by rfl) T.m_len (by decide +kernel) (pa_cons (pv 3) pa_nil)) pe_int (nomark _)))) pa_nil))))))) (pss_one (L2N.ps_raise rfl (L2N.takes_of rfl rfl rfl rfl) (L2N.pmk_own PySem.F.excBase_ValueError (xt.exc "NoPiece" (by decide)) (xt.glo "NoPiece" (by decide)) (xt.keep "NoPiece" (by decide)) (raises_own (xt.sub "NoPiece" (by decide)) (xt.ty "NoPiece" (by decide))) (by rfl)))) pss_nil) (pss_one (ps_ret (pv 1))))), ?_⟩
  obtain ⟨z, rfl, hz, rfl⟩ := hR
  intro σ H0 H10 Q n s q
  have sl := split_len z ";" (by decide +kernel)
  have eRows := ed_lcD (K := K) (σ := σ) (H := H0) (ti := tSl (rSlU K) (tM1 (fun x xs H Q => ∃ a b, x = .str a ∧ xs = [.str b] ∧ (b.length == 0) = false ∧ a.length + 2 ≤ sizeLine ∧ rNewStrs (Txt.split a b) H Q) (tVar 0) (tC (.str (Str.ofString ";")))) tNoPart (tPart (tUn (rU fun i => .int (-i)) (tC (.int 1))))) (te := tM1 (fun x xs H Q => ∃ a b, x = .str a ∧ xs = [.str b] ∧ (b.length == 0) = false ∧ a.length + 2 ≤ sizeLine ∧ rNewStrs (Txt.split a b) H Q) (tVar 2) (tC (.str (Str.ofString "=")))) (j := 2) (vs := [2]) (ds := ((Txt.split z ";").dropLast).map .str) (fun d => match d with | .str p => .list ((Txt.split p "=").map .str) | _ => .none) s
    (eiU_list (ed_is (ed_slL (ed_split (ed_sl s rfl) (ed_c (.str _)) (by decide +kernel) (by omega)) eo_none (eo_some (K := K) (ed_un (ed_c (.int 1)) rdu_neg))) (by rw [cutD_last, List.map_dropLast]))) (by rw [List.length_map, List.length_dropLast]; omega) rfl (fun d hd σ2 Hc e2 s2 => by
      obtain ⟨p, hp, rfl⟩ := List.mem_map.mp hd
      have := split_mem (List.dropLast_subset _ hp)
      exact ed_split (ed_sl s2 rfl) (ed_c (.str _)) (by decide +kernel) (by omega))
  refine st_asg n s (d := rowsD (partsL z)) (ed_is eRows (by unfold rowsD partsL; rw [List.map_map, List.map_map]; rfl)) ?_
  intro σ1 H1 H11 ex1 n1 s1
  have eAll := ed_lcD (K := K) (σ := σ1) (H := H1) (ti := tVar 1) (te := tOp (rEqU K) (tCB (lenR K) (tCons (tVar 3) tNil)) (tC (.int 2))) (j := 3) (vs := [3]) (ds := (partsL z).map fun r => .list (r.map .str)) (fun d => match d with | .list r => .bool (decide (r.length = 2)) | _ => .none) s1 (eiU_list (ed_sl s1 rfl)) (by rw [List.length_map]; have := parts_len (z := z); omega) rfl (fun d hd σ2 Hc e2 s2 => by
    obtain ⟨r, hr, rfl⟩ := List.mem_map.mp hd
    refine ed_is (ed_op (ed_lenL (ed_sl s2 rfl)) (ed_c (.int 2)) rd_eqI) ?_
    show PyData.bool _ = PyData.bool _
    congr 1
    exact decide_eq_decide.mpr (by omega))
  have eAll' : EvD K _ σ1 H1 (.list (((partsL z).map fun r => decide (r.length = 2)).map .bool)) := ed_is eAll (by
    rw [List.map_map, List.map_map]
    congr 1
    apply List.map_congr_left
    intro r _
    show PyData.bool _ = PyData.bool _
    rw [List.length_map])
  have b2 : EvB (tNot (tB (tCB (rAll K) (tCons _ tNil)))) σ1 H1 (!(partsL z).all fun r => decide (r.length = 2)) := eb_is (eb_not (eb_B (ed_all eAll'))) (by rw [List.all_map]; rfl)
  have b1 : EvB (tAnd (tTest (tOp (rNeU K) (tVar 0) (tC (.str (Str.ofString ""))))) (tTest (tOp (rNeU K) (tOp (rIx K) (tVar 0) (tUn (rU fun i => .int (-i)) (tC (.int 1)))) (tC (.str (Str.ofString ";")))))) σ1 H1 (!(z.cps.toList.isEmpty || decide (z.cps.toList.getLast? = some 59))) := by
    cases hzc : z.cps.toList with
    | nil =>
      have e : z = Str.ofString "" := str_tl (by rw [hzc]; decide +kernel)
      refine eb_is (eb_and (b := true) (eb_test (ed_op (ed_sl s1 rfl) (ed_c (.str _)) rd_neS)) fun h => ?_) ?_
      · rw [decide_eq_true e] at h
        cases h
      · rw [decide_eq_true e]
        rfl
    | cons c t =>
      obtain ⟨last, hlast⟩ : ∃ x, z.cps.toList.getLast? = some x := by
        rw [hzc]
        exact ⟨_, List.getLast?_eq_some_getLast (by simp)⟩
      have e : z ≠ Str.ofString "" := fun y => by
        rw [y] at hzc
        exact absurd hzc (by rw [show (Str.ofString "").cps.toList = [] by decide +kernel]; simp)
      refine eb_is (eb_and (b := !decide (last = 59)) (eb_test (ed_op (ed_sl s1 rfl) (ed_c (.str _)) rd_neS)) fun h => eb_is (eb_test (ed_op (ed_op (ed_sl s1 rfl) (ed_un (ed_c (.int 1)) rdu_neg) (rd_ixS (c := last) (by omega) ?_)) (ed_c (.str _)) rd_neS)) ?_) ?_
      · rw [at_last]
        exact hlast
      · have : (Str.ofString ";") = ⟨#[59]⟩ := str_tl (by decide +kernel)
        rw [this, sign_eq]
      · rw [decide_eq_false e, ← hzc, hlast]
        have e1 : z.cps.toList.isEmpty = false := by rw [hzc]; rfl
        rw [e1]
        have e2 : decide (some last = some 59) = decide (last = 59) := decide_eq_decide.mpr ⟨fun h => Option.some.inj h, fun h => by rw [h]⟩
        rw [e2]
        rfl
  dsimp only
  refine t_seq ?_
  refine st_if n1 (b := !partsOk z) (eb_is (eb_or b1 fun _ => b2) ?_) (fun h H2 n2 => ?_) (fun h H2 n2 => ?_)
  · unfold partsOk
    rw [Bool.not_and]
  · have h' : partsOk z = false := by simpa using h
    rw [h'] at q
    exact q H2 n2.grow
  · have h' : partsOk z = true := by simpa using h
    rw [if_pos h'] at q
    exact st_ret (K := K) n2 (ed_sl s1 rfl) q
theorem sc_entries_in : FnScope ["text", "rows", "keys", "made", "row", "key"] ["text"] (defScope s_entries_in) := ⟨rfl, rfl, rfl, by decide +kernel, rfl, by decide +kernel, by decide +kernel⟩
theorem fx_entries_in (T : Txt mg) (xt : ExT exNs K mg) (F : FunD K "entries_in" "entries_in" (defArgs s_entries_in) (defBody s_entries_in) (defScope s_entries_in) [] [] f fd) (hm : mg "entries_in" = some (.ref f)) (g_parts_of : Fx P w K mg base 1 "parts_of" ["text"] (spX K 1 Rparts)) (g_unpacked : Fx P w K mg base 1 "unpacked" ["words"] (spX K 1 Runpacked)) (g_are_entries : Fx P w K mg base 2 "are_entries" ["thing"] (spR K 1 RareEnt)) (g_entries_text : Fx P w K mg base 3 "entries_text" ["entries"] (spR K 1 Rents)) : Fx P w K mg base 4 "entries_in" ["text"] (spX K 1 RentIn) := by
  refine fx_raise F hm sc_entries_in rfl (fun _ _ _ _ _ _ us hl => match us, hl with | [_], _ => rfl) fun cdv A outer s Hs E hr ds r hl hR => ?_
  refine ⟨_, (pss_cons (ps_set (i := 1) sc_entries_in.nd rfl (by first | exact Or.inl rfl | exact Or.inr rfl) (pe_fx g_parts_of hr (by decide) (by rfl) (passE rfl rfl rfl rfl) (pa_cons (pe_slice (sl_K (K := K) rfl) (pv 0) (po_some pe_int) po_none) pa_nil))) (pss_cons (ps_set (i := 2) sc_entries_in.nd rfl (by first | exact Or.inl rfl | exact Or.inr rfl) (pe_fx g_unpacked hr (by decide) (by rfl) (passE rfl rfl rfl rfl) (pa_cons (pe_lc (own := [("row", 4)]) rfl sc_entries_in.nd (pi_K (K := K) rfl (pv 1)) (blkOk_by (N := ["text", "rows", "keys", "made", "row", "key"]) (sc := defScope s_entries_in) (by decide +kernel)) (fun _ _ _ _ _ => (pg_name (i := 4) sc_entries_in.nd rfl (by first | exact Or.inl rfl | exact Or.inr rfl))) (fun _ _ _ _ _ => pts_nil) (fun _ _ _ _ _ => (pe_ix (ix_K (K := K) rfl) (pv 4) pe_int (fun _ _ => rfl)))) pa_nil))) (pss_cons (ps_set (i := 3) sc_entries_in.nd rfl (by first | exact Or.inl rfl | exact Or.inr rfl) (pe_callTy (call_tupK (K := K) rfl) (by rfl) T.m_tuple (by decide +kernel) (pa_cons (pe_lc (own := [("key", 5), ("row", 4)]) rfl sc_entries_in.nd (pi_zipUK (K := K) rfl (by rfl) T.m_zip (pa_cons (pv 2) (pa_cons (pv 1) pa_nil))) (blkOk_by (N := ["text", "rows", "keys", "made", "row", "key"]) (sc := defScope s_entries_in) (by decide +kernel)) (fun _ _ _ _ _ => (pg_tupK (K := K) (n := 2) rfl (by rfl) (pgs_cons (pg_name (i := 5) sc_entries_in.nd rfl (by first | exact Or.inl rfl | exact Or.inr rfl)) (pgs_cons (pg_name (i := 4) sc_entries_in.nd rfl (by first | exact Or.inl rfl | exact Or.inr rfl)) pgs_nil)))) (fun _ _ _ _ _ => pts_nil) (fun _ _ _ _ _ => (pe_tup (pa_cons (pv 5) (pa_cons (pe_ix (ix_K (K := K) rfl) (pv 4) pe_int (fun _ _ => rfl)) pa_nil))))) pa_nil))) (pss_cons (ps_if (PW.pt (pw_or (pt_not (pt_val (pe_fx g_are_entries hr (by decide) (by rfl) passN (pa_cons (pv 3) pa_nil)))) (pw_or1 (pt_cmpR (op_neK (K := K) rfl hr.units) (pe_fx g_entries_text hr (by decide) (by rfl) passN (pa_cons (pv 3) pa_nil)) (pv 0) (nomark _))))) (pss_one (L2N.ps_raise rfl (L2N.takes_of rfl rfl rfl rfl) (L2N.pmk_own PySem.F.excBase_ValueError (xt.exc "NoPiece" (by decide)) (xt.glo "NoPiece" (by decide)) (xt.keep "NoPiece" (by decide)) (raises_own (xt.sub "NoPiece" (by decide)) (xt.ty "NoPiece" (by decide))) (by rfl)))) pss_nil) (pss_one (ps_ret (pv 3))))))), ?_⟩
  obtain ⟨z, rfl, hz, rfl⟩ := hR
  intro σ H0 H10 Q n s q
  have er : ∀ H2, Ex H10 H2 → readIn z = none → E (.ref (gaE K "NoPiece")) none H2 := fun H2 e2 h => by
    rw [h] at q
    exact q H2 e2
  have zl : (mk (z.cps.toList.drop 1)).length ≤ 900 := by
    rw [mk_len, List.length_drop, tl_len]
    omega
  unfold readIn at er q
  generalize hy : mk (z.cps.toList.drop 1) = y at er q zl
  refine st_setX n s (ex_call (r := if partsOk y then .ok (rowsD (partsL y)) else .error "NoPiece") (eds_cons (d := .str y) (ed_is (ed_slS (ed_sl s rfl) (eo_some (K := K) (ed_c (.int 1))) eo_none (by omega)) (by rw [cutS_rest, hy])) eds_nil) ⟨y, rfl, by omega, rfl⟩) (fun d hd σ1 H1 H11 x1 e1 n1 s1 => ?_) (fun x hx H2 e2 => ?_)
  · cases hpo : partsOk y with
    | false =>
      rw [hpo] at hd
      cases hd
    | true =>
      rw [hpo, if_pos rfl] at hd
      cases hd
      rw [hpo] at er q
      have hp := pairs_eq hpo
      have hpm := fun p hp => pairs_mem hpo (p := p) hp
      have hpl : (pairsL y).length ≤ y.length + 2 := by
        have := parts_len (z := y)
        unfold pairsL
        rw [List.length_map]
        exact this
      rw [hp] at s1
      generalize pairsL y = ps at s1 er q hpm hpl
      have eK := ed_lcD (K := K) (σ := σ1) (H := H1) (ti := tVar 1) (te := tOp (rIx K) (tVar 4) (tC (.int 0))) (j := 4) (vs := [4]) (ds := (ps.map fun p => [p.1, p.2]).map fun r => .list (r.map .str)) (fun d => match d with | .list (x :: _) => x | _ => .none) s1 (eiU_list (ed_sl s1 rfl)) (by rw [List.length_map, List.length_map]; omega) rfl (fun d hd σ2 Hc e2 s2 => by
        obtain ⟨r, hr, rfl⟩ := List.mem_map.mp hd
        obtain ⟨p, _, rfl⟩ := List.mem_map.mp hr
        exact ed_op (ed_sl s2 rfl) (ed_c (.int 0)) (rd_ixL (d := .str p.1) rfl))
      have eK' : EvD K _ σ1 H1 (.list ((ps.map (·.1)).map .str)) := ed_is eK (by
        rw [List.map_map, List.map_map, List.map_map]
        rfl)
      have ulen : ∀ w ∈ ps.map (·.1), w.length ≤ 900 := fun w hw => by
        obtain ⟨p, hp, rfl⟩ := List.mem_map.mp hw
        exact Nat.le_trans (hpm p hp).1 zl
      refine st_setX n1 s1 (ex_call (r := orPiece ((unpL "" (ps.map (·.1))).map fun l => .list (l.map .str))) (eds_cons eK' eds_nil) ⟨_, rfl, by rw [List.length_map]; omega, fun w hw => Nat.le_trans (ulen w hw) (by decide), rfl⟩) (fun d hd σ2 H2 H21 x2 e2 n2 s2 => ?_) (fun x hx H2 e2 => ?_)
      · cases hu : unpL "" (ps.map (·.1)) with
        | none =>
          rw [hu] at hd
          cases hd
        | some ks =>
          rw [hu] at hd er q
          cases hd
          have kl := unpL_len hu
          rw [List.length_map] at kl
          have km := unpL_mem ulen hu
          have eM := ed_lcZ (K := K) (σ := σ2) (H := H2) (wi := iZipU K (tCons (tVar 2) (tCons (tVar 1) tNil))) (te := tTup (tCons (tVar 5) (tCons (tOp (rIx K) (tVar 4) (tC (.int 1))) tNil))) (i := 5) (j := 4) (vs := [5, 4]) (ds := ks.map .str) (es := (ps.map fun p => [p.1, p.2]).map fun r => .list (r.map .str)) (fun x y => .tuple [x, match y with | .list [_, b] => b | _ => .none]) s2 (ei_zipLL (eds_cons (ed_sl s2 rfl) (eds_cons (ed_sl s2 rfl) eds_nil))) (by rw [List.length_map, List.length_map, List.length_map]; omega) rfl (fun k x y hx hy σ2 Hc e2 s2 => by
            obtain ⟨a, _, rfl⟩ := List.mem_map.mp (List.mem_of_getElem? hx)
            obtain ⟨r, hr, rfl⟩ := List.mem_map.mp (List.mem_of_getElem? hy)
            obtain ⟨p, _, rfl⟩ := List.mem_map.mp hr
            exact ed_tup (eds_cons (ed_sl s2 rfl) (eds_cons (ed_op (ed_sl s2 rfl) (ed_c (.int 1)) (rd_ixL (d := .str p.2) rfl)) eds_nil)) (by show 2 ≤ 100000; decide))
          have eM' : EvD K _ σ2 H2 (entsD (ks.zip (ps.map (·.2)))) := ed_is (ed_tupL eM) (by
            unfold entsD
            congr 1
            rw [List.map_map, List.zipWith_map, List.zip, List.zipWith_map_right, List.map_zipWith]
            rfl)
          refine st_asg n2 s2 eM' ?_
          intro σ3 H3 H31 ex3 n3 s3
          have rl : (ks.zip (ps.map (·.2))).length ≤ 1000 := by
            rw [List.length_zip]
            omega
          have rm : ∀ p ∈ ks.zip (ps.map (·.2)), p.1.length ≤ 910 ∧ p.2.length ≤ 900 := fun p hp => by
            obtain ⟨m1, m2⟩ := List.of_mem_zip hp
            obtain ⟨p', hp', e⟩ := List.mem_map.mp m2
            refine ⟨km _ m1, ?_⟩
            rw [← e]
            exact Nat.le_trans (hpm p' hp').2 zl
          have q' : KX K E H0 H10 Q (orPiece ((if areEntD (entsD (ks.zip (ps.map (·.2)))) && decide (entsT (ks.zip (ps.map (·.2))) = z) then some (ks.zip (ps.map (·.2))) else none).map entsD)) := q
          generalize ks.zip (ps.map (·.2)) = rows at s3 rl rm q'
          have sm : smallD (entsD rows) := ⟨by rw [List.length_map]; omega, fun e he => by
            obtain ⟨p, hp, rfl⟩ := List.mem_map.mp he
            exact ⟨show p.1.length ≤ 50000 by have := (rm p hp).1; omega, show p.2.length ≤ 50000 by have := (rm p hp).2; omega⟩⟩
          dsimp only
          refine t_seq ?_
          refine st_if n3 (b := !(areEntD (entsD rows) && decide (entsT rows = z))) (eb_is (eb_or (b := !decide (entsT rows = z)) (eb_not (eb_B (ed_call (eds_cons (ed_sl s3 rfl) eds_nil) ⟨_, rfl, sm, rfl⟩))) fun h => eb_test (ed_op (ed_call (eds_cons (ed_sl s3 rfl) eds_nil) ⟨rows, rfl, rl, fun p hp => ?_, rfl⟩) (ed_sl s3 rfl) rd_neS)) (by rw [Bool.not_and])) (fun h H2 n2 => ?_) (fun h H2 n2 => ?_)
          · have h' : areEntD (entsD rows) = true := by simpa using h
            obtain ⟨rows', e, h1, _⟩ := areEnt_eq h'
            have e' : rows = rows' := by
              injection e with e
              have inj : ∀ {a b : List (Str × Str)}, a.map entR = b.map entR → a = b := fun {a b} => by
                induction a generalizing b with
                | nil =>
                  cases b with
                  | nil => exact fun _ => rfl
                  | cons _ _ => exact fun h => by cases h
                | cons x r ih =>
                  cases b with
                  | nil => exact fun h => by cases h
                  | cons y r2 =>
                    intro h
                    rw [List.map_cons, List.map_cons] at h
                    injection h with h1 h2
                    injection h1 with h1
                    injection h1 with h3 h4
                    injection h4 with h5 _
                    injection h3 with h3
                    injection h5 with h5
                    rw [ih h2]
                    congr 1
                    exact Prod.ext h3 h5
              exact inj e
            rw [e'] at hp
            exact ⟨isKeyS_le (h1 p hp).1, isValS_le (h1 p hp).2⟩
          · have h' : (areEntD (entsD rows) && decide (entsT rows = z)) = false := by
              cases hh : (areEntD (entsD rows) && decide (entsT rows = z)) with
              | false => rfl
              | true => rw [hh] at h; cases h
            rw [h'] at q'
            exact q' H2 n2.grow
          · have h' : (areEntD (entsD rows) && decide (entsT rows = z)) = true := by
              cases hh : (areEntD (entsD rows) && decide (entsT rows = z)) with
              | true => rfl
              | false => rw [hh] at h; cases h
            rw [h'] at q'
            exact st_ret (K := K) n2 (ed_sl s3 rfl) q'
      · cases hu : unpL "" (ps.map (·.1)) with
        | none =>
          rw [hu] at hx
          cases hx
          exact er H2 e2 (by rw [if_pos rfl, hu]; rfl)
        | some ks =>
          rw [hu] at hx
          cases hx
  · cases hpo : partsOk y with
    | false =>
      rw [hpo] at hx
      cases hx
      exact er H2 e2 (by rw [hpo]; rfl)
    | true =>
      rw [hpo, if_pos rfl] at hx
      cases hx
theorem sc_read_leaf : FnScope ["text", "inner"] ["text"] (defScope s_read_leaf) := ⟨rfl, rfl, rfl, by decide +kernel, rfl, by decide +kernel, by decide +kernel⟩
theorem fx_read_leaf (T : Txt mg) (xt : ExT exNs K mg) (dk_SIGNS : DcT w K mg "SIGNS" kv_SIGNS) (F : FunD K "read_leaf" "read_leaf" (defArgs s_read_leaf) (defBody s_read_leaf) (defScope s_read_leaf) [] [] f fd) (hm : mg "read_leaf" = some (.ref f)) (g_unsealed : Fx P w K mg base 2 "unsealed" ["text"] (spX K 1 Runsealed)) (g_entries_in : Fx P w K mg base 4 "entries_in" ["text"] (spX K 1 RentIn)) : Fx P w K mg base 5 "read_leaf" ["text"] (spX K 1 RreadLeaf) := by
  refine fx_raise F hm sc_read_leaf rfl (fun _ _ _ _ _ _ us hl => match us, hl with | [_], _ => rfl) fun cdv A outer s Hs E hr ds r hl hR => ?_
  refine ⟨_, (pss_cons (ps_set (i := 1) sc_read_leaf.nd rfl (by first | exact Or.inl rfl | exact Or.inr rfl) (pe_fx g_unsealed hr (by decide) (by rfl) (passE rfl rfl rfl rfl) (pa_cons (pv 0) pa_nil))) (pss_cons (ps_if (pt_cmpR (op_neK (K := K) rfl hr.units) (pe_slice (sl_K (K := K) rfl) (pv 1) po_none (po_some pe_int)) (pe_ix (ix_kdK (K := K) (w := w) rfl rfl) (C8.pe_gc (v := .ref (gaE K "SIGNS")) (by rfl) ⟨_, dk_SIGNS.glo, rfl⟩) (C8.pe_gc (by rfl) T.c_LEAF) (fun _ _ => rfl)) (nomark _)) (pss_one (L2N.ps_raise rfl (L2N.takes_of rfl rfl rfl rfl) (L2N.pmk_own PySem.F.excBase_ValueError (xt.exc "NoPiece" (by decide)) (xt.glo "NoPiece" (by decide)) (xt.keep "NoPiece" (by decide)) (raises_own (xt.sub "NoPiece" (by decide)) (xt.ty "NoPiece" (by decide))) (by rfl)))) pss_nil) (pss_one (ps_ret (pe_fx g_entries_in hr (by decide) (by rfl) (passE rfl rfl rfl rfl) (pa_cons (pv 1) pa_nil)))))), ?_⟩
  obtain ⟨d, rfl, hd, rfl⟩ := hR
  intro σ H0 H10 Q n s q
  have ld : lenOk d := by
    cases d with
    | str z => exact Nat.le_trans (show z.length ≤ 900 from hd) (by decide)
    | _ => trivial
  have hun : (∃ z, d = .str z ∧ z.length ≤ 900 ∧ soundS z = true ∧ unsealA d = .ok (.str (innerS z))) ∨ (unsealA d = .error "NoPiece" ∧ readA d = .error "NoPiece") := by
    cases d with
    | str z =>
      cases hs : soundS z with
      | true =>
        refine .inl ⟨z, rfl, hd, hs, ?_⟩
        show (if soundS z then _ else _) = _
        rw [if_pos hs]
      | false =>
        refine .inr ⟨?_, ?_⟩
        · show (if soundS z then _ else _) = _
          rw [hs]
          rfl
        · show (if soundS z && _ then _ else _) = _
          rw [hs]
          rfl
    | _ => exact .inr ⟨rfl, rfl⟩
  refine st_setX n s (ex_call (r := unsealA d) (eds_cons (ed_sl s rfl) eds_nil) ⟨d, rfl, ld, rfl⟩) (fun d' hd' σ1 H1 H11 x1 e1 n1 s1 => ?_) (fun x hx H2 e2 => ?_)
  · rcases hun with ⟨z, rfl, hz, hs, hu⟩ | ⟨hu, _⟩
    · rw [hu] at hd'
      cases hd'
      have il : (innerS z).length ≤ z.length := cutS_len z none (some (-5))
      have q' : KX K E H0 H10 Q (if soundS z && decide (mk ((innerS z).cps.toList.take 1) = "L") then orPiece ((readIn (innerS z)).map entsD) else .error "NoPiece") := q
      rw [hs, Bool.true_and] at q'
      generalize innerS z = y at s1 q' il
      dsimp only
      refine t_seq ?_
      refine st_if n1 (b := !decide (mk (y.cps.toList.take 1) = "L")) (eb_test (ed_op (ed_is (ed_slS (ed_sl s1 rfl) eo_none (eo_some (K := K) (ed_c (.int 1))) (by omega)) (by rw [cutS_one])) (ed_ixK (ed_c (.str _)) (dk_SIGNS.at_ ("leaf", .str "L") List.mem_cons_self) fun _ => .str _) rd_neS)) (fun h H2 n2 => ?_) (fun h H2 n2 => ?_)
      · have h' : decide (mk (y.cps.toList.take 1) = "L") = false := by simpa using h
        rw [h'] at q'
        exact q' H2 n2.grow
      · have h' : decide (mk (y.cps.toList.take 1) = "L") = true := by simpa using h
        rw [if_pos h'] at q'
        exact st_retX n2 (ex_call (eds_cons (ed_sl s1 rfl) eds_nil) ⟨y, rfl, by omega, rfl⟩) q'
    · rw [hu] at hd'
      cases hd'
  · rcases hun with ⟨z, rfl, hz, hs, hu⟩ | ⟨hu, hr⟩
    · rw [hu] at hx
      cases hx
    · rw [hu] at hx
      cases hx
      rw [hr] at q
      exact q H2 e2
end
end LR

/-! ### a leaf's text, read back -/
namespace LR
open PySem PySem.Spec PyProof.Rows L2 Evl L2H LamX
theorem cut_neg {z : Str} {a b : Nat} (ha : a ≤ z.length) (hb : b ≤ a) (h0 : 0 < b) : cutS z (some (-(a : Int))) (some (-(b : Int))) = mk ((z.cps.toList.drop (z.length - a)).take (a - b)) := by
  have e : ∀ d c : Nat, 0 < c → c ≤ z.length → HT.sIx z.length d (some (-(c : Int))) = z.length - c := fun d c h1 h2 => by
    show (if (-(c : Int)) < 0 then ((-(c : Int)) + (z.length : Int)).toNat else min (-(c : Int)).toNat z.length) = _
    rw [if_pos (by omega)]
    omega
  unfold cutS
  rw [e _ a (by omega) ha, e _ b h0 (by omega)]
  congr 2
  congr 1
  omega
theorem cut_from {z : Str} {a : Nat} (ha : a ≤ z.length) (h0 : 0 < a) : cutS z (some (-(a : Int))) none = mk (z.cps.toList.drop (z.length - a)) := by
  have e : ∀ d c : Nat, 0 < c → c ≤ z.length → HT.sIx z.length d (some (-(c : Int))) = z.length - c := fun d c h1 h2 => by
    show (if (-(c : Int)) < 0 then ((-(c : Int)) + (z.length : Int)).toNat else min (-(c : Int)).toNat z.length) = _
    rw [if_pos (by omega)]
    omega
  unfold cutS
  rw [e _ a h0 ha, HT.sIx_none]
  congr 1
  rw [List.take_of_length_le (by rw [List.length_drop, tl_len]; omega)]
theorem cut_to {z : Str} {a : Nat} (h0 : 0 < a) : cutS z none (some (-(a : Int))) = mk (z.cps.toList.take (z.length - a)) := by
  have e : HT.sIx z.length z.length (some (-(a : Int))) = z.length - a := by
    show (if (-(a : Int)) < 0 then ((-(a : Int)) + (z.length : Int)).toNat else min (-(a : Int)).toNat z.length) = _
    rw [if_pos (by omega)]
    omega
  unfold cutS
  rw [HT.sIx_none, e, List.drop_zero, Nat.sub_zero]
/-- the last signs of a text -/
theorem sealS_tl (z : Str) : (sealS z).cps.toList = z.cps.toList ++ (35 :: fig4 (chkN z).toNat) := by
  unfold sealS
  rw [tl_app, tl_app]
  show (z.cps.toList ++ [35]) ++ _ = _
  rw [List.append_assoc]
  rfl
theorem sealS_len (z : Str) : (sealS z).length = z.length + 5 := by
  rw [← tl_len, sealS_tl, List.length_append, tl_len]
  rfl
theorem innerS_eq (z : Str) : innerS z = mk (z.cps.toList.take (z.length - 5)) := cut_to (a := 5) (by decide)
theorem seal_inner (z : Str) : innerS (sealS z) = z := by
  rw [innerS_eq, sealS_len, Nat.add_sub_cancel, sealS_tl]
  apply str_tl
  rw [tl_mk']
  rw [List.take_append_of_le_length (by rw [tl_len]; exact Nat.le_refl _), List.take_of_length_le (by rw [tl_len]; exact Nat.le_refl _)]
theorem seal_sound (z : Str) : soundS (sealS z) = true := by
  unfold soundS
  rw [seal_inner, Bool.and_eq_true]
  have l := sealS_len z
  have e5 : (some (-5 : Int)) = some (-((5 : Nat) : Int)) := rfl
  have e4 : (some (-4 : Int)) = some (-((4 : Nat) : Int)) := rfl
  constructor
  · rw [e5, e4, cut_neg (by omega) (by decide) (by decide)]
    refine decide_eq_true ?_
    rw [l, Nat.add_sub_cancel, sealS_tl, ← tl_len z, List.drop_left]
    exact str_tl ((tl_mk' _).trans (show [35] = _ by decide +kernel))
  · rw [e4, cut_from (by omega) (by decide)]
    refine decide_eq_true ?_
    have e : z.length + 5 - 4 = z.cps.toList.length + 1 := by rw [tl_len]; omega
    rw [l, e, sealS_tl, ← List.drop_drop, List.drop_left]
    rfl
/-! the rows of a leaf, split and joined -/
theorem unp_pack {old key : Str} (h : key.length ≤ 10) : unpOne old (packOne old key) = some key := by
  have le := alikeS_le old key
  unfold unpOne packOne
  rw [tl_mk']
  show (if 65 ≤ 65 + alikeS old key ∧ 65 + alikeS old key ≤ 75 ∧ 65 + alikeS old key - 65 ≤ old.length then some (mk (old.cps.toList.take (65 + alikeS old key - 65) ++ key.cps.toList.drop (alikeS old key))) else none) = _
  rw [if_pos (by omega), Nat.add_sub_cancel_left]
  have e : old.cps.toList.take (alikeS old key) = key.cps.toList.take (alikeS old key) := alikeL_take _ _
  rw [e, List.take_append_drop, mk_tl]
theorem unp_packL : ∀ (keys : List Str) (old : Str), (∀ k ∈ keys, k.length ≤ 10) → unpL old (packL old keys) = some keys
  | [], _, _ => rfl
  | k :: r, old, h => by
    show (unpOne old (packOne old k)).bind _ = _
    rw [unp_pack (h k List.mem_cons_self)]
    show (unpL k (packL k r)).map _ = _
    rw [unp_packL r k fun x hx => h x (List.mem_cons_of_mem _ hx)]
    rfl
/-- signs of keys and values -/
theorem key_sign {z : Str} (h : isKeyS z = true) : ∀ c ∈ z.cps.toList, 97 ≤ c ∧ c ≤ 122 := by
  unfold isKeyS at h
  rw [Bool.and_eq_true] at h
  have h2 := List.all_eq_true.mp h.2
  have e : smallS.cps.toList = (List.range 26).map (97 + ·) := by decide +kernel
  intro c hc
  have := of_decide_eq_true (h2 c hc)
  rw [e] at this
  obtain ⟨i, hi, rfl⟩ := List.mem_map.mp this
  have := List.mem_range.mp hi
  omega
theorem val_sign {z : Str} (h : isValS z = true) : ∀ c ∈ z.cps.toList, (97 ≤ c ∧ c ≤ 122) ∨ (48 ≤ c ∧ c ≤ 57) := by
  unfold isValS at h
  rw [Bool.and_eq_true] at h
  have h2 := List.all_eq_true.mp h.2
  have e : (smallS ++ figS).cps.toList = (List.range 26).map (97 + ·) ++ (List.range 10).map (48 + ·) := by decide +kernel
  intro c hc
  have := of_decide_eq_true (h2 c hc)
  rw [e] at this
  rcases List.mem_append.mp this with m | m
  · obtain ⟨i, hi, rfl⟩ := List.mem_map.mp m
    have := List.mem_range.mp hi
    omega
  · obtain ⟨i, hi, rfl⟩ := List.mem_map.mp m
    have := List.mem_range.mp hi
    omega
theorem pack_sign {old z : Str} (h : isKeyS z = true) : ∀ c ∈ (packOne old z).cps.toList, 65 ≤ c := by
  intro c hc
  rcases List.mem_cons.mp (show c ∈ _ :: _ from hc) with e | e
  · omega
  · have := key_sign h c (List.mem_of_mem_drop e)
    omega
/-- the text of a row, without the semicolon -/
def rowS (x v : Str) : Str := mk (x.cps.toList ++ (61 :: v.cps.toList))
def rowsS : Str → List (Str × Str) → List Str
  | _, [] => []
  | old, p :: r => rowS (packOne old p.1) p.2 :: rowsS p.1 r
abbrev noS : Str := ""
abbrev semi : Str := ";"
abbrev like : Str := "="
theorem semi_tl : TL.tl semi = 59 :: [] := by decide +kernel
theorem like_tl : TL.tl like = 61 :: [] := by decide +kernel
theorem rows_join : ∀ (rows : List (Str × Str)) (old : Str), (Txt.join semi (rowsS old rows ++ [noS])).cps.toList = rowsL old rows
  | [], _ => rfl
  | p :: r, old => by
    have ih := rows_join r p.1
    rw [TL.join_eq] at ih ⊢
    have e : ∀ l : List Str, Str.join semi (rowS (packOne old p.1) p.2 :: (l ++ [noS])) = rowS (packOne old p.1) p.2 ++ semi ++ Str.join semi (l ++ [noS]) := fun l => by
      cases l <;> rfl
    show (Str.join semi (rowS (packOne old p.1) p.2 :: (rowsS p.1 r ++ [noS]))).cps.toList = _
    rw [e, tl_app, tl_app, ih]
    show ((packOne old p.1).cps.toList ++ (61 :: p.2.cps.toList) ++ [59]) ++ _ = rowL _ _ ++ rowsL p.1 r
    unfold rowL
    simp
theorem rows_free : ∀ (rows : List (Str × Str)) (old : Str), (∀ p ∈ rows, isKeyS p.1 = true ∧ isValS p.2 = true) → ∀ z ∈ rowsS old rows, 59 ∉ TL.tl z
  | [], _, _, z, hz => by cases hz
  | p :: r, old, h, z, hz => by
    rcases List.mem_cons.mp hz with e | e
    · subst e
      intro m
      have h1 := h p List.mem_cons_self
      rcases List.mem_append.mp (show 59 ∈ (packOne old p.1).cps.toList ++ (61 :: p.2.cps.toList) from m) with m | m
      · have := pack_sign h1.1 _ m
        omega
      · rcases List.mem_cons.mp m with m | m
        · omega
        · have := val_sign h1.2 _ m
          omega
    · exact rows_free r p.1 (fun q hq => h q (List.mem_cons_of_mem _ hq)) z e
theorem row_split {x v : Str} (h1 : ∀ c ∈ x.cps.toList, 65 ≤ c) (h2 : ∀ c ∈ v.cps.toList, (97 ≤ c ∧ c ≤ 122) ∨ (48 ≤ c ∧ c ≤ 57)) : Txt.split (rowS x v) like = [x, v] := by
  have e : rowS x v = Txt.join like [x, v] := by
    apply str_tl
    rw [TL.join_eq]
    show _ = (x ++ like ++ v).cps.toList
    rw [tl_app, tl_app]
    show _ ++ (61 :: _) = (_ ++ [61]) ++ _
    simp
  rw [e]
  refine TL.split_join like_tl (by decide +kernel) (by simp) fun p hp m => ?_
  have m' : 61 ∈ p.cps.toList := m
  simp only [List.mem_cons, List.not_mem_nil, or_false] at hp
  rcases hp with e | e
  · subst e
    have := h1 _ m'
    omega
  · subst e
    have := h2 _ m'
    omega
theorem rows_parts : ∀ (rows : List (Str × Str)) (old : Str), (∀ p ∈ rows, isKeyS p.1 = true ∧ isValS p.2 = true) → (rowsS old rows).map (fun p => Txt.split p like) = List.zipWith (fun w (p : Str × Str) => [w, p.2]) (packL old (rows.map (·.1))) rows
  | [], _, _ => rfl
  | p :: r, old, h => by
    have h1 := h p List.mem_cons_self
    show Txt.split (rowS (packOne old p.1) p.2) like :: (rowsS p.1 r).map _ = [packOne old p.1, p.2] :: List.zipWith _ (packL p.1 (r.map (·.1))) r
    rw [row_split (pack_sign h1.1) (val_sign h1.2), rows_parts r p.1 fun q hq => h q (List.mem_cons_of_mem _ hq)]
theorem parts_rows {rows : List (Str × Str)} (h : ∀ p ∈ rows, isKeyS p.1 = true ∧ isValS p.2 = true) : partsL (mk (rowsL "" rows)) = List.zipWith (fun w (p : Str × Str) => [w, p.2]) (packL "" (rows.map (·.1))) rows := by
  have e : mk (rowsL "" rows) = Txt.join semi (rowsS "" rows ++ [noS]) := str_tl ((tl_mk' _).trans (rows_join rows "").symm)
  unfold partsL
  rw [e]
  have sp : Txt.split (Txt.join semi (rowsS "" rows ++ [noS])) semi = rowsS "" rows ++ [noS] := TL.split_join semi_tl (by decide +kernel) (by simp) fun p hp m => by
    rcases List.mem_append.mp hp with q | q
    · exact rows_free rows "" h p q m
    · rw [List.mem_singleton.mp q] at m
      exact absurd m (by decide +kernel)
  show ((Txt.split _ semi).dropLast).map _ = _
  rw [sp, List.dropLast_concat]
  exact rows_parts rows "" h
theorem rowsL_last : ∀ (rows : List (Str × Str)) (old : Str), rows ≠ [] → (rowsL old rows).getLast? = some 59
  | [], _, h => absurd rfl h
  | [p], old, _ => by
    show (rowL _ _ ++ []).getLast? = _
    unfold rowL
    rw [List.append_nil, List.getLast?_append, show (61 :: (p.2.cps.toList ++ [59])) = (61 :: p.2.cps.toList) ++ [59] from rfl, List.getLast?_append]
    rfl
  | p :: q :: r, old, _ => by
    show (rowL _ _ ++ rowsL p.1 (q :: r)).getLast? = _
    rw [List.getLast?_append, rowsL_last (q :: r) p.1 (by simp)]
    rfl
theorem unzip_zip : ∀ rows : List (Str × Str), (rows.map (·.1)).zip (rows.map (·.2)) = rows
  | [] => rfl
  | p :: r => by
    show (p.1, p.2) :: (r.map (·.1)).zip (r.map (·.2)) = _
    rw [unzip_zip r]
theorem readIn_ents {rows : List (Str × Str)} (h : areEntD (entsD rows) = true) (hk : ∀ p ∈ rows, isKeyS p.1 = true ∧ isValS p.2 = true) : readIn (entsT rows) = some rows := by
  unfold readIn
  have e0 : mk ((entsT rows).cps.toList.drop 1) = mk (rowsL "" rows) := rfl
  rw [e0]
  have pr := parts_rows hk
  have le : (packL "" (rows.map (·.1))).length = rows.length := by rw [packL_len, List.length_map]
  have po : partsOk (mk (rowsL "" rows)) = true := by
    unfold partsOk
    rw [pr, Bool.and_eq_true]
    refine ⟨?_, ?_⟩
    · cases rows with
      | nil => rfl
      | cons p r =>
        have := rowsL_last (p :: r) "" (by simp)
        rw [tl_mk', this]
        simp
    · rw [List.all_eq_true]
      intro r hr
      rw [← List.map_uncurry_zip_eq_zipWith] at hr
      obtain ⟨⟨w, p⟩, _, rfl⟩ := List.mem_map.mp hr
      rfl
  have pa : pairsL (mk (rowsL "" rows)) = (packL "" (rows.map (·.1))).zip (rows.map (·.2)) := by
    unfold pairsL
    rw [pr, List.map_zipWith, List.zip, List.zipWith_map_right]
    rfl
  rw [if_pos po, pa]
  have z1 : ((packL "" (rows.map (·.1))).zip (rows.map (·.2))).map (·.1) = packL "" (rows.map (·.1)) := by
    exact List.map_fst_zip (by rw [le, List.length_map]; exact Nat.le_refl _)
  have z2 : ((packL "" (rows.map (·.1))).zip (rows.map (·.2))).map (·.2) = rows.map (·.2) := by
    exact List.map_snd_zip (by rw [le, List.length_map]; exact Nat.le_refl _)
  rw [z1, z2, unp_packL _ _ fun k hkm => by obtain ⟨p, hp, rfl⟩ := List.mem_map.mp hkm; exact isKeyS_le (hk p hp).1]
  have z3 : (rows.map (·.1)).zip (rows.map (·.2)) = rows := unzip_zip rows
  show (if _ then some ((rows.map Prod.fst).zip (rows.map Prod.snd)) else none) = _
  rw [z3, h, decide_eq_true rfl]
  rfl
/-- read_leaf of leaf_text -/
theorem read_back {rows : List (Str × Str)} (h : areEntD (entsD rows) = true) (hk : ∀ p ∈ rows, isKeyS p.1 = true ∧ isValS p.2 = true) : readA (.str (leafT rows)) = .ok (entsD rows) := by
  show (if soundS (sealS (entsT rows)) && decide (mk ((innerS (sealS (entsT rows))).cps.toList.take 1) = "L") then orPiece ((readIn (innerS (sealS (entsT rows)))).map entsD) else .error "NoPiece") = _
  rw [seal_sound, seal_inner, readIn_ents h hk]
  have e : mk ((entsT rows).cps.toList.take 1) = "L" := str_tl (show [76] = _ by decide +kernel)
  rw [decide_eq_true e]
  rfl
/-- what is read is a leaf's text -/
theorem read_ok {z : Str} {d : PyData} (h : readA (.str z) = .ok d) : ∃ rows, d = entsD rows ∧ areEntD (entsD rows) = true ∧ innerS z = entsT rows ∧ soundS z = true := by
  have h' : (if soundS z && decide (mk ((innerS z).cps.toList.take 1) = "L") then orPiece ((readIn (innerS z)).map entsD) else .error "NoPiece") = Except.ok d := h
  split at h'
  · rename_i c
    rw [Bool.and_eq_true] at c
    cases hr : readIn (innerS z) with
    | none =>
      rw [hr] at h'
      cases h'
    | some rows =>
      rw [hr] at h'
      cases h'
      refine ⟨rows, rfl, ?_⟩
      unfold readIn at hr
      split at hr
      · obtain ⟨ks, _, h2⟩ := Option.bind_eq_some_iff.mp hr
        split at h2
        · rename_i c2
          rw [Bool.and_eq_true] at c2
          cases h2
          exact ⟨c2.1, (of_decide_eq_true c2.2).symm, c.1⟩
        · cases h2
      · cases hr
  · cases h'
end LR

/-! ### the law's book of entries -/
namespace LR
open PySem PySem.Spec PyProof.Rows L2 Evl
theorem putB_ne (b : List (Str × Str)) (k v : Str) : putB b k v ≠ [] := by
  unfold putB
  split
  · rename_i h
    intro z
    rw [List.map_eq_nil_iff.mp z] at h
    cases h
  · simp
/-- what is known of a book -/
structure BookOk (b : List (Str × Str)) (n : Nat) : Prop where
  len : b.length ≤ n
  ne : 0 < n → b ≠ []
  nd : (b.map (·.1)).Nodup
  all : ∀ p ∈ b, isKeyS p.1 = true ∧ isValS p.2 = true
theorem lawKey_ok (ns : List Int) (k : Int) : isKeyS (lawKey ns k) = true := by
  have h := keyL_len ns k
  have h2 := keyL_small ns k
  have e : smallS.cps.toList = (List.range 26).map (97 + ·) := by decide +kernel
  have hl : (mk (keyL ns k)).length = (keyL ns k).length := List.size_toArray ..
  unfold isKeyS lawKey
  rw [Bool.and_eq_true, Bool.and_eq_true]
  refine ⟨⟨decide_eq_true (by omega), decide_eq_true (by omega)⟩, List.all_eq_true.mpr fun c hc => decide_eq_true ?_⟩
  rw [e]
  have := h2 c hc
  exact List.mem_map.mpr ⟨c - 97, List.mem_range.mpr (by omega), by omega⟩
theorem st_book {K : PySem.W.Frag} {H0 H10 H H1 : Hp} {σ : L2.St} {ss : List SD} {D : Ends} {l : Addr} {ta : TA} {ns : List Int} {n : Int} {E : XK} (nw : Now H0 H10 H H1) (s : Sl K H σ ss) (hns : ns.length ≤ 63) (h0 : ss[0]? = some (.dat (scrD ns))) (h1 : ss[1]? = some (.val (.ref l))) (h2 : 2 < ss.length) (w : OwnO H10 H H1 l (.dK []))
    (ht : EvDs K ta σ H [.int n]) (hn0 : 0 ≤ n) (hn : n ≤ 60)
    (q : ∀ σ' H' H2 b, Ex H H' → BookOk b n.toNat → OwnO H10 H' H2 l (.dK (bookK b)) → (∀ c u, c ≠ l → H1 c = some u → H2 c = some u) → Now H0 H10 H' H2 → Sl K H' σ' (ss.set 2 .unk) → D.nx σ' H2) :
    tFor (iRng1 ta) (gName 2) (sDPut (tVar 1) (tCall (spR K 2 Rkey) [] E (tCons (tVar 0) (tCons (tOp (rMulU K) (tC (.int 25)) (tVar 2)) tNil))) (tCall (spR K 2 Rvalue) [] E (tCons (tVar 0) (tCons (tOp (rAddU K) (tOp (rMulU K) (tC (.int 25)) (tVar 2)) (tC (.int 12))) tNil)))) D σ H1 := by
  refine st_forX nw (ei_range ht (by omega) (by omega)) fun Hb H2 xb n2 e12 => ?_
  refine ⟨fun i σ' Hr => ∃ H' b, Ex Hb H' ∧ BookOk b i ∧ OwnO H10 H' Hr l (.dK (bookK b)) ∧ (∀ c u, c ≠ l → H1 c = some u → Hr c = some u) ∧ Now H0 H10 H' Hr ∧ Sl K H' σ' (ss.set 2 .unk), ⟨Hb, [], Ex.refl _, BookOk.mk (Nat.le_refl _) (fun h => absurd h (Nat.lt_irrefl 0)) List.nodup_nil (fun p hp => nomatch hp), w.on xb e12, fun c u _ hu => e12 c u hu, n2, (s.ex xb.ex).forget 2⟩, fun i σ' Hr ⟨H', b, a1, _, _, _, a2, _⟩ => a1.trans a2.ex, ?_, ?_⟩
  · rintro i x σ3 Hr H6 hi ⟨H', b, a1, a2, a3, a4, a5, a6⟩ ⟨rfl, rfl⟩
    have hi' : (i : Int) ≤ 60 := by omega
    have s3 := a6.set (s := .dat (.int i)) (o := some (.int (0 + (i : Int)))) (by show Dt K H' (.int (0 + (i : Int))) (.int i); rw [Int.zero_add]; exact .int _) 2
    have g0 : ((ss.set 2 .unk).set 2 (.dat (.int i)))[0]? = some (.dat (scrD ns)) := by rw [List.getElem?_set_ne (by decide), List.getElem?_set_ne (by decide)]; exact h0
    have g1 : ((ss.set 2 .unk).set 2 (.dat (.int i)))[1]? = some (.val (.ref l)) := by rw [List.getElem?_set_ne (by decide), List.getElem?_set_ne (by decide)]; exact h1
    have g2 : ((ss.set 2 .unk).set 2 (.dat (.int i)))[2]? = some (.dat (.int i)) := List.getElem?_set_self (by rw [List.length_set]; exact h2)
    have eM : EvD K (tOp (rMulU K) (tC (.int 25)) (tVar 2)) (List.set σ3 2 (some (.int (0 + (i : Int))))) H' (.int (25 * (i : Int))) := ed_op (ed_c (.int 25)) (ed_sl s3 g2) (rd_mulI (CMul_l (by decide) (by decide)))
    refine st_dput (k := .inr (lawKey ns (25 * (i : Int)))) (v := .str (lawVal ns (25 * (i : Int) + 12))) a5 s3 g1 a3 (by unfold bookK; rw [List.length_map]; have := a2.len; omega) (ed_call (eds_cons (ed_sl s3 g0) (eds_cons eM eds_nil)) ⟨ns, _, rfl, hns, by omega, by omega, rfl⟩) key_str (ed_call (eds_cons (ed_sl s3 g0) (eds_cons (ed_op eM (ed_c (.int 12)) rd_addI) eds_nil)) ⟨ns, _, rfl, hns, by omega, by omega, rfl⟩) val_str ?_
    intro H4 H41 x4 w4 k4 n4 s4
    refine ⟨H4, putB b (lawKey ns (25 * (i : Int))) (lawVal ns (25 * (i : Int) + 12)), a1.trans x4.ex, ⟨?_, fun _ => putB_ne _ _ _, putB_nodup a2.nd, putB_all a2.all ⟨lawKey_ok _ _, lawVal_val _ _⟩⟩, ?_, fun c u hc hu => k4 c u hc (a4 c u hc hu), n4, ?_⟩
    · have := putB_len b (lawKey ns (25 * (i : Int))) (lawVal ns (25 * (i : Int) + 12))
      have := a2.len
      omega
    · rw [← book_put]
      exact w4
    · have z := s4.forget 2
      rw [List.set_set] at z
      rw [List.set_set] at z
      exact z
  · rintro σ3 Hr ⟨H', b, a1, a2, a3, a4, a5, a6⟩
    exact q σ3 H' Hr b (xb.ex.trans a1) a2 a3 a4 a5 a6
/-- the entries of a book, rising -/
def bookVal (b : List (Str × Str)) (k : Str) : Str := ((b.find? fun p => decide (p.1 = k)).map (·.2)).getD ""
def bookRows (b : List (Str × Str)) : List (Str × Str) := (usort ltS (b.map (·.1))).map fun k => (k, bookVal b k)
theorem bookVal_get {b : List (Str × Str)} {k : Str} (h : k ∈ b.map (·.1)) : valV (bookK b) (.inr k) = some (.str (bookVal b k)) ∧ (k, bookVal b k) ∈ b := by
  induction b with
  | nil => cases h
  | cons p r ih =>
    by_cases z : p.1 = k
    · have e : bookVal (p :: r) k = p.2 := by
        unfold bookVal
        rw [List.find?_cons, decide_eq_true z]
        rfl
      rw [e]
      refine ⟨?_, ?_⟩
      · show valV (((Sum.inr p.1 : Key), V.str p.2) :: bookK r) (Sum.inr k) = _
        rw [valV_pos (by show (Sum.inr p.1 : Key) = _; rw [z])]
      · rw [← z]
        exact List.mem_cons_self
    · have e : bookVal (p :: r) k = bookVal r k := by
        unfold bookVal
        rw [List.find?_cons, decide_eq_false z]
      rw [e]
      rw [List.map_cons] at h
      rcases List.mem_cons.mp h with e | e
      · exact absurd e.symm z
      · obtain ⟨h1, h2⟩ := ih e
        refine ⟨?_, List.mem_cons_of_mem _ h2⟩
        show valV (((Sum.inr p.1 : Key), V.str p.2) :: bookK r) (Sum.inr k) = _
        rw [valV_neg (by show ¬ (Sum.inr p.1 : Key) = _; exact fun h => z (Sum.inr.inj h))]
        exact h1
theorem rows_keys (b : List (Str × Str)) : (bookRows b).map (·.1) = usort ltS (b.map (·.1)) := by
  unfold bookRows
  rw [List.map_map]
  exact List.map_id _
theorem ltS_dec {a b : Str} (h : ltS a b = true) : decide (a.cps.toList < b.cps.toList) = true := by
  unfold ltS at h
  rw [ltCps_eq] at h
  exact h
theorem risL_of : ∀ {l : List Str}, l.Pairwise (fun a b => ltS a b = true) → risL l = true
  | [], _ => rfl
  | [_], _ => rfl
  | a :: b :: r, h => by
    have h1 := List.pairwise_cons.mp h
    show (decide _ && risL (b :: r)) = true
    rw [ltS_dec (h1.1 b List.mem_cons_self), risL_of h1.2]
    rfl
theorem rows_ok {b : List (Str × Str)} {n : Nat} (h : BookOk b n) : (∀ p ∈ bookRows b, isKeyS p.1 = true ∧ isValS p.2 = true) ∧ (bookRows b).length ≤ n ∧ areEntD (entsD (bookRows b)) = true := by
  have a : ∀ p ∈ bookRows b, isKeyS p.1 = true ∧ isValS p.2 = true := fun p hp => by
    obtain ⟨k, hk, rfl⟩ := List.mem_map.mp hp
    exact h.all _ (bookVal_get ((mem_usort tot_ltS).mp hk)).2
  refine ⟨a, ?_, ents_all a ?_⟩
  · unfold bookRows
    rw [List.length_map]
    have := len_usort (lt := ltS) (l := b.map (·.1))
    rw [List.length_map] at this
    exact Nat.le_trans this h.len
  · rw [rows_keys]
    exact risL_of (ris_usort tot_ltS _)
section
variable {K : PySem.W.Frag} {σ : L2.St} {H : Hp} {ss : List SD} {l : Addr}
/-- tuple([(mark, book[mark]) for mark in sorted(book)]) -/
theorem ed_rows {i j : Nat} {vs : List Nat} {b : List (Str × Str)} {n : Nat} (s : Sl K H σ ss) (hi : ss[i]? = some (.val (.ref l))) (hj : j < ss.length) (hij : i ≠ j) (hl : H l = some (.dK (bookK b))) (hb : BookOk b n) (hn : n < 60) (hv : vs = [j]) :
    EvD K (tCB (rTupOf K) (tCons (tLc (iU K (tCB rSortD (tCons (tVar i) tNil))) (gName j) tYes (tTup (tCons (tVar j) (tCons (tDGet (tVar i) (tVar j)) tNil))) vs) tNil)) σ H (entsD (bookRows b)) := by
  have lb := hb.len
  have e := ed_lcD (K := K) (σ := σ) (H := H) (ti := tCB rSortD (tCons (tVar i) tNil)) (te := tTup (tCons (tVar j) (tCons (tDGet (tVar i) (tVar j)) tNil))) (j := j) (vs := vs) (fun d => match d with | .str k => entR (k, bookVal b k) | _ => .none) s (eiU_list (ed_sortD s hi hl (book_keys b) hb.nd (by rw [List.length_map]; omega))) (by rw [List.length_map]; have := len_usort (lt := ltS) (l := b.map (·.1)); rw [List.length_map] at this; omega) hv (fun d hd σ2 Hc e2 s2 => by
    obtain ⟨k, hk, rfl⟩ := List.mem_map.mp hd
    have hk' := (mem_usort tot_ltS).mp hk
    subst hv
    have gj : ((wipeS ss [j]).set j (.dat (.str k)))[j]? = some (.dat (.str k)) := List.getElem?_set_self (by show j < (ss.set j .unk).length; rw [List.length_set]; exact hj)
    have gi : ((wipeS ss [j]).set j (.dat (.str k)))[i]? = some (.val (.ref l)) := by
      rw [List.getElem?_set_ne (Ne.symm hij)]
      show (ss.set j .unk)[i]? = _
      rw [List.getElem?_set_ne (Ne.symm hij)]
      exact hi
    exact ed_tup (eds_cons (ed_sl s2 gj) (eds_cons (ed_dget s2 gi (e2 l _ hl) (ed_sl s2 gj) key_str (bookVal_get hk').1 fun _ => .str _) eds_nil)) (by show 2 ≤ 100000; decide))
  refine ed_is (ed_tupL e) ?_
  unfold entsD bookRows
  rw [List.map_map, List.map_map]
  rfl
end
end LR

/-! ### leaf_text, read_leaf as they are called; shapes of entries -/
namespace LR
open PySem PySem.Spec PyProof.Rows L2 Evl L2H LamX
theorem cutD_mem {ds : List PyData} {lo hi : Option Int} {d : PyData} (h : d ∈ cutD ds lo hi) : d ∈ ds := List.mem_of_mem_drop (List.mem_of_mem_take h)
theorem cutD_len (ds : List PyData) (lo hi : Option Int) : (cutD ds lo hi).length ≤ ds.length := by
  unfold cutD
  rw [List.length_take, List.length_drop]
  omega
theorem leafA_no {d : PyData} (h : areEntD d = false) : leafA d = .error "NoEntries" := by
  unfold leafA
  rw [if_neg (by rw [h]; decide)]
theorem notEnt {ds : List PyData} {d : PyData} (hd : d ∈ ds) (h : entD d = false) : areEntD (.tuple ds) = false := by
  have e : ds.all entD = false := by
    rw [List.all_eq_false]
    exact ⟨d, hd, by rw [h]; decide⟩
  show (ds.all entD && _) = false
  rw [e]
  rfl
theorem notRis {ds : List PyData} (h : risL (ds.map key0) = false) : areEntD (.tuple ds) = false := by
  show (_ && risL (ds.map key0)) = false
  rw [h, Bool.and_false]
theorem strOk_of {z : Str} (h : ∀ c ∈ z.cps.toList, c < 1000) : PyData.strOk z = true := by
  unfold PyData.strOk
  rw [Array.all_eq_true_iff_forall_mem]
  intro c hc
  have := h c (by simpa using hc)
  exact decide_eq_true (by omega)
theorem keyOk {z : Str} (h : isKeyS z = true) : PyData.strOk z = true := strOk_of fun c hc => by have := key_sign h c hc; omega
theorem valOk {z : Str} (h : isValS z = true) : PyData.strOk z = true := strOk_of fun c hc => by have := val_sign h c hc; omega
theorem lay_ents : ∀ rows : List (Str × Str), (∀ p ∈ rows, isKeyS p.1 = true ∧ isValS p.2 = true) → PyData.canLayAll0 (rows.map entR) = true ∧ PyData.depthAll (rows.map entR) ≤ 1
  | [], _ => ⟨rfl, by decide⟩
  | p :: r, h => by
    obtain ⟨h1, h2⟩ := lay_ents r fun q hq => h q (List.mem_cons_of_mem _ hq)
    obtain ⟨k1, k2⟩ := h p List.mem_cons_self
    constructor
    · simp only [List.map_cons, PyData.canLayAll0, PyData.canLay0, keyOk k1, valOk k2, h1, Bool.and_true]
    · simp only [List.map_cons, PyData.depthAll, PyData.depth]
      have e : max 0 (max 0 0) + 1 = 1 := rfl
      omega
theorem shaped_ents {rows : List (Str × Str)} (h : ∀ p ∈ rows, isKeyS p.1 = true ∧ isValS p.2 = true) : SeqAt.shaped (entsD rows) = true := by
  obtain ⟨h1, h2⟩ := lay_ents rows h
  unfold SeqAt.shaped entsD
  rw [Bool.and_eq_true]
  refine ⟨by simpa only [PyData.canLay0] using h1, decide_eq_true ?_⟩
  simp only [PyData.depth]
  omega
section
variable {P : Program} {w : World} {K : PySem.W.Frag} {mg : Str → Option Value} {base : Heap} {f g : Addr} {fd : FuncData}
theorem callLeaf {σ : L2.St} {H : Hp} {te : TE} {rows : List (Str × Str)} {E : XK} (h : EvD K te σ H (entsD rows)) (ha : areEntD (entsD rows) = true) (hk : ∀ p ∈ rows, isKeyS p.1 = true ∧ isValS p.2 = true) (hl : rows.length ≤ 1000) : EvD K (tCall (spX K 1 RleafText) [] E (tCons te tNil)) σ H (.str (leafT rows)) :=
  (ex_call (r := .ok (.str (leafT rows))) (E := E) (eds_cons h eds_nil) ⟨_, rfl, ⟨by rw [List.length_map]; omega, fun e he => by
    obtain ⟨p, hp, rfl⟩ := List.mem_map.mp he
    exact ⟨Nat.le_trans (isKeyS_le (hk p hp).1) (by decide), Nat.le_trans (isValS_le (hk p hp).2) (by decide)⟩⟩, fun es z => by cases z; rw [List.length_map]; exact hl, (leafA_ents ha).symm⟩).ed
theorem leafT_len {rows : List (Str × Str)} (hk : ∀ p ∈ rows, isKeyS p.1 = true ∧ isValS p.2 = true) : (leafT rows).length ≤ 25 * rows.length + 6 := by
  have := rowsL_len rows "" fun p hp => ⟨isKeyS_le (hk p hp).1, isValS_le (hk p hp).2⟩
  unfold leafT
  rw [sealS_len]
  show (mk _).length + 5 ≤ _
  rw [mk_len, List.length_cons]
  omega
theorem callRead {σ : L2.St} {H : Hp} {te : TE} {rows : List (Str × Str)} {E : XK} (h : EvD K te σ H (.str (leafT rows))) (ha : areEntD (entsD rows) = true) (hk : ∀ p ∈ rows, isKeyS p.1 = true ∧ isValS p.2 = true) (hl : rows.length ≤ 30) : EvD K (tCall (spX K 1 RreadLeaf) [] E (tCons te tNil)) σ H (entsD rows) :=
  (ex_call (r := .ok (entsD rows)) (E := E) (eds_cons h eds_nil) ⟨_, rfl, (by have := leafT_len hk; show (leafT rows).length ≤ 900; omega), (read_back ha hk).symm⟩).ed
end
end LR

/-! ### a leaf's text, spoilt (plain law) -/
namespace LR
open PySem PySem.Spec PyProof.Rows L2 Evl L2H LamX
theorem chkL_app : ∀ (a b : List Nat) (m : Int) (p : Nat), chkL m p (a ++ b) = chkL (chkL m p a) (p + a.length) b
  | [], _, _, _ => rfl
  | c :: a, b, m, p => by
    show chkL _ (p + 1) (a ++ b) = chkL (chkL _ (p + 1) a) (p + (c :: a).length) b
    rw [chkL_app a b, List.length_cons]
    congr 1
    omega
theorem chkL_inj : ∀ (b : List Nat) (p : Nat) (m m' : Int), 0 ≤ m → m < 9973 → 0 ≤ m' → m' < 9973 → chkL m p b = chkL m' p b → m = m'
  | [], _, _, _, _, _, _, _, h => h
  | c :: b, p, m, m', h1, h2, h3, h4, h => by
    have h' := chkL_inj b (p + 1) ((m * 31 + (c : Int) + (p : Int)) % 9973) ((m' * 31 + (c : Int) + (p : Int)) % 9973) (Int.emod_nonneg _ (by decide)) (Int.emod_lt_of_pos _ (by decide)) (Int.emod_nonneg _ (by decide)) (Int.emod_lt_of_pos _ (by decide)) h
    omega
/-- one sign is another: another check -/
theorem chk_other {a b : List Nat} {c d : Nat} (hc : c < 1000) (hd : d < 1000) (h : chkL 0 0 (a ++ c :: b) = chkL 0 0 (a ++ d :: b)) : c = d := by
  rw [chkL_app, chkL_app] at h
  have bd := chkL_bd a 0 0 (by decide) (by decide)
  generalize chkL 0 0 a = m at h bd
  have h' := chkL_inj b _ _ _ (Int.emod_nonneg _ (by decide)) (Int.emod_lt_of_pos _ (by decide)) (Int.emod_nonneg _ (by decide)) (Int.emod_lt_of_pos _ (by decide)) h
  omega
theorem fig4_inj {m n : Nat} (hm : m < 10000) (hn : n < 10000) (h : fig4 m = fig4 n) : m = n := by
  unfold fig4 at h
  injection h with h1 h
  injection h with h2 h
  injection h with h3 h
  injection h with h4 _
  omega
/-- what soundness says of a text's signs -/
theorem sound_tl {z : Str} (h : soundS z = true) : ∃ y : List Nat, z.cps.toList = y ++ (35 :: fig4 (chkL 0 0 y).toNat) := by
  unfold soundS at h
  rw [Bool.and_eq_true] at h
  have h1 := of_decide_eq_true h.1
  have h2 := of_decide_eq_true h.2
  have l5 : 5 ≤ z.length := by
    rcases Nat.lt_or_ge z.length 5 with c | c
    · exfalso
      have e := congrArg Str.length h1
      have l := show (cutS z (some (-5)) (some (-4))).length = 1 from e
      have : (cutS z (some (-5)) (some (-4))).length = 0 := by
        unfold cutS
        rw [mk_len, List.length_take, List.length_drop]
        have e1 : HT.sIx z.length z.length (some (-4)) = ((-4 : Int) + (z.length : Int)).toNat := rfl
        rw [e1]
        omega
      omega
    · exact c
  have e5 : (some (-5 : Int)) = some (-((5 : Nat) : Int)) := rfl
  have e4 : (some (-4 : Int)) = some (-((4 : Nat) : Int)) := rfl
  rw [e5, e4, cut_neg l5 (by decide) (by decide)] at h1
  rw [e4, cut_from (by omega) (by decide)] at h2
  have ei := innerS_eq z
  refine ⟨z.cps.toList.take (z.length - 5), ?_⟩
  have t1 : (z.cps.toList.drop (z.length - 5)).take 1 = [35] := congrArg (fun y : Str => y.cps.toList) h1
  have t2 : fig4 (chkL 0 0 (z.cps.toList.take (z.length - 5))).toNat = z.cps.toList.drop (z.length - 4) := by
    have := congrArg (fun y : Str => y.cps.toList) h2
    rw [ei] at this
    exact this
  have t3 : z.cps.toList.drop (z.length - 4) = (z.cps.toList.drop (z.length - 5)).drop 1 := by
    rw [List.drop_drop]
    congr 1
    omega
  rw [t2, t3]
  conv => lhs; rw [← List.take_append_drop (z.length - 5) z.cps.toList]
  congr 1
  conv => lhs; rw [← List.take_append_drop 1 (z.cps.toList.drop (z.length - 5))]
  rw [t1]
  rfl
theorem sound_seal {z : Str} (h : soundS z = true) : sealS (innerS z) = z := by
  obtain ⟨y, hy⟩ := sound_tl h
  have lz : z.length = y.length + 5 := by
    rw [← tl_len, hy, List.length_append]
    rfl
  have ei : (innerS z).cps.toList = y := by
    rw [innerS_eq, tl_mk', lz, Nat.add_sub_cancel, hy, List.take_left]
  apply str_tl
  rw [sealS_tl, ei, hy]
  unfold chkN
  rw [ei]
/-- one sign of a sealed text is another: it is not sound -/
theorem spoilt_one {y : Str} {k c : Nat} (hs : ∀ x ∈ y.cps.toList, x < 1000) (hc : c < 1000) {z : Str} (hk : k < (sealS y).length) (hne : (sealS y).cps.toList[k]? ≠ some c) (hz : z.cps.toList = (sealS y).cps.toList.take k ++ c :: (sealS y).cps.toList.drop (k + 1)) : soundS z = false := by
  cases h : soundS z with
  | false => rfl
  | true =>
    exfalso
    obtain ⟨x, hx⟩ := sound_tl h
    have ls := sealS_tl y
    have ll := sealS_len y
    have tl5 : (35 :: fig4 (chkN y).toNat).length = 5 := rfl
    rw [hx] at hz
    have lx : x.length = y.cps.toList.length := by
      have := congrArg List.length hz
      have e5 : (35 :: fig4 (chkL 0 0 x).toNat).length = 5 := rfl
      rw [List.length_append, e5, List.length_append, List.length_take, List.length_cons, List.length_drop, tl_len, ll] at this
      rw [tl_len]
      omega
    have get : ∀ i, (x ++ (35 :: fig4 (chkL 0 0 x).toNat))[i]? = if i = k then some c else (sealS y).cps.toList[i]? := fun i => by
      rw [hz]
      have lk : ((sealS y).cps.toList.take k).length = k := by rw [List.length_take, tl_len]; omega
      rcases Nat.lt_trichotomy i k with c1 | c1 | c1
      · rw [List.getElem?_append_left (by rw [lk]; exact c1), if_neg (by omega), List.getElem?_take_of_lt c1]
      · subst c1
        rw [List.getElem?_append_right (by rw [lk]; exact Nat.le_refl _), lk, Nat.sub_self, if_pos rfl]
        rfl
      · rw [List.getElem?_append_right (by rw [lk]; omega), lk, if_neg (by omega)]
        obtain ⟨j, rfl⟩ : ∃ j, i = k + 1 + j := ⟨i - (k + 1), by omega⟩
        rw [show k + 1 + j - k = j + 1 by omega, List.getElem?_cons_succ, List.getElem?_drop]
    rw [ls] at get
    have n0 : y.cps.toList.length = y.length := tl_len y
    have bdx := chkL_bd x 0 0 (by decide) (by decide)
    have bdy := chkN_bd y
    -- the last four
    have tailx : ∀ j, j < 5 → (x ++ (35 :: fig4 (chkL 0 0 x).toNat))[x.length + j]? = (35 :: fig4 (chkL 0 0 x).toNat)[j]? := fun j _ => by
      rw [List.getElem?_append_right (by omega), Nat.add_sub_cancel_left]
    have taily : ∀ j, j < 5 → (y.cps.toList ++ (35 :: fig4 (chkN y).toNat))[x.length + j]? = (35 :: fig4 (chkN y).toNat)[j]? := fun j _ => by
      rw [List.getElem?_append_right (by omega), lx, Nat.add_sub_cancel_left]
    by_cases hk2 : k < x.length
    · -- within the text
      have same : fig4 (chkL 0 0 x).toNat = fig4 (chkN y).toNat := by
        have e : (35 :: fig4 (chkL 0 0 x).toNat) = (35 :: fig4 (chkN y).toNat) := by
          apply List.ext_getElem?
          intro j
          rcases Nat.lt_or_ge j 5 with c1 | c1
          · rw [← tailx j c1, get, if_neg (by omega), taily j c1]
          · rw [List.getElem?_eq_none (by show 5 ≤ j; exact c1), List.getElem?_eq_none (by show 5 ≤ j; exact c1)]
        injection e
      have eq : chkL 0 0 x = chkL 0 0 y.cps.toList := by
        have := fig4_inj (by omega) (by omega) same
        show chkL 0 0 x = chkN y
        omega
      have hky : k < y.cps.toList.length := by omega
      have ex : x = y.cps.toList.take k ++ c :: y.cps.toList.drop (k + 1) := by
        apply List.ext_getElem?
        intro i
        have lk : (y.cps.toList.take k).length = k := by rw [List.length_take]; omega
        rcases Nat.lt_or_ge i x.length with ci | ci
        · have g := get i
          rw [List.getElem?_append_left ci, List.getElem?_append_left (show i < y.cps.toList.length by omega)] at g
          rw [g]
          rcases Nat.lt_trichotomy i k with c1 | c1 | c1
          · rw [List.getElem?_append_left (by rw [lk]; exact c1), if_neg (by omega), List.getElem?_take_of_lt c1]
          · subst c1
            rw [List.getElem?_append_right (by rw [lk]; exact Nat.le_refl _), lk, Nat.sub_self, if_pos rfl]
            rfl
          · rw [List.getElem?_append_right (by rw [lk]; omega), lk, if_neg (by omega)]
            obtain ⟨j, rfl⟩ : ∃ j, i = k + 1 + j := ⟨i - (k + 1), by omega⟩
            rw [show k + 1 + j - k = j + 1 by omega, List.getElem?_cons_succ, List.getElem?_drop]
        · rw [List.getElem?_eq_none ci, List.getElem?_eq_none (by rw [List.length_append, lk, List.length_cons, List.length_drop]; omega)]
      have ey : y.cps.toList = y.cps.toList.take k ++ y.cps.toList[k] :: y.cps.toList.drop (k + 1) := by
        rw [← List.drop_eq_getElem_cons hky, List.take_append_drop]
      have e2 : chkL 0 0 (y.cps.toList.take k ++ c :: y.cps.toList.drop (k + 1)) = chkL 0 0 (y.cps.toList.take k ++ y.cps.toList[k] :: y.cps.toList.drop (k + 1)) := by
        rw [← ex, ← ey]
        exact eq
      have e3 := chk_other hc (hs _ (List.getElem_mem hky)) e2
      apply hne
      rw [ls, List.getElem?_append_left hky, List.getElem?_eq_getElem hky, e3]
    · -- the mark, or a figure
      have exy : x = y.cps.toList := by
        apply List.ext_getElem?
        intro i
        rcases Nat.lt_or_ge i x.length with ci | ci
        · have g := get i
          rw [List.getElem?_append_left ci, List.getElem?_append_left (show i < y.cps.toList.length by omega), if_neg (by omega)] at g
          exact g
        · rw [List.getElem?_eq_none ci, List.getElem?_eq_none (by omega)]
      apply hne
      rw [ls]
      have g := get k
      rw [if_pos rfl, exy] at g
      exact g
/-- signs of a leaf -/
theorem rowsL_sign : ∀ (rows : List (Str × Str)) (old : Str), (∀ p ∈ rows, isKeyS p.1 = true ∧ isValS p.2 = true) → ∀ c ∈ rowsL old rows, c < 1000
  | [], _, _, c, h => by cases h
  | p :: r, old, hk, c, h => by
    obtain ⟨h1, h2⟩ := hk p List.mem_cons_self
    rcases List.mem_append.mp (show c ∈ rowL (packOne old p.1) p.2 ++ rowsL p.1 r from h) with m | m
    · unfold rowL at m
      rcases List.mem_append.mp m with m | m
      · rcases List.mem_cons.mp (show c ∈ (65 + alikeS old p.1) :: _ from m) with e | e
        · have := alikeS_le old p.1
          have := isKeyS_le h1
          omega
        · have := key_sign h1 c (List.mem_of_mem_drop e)
          omega
      · rcases List.mem_cons.mp m with e | e
        · omega
        · rcases List.mem_append.mp e with e | e
          · have := val_sign h2 c e
            omega
          · have := List.mem_singleton.mp e
            omega
    · exact rowsL_sign r p.1 (fun q hq => hk q (List.mem_cons_of_mem _ hq)) c m
theorem entsT_sign {rows : List (Str × Str)} (hk : ∀ p ∈ rows, isKeyS p.1 = true ∧ isValS p.2 = true) : ∀ c ∈ (entsT rows).cps.toList, c < 1000 := fun c hc => by
  rcases List.mem_cons.mp (show c ∈ 76 :: rowsL "" rows from hc) with e | e
  · omega
  · exact rowsL_sign rows "" hk c e
theorem rowsL_min : ∀ (rows : List (Str × Str)) (old : Str), rows.length ≤ (rowsL old rows).length
  | [], _ => Nat.zero_le _
  | p :: r, old => by
    have := rowsL_min r p.1
    show _ ≤ (rowL _ _ ++ rowsL p.1 r).length
    rw [List.length_append, List.length_cons]
    unfold rowL
    simp only [List.length_append, List.length_cons]
    omega
theorem readA_err (d : PyData) : readA d = .error "NoPiece" ∨ ∃ z, d = .str z ∧ ∃ e, readA d = .ok e := by
  cases d with
  | str z =>
    cases h : readA (.str z) with
    | ok e => exact .inr ⟨z, rfl, e, rfl⟩
    | error x =>
      left
      have h' : (if soundS z && decide (mk ((innerS z).cps.toList.take 1) = "L") then orPiece ((readIn (innerS z)).map entsD) else .error "NoPiece") = Except.error x := h
      split at h'
      · cases hr : readIn (innerS z) with
        | none =>
          rw [hr] at h'
          exact h'.symm
        | some rows =>
          rw [hr] at h'
          cases h'
      · exact h'.symm
  | _ => exact .inl rfl
def isErr : Ans → Bool
  | .error _ => true
  | .ok _ => false
theorem readA_no {d : PyData} (h : isErr (readA d) = true) : readA d = .error "NoPiece" := by
  rcases readA_err d with e | ⟨z, _, e, he⟩
  · exact e
  · rw [he] at h
    cases h
theorem readA_unsound {z : Str} (h : soundS z = false) : readA (.str z) = .error "NoPiece" := by
  show (if soundS z && _ then _ else _) = _
  rw [h]
  rfl
/-- what is read is written alike -/
theorem read_write {z : Str} {d : PyData} (hz : z.length ≤ 900) (h : readA (.str z) = .ok d) : ∃ rows, d = entsD rows ∧ areEntD (entsD rows) = true ∧ (∀ p ∈ rows, isKeyS p.1 = true ∧ isValS p.2 = true) ∧ leafT rows = z ∧ rows.length ≤ 1000 := by
  obtain ⟨rows, rfl, ha, hi, hs⟩ := read_ok h
  obtain ⟨rows', e, hk, _⟩ := areEnt_eq ha
  have e' : rows = rows' := ents_inj e
  subst e'
  refine ⟨rows, rfl, ha, hk, ?_, ?_⟩
  · unfold leafT
    rw [← hi]
    exact sound_seal hs
  · have h1 := rowsL_min rows ""
    have h2 := cutS_len z none (some (-5))
    have h3 : (innerS z).length = (entsT rows).length := by rw [hi]
    have h4 : (entsT rows).length = (rowsL "" rows).length + 1 := by
      show (mk _).length = _
      rw [mk_len]
      rfl
    have h5 : (innerS z).length ≤ z.length := h2
    omega
end LR

/-! ### _law_class: the name of what was refused -/
namespace LR
open PySem PySem.Spec PyProof.Rows L2 Evl L2H
theorem _root_.L2H.RoomH.units {k : Nat} {A : Around} (r : RoomH k A) : A.units + 64 < cLine := by
  have := r.un
  omega
/-- the answers of isinstance for the exception x -/
def isL (x : Str) (ys : List Str) : List Bool := ys.map fun y => decide (x = y)
theorem is_count {x : Str} : x ∈ exNs → (isL x exNs).count true = 1 ∧ ∃ j : Nat, exNs[j]? = some x ∧ (isL x exNs)[j]? = some true ∧ ∀ (m : Nat) (z : Bool), m < j → (isL x exNs)[m]? = some z → z ≠ true := by
  have g : ∀ j : Fin exNs.length, (isL exNs[j] exNs).count true = 1 ∧ (isL exNs[j] exNs)[j.val]? = some true ∧ ∀ m : Fin exNs.length, m.val < j.val → (isL exNs[j] exNs)[m.val]? ≠ some true := by decide +kernel
  intro hx
  obtain ⟨j, hj, rfl⟩ := List.mem_iff_getElem.mp hx
  obtain ⟨g1, g2, g3⟩ := g ⟨j, hj⟩
  refine ⟨g1, j, List.getElem?_eq_getElem hj, g2, fun m z hm hz e => ?_⟩
  subst e
  exact g3 ⟨m, by omega⟩ hm hz
section
variable {P : Program} {w : World} {K : PySem.W.Frag} {mg : Str → Option Value} {base : Heap} {f : Addr} {fd : FuncData}
theorem ref_rel {a : Addr} : ∀ u, RelV (.ref a) u → u = Value.ref a := fun _ h => h
theorem ty_rel {n : String} : ∀ u, RelV (.ty n) u → u = Value.type n := fun _ h => h
theorem sc_law_class : FnScope ["e", "kinds", "some"] ["e"] (defScope s_law_class) := ⟨rfl, rfl, rfl, by decide +kernel, rfl, by decide +kernel, by decide +kernel⟩
theorem class_body (T : Txt mg) (xt : ExT exNs K mg) {x : Str} (hx : x ∈ exNs) {a : Addr} {oe : Obj} (hz : Zc (.ref (gaE K x)) none oe) (hf : ∃ vs, oe.data = .fields vs) {cdv : Value} {A : Around} {outer : List Env} {s : Shared} {H : Hp} (hr : RoomH 0 (A.deeper (envOfC "_law_class" (defScope s_law_class) s.heap.objs.size f cdv))) :
    ∃ t, PSs (cxH (CXL P w) P w K mg base ["e", "kinds", "some"] "_law_class" (defScope s_law_class) f cdv A outer s H E0 (a, oe)) (defBody s_law_class) t ∧ ∀ Q : VK, (∀ H2, Ex H H2 → Q (.str x) H2) → t { nx := fun _ H' => Q .non H', rt := Q } (L2.start ["e", "kinds", "some"] [.ref a]) H := by
  have hC := xt.own x hx
  have hp : (a, oe) ∈ (cxH (CXL P w) P w K mg base ["e", "kinds", "some"] "_law_class" (defScope s_law_class) f cdv A outer s H E0 (a, oe)).pn := List.mem_cons_self
  refine ⟨_, (pss_cons (ps_set (i := 1) sc_law_class.nd rfl (by first | exact Or.inl rfl | exact Or.inr rfl) (pe_lst (pa_cons (pe_callB (call_isPK (K := K) rfl hC hz hf hp) (by rfl) T.m_isinstance (by decide +kernel) (pa_cons (pv 0) (pa_cons (C8.pe_gc (v := .ref (gaE K "NoKey")) (by rfl) ⟨_, xt.glo "NoKey" (by decide), rfl⟩) pa_nil))) (pa_cons (pe_callB (call_isPK (K := K) rfl hC hz hf hp) (by rfl) T.m_isinstance (by decide +kernel) (pa_cons (pv 0) (pa_cons (C8.pe_gc (v := .ref (gaE K "NoValue")) (by rfl) ⟨_, xt.glo "NoValue" (by decide), rfl⟩) pa_nil))) (pa_cons (pe_callB (call_isPK (K := K) rfl hC hz hf hp) (by rfl) T.m_isinstance (by decide +kernel) (pa_cons (pv 0) (pa_cons (C8.pe_gc (v := .ref (gaE K "NoNumber")) (by rfl) ⟨_, xt.glo "NoNumber" (by decide), rfl⟩) pa_nil))) (pa_cons (pe_callB (call_isPK (K := K) rfl hC hz hf hp) (by rfl) T.m_isinstance (by decide +kernel) (pa_cons (pv 0) (pa_cons (C8.pe_gc (v := .ref (gaE K "NoKind")) (by rfl) ⟨_, xt.glo "NoKind" (by decide), rfl⟩) pa_nil))) pa_nil)))))) (pss_cons (ps_expr (pe_bmK (K := K) rfl PySem.F.plainAttrs_list PySem.F.slot_list_extend PySem.F.type_list_extend mt_extend (pv 1) (pa_cons (pe_lst (pa_cons (pe_callB (call_isPK (K := K) rfl hC hz hf hp) (by rfl) T.m_isinstance (by decide +kernel) (pa_cons (pv 0) (pa_cons (C8.pe_gc (v := .ref (gaE K "NoEntries")) (by rfl) ⟨_, xt.glo "NoEntries" (by decide), rfl⟩) pa_nil))) (pa_cons (pe_callB (call_isPK (K := K) rfl hC hz hf hp) (by rfl) T.m_isinstance (by decide +kernel) (pa_cons (pv 0) (pa_cons (C8.pe_gc (v := .ref (gaE K "NoPiece")) (by rfl) ⟨_, xt.glo "NoPiece" (by decide), rfl⟩) pa_nil))) (pa_cons (pe_callB (call_isPK (K := K) rfl hC hz hf hp) (by rfl) T.m_isinstance (by decide +kernel) (pa_cons (pv 0) (pa_cons (C8.pe_gc (v := .ref (gaE K "NoWalk")) (by rfl) ⟨_, xt.glo "NoWalk" (by decide), rfl⟩) pa_nil))) (pa_cons (pe_callB (call_isPK (K := K) rfl hC hz hf hp) (by rfl) T.m_isinstance (by decide +kernel) (pa_cons (pv 0) (pa_cons (C8.pe_gc (v := .ref (gaE K "Open")) (by rfl) ⟨_, xt.glo "Open" (by decide), rfl⟩) pa_nil))) pa_nil))))) pa_nil))) (pss_cons (ps_expr (pe_bmK (K := K) rfl PySem.F.plainAttrs_list PySem.F.slot_list_extend PySem.F.type_list_extend mt_extend (pv 1) (pa_cons (pe_lst (pa_cons (pe_callB (call_isPK (K := K) rfl hC hz hf hp) (by rfl) T.m_isinstance (by decide +kernel) (pa_cons (pv 0) (pa_cons (C8.pe_gc (v := .ref (gaE K "NoBatch")) (by rfl) ⟨_, xt.glo "NoBatch" (by decide), rfl⟩) pa_nil))) (pa_cons (pe_callB (call_isPK (K := K) rfl hC hz hf hp) (by rfl) T.m_isinstance (by decide +kernel) (pa_cons (pv 0) (pa_cons (C8.pe_gc (v := .ref (gaE K "NoMap")) (by rfl) ⟨_, xt.glo "NoMap" (by decide), rfl⟩) pa_nil))) (pa_cons (pe_callB (call_isPK (K := K) rfl hC hz hf hp) (by rfl) T.m_isinstance (by decide +kernel) (pa_cons (pv 0) (pa_cons (C8.pe_gc (v := .ref (gaE K "NoChoices")) (by rfl) ⟨_, xt.glo "NoChoices" (by decide), rfl⟩) pa_nil))) (pa_cons (pe_callB (call_isPK (K := K) rfl hC hz hf hp) (by rfl) T.m_isinstance (by decide +kernel) (pa_cons (pv 0) (pa_cons (C8.pe_gc (v := .ref (gaE K "Fallen")) (by rfl) ⟨_, xt.glo "Fallen" (by decide), rfl⟩) pa_nil))) pa_nil))))) pa_nil))) (pss_cons (ps_expr (pe_bmK (K := K) rfl PySem.F.plainAttrs_list PySem.F.slot_list_extend PySem.F.type_list_extend mt_extend (pv 1) (pa_cons (pe_lst (pa_cons (pe_callB (call_isPK (K := K) rfl hC hz hf hp) (by rfl) T.m_isinstance (by decide +kernel) (pa_cons (pv 0) (pa_cons (C8.pe_gc (v := .ref (gaE K "NoDeeds")) (by rfl) ⟨_, xt.glo "NoDeeds" (by decide), rfl⟩) pa_nil))) (pa_cons (pe_callB (call_isPK (K := K) rfl hC hz hf hp) (by rfl) T.m_isinstance (by decide +kernel) (pa_cons (pv 0) (pa_cons (C8.pe_gc (v := .ref (gaE K "NoText")) (by rfl) ⟨_, xt.glo "NoText" (by decide), rfl⟩) pa_nil))) pa_nil))) pa_nil))) (pss_cons (ps_if (PW.pt (pw_or (pt_cmpR (op_neK (K := K) rfl hr.units) (pe_bmK (K := K) rfl PySem.F.plainAttrs_list PySem.F.slot_list_count PySem.F.type_list_count (mt_lcountK (K := K) rfl) (pv 1) (pa_cons pe_bl pa_nil)) pe_int (nomark _)) (pw_or1 (pt_not (pt_val (pe_callB (call_isPK (K := K) rfl hC hz hf hp) (by rfl) T.m_isinstance (by decide +kernel) (pa_cons (pv 0) (pa_cons (pe_bltn (v := .ty "ValueError") (by rfl) T.m_ValueError (by decide +kernel) rfl) pa_nil)))))))) (pss_one (ps_ret pe_str)) pss_nil) (pss_cons (ps_set (i := 2) sc_law_class.nd rfl (by first | exact Or.inl rfl | exact Or.inr rfl) (pe_lst (pa_cons pe_str (pa_cons pe_str (pa_cons pe_str (pa_cons pe_str (pa_cons pe_str (pa_cons pe_str (pa_cons pe_str (pa_cons pe_str pa_nil)))))))))) (pss_cons (ps_expr (pe_bmK (K := K) rfl PySem.F.plainAttrs_list PySem.F.slot_list_extend PySem.F.type_list_extend mt_extend (pv 2) (pa_cons (pe_lst (pa_cons pe_str (pa_cons pe_str (pa_cons pe_str (pa_cons pe_str (pa_cons pe_str (pa_cons pe_str pa_nil))))))) pa_nil))) (pss_one (ps_ret (pe_ix (ix_K (K := K) rfl) (pv 2) (pe_bmK (K := K) rfl PySem.F.plainAttrs_list PySem.F.slot_list_index PySem.F.type_list_index (mt_idxK (K := K) rfl) (pv 1) (pa_cons pe_bl pa_nil)) (fun _ _ => rfl))))))))))), fun Q q => ?_⟩
  have n : Now H H H H := Now.start (Ex.refl _)
  have s0 : Sl K H (L2.start ["e", "kinds", "some"] [.ref a]) [.val (.ref a), .unk, .unk] := .cons rfl (.cons trivial (.cons trivial .nil))
  have one : ∀ {σ : L2.St} {H' : Hp} {ss : List SD} (y : Str), y ∈ exNs → Sl K H' σ (.val (.ref a) :: ss) → EvD K (tCB (rIsE K (gaE K x) a) (tCons (tVar 0) (tCons (tC (.ref (gaE K y))) tNil))) σ H' (.bool (decide (x = y))) := fun y hy s => ed_isE s rfl ref_rel (xt.kit x hx y hy)
  refine st_newD n s0 (eds_cons (one "NoKey" (by decide) s0) (eds_cons (one "NoValue" (by decide) s0) (eds_cons (one "NoNumber" (by decide) s0) (eds_cons (one "NoKind" (by decide) s0) eds_nil)))) (by show 4 ≤ 100000; decide) ?_
  intro l σ1 H1 H11 x1 _ _ o1 n1 s1
  refine st_extO n1 s1 rfl o1 (by show 4 + 4 ≤ 100000; decide) (ed_lst (eds_cons (one "NoEntries" (by decide) s1) (eds_cons (one "NoPiece" (by decide) s1) (eds_cons (one "NoWalk" (by decide) s1) (eds_cons (one "Open" (by decide) s1) eds_nil)))) (by show 4 ≤ 100000; decide)) ?_
  intro H2 H21 x2 o2 _ n2 s2
  refine st_extO n2 s2 rfl o2 (by show 8 + 4 ≤ 100000; decide) (ed_lst (eds_cons (one "NoBatch" (by decide) s2) (eds_cons (one "NoMap" (by decide) s2) (eds_cons (one "NoChoices" (by decide) s2) (eds_cons (one "Fallen" (by decide) s2) eds_nil)))) (by show 4 ≤ 100000; decide)) ?_
  intro H3 H31 x3 o3 _ n3 s3
  refine st_extO n3 s3 rfl o3 (by show 12 + 2 ≤ 100000; decide) (ed_lst (eds_cons (one "NoDeeds" (by decide) s3) (eds_cons (one "NoText" (by decide) s3) eds_nil)) (by show 2 ≤ 100000; decide)) ?_
  intro H4 H41 x4 o4 _ n4 s4
  obtain ⟨H5, ex5, _, n5, s5⟩ := Own.freeze n4 s4 (i := 1) rfl o4
  obtain ⟨c1, j, j1, j2, j3⟩ := is_count hx
  have kd : EvD K (tVar 1) σ1 H5 (.list ((isL x exNs).map .bool)) := ed_sl s5 rfl
  refine st_if n5 (b := false) (eb_is (eb_or (b := false) (eb_test (ed_op (ed_countB kd (ed_c (.bl true))) (ed_c (.int 1)) rd_neI)) fun _ => eb_is (eb_not (eb_B (ed_isE s5 rfl ty_rel (xt.ve x hx)))) rfl) ?_) (fun h => nomatch h) fun _ H6 n6 => ?_
  · rw [c1]
    rfl
  refine st_newD n6 s5 (eds_cons (d := .str "NoKey") (ed_c (.str _)) (eds_cons (d := .str "NoValue") (ed_c (.str _)) (eds_cons (d := .str "NoNumber") (ed_c (.str _)) (eds_cons (d := .str "NoKind") (ed_c (.str _)) (eds_cons (d := .str "NoEntries") (ed_c (.str _)) (eds_cons (d := .str "NoPiece") (ed_c (.str _)) (eds_cons (d := .str "NoWalk") (ed_c (.str _)) (eds_cons (d := .str "Open") (ed_c (.str _)) eds_nil)))))))) (by show 8 ≤ 100000; decide) ?_
  intro l2 σ7 H7 H71 x7 _ _ o7 n7 s7
  refine st_extO n7 s7 rfl o7 (by show 8 + 6 ≤ 100000; decide) (ed_lst (eds_cons (d := .str "NoBatch") (ed_c (.str _)) (eds_cons (d := .str "NoMap") (ed_c (.str _)) (eds_cons (d := .str "NoChoices") (ed_c (.str _)) (eds_cons (d := .str "Fallen") (ed_c (.str _)) (eds_cons (d := .str "NoDeeds") (ed_c (.str _)) (eds_cons (d := .str "NoText") (ed_c (.str _)) eds_nil)))))) (by show 6 ≤ 100000; decide)) ?_
  intro H8 H81 x8 o8 _ n8 s8
  obtain ⟨H9, ex9, _, n9, s9⟩ := Own.freeze n8 s8 (i := 2) rfl o8
  have kd2 : EvD K (tVar 1) σ7 H9 (.list ((isL x exNs).map .bool)) := ed_sl s9 rfl
  have so : EvD K (tVar 2) σ7 H9 (.list (exNs.map .str)) := ed_sl s9 rfl
  have fin : KD K H H (.str x) Q := fun v H2 H' e _ _ dv => by
    rw [dv.str_eq]
    exact q H2 e
  refine st_ret (K := K) n9 (ed_op so (ed_indexB kd2 (ed_c (.bl true)) j2 j3) (rd_ixL (d := .str x) ?_)) fin
  unfold atI
  have hj : j < exNs.length := (List.getElem?_eq_some_iff.mp j1).1
  rw [List.length_map, ixN_nat hj]
  show (exNs.map PyData.str)[j]? = _
  rw [List.getElem?_map, j1]
  rfl
end
end LR

/-! ### _law_told: what a deed tells, or that it is refused -/
namespace LR
open PySem PySem.Spec PyProof.Rows L2 Evl L2H LamX
/-- what _law_told makes of a lambda -/
def TTn (K : PySem.W.Frag) : (XK → Hp → VK → Prop) → Hp → VK → Prop := fun tl H Q =>
  tl (fun cls d H' => ∃ x ∈ exNs, cls = .ref (gaE K x) ∧ d = none ∧ ∀ H2 p, Ex H' H2 → H2 p = none → Q (.ref p) (upd H2 p (.tup [.str "refused", .str x]))) H Q
section
variable {X : Cx} {fc : Addr} {fdc : FuncData}
theorem sc_law_told : FnScope ["deed", "e"] ["deed"] (defScope s_law_told) := ⟨rfl, rfl, rfl, by decide +kernel, rfl, by decide +kernel, by decide +kernel⟩
theorem told_gives (T : Txt X.mg) (xt : ExT exNs X.K X.mg) (Fc : FunD X.K "_law_class" "_law_class" (defArgs s_law_class) (defBody s_law_class) (defScope s_law_class) [] [] fc fdc) (mc : X.mg "_law_class" = some (.ref fc)) {q : Str} {g : Addr} (cdv : Value) : GivesN X ["deed", "e"] "_law_told" (defScope s_law_told) g cdv (defBody s_law_told) "deed" q (TTn X.K) := by
  intro f c' s H Q tl act hr hc h
  let Y : Cx := (cxOf (CXL X.prog X.w) X.prog X.w X.K X.mg X.base ["deed", "e"] "_law_told" (defScope s_law_told) g cdv X.A X.stack s H E0).nox
  have suite : ∀ (a : Addr) (oe : Obj) (cls : Value) (d : Option Addr) (pn : List (Addr × Obj)), L2N.Zn cls d oe → (∃ vs, oe.data = .fields vs) → ∀ {b₀ : Stmt} {p1 p2 p3 p4 p5 p6 : Pos} {j k : Nat}, b₀ = .Return (some (.Tuple [.Constant (.str "refused") j p1, .Call (.Name "_law_class" p2) [.Name "e" p3] [] p4] k p5)) p6 →
      PSs (Y.suite a ((a, oe) :: pn)) [b₀] (fun D σ H => ∃ x ∈ exNs, cls = .ref (gaE X.K x) ∧ d = none ∧ σ[1]? = some (some (.ref a)) ∧ ∀ H2 p, Ex H H2 → H2 p = none → D.rt (.ref p) (upd H2 p (.tup [.str "refused", .str x]))) := by
    intro a oe cls d pn hz hf b₀ p1 p2 p3 p4 p5 p6 j k hb
    subst hb
    refine ⟨fun pins s' σ H' D I ⟨x, hx, e1, e2, e3, e4⟩ => ?_⟩
    subst e1 e2
    have pc : PE (Y.suite a ((a, oe) :: pn)) (.Call (.Name "_law_class" p2) [.Name "e" p3] [] p4) (fun σ H Q => σ[1]? = some (some (.ref a)) ∧ ∀ H2, Ex H H2 → Q (.str x) H2) :=
      pe_hot (k := 0) (i := 1) (te := fun H Q => ∀ H2, Ex H H2 → Q (.str x) H2) Fc sc_law_class ⟨hr.dp, hr.un⟩ List.mem_cons_self (by rfl) mc (Fc.bindsN (fun _ _ _ _ _ _ us hl => match us, hl with | [_], _ => rfl)) rfl (.inl rfl) fun s2 H2 cdv2 Q2 hr2 hq => by
        obtain ⟨t, w1, w2⟩ := class_body (P := X.prog) (w := X.w) (base := X.base) T xt hx hz.zc hf hr2
        exact ⟨t, w1, w2 Q2 hq⟩
    have ps : PSs (Y.suite a ((a, oe) :: pn)) [.Return (some (.Tuple [.Constant (.str "refused") j p1, .Call (.Name "_law_class" p2) [.Name "e" p3] [] p4] k p5)) p6] _ := pss_one (ps_ret (pos := p6) (pe_tup (pa_cons (pe_str (pos := p1)) (pa_cons pc pa_nil))))
    refine ps.run pins s' σ H' D I ⟨e3, fun H2 e => ⟨by show 2 ≤ sizeLine; decide, fun p hp => e4 H2 p e hp⟩⟩
  refine ⟨_, pss_one (L2N.ps_try_as (X := Y) (i := 1) (c := .ref (gaE X.K "LeafError"))
    (tb := fun W D σ H => ∃ Ech : XK, (∀ cls d H', Ech cls d H' → W cls d σ H') ∧ σ[0]? = some (some (.ref f)) ∧ H c' = some (CodeO c' q) ∧ tl Ech H D.rt)
    (ts := fun a cls d D σ H => ∃ x ∈ exNs, cls = .ref (gaE X.K x) ∧ d = none ∧ σ[1]? = some (some (.ref a)) ∧ ∀ H2 p, Ex H H2 → H2 p = none → D.rt (.ref p) (upd H2 p (.tup [.str "refused", .str x])))
    rfl rfl sc_law_told.nd rfl rfl ⟨by rfl, by decide, .inl xt.leaf⟩ takesN0 (fun W pn xe tk _ => ?_) (fun a oe cls d pn hz hf => suite a oe cls d pn hz hf rfl)), ?_⟩
  · refine ⟨fun pins s' σ H' D I ⟨Ech, hW, h1, h2, h3⟩ => ?_⟩
    exact (pss_one (ps_ret (act W pn xe Ech _ _ tk))).run pins s' σ H' D I ⟨hW, h1, h2, h3⟩
  · refine ⟨_, fun cls d H' z => ?_, rfl, hc, h⟩
    obtain ⟨x, hx, rfl, rfl, z⟩ := z
    refine ⟨true, xt.exl x hx, fun _ a ha => ⟨x, hx, rfl, rfl, rfl, z⟩, fun y => nomatch y⟩
theorem el_told {K : PySem.W.Frag} {T : List (Addr × Str)} {σ : L2.St} {H : Hp} {te : XK → TE} {r : Ans} (hx : ∀ x, r = .error x → x ∈ exNs) (h : ∀ E, EvX K E (te E) σ H r) : EvL K T (tLam T (TTn K) te) σ H (toldD r) := fun H1 e1 nt tb Q q =>
  ⟨tb, fun H2 eN tb2 => by
    have ex2 := ex_nt nt e1 eN
    refine h _ H2 ex2 Q ?_
    have fr : ∀ b o, H2 b = none → H1 b = some o → ∃ ps, o = .tbl ps := fun b o n1 n2 => by
      by_cases z : ∃ ps, o = .tbl ps
      · exact z
      · rw [eN b o n2 fun ps y => z ⟨ps, y⟩] at n1
        cases n1
    cases r with
    | ok d =>
      intro v H3 H' e3 e x dv
      exact q v H3 H' (eN.trans (.of e3)) (tb2.ext e3) e ⟨x.ex, fun b o hb => (x.fresh b o hb).imp id fun z => ⟨fun o' q' => fr b o' z.1 q', z.2⟩⟩ dv
    | error y =>
      refine fun H3 e3 => ⟨y, hx y rfl, rfl, rfl, fun H4 p e4 hp => ?_⟩
      have g : Ex H2 H4 := e3.trans e4
      have hp2 : H2 p = none := fresh_back g hp
      refine q _ _ (upd H p (.tup [.str "refused", .str y])) ((eN.trans (.of g)).trans (.of (Ex.new hp))) ((tb2.ext g).ext (Ex.new hp)) (ex_upd (ex2.trans g)) ⟨Ex.new (fresh_back (ex2.trans g) hp), fun b o hb => ?_⟩ (.tup (st_of upd_same) (.cons (.str _) (.cons (.str _) .nil)))
      by_cases z : b = p
      · subst z
        rw [upd_same] at hb
        cases hb
        exact .inr ⟨fun o' q' => fr b o' hp2 q', fun ps z => by cases z⟩
      · rw [upd_ne z] at hb
        exact .inl hb⟩
end
end LR

/-! ### the law k05 -/
namespace LR
open PySem PySem.Spec PyProof.Rows L2 Evl L2H LamX
/-- a, b = x, y, with what is laid -/
theorem st_parX {K : PySem.W.Frag} {σ : L2.St} {H H0 H10 H1 : Hp} {ss : List SD} {D : Ends} {i j : Nat} {d e : PyData} {tA : TA} (n : Now H0 H10 H H1) (s : Sl K H σ ss) (h : EvDs K tA σ H [d, e]) (k : ∀ σ' H' H2, Ext H H1 H' → Ex H1 H2 → Now H0 H10 H' H2 → Sl K H' σ' ((ss.set i (.dat d)).set j (.dat e)) → D.nx σ' H2) : tPar i j tA D σ H1 :=
  h H1 n.ex _ fun vs H2 H' e2 ex x dv => by
    obtain ⟨v1, v2, rfl, a, b⟩ := two_dt dv
    exact ⟨_, _, rfl, k _ H' H2 x e2 (n.on e2 ex x) (((s.ex x.ex).set (s := .dat d) (o := some _) a i).set (s := .dat e) (o := some _) b j)⟩
abbrev badS : Str := "abz09=;#LABC"
def badC (n : Nat) : Nat := badS.cps.toList.getD n 0
theorem badC_at {n : Nat} (h : n < 12) : badS.cps.toList[n]? = some (badC n) ∧ badC n < 1000 := by
  have : ∀ i : Fin 12, badS.cps.toList[i.val]? = some (badC i.val) ∧ badC i.val < 1000 := by decide +kernel
  exact this ⟨n, h⟩
def bad1 : List PyData := [.str "", .str "#0000", .str (sealS ""), .str (sealS "M"), .str (sealS "La"), .str (sealS "LAb=1"), .str (sealS "LBb=1;")]
def bad2 : List PyData := [.str (sealS "LAb=1;Aa=1;"), .str (sealS "LAab=1;Aac=1;"), .str (sealS "LA=1;"), .str (sealS "LAb=A;"), .str (sealS "LAb=1;Ab=1;")]
def bad3 : List PyData := [.str (sealS "LAb==1;"), .str (sealS "LAB=1;")]
theorem odd5 (ns : List Int) (k : Int) : ∀ d ∈ oddL ns k, len900 d ∧ lenOk d ∧ readA d = .error "NoPiece" ∧ isSoundD d = false := by
  intro d hd
  simp only [oddL, List.mem_cons, List.not_mem_nil, or_false] at hd
  have st : ∀ {s : String}, ((Str.ofString s).length ≤ 900 ∧ soundS (Str.ofString s) = false) → len900 (.str (Str.ofString s)) ∧ lenOk (.str (Str.ofString s)) ∧ readA (.str (Str.ofString s)) = .error "NoPiece" ∧ isSoundD (.str (Str.ofString s)) = false := fun h => ⟨h.1, Nat.le_trans h.1 (by decide), readA_unsound h.2, h.2⟩
  rcases hd with e | e | e | e | e | e | e | e | e | e
  · subst e; exact ⟨trivial, trivial, rfl, rfl⟩
  · subst e; exact ⟨trivial, trivial, rfl, rfl⟩
  · subst e; exact st (by decide +kernel)
  · subst e; exact st (by decide +kernel)
  · subst e; exact ⟨trivial, trivial, rfl, rfl⟩
  · subst e; exact ⟨trivial, trivial, rfl, rfl⟩
  · subst e; exact ⟨trivial, trivial, rfl, rfl⟩
  · subst e; exact st (by decide +kernel)
  · subst e; exact ⟨trivial, trivial, rfl, rfl⟩
  · subst e; exact ⟨trivial, trivial, rfl, rfl⟩
theorem bad1_no : ∀ d ∈ bad1, len900 d ∧ readA d = .error "NoPiece" := by
  intro d hd
  simp only [bad1, List.mem_cons, List.not_mem_nil, or_false] at hd
  have st : ∀ {z : Str}, (z.length ≤ 900 ∧ isErr (readA (.str z)) = true) → len900 (.str z) ∧ readA (.str z) = .error "NoPiece" := fun h => ⟨h.1, readA_no h.2⟩
  rcases hd with e | e | e | e | e | e | e
  · subst e; exact st (by decide +kernel)
  · subst e; exact st (by decide +kernel)
  · subst e; exact st (by decide +kernel)
  · subst e; exact st (by decide +kernel)
  · subst e; exact st (by decide +kernel)
  · subst e; exact st (by decide +kernel)
  · subst e; exact st (by decide +kernel)
theorem bad2_no : ∀ d ∈ bad2 ++ bad3, len900 d ∧ lenOk d ∧ readA d = .error "NoPiece" ∧ isSoundD d = true := by
  intro d hd
  simp only [bad2, bad3, List.cons_append, List.nil_append, List.mem_cons, List.not_mem_nil, or_false] at hd
  have st : ∀ {z : Str}, (sealS z).length ≤ 900 → isErr (readA (.str (sealS z))) = true → len900 (.str (sealS z)) ∧ lenOk (.str (sealS z)) ∧ readA (.str (sealS z)) = .error "NoPiece" ∧ isSoundD (.str (sealS z)) = true := fun h1 h2 => ⟨h1, Nat.le_trans h1 (by decide), readA_no h2, seal_sound _⟩
  rcases hd with e | e | e | e | e | e | e
  · subst e; exact st (by decide +kernel) (by decide +kernel)
  · subst e; exact st (by decide +kernel) (by decide +kernel)
  · subst e; exact st (by decide +kernel) (by decide +kernel)
  · subst e; exact st (by decide +kernel) (by decide +kernel)
  · subst e; exact st (by decide +kernel) (by decide +kernel)
  · subst e; exact st (by decide +kernel) (by decide +kernel)
  · subst e; exact st (by decide +kernel) (by decide +kernel)
section
variable {P : Program} {w : World} {K : PySem.W.Frag} {mg : Str → Option Value} {base : Heap} {f g : Addr} {fd : FuncData}
abbrev lawP : He.Defn := ("law", none)
abbrev lawT (K : PySem.W.Frag) : List (Addr × Str) := [(He.tabOf K (He.codeOf K lawP), ("law" ++ ".<locals>." : Str) ++ "<lambda>")]
theorem sc_law : FnScope ["script", "book", "k", "bad", "thing", "text", "signs", "other", "at", "sign", "one", "told", "mark"] ["script"] (defScope s_law) := ⟨rfl, rfl, rfl, by decide +kernel, rfl, by decide +kernel, by decide +kernel⟩
theorem ok_law (T : Txt mg) (xt : ExT exNs K mg) (F : FunD K "law" "law" (defArgs s_law) (defBody s_law) (defScope s_law) [] [] (He.fAd K lawP) fd) (TB : TabB base mg (He.codeOf K lawP) (He.tabOf K (He.codeOf K lawP)))
    {ft fc : Addr} {fdt fdc : FuncData} (F_law_told : FunD K "_law_told" "_law_told" (defArgs s_law_told) (defBody s_law_told) (defScope s_law_told) [] [] ft fdt) (m_law_told : mg "_law_told" = some (.ref ft))
    (F_law_class : FunD K "_law_class" "_law_class" (defArgs s_law_class) (defBody s_law_class) (defScope s_law_class) [] [] fc fdc) (m_law_class : mg "_law_class" = some (.ref fc))
    (g_law_pick : Fx P w K mg base 1 "_law_pick" ["script", "k", "many"] (spR K 3 Rpick)) (g_law_key : Fx P w K mg base 2 "_law_key" ["script", "at"] (spR K 2 Rkey)) (g_law_value : Fx P w K mg base 2 "_law_value" ["script", "at"] (spR K 2 Rvalue)) (g_law_odd : Fx P w K mg base 2 "_law_odd" ["script", "at"] (spR K 2 Rodd)) (g_leaf_text : Fx P w K mg base 4 "leaf_text" ["entries"] (spX K 1 RleafText)) (g_read_leaf : Fx P w K mg base 5 "read_leaf" ["text"] (spX K 1 RreadLeaf)) (g_sealed : Fx P w K mg base 2 "sealed" ["text"] (spR K 1 Rsealed)) (g_is_sound : Fx P w K mg base 3 "is_sound" ["text"] (spR K 1 RisSound)) :
    FnOk P w K mg base (CXL P w) 8 (He.fAd K lawP) fd ["script"] (spL K (lawT K)) := by
  refine fn_law (p := lawP) F rfl sc_law (fun vs H Q E ⟨a, ns, h, _⟩ => by rw [h]; rfl) fun cdv hcd A outer s Hs vs Q E hr hsp => ?_
  let TT0 := lawT K
  have hmT : (He.tabOf K (He.codeOf K lawP), ("law" ++ ".<locals>." : Str) ++ "<lambda>") ∈ TT0 := List.mem_cons_self
  have hu : ∀ p ∈ TT0, p.1 = He.tabOf K (He.codeOf K lawP) → p.2 = ("law" ++ ".<locals>." : Str) ++ "<lambda>" := fun p hp _ => by
    rw [List.mem_singleton.mp hp]
  refine ⟨_, (pss_cons (ps_set (i := 1) sc_law.nd rfl (by first | exact Or.inl rfl | exact Or.inr rfl) pe_dnewK) (pss_cons (ps_for PassesOwn.never rfl (pi_range1 (by rfl) T.m_range (pa_cons (pe_op (op_addK (K := K) rfl) pe_int (pe_fx g_law_pick hr (by decide) (by rfl) passN (pa_cons (pv 0) (pa_cons pe_int (pa_cons pe_int pa_nil))))) pa_nil)) (pg_name (i := 2) sc_law.nd rfl (by first | exact Or.inl rfl | exact Or.inr rfl)) (pss_one (ps_dput (units1 hr.units) (pv 1) (pe_fx g_law_key hr (by decide) (by rfl) passN (pa_cons (pv 0) (pa_cons (pe_op (op_mulK (K := K) rfl) pe_int (pv 2)) pa_nil))) (pe_fx g_law_value hr (by decide) (by rfl) passN (pa_cons (pv 0) (pa_cons (pe_op (op_addK (K := K) rfl) (pe_op (op_mulK (K := K) rfl) pe_int (pv 2)) pe_int) pa_nil))) rfl))) (pss_cons (ps_par (by rfl) sc_law.nd (i := 5) (j := 6) rfl rfl (by decide) rfl rfl (pa_cons (pe_fx g_leaf_text hr (by decide) (by rfl) passN (pa_cons (pe_callTy (call_tupK (K := K) rfl) (by rfl) T.m_tuple (by decide +kernel) (pa_cons (pe_lc (own := [("mark", 12)]) rfl sc_law.nd (pi_K (K := K) rfl (pe_callB (cr_sortD rfl) (by rfl) T.m_sorted (by decide +kernel) (pa_cons (pv 1) pa_nil))) (blkOk_by (N := ["script", "book", "k", "bad", "thing", "text", "signs", "other", "at", "sign", "one", "told", "mark"]) (sc := defScope s_law) (by decide +kernel)) (fun _ _ _ _ _ => (pg_name (i := 12) sc_law.nd rfl (by first | exact Or.inl rfl | exact Or.inr rfl))) (fun _ _ _ _ _ => pts_nil) (fun _ _ _ _ _ => (pe_tup (pa_cons (pv 12) (pa_cons (pe_dget (units1 hr.units) (pv 1) (pv 12) (fun _ _ => rfl)) pa_nil))))) pa_nil)) pa_nil)) (pa_cons pe_str pa_nil)) (by rfl)) (pss_cons (ps_for PassesOwn.never rfl (pi_range1 (by rfl) T.m_range (pa_cons pe_int pa_nil)) (pg_name (i := 2) sc_law.nd rfl (by first | exact Or.inl rfl | exact Or.inr rfl)) (pss_cons (ps_par (by rfl) sc_law.nd (i := 8) (j := 9) rfl rfl (by decide) rfl rfl (pa_cons (pe_fx g_law_pick hr (by decide) (by rfl) passN (pa_cons (pv 0) (pa_cons (pe_op (op_addK (K := K) rfl) pe_int (pv 2)) (pa_cons (pe_callB (call_lenK (K := K) rfl) (by rfl) T.m_len (by decide +kernel) (pa_cons (pv 5) pa_nil)) pa_nil)))) (pa_cons (pe_ix (ix_K (K := K) rfl) (pv 6) (pe_fx g_law_pick hr (by decide) (by rfl) passN (pa_cons (pv 0) (pa_cons (pe_op (op_addK (K := K) rfl) pe_int (pv 2)) (pa_cons pe_int pa_nil)))) (fun _ _ => rfl)) pa_nil)) (by rfl)) (pss_cons (ps_if (pt_cmpR (op_neK (K := K) rfl hr.units) (pv 9) (pe_ix (ix_K (K := K) rfl) (pv 5) (pv 8) (fun _ _ => rfl)) (nomark _)) (pss_cons (ps_set (i := 10) sc_law.nd rfl (by first | exact Or.inl rfl | exact Or.inr rfl) (pe_op (op_addK (K := K) rfl) (pe_op (op_addK (K := K) rfl) (pe_slice (sl_K (K := K) rfl) (pv 5) po_none (po_some (pv 8))) (pv 9)) (pe_slice (sl_K (K := K) rfl) (pv 5) (po_some (pe_op (op_addK (K := K) rfl) (pv 8) pe_int)) po_none))) (pss_one (ps_if (PW.pt (pw_or (pt_cmpR op_isnot_bl (pe_fx g_is_sound hr (by decide) (by rfl) passN (pa_cons (pv 10) pa_nil)) pe_bl (nomark _)) (pw_or1 (pt_cmpR (op_neK (K := K) rfl hr.units) (pe_lamN (T := TT0) (TT := TTn K) (a := "deed") (k := 4) (by rfl) m_law_told F_law_told (F_law_told.bindsN (fun _ _ _ _ _ _ us hl => match us, hl with | [_], _ => rfl)) sc_law_told rfl (.inl rfl) (fun cdv => told_gives T xt F_law_class m_law_class cdv) TB hcd hmT hu (hr.mono (by decide)) (lamS_by (sc := defScope s_law) (by decide +kernel)) (by rfl) (fun _ _ _ _ _ => rfl) (fun A outer s H E f c' hr => (pe_fx g_read_leaf hr (by decide) (by rfl) lamN_pass (pa_cons (pv 10) pa_nil)))) (pe_tup (pa_cons pe_str (pa_cons pe_str pa_nil))) (nomark _))))) (pss_one (ps_ret pe_bl)) pss_nil))) pss_nil) (pss_one (ps_for PassesOwn.never rfl (pi_K (K := K) rfl (pe_tup (pa_cons (pe_op (op_addK (K := K) rfl) (pe_slice (sl_K (K := K) rfl) (pv 5) po_none (po_some (pv 8))) (pe_slice (sl_K (K := K) rfl) (pv 5) (po_some (pe_op (op_addK (K := K) rfl) (pv 8) pe_int)) po_none)) (pa_cons (pe_op (op_addK (K := K) rfl) (pe_op (op_addK (K := K) rfl) (pe_slice (sl_K (K := K) rfl) (pv 5) po_none (po_some (pv 8))) (pv 9)) (pe_slice (sl_K (K := K) rfl) (pv 5) (po_some (pv 8)) po_none)) pa_nil)))) (pg_name (i := 7) sc_law.nd rfl (by first | exact Or.inl rfl | exact Or.inr rfl)) (pss_cons (ps_set (i := 11) sc_law.nd rfl (by first | exact Or.inl rfl | exact Or.inr rfl) (pe_lamN (T := TT0) (TT := TTn K) (a := "deed") (k := 4) (by rfl) m_law_told F_law_told (F_law_told.bindsN (fun _ _ _ _ _ _ us hl => match us, hl with | [_], _ => rfl)) sc_law_told rfl (.inl rfl) (fun cdv => told_gives T xt F_law_class m_law_class cdv) TB hcd hmT hu (hr.mono (by decide)) (lamS_by (sc := defScope s_law) (by decide +kernel)) (by rfl) (fun _ _ _ _ _ => rfl) (fun A outer s H E f c' hr => (pe_fx g_read_leaf hr (by decide) (by rfl) lamN_pass (pa_cons (pv 7) pa_nil))))) (pss_one (ps_if (PW.pt (pw_and (pt_cmpR (op_neK (K := K) rfl hr.units) (pv 11) (pe_tup (pa_cons pe_str (pa_cons pe_str pa_nil))) (nomark _)) (pw_and1 (pt_cmpR (op_neK (K := K) rfl hr.units) (pe_fx g_leaf_text hr (by decide) (by rfl) passN (pa_cons (pv 11) pa_nil)) (pv 7) (nomark _))))) (pss_one (ps_ret pe_bl)) pss_nil)))))))) (pss_cons (ps_set (i := 3) sc_law.nd rfl (by first | exact Or.inl rfl | exact Or.inr rfl) (pe_lst (pa_cons pe_str (pa_cons pe_str (pa_cons (pe_fx g_sealed hr (by decide) (by rfl) passN (pa_cons pe_str pa_nil)) (pa_cons (pe_fx g_sealed hr (by decide) (by rfl) passN (pa_cons pe_str pa_nil)) (pa_cons (pe_fx g_sealed hr (by decide) (by rfl) passN (pa_cons pe_str pa_nil)) (pa_cons (pe_fx g_sealed hr (by decide) (by rfl) passN (pa_cons pe_str pa_nil)) (pa_cons (pe_fx g_sealed hr (by decide) (by rfl) passN (pa_cons pe_str pa_nil)) pa_nil))))))))) (pss_cons (ps_for PassesOwn.never rfl (pi_K (K := K) rfl (pe_op (op_addK (K := K) rfl) (pe_fx g_law_odd hr (by decide) (by rfl) passN (pa_cons (pv 0) (pa_cons pe_int pa_nil))) (pv 3))) (pg_name (i := 4) sc_law.nd rfl (by first | exact Or.inl rfl | exact Or.inr rfl)) (pss_one (ps_if (pt_cmpR (op_neK (K := K) rfl hr.units) (pe_lamN (T := TT0) (TT := TTn K) (a := "deed") (k := 4) (by rfl) m_law_told F_law_told (F_law_told.bindsN (fun _ _ _ _ _ _ us hl => match us, hl with | [_], _ => rfl)) sc_law_told rfl (.inl rfl) (fun cdv => told_gives T xt F_law_class m_law_class cdv) TB hcd hmT hu (hr.mono (by decide)) (lamS_by (sc := defScope s_law) (by decide +kernel)) (by rfl) (fun _ _ _ _ _ => rfl) (fun A outer s H E f c' hr => (pe_fx g_read_leaf hr (by decide) (by rfl) lamN_pass (pa_cons (pv 4) pa_nil)))) (pe_tup (pa_cons pe_str (pa_cons pe_str pa_nil))) (nomark _)) (pss_one (ps_ret pe_bl)) pss_nil))) (pss_cons (ps_set (i := 3) sc_law.nd rfl (by first | exact Or.inl rfl | exact Or.inr rfl) (pe_lst (pa_cons (pe_fx g_sealed hr (by decide) (by rfl) passN (pa_cons pe_str pa_nil)) (pa_cons (pe_fx g_sealed hr (by decide) (by rfl) passN (pa_cons pe_str pa_nil)) (pa_cons (pe_fx g_sealed hr (by decide) (by rfl) passN (pa_cons pe_str pa_nil)) (pa_cons (pe_fx g_sealed hr (by decide) (by rfl) passN (pa_cons pe_str pa_nil)) (pa_cons (pe_fx g_sealed hr (by decide) (by rfl) passN (pa_cons pe_str pa_nil)) pa_nil))))))) (pss_cons (ps_for PassesOwn.never rfl (pi_K (K := K) rfl (pe_op (op_addK (K := K) rfl) (pv 3) (pe_lst (pa_cons (pe_fx g_sealed hr (by decide) (by rfl) passN (pa_cons pe_str pa_nil)) (pa_cons (pe_fx g_sealed hr (by decide) (by rfl) passN (pa_cons pe_str pa_nil)) pa_nil))))) (pg_name (i := 4) sc_law.nd rfl (by first | exact Or.inl rfl | exact Or.inr rfl)) (pss_one (ps_if (PW.pt (pw_or (pt_cmpR (op_neK (K := K) rfl hr.units) (pe_lamN (T := TT0) (TT := TTn K) (a := "deed") (k := 4) (by rfl) m_law_told F_law_told (F_law_told.bindsN (fun _ _ _ _ _ _ us hl => match us, hl with | [_], _ => rfl)) sc_law_told rfl (.inl rfl) (fun cdv => told_gives T xt F_law_class m_law_class cdv) TB hcd hmT hu (hr.mono (by decide)) (lamS_by (sc := defScope s_law) (by decide +kernel)) (by rfl) (fun _ _ _ _ _ => rfl) (fun A outer s H E f c' hr => (pe_fx g_read_leaf hr (by decide) (by rfl) lamN_pass (pa_cons (pv 4) pa_nil)))) (pe_tup (pa_cons pe_str (pa_cons pe_str pa_nil))) (nomark _)) (pw_or1 (pt_cmpR op_isnot_bl (pe_fx g_is_sound hr (by decide) (by rfl) passN (pa_cons (pv 4) pa_nil)) pe_bl (nomark _))))) (pss_one (ps_ret pe_bl)) pss_nil))) (pss_one (ps_ret (pe_and (pe_callB (cr_allK (K := K) rfl rfl) (by rfl) T.m_all (by decide +kernel) (pa_cons (pe_lc (own := [("thing", 4)]) rfl sc_law.nd (pi_K (K := K) rfl (pe_fx g_law_odd hr (by decide) (by rfl) passN (pa_cons (pv 0) (pa_cons pe_int pa_nil)))) (blkOk_by (N := ["script", "book", "k", "bad", "thing", "text", "signs", "other", "at", "sign", "one", "told", "mark"]) (sc := defScope s_law) (by decide +kernel)) (fun _ _ _ _ _ => (pg_name (i := 4) sc_law.nd rfl (by first | exact Or.inl rfl | exact Or.inr rfl))) (fun _ _ _ _ _ => pts_nil) (fun _ _ _ _ _ => (pe_cmpR op_is_bl (pe_fx g_is_sound hr (by decide) (by rfl) passN (pa_cons (pv 4) pa_nil)) pe_bl (nomark _)))) pa_nil)) (pe_one (pe_cmpR (op_eqK (K := K) rfl hr.units) (pe_fx g_read_leaf hr (by decide) (by rfl) passN (pa_cons (pe_fx g_sealed hr (by decide) (by rfl) passN (pa_cons pe_str pa_nil)) pa_nil)) (pe_tup pa_nil) (nomark _)))))))))))))), ?_⟩
  obtain ⟨a, ns, rfl, hns, hS, tb0, q⟩ := hsp
  obtain ⟨H0, ex0, nt0, hS0⟩ := script_only hS
  have n0 := now_l nt0 ex0
  have s0 : Sl K H0 (L2.start ["script", "book", "k", "bad", "thing", "text", "signs", "other", "at", "sign", "one", "told", "mark"] [.ref a]) [.dat (scrD ns), .unk, .unk, .unk, .unk, .unk, .unk, .unk, .unk, .unk, .unk, .unk, .unk] := .cons (.scr ns hS0) (sl_unk 12)
  generalize L2.start ["script", "book", "k", "bad", "thing", "text", "signs", "other", "at", "sign", "one", "told", "mark"] [.ref a] = σ0 at s0
  have big : ∀ {m : Nat}, m ≤ 100000 → m ≤ sizeLine := fun h => Nat.le_trans h (by decide)
  -- the book
  refine st_newDk n0 s0 ?_
  intro l σ1 H11 e1 hfree w1 n1 s1
  have hp0 := pick_lo ns 300 (many := 8) (by decide)
  have hp1 := pick_hi ns 300 (many := 8) (by decide)
  refine st_book (n := 1 + pick ns 300 8) n1 s1 hns rfl rfl (by show 2 < 13; decide) w1 (eds_cons (ed_op (ed_c (.int 1)) (callPick hns (ed_sl s1 rfl) (ed_c (.int 300)) (ed_c (.int 8)) (by decide) (by decide) (by decide)) rd_addI) eds_nil) (by omega) (by omega) ?_
  intro σ2 H2 H21 b ex2 hb w2 k2 n2 s2
  have tb2 : Tabs (lawT K) H21 := tb0.ext fun c u hu => k2 c u (ne_of_none hu hfree) (e1 c u hu)
  obtain ⟨f1, n3⟩ := w2.freeze n2 fun ps z => by cases z
  have s3 := s2.ex f1
  have hl3 : upd H2 l (.dK (bookK b)) l = some (.dK (bookK b)) := upd_same
  generalize upd H2 l (.dK (bookK b)) = H3 at f1 n3 s3 hl3
  obtain ⟨hk, hrl, hae⟩ := rows_ok hb
  -- the text
  have hrl' : (bookRows b).length ≤ 30 := by omega
  refine st_parX n3 s3 (d := .str (leafT (bookRows b))) (e := .str badS) (eds_cons (callLeaf (rows := bookRows b) (ed_rows (vs := [12]) s3 rfl (by show 12 < 13; decide) (by decide) hl3 hb (by omega) rfl) hae hk (by omega)) (eds_cons (ed_c (.str _)) eds_nil)) ?_
  intro σ4 H4 H41 x4 e4 n4 s4
  have tb4 := tb2.ext e4
  generalize bookRows b = rows at s4 hk hrl' hae
  have lt : (leafT rows).length ≤ 800 := by have := leafT_len hk; omega
  have l5 : 5 < (leafT rows).length := by
    unfold leafT
    rw [sealS_len]
    have : (entsT rows).length = (rowsL "" rows).length + 1 := by
      show (mk _).length = _
      rw [mk_len]
      rfl
    omega
  have sg := entsT_sign hk
  obtain ⟨z, hz⟩ : ∃ z, z = leafT rows := ⟨_, rfl⟩
  rw [← hz] at s4 lt l5
  have eSo : ∀ {d : PyData} {te : TE} {σ : L2.St} {H : Hp}, EvD K te σ H d → lenOk d → EvD K (tCall (spR K 1 RisSound) [] E0 (tCons te tNil)) σ H (.bool (isSoundD d)) := fun h hz => ed_call (eds_cons h eds_nil) ⟨_, rfl, hz, rfl⟩
  have eSe : ∀ {y : Str} {te : TE} {σ : L2.St} {H : Hp}, EvD K te σ H (.str y) → y.length ≤ 50000 → EvD K (tCall (spR K 1 Rsealed) [] E0 (tCons te tNil)) σ H (.str (sealS y)) := fun h hz => ed_call (eds_cons h eds_nil) ⟨_, rfl, hz, rfl⟩
  have eRef : ∀ {σ : L2.St} {H : Hp}, EvD K (tTup (tCons (tC (.str (Str.ofString "refused"))) (tCons (tC (.str (Str.ofString "NoPiece"))) tNil))) σ H (.tuple [.str (Str.ofString "refused"), .str (Str.ofString "NoPiece")]) := ed_tup (eds_cons (ed_c (.str _)) (eds_cons (ed_c (.str _)) eds_nil)) (by show 2 ≤ 100000; decide)
  have shR : SeqAt.shaped (.tuple [.str (Str.ofString "refused"), .str (Str.ofString "NoPiece")]) = true := by decide +kernel
  have exR : ∀ {x : Str}, readA (.str z) = .error x → x ∈ exNs := fun {x} h => by
    rcases readA_err (.str z) with e | ⟨_, _, e, he⟩
    · rw [e] at h
      cases h
      decide
    · rw [he] at h
      cases h
  have toldNo : ∀ {i : Nat} {σ : L2.St} {H : Hp} {ss : List SD} {d : PyData}, Sl K H σ ss → ss[i]? = some (.dat d) → len900 d → readA d = .error "NoPiece" → EvBL (lawT K) (tTest (tOp (rNeU K) (tLam (lawT K) (TTn K) fun E => tCall (spX K 1 RreadLeaf) [] E (tCons (tVar i) tNil)) (tTup (tCons (tC (.str (Str.ofString "refused"))) (tCons (tC (.str (Str.ofString "NoPiece"))) tNil))))) σ H false := fun {i σ H ss d} s hi hl hr =>
    ebl_is (ebl_test (el_op (el_told (r := .error "NoPiece") (fun x hx => by cases hx; decide) fun E => ex_call (eds_cons (ed_sl s hi) eds_nil) ⟨d, rfl, hl, hr.symm⟩) eRef (rd_neU shR shR))) (congrArg not (eqv_refl' shR))
  -- eight times
  refine st_forX n4 (ei_range (K := K) (n := 8) (eds_cons (ed_c (.int 8)) eds_nil) (by decide) (by decide)) fun Hb H5 xb n5 e5 => ?_
  refine ⟨fun i σ' Hr => ∃ H', Ex Hb H' ∧ Now E00 E00 H' Hr ∧ Tabs (lawT K) Hr ∧ Sl K H' σ' [.dat (scrD ns), .unk, .unk, .unk, .unk, .dat (.str z), .dat (.str badS), .unk, .unk, .unk, .unk, .unk, .unk], ⟨Hb, Ex.refl _, n5, tb4.ext e5, (s4.ex xb.ex).forget 1⟩, fun i σ' Hr ⟨H', a, b, _⟩ => a.trans b.ex, ?_, ?_⟩
  · rintro i x σ5 Hr H6 hi ⟨H', a1, b1, c1, d1⟩ ⟨rfl, rfl⟩
    have hi8 : i < 8 := hi
    have s5 := d1.set (s := .dat (.int i)) (o := some (.int (0 + (i : Int)))) (by show Dt K H' (.int (0 + (i : Int))) (.int i); rw [Int.zero_add]; exact .int _) 2
    have p0 := pick_lo ns (310 + (i : Int)) (many := (z.length : Int)) (by omega)
    have p1 := pick_hi ns (310 + (i : Int)) (many := (z.length : Int)) (by omega)
    have r0 := pick_lo ns (320 + (i : Int)) (many := 12) (by decide)
    have r1 := pick_hi ns (320 + (i : Int)) (many := 12) (by decide)
    obtain ⟨bc1, bc2⟩ := badC_at (n := (pick ns (320 + (i : Int)) 12).toNat) (by omega)
    refine st_parX b1 s5 (d := .int (pick ns (310 + (i : Int)) z.length)) (e := .str ⟨#[badC (pick ns (320 + (i : Int)) 12).toNat]⟩) (eds_cons (callPick hns (ed_sl s5 rfl) (ed_op (ed_c (.int 310)) (ed_sl s5 rfl) rd_addI) (ed_lenS (ed_sl s5 rfl) (big (by omega))) (by omega) (by omega) (by omega)) (eds_cons (ed_op (ed_sl s5 rfl) (callPick hns (ed_sl s5 rfl) (ed_op (ed_c (.int 320)) (ed_sl s5 rfl) rd_addI) (ed_c (.int 12)) (by omega) (by omega) (by decide)) (rd_sign (by decide +kernel) r0 bc1)) eds_nil)) ?_
    intro σ6 H6' H61 x6 e6 n6 s6
    have tb6 := c1.ext e6
    generalize badC (pick ns (320 + (i : Int)) 12).toNat = c at s6 bc2
    generalize pick ns (310 + (i : Int)) z.length = att at s6 p0 p1
    obtain ⟨k, rfl⟩ : ∃ k : Nat, att = k := ⟨att.toNat, by omega⟩
    have hkz : k < z.length := by omega
    have hkt : k < z.cps.toList.length := by rw [tl_len]; exact hkz
    have hzk : z.cps.toList[k]? = some z.cps.toList[k] := List.getElem?_eq_getElem hkt
    have eHead : ∀ {σ : L2.St} {H : Hp} {ss : List SD}, Sl K H σ ss → ss[5]? = some (.dat (.str z)) → ss[8]? = some (.dat (.int k)) → EvD K (tSl (rSlU K) (tVar 5) tNoPart (tPart (tVar 8))) σ H (.str (mk (z.cps.toList.take k))) := fun s h1 h2 => ed_is (ed_slS (ed_sl s h1) eo_none (eo_some (K := K) (ed_sl s h2)) (by omega)) (by rw [cutS_to (by omega)])
    have eTail : ∀ {σ : L2.St} {H : Hp} {ss : List SD}, Sl K H σ ss → ss[5]? = some (.dat (.str z)) → ss[8]? = some (.dat (.int k)) → EvD K (tSl (rSlU K) (tVar 5) (tPart (tOp (rAddU K) (tVar 8) (tC (.int 1)))) tNoPart) σ H (.str (mk (z.cps.toList.drop (k + 1)))) := fun s h1 h2 => ed_is (ed_slS (ed_sl s h1) (eo_some (K := K) (ed_op (ed_sl s h2) (ed_c (.int 1)) rd_addI)) eo_none (by omega)) (by
      rw [show (k : Int) + 1 = ((k + 1 : Nat) : Int) by omega, cutS_from (by omega)])
    have eRest : ∀ {σ : L2.St} {H : Hp} {ss : List SD}, Sl K H σ ss → ss[5]? = some (.dat (.str z)) → ss[8]? = some (.dat (.int k)) → EvD K (tSl (rSlU K) (tVar 5) (tPart (tVar 8)) tNoPart) σ H (.str (mk (z.cps.toList.drop k))) := fun s h1 h2 => ed_is (ed_slS (ed_sl s h1) (eo_some (K := K) (ed_sl s h2)) eo_none (by omega)) (by rw [cutS_from (by omega)])
    have lH : (mk (z.cps.toList.take k)).length ≤ 800 := by rw [mk_len, List.length_take]; omega
    have lT : (mk (z.cps.toList.drop (k + 1))).length ≤ 800 := by rw [mk_len, List.length_drop, tl_len]; omega
    have lR : (mk (z.cps.toList.drop k)).length ≤ 800 := by rw [mk_len, List.length_drop, tl_len]; omega
    have lS : Str.length ⟨#[c]⟩ = 1 := rfl
    have nxt : ∀ H7 H71 σ7, Ex Hb H7 → Now E00 E00 H7 H71 → Tabs (lawT K) H71 → Sl K H7 σ7 [.dat (scrD ns), .unk, .unk, .unk, .unk, .dat (.str z), .dat (.str badS), .unk, .dat (.int k), .dat (.str ⟨#[c]⟩), .unk, .unk, .unk] → ∃ H', Ex Hb H' ∧ Now E00 E00 H' H71 ∧ Tabs (lawT K) H71 ∧ Sl K H' σ7 [.dat (scrD ns), .unk, .unk, .unk, .unk, .dat (.str z), .dat (.str badS), .unk, .unk, .unk, .unk, .unk, .unk] := fun H7 H71 σ7 a b c d => ⟨H7, a, b, c, (d.forget 8).forget 9⟩
    -- the second part of a turn: two more texts
    have part2 : ∀ (D : Ends) (H7 H71 : Hp) (σ7 : L2.St), Ex Hb H7 → Now E00 E00 H7 H71 → Tabs (lawT K) H71 → Sl K H7 σ7 [.dat (scrD ns), .unk, .unk, .unk, .unk, .dat (.str z), .dat (.str badS), .unk, .dat (.int k), .dat (.str ⟨#[c]⟩), .unk, .unk, .unk] →
        (∀ H8 H81 σ8, Ex Hb H8 → Now E00 E00 H8 H81 → Tabs (lawT K) H81 → Sl K H8 σ8 [.dat (scrD ns), .unk, .unk, .unk, .unk, .dat (.str z), .dat (.str badS), .unk, .dat (.int k), .dat (.str ⟨#[c]⟩), .unk, .unk, .unk] → D.nx σ8 H81) →
        tFor (iU K (tTup (tCons (tOp (rAddU K) (tSl (rSlU K) (tVar 5) tNoPart (tPart (tVar 8))) (tSl (rSlU K) (tVar 5) (tPart (tOp (rAddU K) (tVar 8) (tC (.int 1)))) tNoPart)) (tCons (tOp (rAddU K) (tOp (rAddU K) (tSl (rSlU K) (tVar 5) tNoPart (tPart (tVar 8))) (tVar 9)) (tSl (rSlU K) (tVar 5) (tPart (tVar 8)) tNoPart)) tNil)))) (gName 7)
          (tSeq (tAsg (tLam (lawT K) (TTn K) fun E => tCall (spX K 1 RreadLeaf) [] E (tCons (tVar 7) tNil)) (gName 11))
            (tIfS (tAnd (tTest (tOp (rNeU K) (tVar 11) (tTup (tCons (tC (.str (Str.ofString "refused"))) (tCons (tC (.str (Str.ofString "NoPiece"))) tNil))))) (tTest (tOp (rNeU K) (tCall (spX K 1 RleafText) [] E0 (tCons (tVar 11) tNil)) (tVar 7)))) (tRet (tC (.bl false))) tNext)) D σ7 H71 := by
      intro D H7 H71 σ7 a7 n7 tb7 s7 fin
      refine st_forX n7 (eiU_tup (ds := [.str (mk (z.cps.toList.take k) ++ mk (z.cps.toList.drop (k + 1))), .str (mk (z.cps.toList.take k) ++ ⟨#[c]⟩ ++ mk (z.cps.toList.drop k))]) (ed_tup (eds_cons (ed_op (eHead s7 rfl rfl) (eTail s7 rfl rfl) (rd_addS (big (by omega)))) (eds_cons (ed_op (ed_op (eHead s7 rfl rfl) (ed_sl s7 rfl) (rd_addS (big (by omega)))) (eRest s7 rfl rfl) (rd_addS (big (by rw [len_app]; omega)))) eds_nil)) (by show 2 ≤ 100000; decide))) fun Hb2 H8 xb2 n8 e8 => ?_
      refine ⟨fun i σ' Hr => ∃ H', Ex Hb2 H' ∧ Now E00 E00 H' Hr ∧ Tabs (lawT K) Hr ∧ Sl K H' σ' [.dat (scrD ns), .unk, .unk, .unk, .unk, .dat (.str z), .dat (.str badS), .unk, .dat (.int k), .dat (.str ⟨#[c]⟩), .unk, .unk, .unk], ⟨Hb2, Ex.refl _, n8, tb7.ext e8, s7.ex xb2.ex⟩, fun i σ' Hr ⟨H', a, b, _⟩ => a.trans b.ex, ?_, ?_⟩
      · rintro j x σ9 Hr H9 hj ⟨H', a9, b9, c9, d9⟩ ⟨rfl, d, hd, dx⟩
        obtain ⟨y, rfl, hy⟩ : ∃ y : Str, d = .str y ∧ y.length ≤ 900 := by
          have lL := l5
          have m := List.mem_of_getElem? hd
          simp only [List.mem_cons, List.not_mem_nil, or_false] at m
          rcases m with e | e
          · refine ⟨_, e, ?_⟩
            rw [len_app, mk_len, mk_len, List.length_take, List.length_drop, tl_len]
            omega
          · refine ⟨_, e, ?_⟩
            rw [len_app, len_app]
            show (mk (z.cps.toList.take k)).length + 1 + (mk (z.cps.toList.drop k)).length ≤ 900
            rw [mk_len, mk_len, List.length_take, List.length_drop, tl_len]
            omega
        refine g_set ?_
        have s9 := d9.set (s := .dat (.str y)) (o := some x) (Dt.ex a9 dx) 7
        refine t_seq ?_
        have hx : ∀ x, readA (.str y) = .error x → x ∈ exNs := fun x h => by
          rcases readA_err (.str y) with e | ⟨_, _, e, he⟩
          · rw [e] at h
            cases h
            decide
          · rw [he] at h
            cases h
        refine sl_asg b9 c9 s9 (el_told (r := readA (.str y)) hx fun E => ex_call (eds_cons (ed_sl s9 rfl) eds_nil) ⟨_, rfl, hy, rfl⟩) ?_
        intro σ10 H10 H101 x10 e10 n10 tb10 s10
        have goal : ∀ b : Bool, EvB (tAnd (tTest (tOp (rNeU K) (tVar 11) (tTup (tCons (tC (.str (Str.ofString "refused"))) (tCons (tC (.str (Str.ofString "NoPiece"))) tNil))))) (tTest (tOp (rNeU K) (tCall (spX K 1 RleafText) [] E0 (tCons (tVar 11) tNil)) (tVar 7)))) σ10 H10 b → b = false → tIfS (tAnd (tTest (tOp (rNeU K) (tVar 11) (tTup (tCons (tC (.str (Str.ofString "refused"))) (tCons (tC (.str (Str.ofString "NoPiece"))) tNil))))) (tTest (tOp (rNeU K) (tCall (spX K 1 RleafText) [] E0 (tCons (tVar 11) tNil)) (tVar 7)))) (tRet (tC (.bl false))) tNext { D with nx := fun σ' Hr => ∃ H', Ex Hb2 H' ∧ Now E00 E00 H' Hr ∧ Tabs (lawT K) Hr ∧ Sl K H' σ' [.dat (scrD ns), .unk, .unk, .unk, .unk, .dat (.str z), .dat (.str badS), .unk, .dat (.int k), .dat (.str ⟨#[c]⟩), .unk, .unk, .unk], ct := fun σ' Hr => ∃ H', Ex Hb2 H' ∧ Now E00 E00 H' Hr ∧ Tabs (lawT K) Hr ∧ Sl K H' σ' [.dat (scrD ns), .unk, .unk, .unk, .unk, .dat (.str z), .dat (.str badS), .unk, .dat (.int k), .dat (.str ⟨#[c]⟩), .unk, .unk, .unk], bk := D.nx } σ10 H101 := fun b hb h0 => by
          subst h0
          refine sl_if n10 tb10 (b := false) (EvB.l hb) (fun h => nomatch h) fun _ H11 e11 n11 tb11 => ?_
          exact ⟨H10, a9.trans x10.ex, n11, tb11, (s10.forget 7).forget 11⟩
        rcases readA_err (.str y) with er | ⟨_, _, d', he⟩
        · rw [er] at s10
          exact goal _ (eb_and (b := false) (eb_test (ed_op (ed_sl s10 rfl) eRef (rd_neU shR shR))) fun h => by
            rw [show (toldD (.error "NoPiece")) = .tuple [.str (Str.ofString "refused"), .str (Str.ofString "NoPiece")] from rfl, eqv_refl' shR] at h
            cases h) (by rw [Bool.and_false])
        · obtain ⟨rows', rfl, ha', hk', hw, hl'⟩ := read_write hy he
          rw [he] at s10
          have s10' : Sl K H10 σ10 (([.dat (scrD ns), .unk, .unk, .unk, .unk, .dat (.str z), .dat (.str badS), .dat (.str y), .dat (.int k), .dat (.str ⟨#[c]⟩), .unk, .dat (entsD rows'), .unk] : List SD)) := s10
          refine goal _ (eb_and (b := false) (eb_test (ed_op (ed_sl s10' rfl) eRef (rd_neU (shaped_ents hk') shR))) fun _ => eb_is (eb_test (ed_op (callLeaf (rows := rows') (ed_sl s10' rfl) ha' hk' hl') (ed_sl s10' rfl) rd_neS)) ?_) (by rw [Bool.and_false])
          rw [hw, decide_eq_true rfl]
          rfl
      · rintro σ9 Hr ⟨H', a9, b9, c9, d9⟩
        exact fin H' Hr σ9 ((a7.trans xb2.ex).trans a9) b9 c9 d9
    have s6' : Sl K H6' σ6 [.dat (scrD ns), .unk, .unk, .unk, .unk, .dat (.str z), .dat (.str badS), .unk, .dat (.int k), .dat (.str ⟨#[c]⟩), .unk, .unk, .unk] := s6.forget 2
    dsimp only
    refine t_seq ?_
    refine sl_if n6 tb6 (b := !decide (c = z.cps.toList[k])) (EvB.l (eb_is (eb_test (ed_op (ed_sl s6' rfl) (ed_op (ed_sl s6' rfl) (ed_sl s6' rfl) (rd_sign (by omega) (by omega) (by rw [Int.toNat_natCast]; exact hzk))) rd_neS)) (by rw [sign_eq]))) (fun h H7 e7 n7 tb7 => ?_) (fun h H7 e7 n7 tb7 => ?_)
    · have hne : c ≠ z.cps.toList[k] := by simpa using h
      refine t_seq ?_
      refine st_asgX n7 s6' (d := .str (mk (z.cps.toList.take k) ++ ⟨#[c]⟩ ++ mk (z.cps.toList.drop (k + 1)))) (ed_op (ed_op (eHead s6' rfl rfl) (ed_sl s6' rfl) (rd_addS (big (by omega)))) (eTail s6' rfl rfl) (rd_addS (big (by rw [len_app]; omega)))) ?_
      intro σ8 H8 H81 x8 e8 n8 s8
      have tb8 := tb7.ext e8
      have un : soundS (mk (z.cps.toList.take k) ++ ⟨#[c]⟩ ++ mk (z.cps.toList.drop (k + 1))) = false := by
        refine spoilt_one (y := entsT rows) (k := k) (c := c) sg bc2 ?_ ?_ ?_
        · show k < (leafT rows).length
          rw [← hz]
          exact hkz
        · show (leafT rows).cps.toList[k]? ≠ _
          rw [← hz, hzk]
          exact fun y => hne (Option.some.inj y).symm
        · show _ = (leafT rows).cps.toList.take k ++ c :: (leafT rows).cps.toList.drop (k + 1)
          rw [← hz, tl_app, tl_app]
          show (_ ++ [c]) ++ _ = _
          rw [List.append_assoc]
          rfl
      have lo : (mk (z.cps.toList.take k) ++ ⟨#[c]⟩ ++ mk (z.cps.toList.drop (k + 1))).length ≤ 900 := by
        rw [len_app, len_app]
        show (mk (z.cps.toList.take k)).length + 1 + (mk (z.cps.toList.drop (k + 1))).length ≤ 900
        rw [mk_len, mk_len, List.length_take, List.length_drop, tl_len]
        omega
      generalize mk (z.cps.toList.take k) ++ ⟨#[c]⟩ ++ mk (z.cps.toList.drop (k + 1)) = one at s8 un lo
      dsimp only
      refine sl_if n8 tb8 (b := false) (ebl_is (ebl_or (b := false) (EvB.l (eb_test (ed_op (eSo (ed_sl s8 rfl) (Nat.le_trans lo (by decide))) (ed_c (.bl false)) rd_isnotB))) fun _ => toldNo s8 rfl lo (readA_unsound un)) ?_) (fun h => nomatch h) fun _ H9 e9 n9 tb9 => ?_
      · rw [show isSoundD (.str one) = false from un]
        rfl
      · refine t_next ?_
        dsimp only
        refine part2 _ H8 H9 σ8 (((a1.trans x6.ex).trans x8.ex)) n9 tb9 (s8.forget 10) fun H12 H121 σ12 a b c d => nxt H12 H121 σ12 a b c d
    · refine t_next ?_
      dsimp only
      refine part2 _ H6' H7 σ6 (a1.trans x6.ex) n7 tb7 s6' fun H12 H121 σ12 a b c d => nxt H12 H121 σ12 a b c d
  · rintro σ5 Hr ⟨H', a1, b1, c1, d1⟩
    dsimp only
    refine t_seq ?_
    have ls : ∀ {s : String}, (Str.ofString s).length ≤ 50 → (Str.ofString s).length ≤ 50000 := fun h => Nat.le_trans h (by decide)
    refine st_asgX b1 d1 (d := .list bad1) (ed_lst (eds_cons (ed_c (.str _)) (eds_cons (ed_c (.str _)) (eds_cons (eSe (ed_c (.str _)) (ls (by decide +kernel))) (eds_cons (eSe (ed_c (.str _)) (ls (by decide +kernel))) (eds_cons (eSe (ed_c (.str _)) (ls (by decide +kernel))) (eds_cons (eSe (ed_c (.str _)) (ls (by decide +kernel))) (eds_cons (eSe (ed_c (.str _)) (ls (by decide +kernel))) eds_nil))))))) (by show 7 ≤ 100000; decide)) ?_
    intro σ6 H6 H61 x6 e6 n6 s6
    have tb6 := c1.ext e6
    refine st_forX n6 (eiU_list (ds := oddL ns 330 ++ bad1) (ed_op (ed_call (eds_cons (ed_sl s6 rfl) (eds_cons (ed_c (.int 330)) eds_nil)) ⟨ns, 330, rfl, hns, by decide, by decide, rfl⟩) (ed_sl s6 rfl) (rd_addL (by show 17 ≤ 100000; decide)))) fun Hb2 H7 xb2 n7 e7 => ?_
    refine ⟨fun i σ' Hr => ∃ H', Ex Hb2 H' ∧ Now E00 E00 H' Hr ∧ Tabs (lawT K) Hr ∧ Sl K H' σ' [.dat (scrD ns), .unk, .unk, .unk, .unk, .unk, .unk, .unk, .unk, .unk, .unk, .unk, .unk], ⟨Hb2, Ex.refl _, n7, tb6.ext e7, (((s6.ex xb2.ex).forget 3).forget 5).forget 6⟩, fun i σ' Hr ⟨H', a, b, _⟩ => a.trans b.ex, ?_, ?_⟩
    · rintro i x σ7 Hr H8 hi ⟨H', a8, b8, c8, d8⟩ ⟨rfl, d, hd, dx⟩
      have hno : len900 d ∧ readA d = .error "NoPiece" := by
        rcases List.mem_append.mp (List.mem_of_getElem? hd) with m | m
        · have := odd5 ns 330 d m
          exact ⟨this.1, this.2.2.1⟩
        · exact bad1_no d m
      have s8 := d8.set (s := .dat d) (o := some x) (Dt.ex a8 dx) 4
      refine sl_if b8 c8 (b := false) (toldNo s8 rfl hno.1 hno.2) (fun h => nomatch h) fun _ H9 e9 n9 tb9 => ?_
      exact ⟨H', a8, n9, tb9, s8.forget 4⟩
    · rintro σ7 Hr ⟨H', a8, b8, c8, d8⟩
      dsimp only
      refine t_seq ?_
      refine st_asgX b8 d8 (d := .list bad2) (ed_lst (eds_cons (eSe (ed_c (.str _)) (ls (by decide +kernel))) (eds_cons (eSe (ed_c (.str _)) (ls (by decide +kernel))) (eds_cons (eSe (ed_c (.str _)) (ls (by decide +kernel))) (eds_cons (eSe (ed_c (.str _)) (ls (by decide +kernel))) (eds_cons (eSe (ed_c (.str _)) (ls (by decide +kernel))) eds_nil))))) (by show 5 ≤ 100000; decide)) ?_
      intro σ9 H9 H91 x9 e9 n9 s9
      have tb9 := c8.ext e9
      refine st_forX n9 (eiU_list (ds := bad2 ++ bad3) (ed_op (ed_sl s9 rfl) (ed_lst (eds_cons (eSe (ed_c (.str _)) (ls (by decide +kernel))) (eds_cons (eSe (ed_c (.str _)) (ls (by decide +kernel))) eds_nil)) (by show 2 ≤ 100000; decide)) (rd_addL (by show 7 ≤ 100000; decide)))) fun Hb3 H10 xb3 n10 e10 => ?_
      refine ⟨fun i σ' Hr => ∃ H', Ex Hb3 H' ∧ Now E00 E00 H' Hr ∧ Tabs (lawT K) Hr ∧ Sl K H' σ' [.dat (scrD ns), .unk, .unk, .unk, .unk, .unk, .unk, .unk, .unk, .unk, .unk, .unk, .unk], ⟨Hb3, Ex.refl _, n10, tb9.ext e10, (s9.ex xb3.ex).forget 3⟩, fun i σ' Hr ⟨H', a, b, _⟩ => a.trans b.ex, ?_, ?_⟩
      · rintro i x σ10 Hr H11 hi ⟨H', a11, b11, c11, d11⟩ ⟨rfl, d, hd, dx⟩
        obtain ⟨h1, h2, h3, h4⟩ := bad2_no d (List.mem_of_getElem? hd)
        have s11 := d11.set (s := .dat d) (o := some x) (Dt.ex a11 dx) 4
        refine sl_if b11 c11 (b := false) (ebl_is (ebl_or (b := false) (toldNo s11 rfl h1 h3) fun _ => EvB.l (eb_is (eb_test (ed_op (eSo (ed_sl s11 rfl) h2) (ed_c (.bl true)) rd_isnotB)) (by rw [h4]; rfl))) rfl) (fun h => nomatch h) fun _ H12 e12 n12 tb12 => ?_
        exact ⟨H', a11, n12, tb12, s11.forget 4⟩
      · rintro σ10 Hr ⟨H', a11, b11, c11, d11⟩
        have eAll := ed_lcD (K := K) (σ := σ10) (H := H') (ti := tCall (spR K 2 Rodd) [] E0 (tCons (tVar 0) (tCons (tC (.int 340)) tNil))) (te := tOp (fun x y H Q => ∃ a b, x = .bl a ∧ y = .bl b ∧ Q (.bl (decide (a = b))) H) (tCall (spR K 1 RisSound) [] E0 (tCons (tVar 4) tNil)) (tC (.bl false))) (j := 4) (vs := [4]) (ds := oddL ns 340) (fun _ => .bool true) d11 (eiU_list (ed_call (eds_cons (ed_sl d11 rfl) (eds_cons (ed_c (.int 340)) eds_nil)) ⟨ns, 340, rfl, hns, by decide, by decide, rfl⟩)) (by show 10 ≤ 50000; decide) rfl (fun d hd σ2 Hc e2 s2 => by
          obtain ⟨_, h2, _, h4⟩ := odd5 ns 340 d hd
          exact ed_is (ed_op (eSo (ed_sl s2 rfl) h2) (ed_c (.bl false)) rd_isB) (by rw [h4]; rfl))
        have eAll' : EvD K _ σ10 H' (.list ([true, true, true, true, true, true, true, true, true, true].map .bool)) := eAll
        have hL : Str.ofString "L" = entsT [] := str_tl (by decide +kernel)
        refine sl_ret (K := K) (d := .bool true) b11 c11 (EvD.l (ed_is (ed_and (b := true) (ed_all eAll') fun _ => ed_is (ed_op (callRead (rows := []) (ed_is (eSe (ed_c (.str (Str.ofString "L"))) (by decide +kernel)) (by rw [hL]; rfl)) (by decide +kernel) (fun p hp => nomatch hp) (by decide)) (ed_tup eds_nil (by decide)) (rd_eqU (by decide +kernel) (by decide +kernel))) (by rw [show PyData.eqv (entsD []) (.tuple []) = true by decide +kernel])) rfl)) (fun v H2 H' dv => by rw [dv.bl_eq]; exact q H2)
end
end LR

set_option maxHeartbeats 0
namespace LR
open PySem PySem.Spec PyProof.Rows L2 Evl
theorem facts {P : Program} {w : World} {K : PySem.W.Frag} {h : Heap} {mg : Str → Option Value} {f : Addr} (X : K.In h) (G : h.Ns mainGlobals mg) (hfa : mg ("law" : Str) = some (.ref f)) (c : SaysA as fa fn tf ex ts w h K) :
    ∃ fd : FuncData, (∀ (s : Shared) (v : Value), BindsTo s fd ⟨[v], []⟩ [("script", v)]) ∧ ∀ base : Heap, K.In base → base.Ns mainGlobals mg → LamX.TabB base mg (He.codeOf K lawP) (He.tabOf K (He.codeOf K lawP)) → FnOk P w K mg base (CXL P w) 8 f fd ["script"] (spL K (lawT K)) := by
  have T : Txt mg := ⟨c.free X G 22 rfl, c.free X G 23 rfl, c.free X G 24 rfl, c.free X G 25 rfl, c.free X G 26 rfl, c.free X G 27 rfl, c.free X G 28 rfl, c.free X G 29 rfl, c.free X G 30 rfl, c.free X G 31 rfl, c.free X G 32 rfl, c.free X G 33 rfl, c.free X G 34 rfl, c.str X G 35 rfl, c.str X G 36 rfl, c.int X G 37 rfl, c.int X G 38 rfl, c.str X G 39 rfl, c.str X G 40 rfl, c.int X G 41 rfl, c.str X G 42 rfl, c.str X G 43 rfl, c.str X G 44 rfl, c.str X G 45 rfl⟩
  obtain ⟨fd_law_pick, F_law_pick⟩ := c.fnAt 15 (d := d_law_pick) rfl
  have m_law_pick := c.glo X G 15 (x := "_law_pick") rfl
  obtain ⟨fd_law_key, F_law_key⟩ := c.fnAt 16 (d := d_law_key) rfl
  have m_law_key := c.glo X G 16 (x := "_law_key") rfl
  obtain ⟨fd_law_value, F_law_value⟩ := c.fnAt 17 (d := d_law_value) rfl
  have m_law_value := c.glo X G 17 (x := "_law_value") rfl
  obtain ⟨fd_law_odd, F_law_odd⟩ := c.fnAt 20 (d := d_law_odd) rfl
  have m_law_odd := c.glo X G 20 (x := "_law_odd") rfl
  obtain ⟨fd_is_key, F_is_key⟩ := c.fnAt 0 (d := d_is_key) rfl
  have m_is_key := c.glo X G 0 (x := "is_key") rfl
  obtain ⟨fd_is_value, F_is_value⟩ := c.fnAt 1 (d := d_is_value) rfl
  have m_is_value := c.glo X G 1 (x := "is_value") rfl
  obtain ⟨fd_alike, F_alike⟩ := c.fnAt 2 (d := d_alike) rfl
  have m_alike := c.glo X G 2 (x := "alike") rfl
  obtain ⟨fd_packed, F_packed⟩ := c.fnAt 6 (d := d_packed) rfl
  have m_packed := c.glo X G 6 (x := "packed") rfl
  obtain ⟨fd_check_of, F_check_of⟩ := c.fnAt 3 (d := d_check_of) rfl
  have m_check_of := c.glo X G 3 (x := "check_of") rfl
  obtain ⟨fd_sealed, F_sealed⟩ := c.fnAt 4 (d := d_sealed) rfl
  have m_sealed := c.glo X G 4 (x := "sealed") rfl
  obtain ⟨fd_unsealed, F_unsealed⟩ := c.fnAt 5 (d := d_unsealed) rfl
  have m_unsealed := c.glo X G 5 (x := "unsealed") rfl
  obtain ⟨fd_are_entries, F_are_entries⟩ := c.fnAt 7 (d := d_are_entries) rfl
  have m_are_entries := c.glo X G 7 (x := "are_entries") rfl
  obtain ⟨fd_entries_text, F_entries_text⟩ := c.fnAt 8 (d := d_entries_text) rfl
  have m_entries_text := c.glo X G 8 (x := "entries_text") rfl
  obtain ⟨fd_leaf_text, F_leaf_text⟩ := c.fnAt 9 (d := d_leaf_text) rfl
  have m_leaf_text := c.glo X G 9 (x := "leaf_text") rfl
  obtain ⟨fd_unpacked, F_unpacked⟩ := c.fnAt 10 (d := d_unpacked) rfl
  have m_unpacked := c.glo X G 10 (x := "unpacked") rfl
  obtain ⟨fd_parts_of, F_parts_of⟩ := c.fnAt 11 (d := d_parts_of) rfl
  have m_parts_of := c.glo X G 11 (x := "parts_of") rfl
  obtain ⟨fd_entries_in, F_entries_in⟩ := c.fnAt 12 (d := d_entries_in) rfl
  have m_entries_in := c.glo X G 12 (x := "entries_in") rfl
  obtain ⟨fd_read_leaf, F_read_leaf⟩ := c.fnAt 13 (d := d_read_leaf) rfl
  have m_read_leaf := c.glo X G 13 (x := "read_leaf") rfl
  obtain ⟨fd_is_sound, F_is_sound⟩ := c.fnAt 14 (d := d_is_sound) rfl
  have m_is_sound := c.glo X G 14 (x := "is_sound") rfl
  obtain ⟨fd_law_told, F_law_told⟩ := c.fnAt 19 (d := d_law_told) rfl
  have m_law_told := c.glo X G 19 (x := "_law_told") rfl
  obtain ⟨fd_law_class, F_law_class⟩ := c.fnAt 18 (d := d_law_class) rfl
  have m_law_class := c.glo X G 18 (x := "_law_class") rfl
  obtain ⟨fd_law, F_law⟩ := c.fnAt 21 (d := d_law) rfl
  have m_law := c.glo X G 21 (x := "law") rfl
  have e := hfa.symm.trans m_law
  cases e
  obtain ⟨more0, more1⟩ := He.ba c.more
  have xt : ExT exNs K mg := exT_of X G more0
  have dv0 := more1
  have dk_SIGNS : DcT w K mg "SIGNS" kv_SIGNS := ⟨c.glo X G 46 rfl, c.tab 0 rfl dv0⟩
  refine ⟨fd_law, fun s v => FunD.bindsA (ps := ["script"]) F_law (fun _ _ _ _ _ _ us hl => match us, hl with | [_], _ => rfl) s [v] rfl, fun base _ _ TB => ?_⟩
  have g_law_pick := fx_law_pick (P := P) (w := w) (base := base) T F_law_pick m_law_pick 
  have g_law_key := fx_law_key (P := P) (w := w) (base := base) T F_law_key m_law_key g_law_pick
  have g_law_value := fx_law_value (P := P) (w := w) (base := base) T F_law_value m_law_value g_law_pick
  have g_law_odd := fx_law_odd (P := P) (w := w) (base := base) T F_law_odd m_law_odd g_law_pick
  have g_is_key := fx_is_key (P := P) (w := w) (base := base) T F_is_key m_is_key 
  have g_is_value := fx_is_value (P := P) (w := w) (base := base) T F_is_value m_is_value 
  have g_alike := fx_alike (P := P) (w := w) (base := base) T F_alike m_alike 
  have g_packed := fx_packed (P := P) (w := w) (base := base) T F_packed m_packed g_alike
  have g_check_of := fx_check_of (P := P) (w := w) (base := base) T F_check_of m_check_of 
  have g_sealed := fx_sealed (P := P) (w := w) (base := base) T F_sealed m_sealed g_check_of
  have g_unsealed := fx_unsealed (P := P) (w := w) (base := base) T xt F_unsealed m_unsealed g_check_of
  have g_are_entries := fx_are_entries (P := P) (w := w) (base := base) T F_are_entries m_are_entries g_is_key g_is_value
  have g_entries_text := fx_entries_text (P := P) (w := w) (base := base) T dk_SIGNS F_entries_text m_entries_text g_packed
  have g_leaf_text := fx_leaf_text (P := P) (w := w) (base := base) T xt F_leaf_text m_leaf_text g_are_entries g_entries_text g_sealed
  have g_unpacked := fx_unpacked (P := P) (w := w) (base := base) T xt F_unpacked m_unpacked 
  have g_parts_of := fx_parts_of (P := P) (w := w) (base := base) T xt F_parts_of m_parts_of 
  have g_entries_in := fx_entries_in (P := P) (w := w) (base := base) T xt F_entries_in m_entries_in g_parts_of g_unpacked g_are_entries g_entries_text
  have g_read_leaf := fx_read_leaf (P := P) (w := w) (base := base) T xt dk_SIGNS F_read_leaf m_read_leaf g_unsealed g_entries_in
  have g_is_sound := fx_is_sound (P := P) (w := w) (base := base) T xt F_is_sound m_is_sound g_unsealed
  exact ok_law T xt F_law TB F_law_told m_law_told F_law_class m_law_class g_law_pick g_law_key g_law_value g_law_odd g_leaf_text g_read_leaf g_sealed g_is_sound
end LR
open PySem PySem.W PySem.Calls PyProof.Rows
theorem PySem.Challenge.cw_leafroom_k05_whole_leaves_spoilt_holds : PySem.Challenge.rw_leafroom_k05_whole_leaves_spoilt.Holds := by
  w_on; o_law
  refine HandSHeadRun.head_any (r := OpenLaw.row PySem.Challenge.rw_leafroom_k05_whole_leaves_spoilt) (q := LR.qv) (H := LR.hk) (ob := LR.ob) (M := 20000) (loose := LR.nms) (d := HandSHeadRun.topDef (OpenLaw.row PySem.Challenge.rw_leafroom_k05_whole_leaves_spoilt).prog 52) (kwd := []) LR.ob_eq
    (by kernel_rfl) (fun s => by kernel_rfl) LR.run (by kernel_rfl) (by kernel_rfl) (by kernel_rfl) (by rfl) (by first | assumption | decide +kernel) (by decide +kernel) ⟨rfl, rfl, rfl, rfl, rfl, by decide +kernel⟩ ?hw ?hc
  case hw => w_witness2
  case hc =>
    refine LamX.walk_ofTsE (l := PySem.Challenge.rw_leafroom_k05_whole_leaves_spoilt) (n := 63) (k := 8) (x := "script") (CX := fun w => LR.CXL (PySem.Challenge.rw_leafroom_k05_whole_leaves_spoilt).prog w) rfl (by decide) (by kernel_rfl) ⟨rfl, by decide, by decide⟩ ?F (fun w H s e s' z => ?cx)
    case cx =>
      obtain ⟨_, _, _, _, _, _, _, _, _, _, _, _, y⟩ := z
      exact y
    case F =>
      intro w mg fa h Y G hmg0
      obtain ⟨K, KX, c⟩ := Y
      have hmg : mg ("law" : PySem.Str) = some (.ref fa) := by
        have e : (HandSHeadRun.topDef (OpenLaw.row PySem.Challenge.rw_leafroom_k05_whole_leaves_spoilt).prog 52).name = ("law" : PySem.Str) := by kernel_rfl
        rw [← e]
        exact hmg0
      obtain ⟨fd, hb, hF⟩ := LR.facts (P := (PySem.Challenge.rw_leafroom_k05_whole_leaves_spoilt).prog) (w := w) KX G hmg c
      have one : LR.lawP ∈ LR.tf := by decide
      refine ⟨K, KX, fd, [He.cT K LR.lawP], LR.spL K (LR.lawT K), fun p hp => ?_, fun p hp => ?_, fun p hp => ?_, hb, fun H a ns hl _ hT hS => ⟨a, ns, rfl, hl, hS, fun p hp => ?_, fun _ => rfl⟩, fun base k1 k2 k3 => hF base k1 k2 (k3 _ List.mem_cons_self)⟩
      · obtain rfl := List.mem_singleton.mp hp
        exact c.empty _ one
      · obtain rfl := List.mem_singleton.mp hp
        exact c.out _ one
      · obtain rfl := List.mem_singleton.mp hp
        exact PySem.W.codeHd_of_K KX (c.hd _ one)
      · obtain rfl := List.mem_singleton.mp hp
        exact LamX.TabS.nil (hT _ List.mem_cons_self)
