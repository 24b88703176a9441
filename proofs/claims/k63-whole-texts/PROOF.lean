import PyProof.Rows.All
import Wide.All
import OpenK.AllK
import Wide.FinOn
import KE.KStateDown
import Lean
import HandS.ForMost
import HandS.More
import HandS.WordsExc
import HandS.Defaults
import HandS.Head0
import HandS.Head1
import HandS.Head2
import HandS.HeadEnd
import HandS.HeadHook1
import HandS.HeadHook2
import HandS.HeadHook3
import HandS.HeadHook4
import HandS.Walk
import HandS.IsInst
import HandS.Evl
import HandS.StrMore
import HandS.TupAny
import HandS.TupMul
import HandS.TupLe
import HandS.Deep
import HandS.Zip
import HandS.Conv
import HandS.NoneIn
import HandS.Lambda
import HandS.HotCalls
import HandS.SuiteRaise
import HandS.ExcIs
import HandS.TryOnly
import HandS.ExcOwn
import HandS.CallRecv
import HandS.Codes
import HandS.SortInts
import HandS.SetKeys
import HandS.Strs
import HandS.DictComp
import HandS.ListItems
import HandS.WrittenGet
import HandS.Small
import HandS.Flow
import HandS.Style
import HandS.RaiseMore
import HandS.Wide
import HandS.EndTab
import HandS.HeadWalk
import HandS.SetFor
import HandS.Replace
import PyProof.Rows.SortShellAny
import PyProof.Draws
import KE.GoesZip
import KE.GoesMore
import HandS.MakeKwOnly
import HandS.CallSlots
import HandS.SetBool
import HandS.TupSets
import PyProof.SeqIndex
import PySem.Challenge.RW_leafroom_k63_whole_texts
set_option Elab.async false
set_option linter.all false
set_option maxRecDepth 100000
set_option maxHeartbeats 4000000
/-! ### a head by facts over a part of the heap that is named by its addresses (own work) -/
namespace LR
open PySem PySem.Spec PyProof.Rows L2
abbrev AlA : Type := Bool × List He.FnW × Bool
/-- what is looked at: the facts, the defs, and one more Bool -/
def okA (as : List Addr) (fa : List He.Fa) (g : Addr → Option Obj) : Bool := fa.all fun f => f.ok (He.frG g as)
def okD (as : List Addr) (fn : List He.DefD) (g : Addr → Option Obj) : Bool := fn.all fun d => d.ok (He.frG g as)
def fnA (as : List Addr) (fn : List He.DefD) (g : Addr → Option Obj) : List He.FnW := fn.map fun d => He.fnW (He.frG g as) d.at_
def emptyAt (g : Addr → Option Obj) (a : Addr) : Bool := match g a with
  | some o => He.emptyTab o
  | none => false
/-- the tables of code objects: empty, not among the addresses -/
def tabA (as : List Addr) (tf : List He.Defn) (g : Addr → Option Obj) : Bool := tf.all fun p => PySem.W.codeHdIn (He.frG g as) (He.cT (He.frG g as) p).1 (He.cT (He.frG g as) p).2 && (emptyAt g (He.cT (He.frG g as) p).2 && !(as.contains (He.cT (He.frG g as) p).2))
structure SaysA (as : List Addr) (fa : List He.Fa) (fn : List He.DefD) (tf : List He.Defn) (ex : PySem.W.Frag → Bool) (ts : List He.Tab) (w : World) (h : Heap) (K : PySem.W.Frag) : Prop where
  fact : ∀ f ∈ fa, f.ok K = true
  defs : ∀ d ∈ fn, d.ok K = true ∧ He.fnW K d.at_ = d.val
  more : ex K = true
  hd : ∀ p ∈ tf, PySem.W.codeHdIn K (He.cT K p).1 (He.cT K p).2 = true
  out : ∀ p ∈ tf, K.lookup (He.cT K p).2 = none
  empty : ∀ p ∈ tf, h.get? (He.cT K p).2 = some { cls := .none, data := .fields #[] }
  dic : ts.map (fun t => He.dicW K (t.1 K)) = ts.map fun t => some (He.keysIn w.params t.2)
abbrev ObA : Type := Bool × Bool × List He.FnW × Bool × List (Option (List (Option (Str × Int))))
/-- the top's dicts, as they stand -/
def dicA (as : List Addr) (ts : List He.Tab) (g : Addr → Option Obj) : List (Option (List (Option (Str × Int)))) := ts.map fun t => He.dicW (He.frG g as) (t.1 (He.frG g as))
def obsA (as : List Addr) (fa : List He.Fa) (fn : List He.DefD) (tf : List He.Defn) (ex : PySem.W.Frag → Bool) (ts : List He.Tab) (g : Addr → Option Obj) : ObA := (okA as fa g, okD as fn g, fnA as fn g, ex (He.frG g as) && tabA as tf g, dicA as ts g)
def valA (fn : List He.DefD) (ts : List He.Tab) (w : World) : ObA := (true, true, fn.map He.DefD.val, true, ts.map fun t => some (He.keysIn w.params t.2))
theorem frG_none {g : Addr → Option Obj} {a : Addr} : ∀ {as : List Addr}, as.contains a = false → (He.frG g as).lookup a = none
  | [], _ => rfl
  | b :: r, h => by
    have h2 : (a == b) = false ∧ r.contains a = false := by
      rw [List.contains_cons] at h
      exact Bool.or_eq_false_iff.mp h
    unfold He.frG
    rw [List.filterMap_cons]
    cases hb : g b with
    | none => exact frG_none h2.2
    | some o =>
      show (match a == b with | true => some o | false => (He.frG g r).lookup a) = none
      rw [h2.1]
      exact frG_none h2.2
theorem saysA_of {as : List Addr} {fa : List He.Fa} {fn : List He.DefD} {tf : List He.Defn} {ex : PySem.W.Frag → Bool} {ts : List He.Tab} {w : World} {h : Heap} (e : obsA as fa fn tf ex ts h.get? = valA fn ts w) : SaysA as fa fn tf ex ts w h (He.frG h.get? as) := by
  have e1 : okA as fa h.get? = true := congrArg (fun z : ObA => z.1) e
  have e2 : okD as fn h.get? = true := congrArg (fun z : ObA => z.2.1) e
  have e3 : fnA as fn h.get? = fn.map He.DefD.val := congrArg (fun z : ObA => z.2.2.1) e
  have e4 : (ex (He.frG h.get? as) && tabA as tf h.get?) = true := congrArg (fun z : ObA => z.2.2.2.1) e
  obtain ⟨e5, e6⟩ := He.ba e4
  have key : ∀ p ∈ tf, PySem.W.codeHdIn (He.frG h.get? as) (He.cT (He.frG h.get? as) p).1 (He.cT (He.frG h.get? as) p).2 = true ∧ emptyAt h.get? (He.cT (He.frG h.get? as) p).2 = true ∧ as.contains (He.cT (He.frG h.get? as) p).2 = false := fun p hp => by
    obtain ⟨a, b⟩ := He.ba (List.all_eq_true.mp e6 p hp)
    obtain ⟨b, c⟩ := He.ba b
    exact ⟨a, b, by simpa using c⟩
  refine ⟨fun f hf => List.all_eq_true.mp e1 f hf, fun d hd => ⟨List.all_eq_true.mp e2 d hd, ?_⟩, e5, fun p hp => (key p hp).1, fun p hp => frG_none (key p hp).2.2, fun p hp => ?_, congrArg (fun z : ObA => z.2.2.2.2) e⟩
  · obtain ⟨i, hi, rfl⟩ := List.mem_iff_getElem.mp hd
    have z : (fnA as fn h.get?)[i]? = (fn.map He.DefD.val)[i]? := by rw [e3]
    unfold fnA at z
    rw [List.getElem?_map, List.getElem?_map, List.getElem?_eq_getElem hi] at z
    exact Option.some.inj z
  · have b := (key p hp).2.1
    unfold emptyAt at b
    cases q : h.get? (He.cT (He.frG h.get? as) p).2 with
    | none =>
      rw [q] at b
      cases b
    | some o =>
      rw [q] at b
      rw [He.emptyTab_eq b]
def hookA (as : List Addr) (fa : List He.Fa) (fn : List He.DefD) (tf : List He.Defn) (ex : PySem.W.Frag → Bool) (ts : List He.Tab) : PySem.W.Hook where
  α := ObA
  obs := fun s => obsA as fa fn tf ex ts s.heap.get?
  val := fun w => valA fn ts w
  says := fun w h => ∃ K : PySem.W.Frag, K.In h ∧ SaysA as fa fn tf ex ts w h K
  of := fun _ _ e => ⟨_, He.frG_in, saysA_of e⟩
  keeps := fun _ _ _ ⟨K, hK, c⟩ k => ⟨K, PySem.W.Frag.In.keeps hK k, ⟨c.fact, c.defs, c.more, c.hd, c.out, fun p hp => k _ _ (c.empty p hp), c.dic⟩⟩
theorem obsA_eq {as : List Addr} {fa : List He.Fa} {fn : List He.DefD} {tf : List He.Defn} {ex : PySem.W.Frag → Bool} {ts : List He.Tab} {g : Addr → Option Obj} {s : Shared} (h : ∀ a, g a = s.heap.get? a) : obsA as fa fn tf ex ts g = (hookA as fa fn tf ex ts).obs s := by
  have e : g = s.heap.get? := funext h
  rw [e] <;> rfl
section
variable {as : List Addr} {fa : List He.Fa} {fn : List He.DefD} {tf : List He.Defn} {ex : PySem.W.Frag → Bool} {ts : List He.Tab} {w : World} {h : Heap} {K : PySem.W.Frag}
/-- d[k] of a dict of the top -/
theorem SaysA.tab (c : SaysA as fa fn tf ex ts w h K) (i : Nat) {t : He.Tab} (ht : ts[i]? = some t) {kvs : List (Str × He.Dv)} (hv : He.valsB K (t.1 K) kvs = true) : ∀ q ∈ kvs, KDct K w (t.1 K) q.1 (q.2.v K) := fun q hq => by
  have e2 : (ts.map fun t => He.dicW K (t.1 K))[i]? = (ts.map fun t => some (He.keysIn w.params t.2))[i]? := by rw [c.dic]
  rw [List.getElem?_map, List.getElem?_map, ht] at e2
  obtain ⟨es, n, hl, hk, _⟩ := He.dicW_ok (Option.some.inj e2)
  obtain ⟨u, hu, ru⟩ := He.valsB_ok hv hq
  exact ⟨es, n, u, hl, hk, hu, ru⟩
theorem SaysA.fnAt (c : SaysA as fa fn tf ex ts w h K) (i : Nat) {d : He.DefD} (hd : fn[i]? = some d) : ∃ fd, FunD K d.name d.qual d.params d.body d.scope (d.dvs K) (d.kws K) (He.fAd K d.at_) fd :=
  He.DefD.funD (c.defs d (List.mem_of_getElem? hd)).2 (c.defs d (List.mem_of_getElem? hd)).1
theorem SaysA.faAt (c : SaysA as fa fn tf ex ts w h K) (i : Nat) {f : He.Fa} (hf : fa[i]? = some f) : f.ok K = true := c.fact f (List.mem_of_getElem? hf)
theorem SaysA.free (c : SaysA as fa fn tf ex ts w h K) {mg : Str → Option Value} (X : K.In h) (G : h.Ns mainGlobals mg) (i : Nat) {x : Str} (hf : fa[i]? = some (.free x)) : mg x = none := He.free_ok X G (c.faAt i hf)
theorem SaysA.glo (c : SaysA as fa fn tf ex ts w h K) {mg : Str → Option Value} (X : K.In h) (G : h.Ns mainGlobals mg) (i : Nat) {x : Str} (hf : fa[i]? = some (.glo x)) : mg x = some (.ref (He.ga K x)) := He.glo_ok X G (c.faAt i hf)
theorem SaysA.int (c : SaysA as fa fn tf ex ts w h K) {mg : Str → Option Value} (X : K.In h) (G : h.Ns mainGlobals mg) (i : Nat) {x : Str} {z : Int} (hf : fa[i]? = some (.int x z)) : ∃ u, mg x = some u ∧ RelV (.int z) u := by
  obtain ⟨t, e⟩ := He.int_ok X G (c.faAt i hf)
  exact ⟨_, e, t, rfl⟩
theorem SaysA.str (c : SaysA as fa fn tf ex ts w h K) {mg : Str → Option Value} (X : K.In h) (G : h.Ns mainGlobals mg) (i : Nat) {x z : Str} (hf : fa[i]? = some (.str x z)) : ∃ u, mg x = some u ∧ RelV (.str z) u := by
  obtain ⟨t, e⟩ := He.str_ok X G (c.faAt i hf)
  exact ⟨_, e, t, rfl⟩
end
/-- the run in parts: each look by a kernel run of its own -/
theorem map_pair {α β γ : Type} {x : Option α} {f : α → β} {g : α → γ} {a : β} {b : γ} (h1 : x.map f = some a) (h2 : x.map g = some b) : x.map (fun s => (f s, g s)) = some (a, b) := by
  cases x with
  | none => cases h1
  | some s =>
    have e1 : f s = a := Option.some.inj h1
    have e2 : g s = b := Option.some.inj h2
    rw [← e1, ← e2] <;> rfl
end LR

/-! ### data: what pure code reckons (own work). H: what is known (a logical heap); the heap that runs is any that holds H -/
namespace LR
open PySem PySem.Spec PyProof.Rows L2 Evl
/-- H' is H with objects that are new (not in H1) -/
structure Ext (H H1 H' : Hp) : Prop where
  ex : Ex H H'
  fresh : ∀ b o, H' b = some o → H b = some o ∨ (H1 b = none ∧ ∀ ps, o ≠ .tbl ps)
theorem Ext.refl (H H1 : Hp) : Ext H H1 H := ⟨Ex.refl H, fun _ _ h => .inl h⟩
theorem Ext.trans {H H1 H' H2 H'' : Hp} (a : Ext H H1 H') (e : Ex H1 H2) (b : Ext H' H2 H'') : Ext H H1 H'' :=
  ⟨a.ex.trans b.ex, fun c o h => by
    rcases b.fresh c o h with z | z
    · exact a.fresh c o z
    · exact .inr ⟨fresh_back e z.1, z.2⟩⟩
theorem Ext.off {H H1 H' : Hp} (a : Ext H H1 H') {l : Addr} {o : HO} (h : H l = none) (h1 : H1 l = some o) : H' l = none := by
  cases q : H' l with
  | none => rfl
  | some u =>
    rcases a.fresh l u q with z | z
    · rw [h] at z
      cases z
    · rw [h1] at z
      cases z.1
theorem Ext.new {H H1 : Hp} {p : Addr} {o : HO} (e : Ex H H1) (h : H1 p = none) (ht : ∀ ps, o ≠ .tbl ps := by intro ps z; cases z) : Ext H H1 (upd H p o) :=
  ⟨Ex.new (fresh_back e h), fun b u q => by
    by_cases z : b = p
    · subst z
      rw [upd_same] at q
      cases q
      exact .inr ⟨h, ht⟩
    · rw [upd_ne z] at q
      exact .inl q⟩
/-- both heaps get the same new object -/
theorem ex_upd {H H1 : Hp} {p : Addr} {o : HO} (e : Ex H H1) : Ex (upd H p o) (upd H1 p o) := fun b u q => by
  by_cases z : b = p
  · subst z
    rw [upd_same] at q ⊢
    exact q
  · rw [upd_ne z] at q ⊢
    exact e b u q
/-- an object that H does not know is changed -/
theorem ex_off {H H1 : Hp} {p : Addr} {o : HO} (e : Ex H H1) (h : H p = none) : Ex H (upd H1 p o) := fun b u q => by
  rw [upd_ne (ne_of_none q h)]
  exact e b u q
/-! data at an address: lists that are tracked, tuples, numbers, texts -/
mutual
inductive Dt (K : PySem.W.Frag) (H : Hp) : V → PyData → Prop
  | non : Dt K H .non .none
  | bl (b : Bool) : Dt K H (.bl b) (.bool b)
  | int (i : Int) : Dt K H (.int i) (.int i)
  | str (x : Str) : Dt K H (.str x) (.str x)
  | lst {a : Addr} {xs : List V} {ds : List PyData} : H a = some (.lst xs) → DtAll K H xs ds → Dt K H (.ref a) (.list ds)
  | tup {a : Addr} {xs : List V} {ds : List PyData} : SqT K H a xs → DtAll K H xs ds → Dt K H (.ref a) (.tuple ds)
  /-- the law's script: a list that is read alone -/
  | scr {a : Addr} (ns : List Int) : SqL K H a (ns.map V.int) → Dt K H (.ref a) (.dict (ns.map fun i => (.int i, .none)))
inductive DtAll (K : PySem.W.Frag) (H : Hp) : List V → List PyData → Prop
  | nil : DtAll K H [] []
  | cons {v : V} {vs : List V} {d : PyData} {ds : List PyData} : Dt K H v d → DtAll K H vs ds → DtAll K H (v :: vs) (d :: ds)
end
section
variable {K : PySem.W.Frag} {H H' : Hp}
mutual
theorem Dt.ex (e : Ex H H') : ∀ {v : V} {d : PyData}, Dt K H v d → Dt K H' v d
  | _, _, .non => .non
  | _, _, .bl b => .bl b
  | _, _, .int i => .int i
  | _, _, .str x => .str x
  | _, _, .lst h r => .lst (e _ _ h) (DtAll.ex e r)
  | _, _, .tup h r => .tup (ex_t e h) (DtAll.ex e r)
  | _, _, .scr ns h => .scr ns (ex_l e h)
theorem DtAll.ex (e : Ex H H') : ∀ {vs : List V} {ds : List PyData}, DtAll K H vs ds → DtAll K H' vs ds
  | _, _, .nil => .nil
  | _, _, .cons a b => .cons (Dt.ex e a) (DtAll.ex e b)
end
mutual
theorem Dt.dp : ∀ {v : V} {d : PyData}, Dt K H v d → d.canLay0 = true → L2.Dp K H v d
  | _, _, .non, _ => .non
  | _, _, .bl b, _ => .bl b
  | _, _, .int i, _ => .int i
  | _, _, .str x, _ => .str x
  | _, _, .lst h r, c => .lst (sq_of h) (DtAll.dp r (by simpa [PyData.canLay0] using c))
  | _, _, .tup h r, c => .tup h (DtAll.dp r (by simpa [PyData.canLay0] using c))
  | _, _, .scr _ _, c => by simp [PyData.canLay0] at c
theorem DtAll.dp : ∀ {vs : List V} {ds : List PyData}, DtAll K H vs ds → PyData.canLayAll0 ds = true → L2.DpAll K H vs ds
  | _, _, .nil, _ => .nil
  | _, _, .cons a b, c => by
    simp only [PyData.canLayAll0, Bool.and_eq_true] at c
    exact .cons (Dt.dp a c.1) (DtAll.dp b c.2)
end
/-- the script as data -/
def scrD (ns : List Int) : PyData := .dict (ns.map fun i => (.int i, .none))
theorem scr_map_inj : ∀ {ns ms : List Int}, ns.map (fun i => ((.int i, .none) : PyData × PyData)) = ms.map (fun i => (.int i, .none)) → ns = ms
  | [], [], _ => rfl
  | [], _ :: _, h => by cases h
  | _ :: _, [], h => by cases h
  | a :: r, b :: q, h => by
    rw [List.map_cons, List.map_cons] at h
    injection h with h1 h2
    injection h1 with h3 _
    injection h3 with h4
    rw [h4, scr_map_inj h2]
theorem Dt.scr_eq {v : V} {ns : List Int} (h : Dt K H v (scrD ns)) : ∃ a, v = .ref a ∧ SqL K H a (ns.map V.int) := by
  unfold scrD at h
  generalize e : (PyData.dict (ns.map fun i => (.int i, .none))) = d at h
  cases h with
  | scr ms h =>
    injection e with e
    rw [scr_map_inj e]
    exact ⟨_, rfl, h⟩
  | _ => cases e
theorem DtAll.length : ∀ {vs : List V} {ds : List PyData}, DtAll K H vs ds → vs.length = ds.length
  | _, _, .nil => rfl
  | _, _, .cons _ b => congrArg Nat.succ (DtAll.length b)
theorem DtAll.get : ∀ {vs : List V} {ds : List PyData} {i : Nat} {d : PyData}, DtAll K H vs ds → ds[i]? = some d → ∃ v, vs[i]? = some v ∧ Dt K H v d
  | _, _, _, _, .nil, e => by simp at e
  | _, _, 0, _, .cons a _, e => by
    simp at e
    subst e
    exact ⟨_, rfl, a⟩
  | _, _, i + 1, d, .cons _ b, e => by
    obtain ⟨v, h1, h2⟩ := DtAll.get (i := i) (d := d) b (by simpa using e)
    exact ⟨v, by simpa using h1, h2⟩
theorem DtAll.get' {vs : List V} {ds : List PyData} {i : Nat} {v : V} (h : DtAll K H vs ds) (e : vs[i]? = some v) : ∃ d, ds[i]? = some d ∧ Dt K H v d := by
  have hl : i < ds.length := by rw [← h.length]; exact (List.getElem?_eq_some_iff.mp e).1
  obtain ⟨w, h1, h2⟩ := h.get (i := i) (d := ds[i]) (List.getElem?_eq_getElem hl)
  rw [e] at h1
  cases h1
  exact ⟨_, List.getElem?_eq_getElem hl, h2⟩
theorem DtAll.append : ∀ {vs ws : List V} {ds es : List PyData}, DtAll K H vs ds → DtAll K H ws es → DtAll K H (vs ++ ws) (ds ++ es)
  | _, _, _, _, .nil, b => b
  | _, _, _, _, .cons a r, b => .cons a (DtAll.append r b)
theorem DtAll.take : ∀ {vs : List V} {ds : List PyData} (n : Nat), DtAll K H vs ds → DtAll K H (vs.take n) (ds.take n)
  | _, _, 0, _ => .nil
  | _, _, _ + 1, .nil => .nil
  | _, _, n + 1, .cons a r => .cons a (DtAll.take n r)
theorem DtAll.drop : ∀ {vs : List V} {ds : List PyData} (n : Nat), DtAll K H vs ds → DtAll K H (vs.drop n) (ds.drop n)
  | _, _, 0, r => r
  | _, _, _ + 1, .nil => .nil
  | _, _, n + 1, .cons _ r => DtAll.drop n r
/-- what is a whole number, a text .. stands alone -/
theorem Dt.int_eq {v : V} {i : Int} (h : Dt K H v (.int i)) : v = .int i := by cases h; rfl
theorem Dt.str_eq {v : V} {x : Str} (h : Dt K H v (.str x)) : v = .str x := by cases h; rfl
theorem Dt.bl_eq {v : V} {b : Bool} (h : Dt K H v (.bool b)) : v = .bl b := by cases h; rfl
theorem Dt.non_eq {v : V} (h : Dt K H v .none) : v = .non := by cases h; rfl
theorem Dt.tup_eq {v : V} {ds : List PyData} (h : Dt K H v (.tuple ds)) : ∃ a xs, v = .ref a ∧ SqT K H a xs ∧ DtAll K H xs ds := by
  cases h with
  | tup h r => exact ⟨_, _, rfl, h, r⟩
theorem Dt.lst_eq {v : V} {ds : List PyData} (h : Dt K H v (.list ds)) : ∃ a xs, v = .ref a ∧ H a = some (.lst xs) ∧ DtAll K H xs ds := by
  cases h with
  | lst h r => exact ⟨_, _, rfl, h, r⟩
theorem dp_strs : ∀ (l : List Str), DtAll K H (l.map V.str) (l.map PyData.str)
  | [] => .nil
  | x :: r => .cons (.str x) (dp_strs r)
theorem dp_ints : ∀ (l : List Int), DtAll K H (l.map V.int) (l.map PyData.int)
  | [] => .nil
  | x :: r => .cons (.int x) (dp_ints r)
theorem strs_dp : ∀ {l : List Str} {vs : List V}, DtAll K H vs (l.map PyData.str) → vs = l.map V.str
  | [], _, .nil => rfl
  | x :: r, _, .cons a b => by rw [a.str_eq, strs_dp b]; rfl
theorem ints_dp : ∀ {l : List Int} {vs : List V}, DtAll K H vs (l.map PyData.int) → vs = l.map V.int
  | [], _, .nil => rfl
  | x :: r, _, .cons a b => by rw [a.int_eq, ints_dp b]; rfl
theorem bls_dp : ∀ {l : List Bool} {vs : List V}, DtAll K H vs (l.map PyData.bool) → vs = l.map V.bl
  | [], _, .nil => rfl
  | x :: r, _, .cons a b => by rw [a.bl_eq, bls_dp b]; rfl
end

/-! ### what evaluates to data -/
/-- two heaps as one -/
def unH (A B : Hp) : Hp := fun b => match A b with
  | some o => some o
  | none => B b
theorem unH_l {A B : Hp} {b : Addr} {o : HO} (h : A b = some o) : unH A B b = some o := by
  unfold unH
  rw [h]
theorem unH_r {A B : Hp} {b : Addr} (h : A b = none) : unH A B b = B b := by
  unfold unH
  rw [h]
theorem unH_ex {A B H2 : Hp} (ea : Ex A H2) (eb : Ex B H2) : Ex (unH A B) H2 := fun b o hb => by
  cases z : A b with
  | some u =>
    rw [unH_l z] at hb
    cases hb
    exact ea b _ z
  | none =>
    rw [unH_r z] at hb
    exact eb b o hb
theorem ex_unH {A B H2 : Hp} (ea : Ex A H2) (eb : Ex B H2) : Ex B (unH A B) := fun b o hb => by
  cases z : A b with
  | some u =>
    have h1 := ea b _ z
    rw [eb b o hb] at h1
    cases h1
    exact unH_l z
  | none =>
    rw [unH_r z]
    exact hb
theorem ext_unH {A B H H1 : Hp} (e : Ex H A) (x : Ext H H1 B) : Ext A H1 (unH A B) := ⟨fun b o hb => unH_l hb, fun b o hb => by
  cases z : A b with
  | some u =>
    rw [unH_l z] at hb
    exact .inl hb
  | none =>
    rw [unH_r z] at hb
    rcases x.fresh b o hb with y | y
    · rw [e b o y] at z
      cases z
    · exact .inr y⟩
/-- what follows an evaluation: the heap has grown, H' holds the answer -/
abbrev KD (K : PySem.W.Frag) (H H1 : Hp) (d : PyData) (Q : VK) : Prop := ∀ v H2 H', Ex H1 H2 → Ex H' H2 → Ext H H1 H' → Dt K H' v d → Q v H2
def EvD (K : PySem.W.Frag) (te : TE) (σ : L2.St) (H : Hp) (d : PyData) : Prop := ∀ H1, Ex H H1 → ∀ Q : VK, KD K H H1 d Q → te σ H1 Q
def EvB (tt : TT) (σ : L2.St) (H : Hp) (b : Bool) : Prop := ∀ H1, Ex H H1 → ∀ Q : Bool → Hp → Prop, (∀ H2, Ex H1 H2 → Q b H2) → tt σ H1 Q
def EvDs (K : PySem.W.Frag) (ta : TA) (σ : L2.St) (H : Hp) (ds : List PyData) : Prop := ∀ H1, Ex H H1 → ∀ Q : List V → Hp → Prop, (∀ vs H2 H', Ex H1 H2 → Ex H' H2 → Ext H H1 H' → DtAll K H' vs ds → Q vs H2) → ta σ H1 Q
/-- a slot's part -/
def EvO (to : TO) (σ : L2.St) (H : Hp) (o : Option Int) : Prop := ∀ H1, Ex H H1 → ∀ Q : Option Int → Hp → Prop, (∀ H2, Ex H1 H2 → Q o H2) → to σ H1 Q
/-- an operation on data -/
def RD2 (K : PySem.W.Frag) (r : R2) (d e : PyData) (H : Hp) (z : PyData) : Prop := ∀ H' x y, Ex H H' → Dt K H' x d → Dt K H' y e → ∀ H1, Ex H' H1 → ∀ Q : VK, KD K H' H1 z Q → r x y H1 Q
def RDU (K : PySem.W.Frag) (r : V → Hp → VK → Prop) (d : PyData) (H : Hp) (z : PyData) : Prop := ∀ H' x, Ex H H' → Dt K H' x d → ∀ H1, Ex H' H1 → ∀ Q : VK, KD K H' H1 z Q → r x H1 Q
def RDC (K : PySem.W.Frag) (r : List V → Hp → VK → Prop) (ds : List PyData) (H : Hp) (z : PyData) : Prop := ∀ H' vs, Ex H H' → DtAll K H' vs ds → ∀ H1, Ex H' H1 → ∀ Q : VK, KD K H' H1 z Q → r vs H1 Q
section
variable {K : PySem.W.Frag} {σ : L2.St} {H H' H1 : Hp} {ta tb te tc : TE} {t u : TT} {d e z : PyData}
theorem KD.now {v : V} {Q : VK} (q : KD K H H1 d Q) (e : Ex H H1) (h : Dt K H v d) : Q v H1 := q v H1 H (Ex.refl _) e (Ext.refl _ _) h
/-- a new object is laid: the answer -/
theorem KD.new {p : Addr} {o : HO} {Q : VK} (q : KD K H H1 d Q) (e : Ex H H1) (h : H1 p = none) (hd : Dt K (upd H p o) (.ref p) d) (ht : ∀ ps, o ≠ .tbl ps := by intro ps z; cases z) : Q (.ref p) (upd H1 p o) :=
  q _ _ (upd H p o) (Ex.new h) (ex_upd e) (Ext.new e h ht) hd
theorem EvD.mono (h : EvD K te σ H d) (e : Ex H H') : EvD K te σ H' d := fun H1 e1 Q q => h H1 (e.trans e1) Q fun v H2 H'' e2 e3 x hd =>
  q v H2 (unH H' H'') e2 (unH_ex (e1.trans e2) e3) (ext_unH e x) (Dt.ex (ex_unH (e1.trans e2) e3) hd)
theorem EvB.mono {b : Bool} (h : EvB t σ H b) (e : Ex H H') : EvB t σ H' b := fun H1 e1 Q q => h H1 (e.trans e1) Q q
theorem EvDs.mono {ta : TA} {ds : List PyData} (h : EvDs K ta σ H ds) (e : Ex H H') : EvDs K ta σ H' ds := fun H1 e1 Q q => h H1 (e.trans e1) Q fun v H2 H'' e2 e3 x hd =>
  q v H2 (unH H' H'') e2 (unH_ex (e1.trans e2) e3) (ext_unH e x) (DtAll.ex (ex_unH (e1.trans e2) e3) hd)
theorem ed_var {i : Nat} {v : V} (h : σ[i]? = some (some v)) (hd : Dt K H v d) : EvD K (tVar i) σ H d := fun H1 e Q q => ⟨v, h, KD.now q e hd⟩
theorem ed_c {v : V} (hd : Dt K H v d) : EvD K (tC v) σ H d := fun H1 e Q q => KD.now q e hd
theorem ed_op {r : R2} (ha : EvD K ta σ H d) (hb : EvD K tb σ H e) (hr : RD2 K r d e H z) : EvD K (tOp r ta tb) σ H z := fun H1 e1 Q q =>
  ha H1 e1 _ fun x H2 Ha e2 ea xa da => (hb.mono xa.ex) H2 ea _ fun y H3 Hb e3 eb xb db => hr Hb x y (xa.ex.trans xb.ex) (Dt.ex xb.ex da) db H3 eb Q fun v H4 Hc e4 ec xc dc =>
    q v H4 Hc ((e2.trans e3).trans e4) ec ((xa.trans e2 xb).trans (e2.trans e3) xc) dc
theorem ed_un {r : V → Hp → VK → Prop} (ha : EvD K ta σ H d) (hr : RDU K r d H z) : EvD K (tUn r ta) σ H z := fun H1 e1 Q q =>
  ha H1 e1 _ fun x H2 Ha e2 ea xa da => hr Ha x xa.ex da H2 ea Q fun v H4 Hc e4 ec xc dc => q v H4 Hc (e2.trans e4) ec (xa.trans e2 xc) dc
theorem ed_cb {r : List V → Hp → VK → Prop} {ta : TA} {ds : List PyData} (ha : EvDs K ta σ H ds) (hr : RDC K r ds H z) : EvD K (tCB r ta) σ H z := fun H1 e1 Q q =>
  ha H1 e1 _ fun x H2 Ha e2 ea xa da => hr Ha x xa.ex da H2 ea Q fun v H4 Hc e4 ec xc dc => q v H4 Hc (e2.trans e4) ec (xa.trans e2 xc) dc
theorem eds_nil : EvDs K tNil σ H [] := fun H1 e Q q => q [] H1 H (Ex.refl _) e (Ext.refl _ _) .nil
theorem eds_cons {tr : TA} {ds : List PyData} (ha : EvD K ta σ H d) (hr : EvDs K tr σ H ds) : EvDs K (tCons ta tr) σ H (d :: ds) := fun H1 e1 Q q =>
  ha H1 e1 _ fun x H2 Ha e2 ea xa da => (hr.mono xa.ex) H2 ea _ fun ys H3 Hb e3 eb xb db => q (x :: ys) H3 Hb (e2.trans e3) eb (xa.trans e2 xb) (.cons (Dt.ex xb.ex da) db)
theorem ed_tup {ta : TA} {ds : List PyData} (ha : EvDs K ta σ H ds) (hl : ds.length ≤ 100000) : EvD K (tTup ta) σ H (.tuple ds) := fun H1 e1 Q q =>
  ha H1 e1 _ fun xs H2 Ha e2 ea xa da => ⟨by rw [da.length]; exact sz_of hl, fun p hp => q _ _ (upd Ha p (.tup xs)) (e2.trans (Ex.new hp)) (ex_upd ea) (xa.trans e2 (Ext.new ea hp)) (.tup (st_of upd_same) (DtAll.ex (Ex.new (fresh_back ea hp)) da))⟩
theorem ed_lst {ta : TA} {ds : List PyData} (ha : EvDs K ta σ H ds) (hl : ds.length ≤ 100000) : EvD K (tLst ta) σ H (.list ds) := fun H1 e1 Q q =>
  ha H1 e1 _ fun xs H2 Ha e2 ea xa da => ⟨by rw [da.length]; exact sz_of hl, fun p hp => q _ _ (upd Ha p (.lst xs)) (e2.trans (Ex.new hp)) (ex_upd ea) (xa.trans e2 (Ext.new ea hp)) (.lst upd_same (DtAll.ex (Ex.new (fresh_back ea hp)) da))⟩
theorem ed_is {w : PyData} (h : EvD K te σ H d) (e : d = w) : EvD K te σ H w := e ▸ h
/-! tests -/
theorem eb_test {b : Bool} (h : EvD K te σ H (.bool b)) : EvB (tTest te) σ H b := fun H1 e _ q => h H1 e _ fun v H2 _ e2 _ _ dv => ⟨b, dv.bl_eq, q H2 e2⟩
theorem eb_B {b : Bool} (h : EvD K te σ H (.bool b)) : EvB (tB te) σ H b := fun H1 e _ q => h H1 e _ fun v H2 _ e2 _ _ dv => ⟨b, dv.bl_eq, q H2 e2⟩
theorem eb_and {a b : Bool} (h1 : EvB t σ H a) (h2 : a = true → EvB u σ H b) : EvB (tAnd t u) σ H (a && b) := fun H1 e Q q => h1 H1 e _ fun H2 e2 => by
  cases a with
  | true => exact h2 rfl H2 (e.trans e2) Q fun H3 e3 => q H3 (e2.trans e3)
  | false => exact q H2 e2
theorem eb_or {a b : Bool} (h1 : EvB t σ H a) (h2 : a = false → EvB u σ H b) : EvB (tOr t u) σ H (a || b) := fun H1 e Q q => h1 H1 e _ fun H2 e2 => by
  cases a with
  | true => exact q H2 e2
  | false => exact h2 rfl H2 (e.trans e2) Q fun H3 e3 => q H3 (e2.trans e3)
theorem eb_not {a : Bool} (h1 : EvB t σ H a) : EvB (tNot t) σ H (!a) := fun H1 e _ q => h1 H1 e _ fun H2 e2 => q H2 e2
theorem eb_is {a b : Bool} (h : EvB t σ H a) (e : a = b) : EvB t σ H b := e ▸ h
theorem ed_and {a b : Bool} (h1 : EvD K ta σ H (.bool a)) (h2 : a = true → EvD K tb σ H (.bool b)) : EvD K (tAndV ta tb) σ H (.bool (a && b)) := fun H1 e Q q => h1 H1 e _ fun v H2 Ha e2 ea xa dv => ⟨a, dv.bl_eq, by
  cases a with
  | true => exact (h2 rfl).mono xa.ex H2 ea Q fun v H3 Hb e3 eb xb db => q v H3 Hb (e2.trans e3) eb (xa.trans e2 xb) db
  | false => exact q _ H2 Ha e2 ea xa (.bl false)⟩
theorem ed_or {a b : Bool} (h1 : EvD K ta σ H (.bool a)) (h2 : a = false → EvD K tb σ H (.bool b)) : EvD K (tOrV ta tb) σ H (.bool (a || b)) := fun H1 e Q q => h1 H1 e _ fun v H2 Ha e2 ea xa dv => ⟨a, dv.bl_eq, by
  cases a with
  | true => exact q _ H2 Ha e2 ea xa (.bl true)
  | false => exact (h2 rfl).mono xa.ex H2 ea Q fun v H3 Hb e3 eb xb db => q v H3 Hb (e2.trans e3) eb (xa.trans e2 xb) db⟩
theorem ed_not {a : Bool} (h1 : EvD K ta σ H (.bool a)) : EvD K (tNotV ta) σ H (.bool (!a)) := fun H1 e Q q => h1 H1 e _ fun v H2 Ha e2 ea xa dv => ⟨a, dv.bl_eq, q _ H2 Ha e2 ea xa (.bl _)⟩
theorem ed_if {b : Bool} (h : EvB t σ H b) (h1 : b = true → EvD K ta σ H d) (h2 : b = false → EvD K tb σ H d) : EvD K (tIf t ta tb) σ H d := fun H1 e Q q => h H1 e _ fun H2 e2 => by
  cases b with
  | true => exact h1 rfl H2 (e.trans e2) Q fun v H3 Hb e3 eb xb db => q v H3 Hb (e2.trans e3) eb ⟨xb.ex, fun b o hb => (xb.fresh b o hb).imp id fun z => ⟨fresh_back e2 z.1, z.2⟩⟩ db
  | false => exact h2 rfl H2 (e.trans e2) Q fun v H3 Hb e3 eb xb db => q v H3 Hb (e2.trans e3) eb ⟨xb.ex, fun b o hb => (xb.fresh b o hb).imp id fun z => ⟨fresh_back e2 z.1, z.2⟩⟩ db
/-- a < b < c -/
theorem ed_chain {r r' : R2} {a b : Bool} {f : PyData} (ha : EvD K ta σ H d) (hb : EvD K tb σ H e) (hr : RD2 K r d e H (.bool a)) (hc : a = true → EvD K tc σ H f) (hr' : a = true → RD2 K r' e f H (.bool b)) : EvD K (tChain r r' ta tb tc) σ H (.bool (a && b)) := fun H1 e1 Q q =>
  ha H1 e1 _ fun x H2 Ha e2 ea xa da => (hb.mono xa.ex) H2 ea _ fun y H3 Hb e3 eb xb db => hr Hb x y (xa.ex.trans xb.ex) (Dt.ex xb.ex da) db H3 eb _ fun v H4 Hc e4 ec xc dc => ⟨a, dc.bl_eq, by
    cases a with
    | true => exact ((hc rfl).mono ((xa.ex.trans xb.ex).trans xc.ex)) H4 ec _ fun z H5 Hd e5 ed xd dd => hr' rfl Hd y z (((xa.ex.trans xb.ex).trans xc.ex).trans xd.ex) (Dt.ex (xc.ex.trans xd.ex) db) dd H5 ed Q fun v H6 He e6 ee xe de => q v H6 He ((((e2.trans e3).trans e4).trans e5).trans e6) ee ((((xa.trans e2 xb).trans (e2.trans e3) xc).trans ((e2.trans e3).trans e4) xd).trans (((e2.trans e3).trans e4).trans e5) xe) de
    | false => exact q _ H4 Hc ((e2.trans e3).trans e4) ec ((xa.trans e2 xb).trans (e2.trans e3) xc) (.bl false)⟩
end
end LR

/-! ### operations on data (own work) -/
namespace LR
open PySem PySem.Spec PyProof.Rows L2 Evl
section
variable {X : Cx}
/-! text times a number -/
def rRepS : R2 := fun x y H Q => ∃ (z : Str) (k : Int), x = .str z ∧ y = .int k ∧ -(2 ^ 60) ≤ k ∧ k ≤ 1000 ∧ z.length ≤ 1000 ∧ Q (.str ⟨(List.replicate k.toNat z.cps.toList).flatten.toArray⟩) H
theorem foldl_app (l : List (Array Nat)) : ∀ a : Array Nat, l.foldl (· ++ ·) a = (a.toList ++ (l.map Array.toList).flatten).toArray := by
  induction l with
  | nil => intro a; simp
  | cons x r ih =>
    intro a
    rw [List.foldl_cons, ih, List.map_cons, List.flatten_cons]
    apply Array.toList_inj.mp
    simp
theorem op_repS : OpR X (binaryOp .Mult) rRepS := by
  intro pins s σ H x y v u Q I rx ry h
  obtain ⟨z, k, rfl, rfl, h1, h2, h3, q⟩ := h
  obtain ⟨t, rfl⟩ := rx
  obtain ⟨t', rfl⟩ := ry
  have e0 : ∀ m : Nat, (List.replicate m z.cps).foldl (· ++ ·) #[] = (List.replicate m z.cps.toList).flatten.toArray := fun m => by
    rw [foldl_app]
    simp
  refine PySem.P.mul_str ?_ (fun a b => ?_) (fun a b => ?_) ?_
  · have a1 : ¬ k < -(2 ^ 63) := by omega
    have a2 : ¬ k ≥ 2 ^ 63 := by omega
    rw [decide_eq_false a1, decide_eq_false a2]
    rfl
  · have : (2 ^ 63 - 1) / k ≥ 1000 := by
      have : (1000 : Int) * k ≤ 2 ^ 63 - 1 := by omega
      exact (Int.le_ediv_iff_mul_le (by omega)).mpr this
    omega
  · have hk : k.toNat ≤ 1000 := by omega
    have : z.length * k.toNat ≤ 1000 * 1000 := Nat.mul_le_mul h3 hk
    unfold Builtin.Str.tooLong
    simp only [decide_eq_false_iff_not, Nat.not_lt, gt_iff_lt]
    exact Nat.le_trans this (by decide)
  · by_cases c1 : k < 1
    · rw [if_pos c1]
      have e1 : k.toNat = 0 := by omega
      rw [e1] at q
      exact ⟨by decide, .str Str.empty, H, I.tok _, ⟨_, rfl⟩, q⟩
    · rw [if_neg c1]
      by_cases c2 : (k == 1 || z.length == 0) = true
      · rw [if_pos c2]
        have e1 : (⟨(List.replicate k.toNat z.cps.toList).flatten.toArray⟩ : Str) = z := by
          apply Str.ext'
          rcases Bool.or_eq_true_iff.mp c2 with c | c
          · have : k = 1 := by simpa using c
            subst this
            simp
          · have hz : z.cps = #[] := by
              have : z.cps.size = 0 := by simpa [Str.length] using c
              exact Array.eq_empty_of_size_eq_zero this
            rw [hz]
            simp
        rw [e1] at q
        exact ⟨.str z, H, I, ⟨_, rfl⟩, q⟩
      · rw [if_neg c2]
        rw [← e0] at q
        refine ⟨?_, .str _, H, I.tok _, ⟨_, rfl⟩, q⟩
        have hk : k.toNat ≤ 1000 := by omega
        have h5 : z.length * k.toNat ≤ 1000 * 1000 := Nat.mul_le_mul h3 hk
        rw [e0]
        have h6 : (⟨(List.replicate k.toNat z.cps.toList).flatten.toArray⟩ : Str).length = z.length * k.toNat := by
          simp [Str.length, Nat.mul_comm]
        rw [h6]
        exact Nat.le_trans h5 (by decide)
/-! the universal operators -/
def rAddU (K : PySem.W.Frag) : R2 := fun x y H Q => (rI0 fun i j => .int (i + j)) x y H Q ∨ ((∃ i j, x = .str i ∧ y = .str j ∧ i.length + j.length ≤ sizeLine ∧ Q (.str (i ++ j)) H) ∨ (rCat x y H Q ∨ rCatA K x y H Q))
theorem op_addU : OpR X (binaryOp .Add) (rAddU X.K) := op_add.or (op_add_str.or (op_cat.or op_catA))
def rMulU (K : PySem.W.Frag) : R2 := fun x y H Q => (rI CMul fun i j => .int (i * j)) x y H Q ∨ (rRepS x y H Q ∨ (rRep x y H Q ∨ rRepT K x y H Q))
theorem op_mulU : OpR X (binaryOp .Mult) (rMulU X.K) := op_mul.or (op_repS.or (op_rep.or op_repT))
def rEqU (K : PySem.W.Frag) : R2 := fun x y H Q => rEq x y H Q ∨ rEqD K x y H Q
theorem op_eqU (hu : X.A.units + 64 < cLine) : OpR X (compareOp .Eq) (rEqU X.K) := op_eq.or (op_eqD hu)
def rNeU (K : PySem.W.Frag) : R2 := fun x y H Q => rNe x y H Q ∨ rNeD K x y H Q
theorem op_neU (hu : X.A.units + 64 < cLine) : OpR X (compareOp .NotEq) (rNeU X.K) := op_ne.or (op_neD hu)
def rLtU : R2 := fun x y H Q => (rI0 fun i j => .bl (decide (i < j))) x y H Q ∨ (∃ i j, x = .str i ∧ y = .str j ∧ Q (.bl (decide (i.cps.toList < j.cps.toList))) H)
theorem op_ltU : OpR X (compareOp .Lt) rLtU := op_lt.or op_lt_str
end
section
variable {K : PySem.W.Frag} {H : Hp}
/-- a value that needs no new object -/
theorem KD.val {d : PyData} {v : V} {H1 : Hp} {Q : VK} (q : KD K H H1 d Q) (e : Ex H H1) (h : ∀ H, Dt K H v d) : Q v H1 := q v H1 H (Ex.refl _) e (Ext.refl _ _) (h H)
theorem rd_I0 {g : Int → Int → Int} {i j : Int} : RD2 K (rI0 fun i j => .int (g i j)) (.int i) (.int j) H (.int (g i j)) := fun H' x y _ dx dy H1 e1 Q q =>
  ⟨i, j, dx.int_eq, dy.int_eq, q.val e1 fun _ => .int _⟩
theorem rd_IB {g : Int → Int → Bool} {i j : Int} : RD2 K (rI0 fun i j => .bl (g i j)) (.int i) (.int j) H (.bool (g i j)) := fun H' x y _ dx dy H1 e1 Q q =>
  ⟨i, j, dx.int_eq, dy.int_eq, q.val e1 fun _ => .bl _⟩
theorem rd_I {C : Int → Int → Prop} {g : Int → Int → Int} {i j : Int} (hc : C i j) : RD2 K (rI C fun i j => .int (g i j)) (.int i) (.int j) H (.int (g i j)) := fun H' x y _ dx dy H1 e1 Q q =>
  ⟨i, j, dx.int_eq, dy.int_eq, hc, q.val e1 fun _ => .int _⟩
theorem rd_addI {i j : Int} : RD2 K (rAddU K) (.int i) (.int j) H (.int (i + j)) := fun H' x y e dx dy H1 e1 Q q => .inl (rd_I0 (g := fun i j => i + j) H' x y e dx dy H1 e1 Q q)
theorem rd_addS {a b : Str} (h : a.length + b.length ≤ sizeLine) : RD2 K (rAddU K) (.str a) (.str b) H (.str (a ++ b)) := fun H' x y _ dx dy H1 e1 Q q =>
  .inr (.inl ⟨a, b, dx.str_eq, dy.str_eq, h, q.val e1 fun _ => .str _⟩)
theorem rd_addL {ds es : List PyData} (h : ds.length + es.length ≤ 100000) : RD2 K (rAddU K) (.list ds) (.list es) H (.list (ds ++ es)) := fun H' x y _ dx dy H1 e1 Q q => by
  obtain ⟨a, xs, rfl, ha, ra⟩ := dx.lst_eq
  obtain ⟨b, ys, rfl, hb, rb⟩ := dy.lst_eq
  refine .inr (.inr (.inl ⟨a, b, xs, ys, rfl, rfl, e1 a _ ha, e1 b _ hb, ?_, fun p hp => ?_⟩))
  · rw [ra.length, rb.length]
    exact sz_of h
  · exact q.new e1 hp (.lst upd_same (DtAll.ex (Ex.new (fresh_back e1 hp)) (ra.append rb)))
theorem rd_addT {ds es : List PyData} (h : ds.length + es.length ≤ 100000) : RD2 K (rAddU K) (.tuple ds) (.tuple es) H (.tuple (ds ++ es)) := fun H' x y _ dx dy H1 e1 Q q => by
  obtain ⟨a, xs, rfl, ha, ra⟩ := dx.tup_eq
  obtain ⟨b, ys, rfl, hb, rb⟩ := dy.tup_eq
  refine .inr (.inr (.inr ⟨a, b, xs, ys, rfl, rfl, ex_t e1 ha, ex_t e1 hb, ?_, fun z => ?_, fun z1 z2 => ?_, fun _ _ p hp => ?_⟩))
  · rw [ra.length, rb.length]
    exact sz_of h
  · subst z
    cases ra
    exact q.now e1 (.tup hb rb)
  · subst z2
    cases rb
    rw [List.append_nil] at q
    exact q.now e1 (.tup ha ra)
  · exact q.new e1 hp (.tup (st_of upd_same) (DtAll.ex (Ex.new (fresh_back e1 hp)) (ra.append rb)))
theorem rd_mulI {i j : Int} (h : CMul i j) : RD2 K (rMulU K) (.int i) (.int j) H (.int (i * j)) := fun H' x y e dx dy H1 e1 Q q => .inl (rd_I (g := fun i j => i * j) h H' x y e dx dy H1 e1 Q q)
theorem rd_mulS {z : Str} {k : Int} (h1 : -(2 ^ 60) ≤ k) (h2 : k ≤ 1000) (h3 : z.length ≤ 1000) : RD2 K (rMulU K) (.str z) (.int k) H (.str ⟨(List.replicate k.toNat z.cps.toList).flatten.toArray⟩) := fun H' x y e dx dy H1 e1 Q q =>
  .inr (.inl ⟨z, k, dx.str_eq, dy.int_eq, h1, h2, h3, q.val e1 fun _ => .str _⟩)
theorem rd_ltS {a b : Str} : RD2 K rLtU (.str a) (.str b) H (.bool (decide (a.cps.toList < b.cps.toList))) := fun H' x y _ dx dy H1 e1 Q q => .inr ⟨a, b, dx.str_eq, dy.str_eq, q.val e1 fun _ => .bl _⟩
theorem rd_ltI {i j : Int} : RD2 K rLtU (.int i) (.int j) H (.bool (decide (i < j))) := fun H' x y e dx dy H1 e1 Q q => .inl (rd_IB (g := fun i j => decide (i < j)) H' x y e dx dy H1 e1 Q q)
theorem rd_eqD {d e : PyData} (h1 : SeqAt.shaped d = true) (h2 : SeqAt.shaped e = true) : RD2 K (rEqD K) d e H (.bool (PyData.eqv d e)) := fun H' x y _ dx dy H1 e1 Q q =>
  ⟨d, e, (Dt.ex e1 dx).dp (SeqAt.canLay_of_shaped h1), (Dt.ex e1 dy).dp (SeqAt.canLay_of_shaped h2), h1, h2, q.val e1 fun _ => .bl _⟩
theorem rd_neD {d e : PyData} (h1 : SeqAt.shaped d = true) (h2 : SeqAt.shaped e = true) : RD2 K (rNeD K) d e H (.bool (!PyData.eqv d e)) := fun H' x y _ dx dy H1 e1 Q q =>
  ⟨d, e, (Dt.ex e1 dx).dp (SeqAt.canLay_of_shaped h1), (Dt.ex e1 dy).dp (SeqAt.canLay_of_shaped h2), h1, h2, q.val e1 fun _ => .bl _⟩
theorem rd_eqU {d e : PyData} (h1 : SeqAt.shaped d = true) (h2 : SeqAt.shaped e = true) : RD2 K (rEqU K) d e H (.bool (PyData.eqv d e)) := fun H' x y ex dx dy H1 e1 Q q => .inr (rd_eqD h1 h2 H' x y ex dx dy H1 e1 Q q)
theorem rd_neU {d e : PyData} (h1 : SeqAt.shaped d = true) (h2 : SeqAt.shaped e = true) : RD2 K (rNeU K) d e H (.bool (!PyData.eqv d e)) := fun H' x y ex dx dy H1 e1 Q q => .inr (rd_neD h1 h2 H' x y ex dx dy H1 e1 Q q)
theorem rd_eqI {i j : Int} : RD2 K (rEqU K) (.int i) (.int j) H (.bool (decide (i = j))) := fun H' x y ex dx dy H1 e1 Q q => by
  rw [dx.int_eq, dy.int_eq]
  refine .inl ⟨rfl, ?_⟩
  have e : decide (V.int i = V.int j) = decide (i = j) := decide_eq_decide.mpr ⟨fun h => V.int.inj h, fun h => by rw [h]⟩
  rw [e]
  exact q.val e1 fun _ => .bl _
theorem rd_neI {i j : Int} : RD2 K (rNeU K) (.int i) (.int j) H (.bool (!decide (i = j))) := fun H' x y ex dx dy H1 e1 Q q => by
  rw [dx.int_eq, dy.int_eq]
  refine .inl ⟨rfl, ?_⟩
  have e : decide (V.int i = V.int j) = decide (i = j) := decide_eq_decide.mpr ⟨fun h => V.int.inj h, fun h => by rw [h]⟩
  rw [e]
  exact q.val e1 fun _ => .bl _
theorem rd_eqS {i j : Str} : RD2 K (rEqU K) (.str i) (.str j) H (.bool (decide (i = j))) := fun H' x y ex dx dy H1 e1 Q q => by
  rw [dx.str_eq, dy.str_eq]
  refine .inl ⟨rfl, ?_⟩
  have e : decide (V.str i = V.str j) = decide (i = j) := decide_eq_decide.mpr ⟨fun h => V.str.inj h, fun h => by rw [h]⟩
  rw [e]
  exact q.val e1 fun _ => .bl _
theorem rd_neS {i j : Str} : RD2 K (rNeU K) (.str i) (.str j) H (.bool (!decide (i = j))) := fun H' x y ex dx dy H1 e1 Q q => by
  rw [dx.str_eq, dy.str_eq]
  refine .inl ⟨rfl, ?_⟩
  have e : decide (V.str i = V.str j) = decide (i = j) := decide_eq_decide.mpr ⟨fun h => V.str.inj h, fun h => by rw [h]⟩
  rw [e]
  exact q.val e1 fun _ => .bl _
theorem rd_eqB {i j : Bool} : RD2 K (rEqU K) (.bool i) (.bool j) H (.bool (decide (i = j))) := fun H' x y ex dx dy H1 e1 Q q => by
  rw [dx.bl_eq, dy.bl_eq]
  refine .inl ⟨rfl, ?_⟩
  have e : decide (V.bl i = V.bl j) = decide (i = j) := decide_eq_decide.mpr ⟨fun h => V.bl.inj h, fun h => by rw [h]⟩
  rw [e]
  exact q.val e1 fun _ => .bl _
theorem rd_neB {i j : Bool} : RD2 K (rNeU K) (.bool i) (.bool j) H (.bool (!decide (i = j))) := fun H' x y ex dx dy H1 e1 Q q => by
  rw [dx.bl_eq, dy.bl_eq]
  refine .inl ⟨rfl, ?_⟩
  have e : decide (V.bl i = V.bl j) = decide (i = j) := decide_eq_decide.mpr ⟨fun h => V.bl.inj h, fun h => by rw [h]⟩
  rw [e]
  exact q.val e1 fun _ => .bl _
/-- is True, is False -/
theorem rd_isB {a b : Bool} : RD2 K (fun x y H Q => ∃ a b, x = .bl a ∧ y = .bl b ∧ Q (.bl (decide (a = b))) H) (.bool a) (.bool b) H (.bool (decide (a = b))) := fun H' x y ex dx dy H1 e1 Q q => ⟨a, b, dx.bl_eq, dy.bl_eq, q.val e1 fun _ => .bl _⟩
theorem rd_isnotB {a b : Bool} : RD2 K (fun x y H Q => ∃ a b, x = .bl a ∧ y = .bl b ∧ Q (.bl (!decide (a = b))) H) (.bool a) (.bool b) H (.bool (!decide (a = b))) := fun H' x y ex dx dy H1 e1 Q q => ⟨a, b, dx.bl_eq, dy.bl_eq, q.val e1 fun _ => .bl _⟩
theorem dp_intsD : ∀ l : List Int, L2.DpAll K H (l.map V.int) (l.map .int)
  | [] => .nil
  | n :: r => .cons (.int n) (dp_intsD r)
theorem lay_ints : ∀ l : List Int, PyData.canLayAll0 (l.map .int) = true
  | [] => rfl
  | n :: r => by simp only [List.map_cons, PyData.canLayAll0, PyData.canLay0, Bool.true_and, lay_ints r]
theorem depth_ints : ∀ l : List Int, PyData.depthAll (l.map .int) = 0
  | [] => rfl
  | n :: r => by simp only [List.map_cons, PyData.depthAll, PyData.depth, depth_ints r]; rfl
/-- script != [] -/
theorem rd_neScr {ns : List Int} : RD2 K (rNeU K) (scrD ns) (.list []) H (.bool (!ns.isEmpty)) := fun H' x y ex dx dy H1 e1 Q q => by
  obtain ⟨a, rfl, h⟩ := dx.scr_eq
  refine .inr ⟨.list (ns.map .int), .list [], .lst (ex_l e1 h) (dp_intsD ns), (Dt.ex e1 dy).dp rfl, ?_, rfl, ?_⟩
  · unfold SeqAt.shaped
    simp only [PyData.canLay0, lay_ints, PyData.depth, depth_ints, Bool.true_and]
    rfl
  · have e : PyData.eqv (.list (ns.map .int)) (.list []) = ns.isEmpty := by
      cases ns <;> rfl
    rw [e]
    exact q.val e1 fun _ => .bl _
/-- script[i] -/
theorem rd_ixScr {ns : List Int} {i : Int} {n : Int} (h : atI ns i = some n) : RD2 K (rIx K) (scrD ns) (.int i) H (.int n) := fun H' x y _ dx dy H1 e1 Q q => by
  obtain ⟨a, rfl, ha⟩ := dx.scr_eq
  unfold atI at h
  obtain ⟨j, hj, hd⟩ := Option.bind_eq_some_iff.mp h
  refine .inl ⟨a, _, i, .int n, rfl, dy.int_eq, ex_l e1 ha, ?_, q.val e1 fun _ => .int _⟩
  unfold atI
  rw [List.length_map, hj]
  show (ns.map V.int)[j]? = some (V.int n)
  rw [List.getElem?_map, hd]
  rfl
theorem rd_ixT {ds : List PyData} {i : Int} {d : PyData} (h : atI ds i = some d) : RD2 K (rIx K) (.tuple ds) (.int i) H d := fun H' x y _ dx dy H1 e1 Q q => by
  obtain ⟨a, xs, rfl, ha, ra⟩ := dx.tup_eq
  unfold atI at h
  rw [← ra.length] at h
  obtain ⟨j, hj, hd⟩ := Option.bind_eq_some_iff.mp h
  obtain ⟨v, hv, dv⟩ := ra.get hd
  refine .inr (.inl ⟨a, xs, i, v, rfl, dy.int_eq, ex_t e1 ha, ?_, q.now e1 dv⟩)
  unfold atI
  rw [hj]
  exact hv
theorem rd_ixL {ds : List PyData} {i : Int} {d : PyData} (h : atI ds i = some d) : RD2 K (rIx K) (.list ds) (.int i) H d := fun H' x y _ dx dy H1 e1 Q q => by
  obtain ⟨a, xs, rfl, ha, ra⟩ := dx.lst_eq
  unfold atI at h
  rw [← ra.length] at h
  obtain ⟨j, hj, hd⟩ := Option.bind_eq_some_iff.mp h
  obtain ⟨v, hv, dv⟩ := ra.get hd
  refine .inl ⟨a, xs, i, v, rfl, dy.int_eq, sq_of (e1 a _ ha), ?_, q.now e1 dv⟩
  unfold atI
  rw [hj]
  exact hv
theorem rd_ixS {z : Str} {i : Int} {c : Nat} (hl : z.length ≤ 100000) (h : atI z.cps.toList i = some c) : RD2 K (rIx K) (.str z) (.int i) H (.str ⟨#[c]⟩) := fun H' x y _ dx dy H1 e1 Q q =>
  .inr (.inr ⟨z, i, c, dx.str_eq, dy.int_eq, sz_of hl, h, q.val e1 fun _ => .str _⟩)
/-- isinstance of a built-in class -/
def tyD : PyData → String
  | .none => "NoneType"
  | .bool _ => "bool"
  | .int _ => "int"
  | .str _ => "str"
  | .list _ => "list"
  | .tuple _ => "tuple"
  | .dict _ => "list"
theorem Dt.ty {v : V} {d : PyData} (h : Dt K H v d) : TyX K H v (.type (tyD d)) := by
  cases h with
  | non => exact .base .non
  | bl b => exact .base (.bl b)
  | int i => exact .base (.int i)
  | str x => exact .base (.str x)
  | lst h _ => exact .base (.lst h)
  | tup h _ =>
    rcases h with (h | ⟨o, h⟩) | ⟨o, its, n, h1, h2, _⟩
    · exact .base (.tup h)
    · exact .fTuple h
    · exact .kTuple h1 h2
  | scr ns h =>
    rcases h with (h | ⟨o, h⟩) | ⟨o, its, n, h1, h2, _⟩
    · exact .base (.lst h)
    · exact .base (.frz h)
    · exact .kList h1 h2
theorem rdc_isi {d : PyData} {n : String} {b : Bool} (h : kitB (tyD d) n = some b) : ∀ H' vs, Ex H H' → ∀ v, Dt K H' v d → vs = [v, V.ty n] → ∀ H1, Ex H' H1 → ∀ Q : VK, KD K H' H1 (.bool b) Q → rIsi K vs H1 Q := fun H' vs _ v dv hv H1 e1 Q q =>
  ⟨v, .ty n, .type (tyD d), .type n, b, hv, .ty n, (Dt.ex e1 dv).ty, kit_ty h, q.val e1 fun _ => .bl _⟩
end
section
variable {K : PySem.W.Frag} {σ : L2.St} {H : Hp} {ta te : TE} {d : PyData}
/-- isinstance(e, T) -/
theorem ed_isi {n : String} {b : Bool} (ha : EvD K ta σ H d) (h : kitB (tyD d) n = some b) : EvD K (tCB (rIsi K) (tCons ta (tCons (tC (.ty n)) tNil))) σ H (.bool b) := fun H1 e1 Q q =>
  ha H1 e1 _ fun x H2 Ha e2 ea xa da => rdc_isi (H := H) h Ha _ xa.ex x da rfl H2 ea Q fun v H4 Hc e4 ec xc dc => q v H4 Hc (e2.trans e4) ec (xa.trans e2 xc) dc
/-- len -/
def lenR (K : PySem.W.Frag) : List V → Hp → VK → Prop := fun xs H Q => ∃ x n, xs = [x] ∧ LenV K x H n ∧ Q (.int n) H
theorem ed_lenS {z : Str} (ha : EvD K ta σ H (.str z)) (h : z.length ≤ sizeLine) : EvD K (tCB (lenR K) (tCons ta tNil)) σ H (.int z.length) := fun H1 e1 Q q =>
  ha H1 e1 _ fun x H2 Ha e2 ea xa da => by
    rw [da.str_eq]
    exact ⟨_, _, rfl, ⟨h, rfl⟩, q _ H2 Ha e2 ea xa (.int _)⟩
theorem ed_lenL {ds : List PyData} (ha : EvD K ta σ H (.list ds)) : EvD K (tCB (lenR K) (tCons ta tNil)) σ H (.int ds.length) := fun H1 e1 Q q =>
  ha H1 e1 _ fun x H2 Ha e2 ea xa da => by
    obtain ⟨a, xs, rfl, h, r⟩ := da.lst_eq
    refine ⟨_, _, rfl, .inl ⟨xs, sq_of (ea a _ h), rfl⟩, ?_⟩
    rw [r.length]
    exact q _ H2 Ha e2 ea xa (.int _)
theorem ed_lenT {ds : List PyData} (ha : EvD K ta σ H (.tuple ds)) : EvD K (tCB (lenR K) (tCons ta tNil)) σ H (.int ds.length) := fun H1 e1 Q q =>
  ha H1 e1 _ fun x H2 Ha e2 ea xa da => by
    obtain ⟨a, xs, rfl, h, r⟩ := da.tup_eq
    refine ⟨_, _, rfl, .inr ⟨xs, ex_t ea h, rfl⟩, ?_⟩
    rw [r.length]
    exact q _ H2 Ha e2 ea xa (.int _)
theorem ed_lenScr {ns : List Int} (ha : EvD K ta σ H (scrD ns)) : EvD K (tCB (lenR K) (tCons ta tNil)) σ H (.int ns.length) := fun H1 e1 Q q =>
  ha H1 e1 _ fun x H2 Ha e2 ea xa da => by
    obtain ⟨a, rfl, h⟩ := da.scr_eq
    refine ⟨_, _, rfl, .inl ⟨_, ex_l ea h, rfl⟩, ?_⟩
    rw [List.length_map]
    exact q _ H2 Ha e2 ea xa (.int _)
/-- all, any of a list of truths -/
theorem ed_all {bs : List Bool} (ha : EvD K ta σ H (.list (bs.map .bool))) : EvD K (tCB (rAll K) (tCons ta tNil)) σ H (.bool (bs.all id)) := fun H1 e1 Q q =>
  ha H1 e1 _ fun x H2 Ha e2 ea xa da => by
    obtain ⟨a, xs, rfl, h, r⟩ := da.lst_eq
    refine ⟨a, bs, rfl, sq_of ?_, q _ H2 Ha e2 ea xa (.bl _)⟩
    rw [← bls_dp r]
    exact ea a _ h
theorem ed_any {bs : List Bool} (ha : EvD K ta σ H (.list (bs.map .bool))) : EvD K (tCB (rAny K) (tCons ta tNil)) σ H (.bool (bs.any id)) := fun H1 e1 Q q =>
  ha H1 e1 _ fun x H2 Ha e2 ea xa da => by
    obtain ⟨a, xs, rfl, h, r⟩ := da.lst_eq
    refine ⟨a, bs, rfl, sq_of ?_, q _ H2 Ha e2 ea xa (.bl _)⟩
    rw [← bls_dp r]
    exact ea a _ h
/-- one sign in a text -/
def rInS : R2 := fun x y H Q => ∃ (c : Nat) (z : Str), x = .str ⟨#[c]⟩ ∧ y = .str z ∧ Q (.bl (decide (c ∈ z.cps.toList))) H
theorem rd_inS {c : Nat} {z : Str} : RD2 K rInS (.str ⟨#[c]⟩) (.str z) H (.bool (decide (c ∈ z.cps.toList))) := fun H' x y _ dx dy H1 e1 Q q => ⟨c, z, dx.str_eq, dy.str_eq, q.val e1 fun _ => .bl _⟩
/-- parts of a slice -/
theorem eo_none : EvO tNoPart σ H none := fun H1 _ _ q => q H1 (Ex.refl H1)
theorem eo_some {i : Int} (h : EvD K te σ H (.int i)) : EvO (tPart te) σ H (some i) := fun H1 e _ q => h H1 e _ fun v H2 _ e2 _ _ dv => ⟨i, dv.int_eq, q H2 e2⟩
theorem EvO.mono {to : TO} {o : Option Int} {H' : Hp} (h : EvO to σ H o) (e : Ex H H') : EvO to σ H' o := fun H1 e1 Q q => h H1 (e.trans e1) Q q
/-- slices: a text, a list, a tuple -/
def rSlU (K : PySem.W.Frag) : V → Option Int → Option Int → Hp → VK → Prop := fun x lo hi H Q => rSlS x lo hi H Q ∨ (rSlL K x lo hi H Q ∨ rSlA K x lo hi H Q)
theorem sl_U {X : Cx} : SlR X (rSlU X.K) := sl_str.or (sl_list.or sl_tupA)
theorem ed_slS {z : Str} {tl th : TO} {lo hi : Option Int} (ha : EvD K ta σ H (.str z)) (h1 : EvO tl σ H lo) (h2 : EvO th σ H hi) (hl : z.length ≤ 100000) : EvD K (tSl (rSlU K) ta tl th) σ H (.str (cutS z lo hi)) := fun H1 e1 Q q =>
  ha H1 e1 _ fun x H2 Ha e2 ea xa da => (h1.mono xa.ex) H2 ea _ fun H3 e3 => (h2.mono xa.ex) H3 (ea.trans e3) _ fun H4 e4 =>
    .inl ⟨z, da.str_eq, sz_of hl, q _ H4 Ha ((e2.trans e3).trans e4) ((ea.trans e3).trans e4) xa (.str _)⟩
def cutD (ds : List PyData) (lo hi : Option Int) : List PyData := (ds.drop (HT.sIx ds.length 0 lo)).take (HT.sIx ds.length ds.length hi - HT.sIx ds.length 0 lo)
theorem cut_dt {xs : List V} {ds : List PyData} (r : DtAll K H xs ds) (lo hi : Option Int) : DtAll K H (cutV xs lo hi) (cutD ds lo hi) := by
  unfold cutV cutD
  rw [r.length]
  exact (r.drop _).take _
theorem ed_slL {ds : List PyData} {tl th : TO} {lo hi : Option Int} (ha : EvD K ta σ H (.list ds)) (h1 : EvO tl σ H lo) (h2 : EvO th σ H hi) : EvD K (tSl (rSlU K) ta tl th) σ H (.list (cutD ds lo hi)) := fun H1 e1 Q q =>
  ha H1 e1 _ fun x H2 Ha e2 ea xa da => (h1.mono xa.ex) H2 ea _ fun H3 e3 => (h2.mono xa.ex) H3 (ea.trans e3) _ fun H4 e4 => by
    obtain ⟨a, xs, rfl, h, r⟩ := da.lst_eq
    refine .inr (.inl ⟨a, xs, rfl, sq_of (((ea.trans e3).trans e4) a _ h), fun p hp => ?_⟩)
    exact q _ _ (upd Ha p _) (((e2.trans e3).trans e4).trans (Ex.new hp)) (ex_upd ((ea.trans e3).trans e4)) (xa.trans ((e2.trans e3).trans e4) (Ext.new ((ea.trans e3).trans e4) hp)) (.lst upd_same (DtAll.ex (Ex.new (fresh_back ((ea.trans e3).trans e4) hp)) (cut_dt r lo hi)))
theorem cut_all {xs : List V} {lo hi : Option Int} (h1 : HT.sIx xs.length 0 lo = 0) (h2 : HT.sIx xs.length xs.length hi = xs.length) {ds : List PyData} (hl : xs.length = ds.length) : cutD ds lo hi = ds := by
  unfold cutD
  rw [← hl, h1, h2, List.drop_zero, Nat.sub_zero, hl, List.take_length]
theorem ed_slT {ds : List PyData} {tl th : TO} {lo hi : Option Int} (ha : EvD K ta σ H (.tuple ds)) (h1 : EvO tl σ H lo) (h2 : EvO th σ H hi) : EvD K (tSl (rSlU K) ta tl th) σ H (.tuple (cutD ds lo hi)) := fun H1 e1 Q q =>
  ha H1 e1 _ fun x H2 Ha e2 ea xa da => (h1.mono xa.ex) H2 ea _ fun H3 e3 => (h2.mono xa.ex) H3 (ea.trans e3) _ fun H4 e4 => by
    obtain ⟨a, xs, rfl, h, r⟩ := da.tup_eq
    refine .inr (.inr ⟨a, xs, rfl, ex_t ((ea.trans e3).trans e4) h, fun z => ?_, fun _ p hp => ?_⟩)
    · rw [cut_all z.1 z.2 r.length] at q
      exact q _ H4 Ha ((e2.trans e3).trans e4) ((ea.trans e3).trans e4) xa (.tup h r)
    · exact q _ _ (upd Ha p _) (((e2.trans e3).trans e4).trans (Ex.new hp)) (ex_upd ((ea.trans e3).trans e4)) (xa.trans ((e2.trans e3).trans e4) (Ext.new ((ea.trans e3).trans e4) hp)) (.tup (st_of upd_same) (DtAll.ex (Ex.new (fresh_back ((ea.trans e3).trans e4) hp)) (cut_dt r lo hi)))
end
end LR

/-! ### slots, statements, loops over data (own work) -/
namespace LR
open PySem PySem.Spec PyProof.Rows L2 Evl
/-- what is known of a slot: data, a value itself, nothing -/
inductive SD where
  | dat (d : PyData)
  | val (v : V)
  | unk
def SdOk (K : PySem.W.Frag) (H : Hp) : Option V → SD → Prop
  | some v, .dat d => Dt K H v d
  | some v, .val w => v = w
  | _, .unk => True
  | none, .dat _ => False
  | none, .val _ => False
/-- the slots as they are known -/
inductive Sl (K : PySem.W.Frag) (H : Hp) : L2.St → List SD → Prop
  | nil : Sl K H [] []
  | cons {o : Option V} {σ : L2.St} {s : SD} {ss : List SD} : SdOk K H o s → Sl K H σ ss → Sl K H (o :: σ) (s :: ss)
section
variable {K : PySem.W.Frag} {H H' : Hp} {σ : L2.St} {ss : List SD}
theorem SdOk.ex (e : Ex H H') {o : Option V} {s : SD} (h : SdOk K H o s) : SdOk K H' o s := by
  cases o with
  | none => cases s <;> exact h
  | some v =>
    cases s with
    | dat d => exact Dt.ex e h
    | val w => exact h
    | unk => trivial
theorem Sl.ex (e : Ex H H') : ∀ {σ : L2.St} {ss : List SD}, Sl K H σ ss → Sl K H' σ ss
  | _, _, .nil => .nil
  | _, _, .cons a b => .cons (a.ex e) (Sl.ex e b)
theorem Sl.get : ∀ {σ : L2.St} {ss : List SD} {i : Nat} {s : SD}, Sl K H σ ss → ss[i]? = some s → ∃ o, σ[i]? = some o ∧ SdOk K H o s
  | _, _, _, _, .nil, e => by simp at e
  | _, _, 0, _, .cons a _, e => by
    simp at e
    subst e
    exact ⟨_, rfl, a⟩
  | _, _, i + 1, s, .cons _ b, e => by
    obtain ⟨v, h1, h2⟩ := Sl.get (i := i) (s := s) b (by simpa using e)
    exact ⟨v, by simpa using h1, h2⟩
theorem Sl.dat {i : Nat} {d : PyData} (s : Sl K H σ ss) (h : ss[i]? = some (.dat d)) : ∃ v, σ[i]? = some (some v) ∧ Dt K H v d := by
  obtain ⟨o, h1, h2⟩ := s.get h
  cases o with
  | none => exact h2.elim
  | some v => exact ⟨v, h1, h2⟩
theorem Sl.val {i : Nat} {v : V} (s : Sl K H σ ss) (h : ss[i]? = some (.val v)) : σ[i]? = some (some v) := by
  obtain ⟨o, h1, h2⟩ := s.get h
  cases o with
  | none => exact h2.elim
  | some w =>
    have e : w = v := h2
    rw [e] at h1
    exact h1
theorem Sl.set {s : SD} {o : Option V} (h : SdOk K H o s) : ∀ {σ : L2.St} {ss : List SD} (i : Nat), Sl K H σ ss → Sl K H (σ.set i o) (ss.set i s)
  | _, _, _, .nil => .nil
  | _, _, 0, .cons _ b => .cons h b
  | _, _, i + 1, .cons a b => .cons a (Sl.set h i b)
theorem Sl.length : ∀ {σ : L2.St} {ss : List SD}, Sl K H σ ss → σ.length = ss.length
  | _, _, .nil => rfl
  | _, _, .cons _ b => congrArg Nat.succ (Sl.length b)
/-- a slot is forgotten -/
theorem Sl.forget : ∀ {σ : L2.St} {ss : List SD} (i : Nat), Sl K H σ ss → Sl K H σ (ss.set i .unk)
  | _, _, _, .nil => .nil
  | _, _, 0, .cons (o := o) _ b => .cons (by cases o <;> trivial) b
  | _, _, i + 1, .cons a b => .cons a (Sl.forget i b)
/-- the slots of a comprehension's own names are forgotten -/
def wipeS (ss : List SD) : List Nat → List SD
  | [] => ss
  | v :: vs => (wipeS ss vs).set v .unk
theorem Sl.wipe : ∀ (vs : List Nat), Sl K H σ ss → Sl K H (L2.wipe σ vs) (wipeS ss vs)
  | [], s => s
  | v :: vs, s => Sl.set (s := .unk) (o := none) trivial v (Sl.wipe vs s)
/-- the start of a def -/
theorem sl_start {vs : List V} : ∀ {ds : List PyData} (n : Nat), DtAll K H vs ds → Sl K H (vs.map some ++ List.replicate n none) (ds.map .dat ++ List.replicate n .unk) := by
  intro ds n h
  induction vs generalizing ds with
  | nil =>
    cases h
    induction n with
    | zero => exact .nil
    | succ n ih => exact .cons trivial ih
  | cons v vs ih =>
    cases h with
    | cons a b => exact .cons a (ih b)
theorem sl_unk : ∀ (n : Nat), Sl K H (List.replicate n none) (List.replicate n .unk)
  | 0 => .nil
  | n + 1 => .cons trivial (sl_unk n)
end
/-- where one stands: H is known, H1 is the heap; H0, H10 the same at the def's entry -/
structure Now (H0 H10 H H1 : Hp) : Prop where
  ex : Ex H H1
  ext : Ext H0 H10 H
  grow : Ex H10 H1
theorem Now.start {H0 H10 : Hp} (e : Ex H0 H10) : Now H0 H10 H0 H10 := ⟨e, Ext.refl _ _, Ex.refl _⟩
theorem Now.on {H0 H10 H H1 H' H2 : Hp} (n : Now H0 H10 H H1) (e2 : Ex H1 H2) (e : Ex H' H2) (x : Ext H H1 H') : Now H0 H10 H' H2 := ⟨e, n.ext.trans n.grow x, n.grow.trans e2⟩
/-- a list of one's own is changed -/
theorem Now.mut {H0 H10 H H1 : Hp} (n : Now H0 H10 H H1) {l : Addr} {o : HO} (h : H l = none) (h0 : H10 l = none) : Now H0 H10 H (upd H1 l o) :=
  ⟨ex_off n.ex h, n.ext, ex_off n.grow h0⟩
section
variable {K : PySem.W.Frag} {H0 H10 H H1 : Hp} {σ : L2.St} {ss : List SD} {te ta : TE} {tt : TT} {d : PyData} {D : Ends} {t1 t2 : TS}
theorem ed_sl {i : Nat} (s : Sl K H σ ss) (h : ss[i]? = some (.dat d)) : EvD K (tVar i) σ H d := by
  obtain ⟨v, h1, h2⟩ := s.dat h
  exact ed_var h1 h2
theorem st_ret {Q : VK} (n : Now H0 H10 H H1) (h : EvD K te σ H d) (q : KD K H0 H10 d Q) (hQ : D.rt = Q := by rfl) : tRet te D σ H1 := by
  subst hQ
  exact h H1 n.ex _ fun v H2 H' e2 e x dv => q v H2 H' (n.grow.trans e2) e (n.ext.trans n.grow x) dv
theorem st_retN {Q : VK} (n : Now H0 H10 H H1) (q : KD K H0 H10 .none Q) (hQ : D.rt = Q := by rfl) : tRetN D σ H1 := by
  subst hQ
  exact q _ H1 H n.grow n.ex n.ext .non
theorem st_asg {i : Nat} (n : Now H0 H10 H H1) (s : Sl K H σ ss) (h : EvD K te σ H d) (k : ∀ σ' H' H2, Ex H H' → Now H0 H10 H' H2 → Sl K H' σ' (ss.set i (.dat d)) → D.nx σ' H2) : tAsg te (gName i) D σ H1 :=
  h H1 n.ex _ fun v H2 H' e2 e x dv => k _ H' H2 x.ex (n.on e2 e x) ((s.ex x.ex).set (s := .dat d) (o := some v) dv i)
theorem st_if {b : Bool} (n : Now H0 H10 H H1) (h : EvB tt σ H b) (k1 : b = true → ∀ H2, Now H0 H10 H H2 → t1 D σ H2) (k2 : b = false → ∀ H2, Now H0 H10 H H2 → t2 D σ H2) : tIfS tt t1 t2 D σ H1 :=
  h H1 n.ex _ fun H2 e2 => by
    have n2 : Now H0 H10 H H2 := ⟨n.ex.trans e2, n.ext, n.grow.trans e2⟩
    cases b with
    | true => exact k1 rfl H2 n2
    | false => exact k2 rfl H2 n2
/-- a new list of one's own, empty, in slot i -/
theorem st_new {i : Nat} (n : Now H0 H10 H H1) (s : Sl K H σ ss) (k : ∀ l σ' H2, H l = none → H10 l = none → H2 l = some (.lst []) → Now H0 H10 H H2 → Sl K H σ' (ss.set i (.val (.ref l))) → D.nx σ' H2) : tAsg (tLst tNil) (gName i) D σ H1 :=
  ⟨by show 0 ≤ sizeLine; exact Nat.zero_le _, fun p hp => k p _ _ (fresh_back n.ex hp) (fresh_back n.grow hp) upd_same ⟨n.ex.trans (Ex.new hp), n.ext, n.grow.trans (Ex.new hp)⟩ (s.set (s := .val (.ref p)) (o := some (.ref p)) rfl i)⟩
/-- l.append(e), the list in slot i -/
theorem st_app {i : Nat} {l : Addr} {vs : List V} (n : Now H0 H10 H H1) (s : Sl K H σ ss) (hi : ss[i]? = some (.val (.ref l))) (hl : H l = none) (h0 : H10 l = none) (h1 : H1 l = some (.lst vs)) (hz : vs.length < 100000) (h : EvD K te σ H d)
    (k : ∀ v H' H2, Ex H H' → H' l = none → Dt K H' v d → H2 l = some (.lst (vs ++ [v])) → Now H0 H10 H' H2 → Sl K H' σ ss → D.nx σ H2) : tDrop (tBM K "list" rAppend (tVar i) (tCons te tNil)) D σ H1 :=
  ⟨.ref l, s.val hi, Or.inl ⟨rfl, vs, sq_of h1⟩, h H1 n.ex _ fun v H2 H' e2 e x dv => ⟨l, vs, v, rfl, rfl, e2 l _ h1, sz_lt hz,
    k v H' _ x.ex (x.off hl h1) dv upd_same ((n.on e2 e x).mut (x.off hl h1) h0) (s.ex x.ex)⟩⟩
end
/-! ### walks -/
/-- what is walked: n turns, the i-th item is told by Y (what is known where it is walked, the turn, the heap then, the item, the heap behind it) -/
def EvI (wi : TI) (σ : L2.St) (H : Hp) (n : Nat) (Y : Hp → Nat → Hp → V → Hp → Prop) : Prop := ∀ H1, Ex H H1 → ∀ R : It → Hp → Prop, (∀ J (G : Hp → Prop) H2 H', Ex H1 H2 → Ex H' H2 → Ext H H1 H' → (∀ H3, Ex H' H3 → G H3) → Walk J n G (Y H') → R J H2) → wi σ H1 R
section
variable {K : PySem.W.Frag} {σ : L2.St} {H : Hp} {te : TE}
/-- items of data -/
def YD (K : PySem.W.Frag) (ds : List PyData) : Hp → Nat → Hp → V → Hp → Prop := fun Hi i H v H' => H' = H ∧ ∃ d, ds[i]? = some d ∧ Dt K Hi v d
/-- signs of a text -/
def YS (z : Str) : Hp → Nat → Hp → V → Hp → Prop := fun _ i H v H' => H' = H ∧ ∃ c, z.cps[i]? = some c ∧ v = .str ⟨#[c]⟩
theorem ei_str {z : Str} (h : EvD K te σ H (.str z)) : EvI (iStr te) σ H z.cps.size (YS z) := fun H1 e1 R r =>
  h H1 e1 _ fun v H2 H' e2 e x dv => ⟨z, dv.str_eq, r _ (fun _ => True) H2 H' e2 e x (fun _ _ => trivial) walk_str⟩
theorem ei_range {ta : TA} {n : Int} (h : EvDs K ta σ H [.int n]) (h1 : -(2 ^ 62) ≤ n) (h2 : n < 2 ^ 62) : EvI (iRng1 ta) σ H n.toNat (fun _ => YFn fun i => .int (0 + i)) := fun H1 e1 R r =>
  h H1 e1 _ fun vs H2 H' e2 e x dv => ⟨n, by cases dv with | cons a b => cases b; rw [a.int_eq], h1, h2, r _ (fun _ => True) H2 H' e2 e x (fun _ _ => trivial) walk_range⟩
theorem ei_range2 {ta : TA} {m n : Int} (h : EvDs K ta σ H [.int m, .int n]) (h1 : -(2 ^ 62) ≤ m ∧ m < 2 ^ 62 ∧ -(2 ^ 62) ≤ n ∧ n < 2 ^ 62) : EvI (iRng2 ta) σ H (n - m).toNat (fun _ => YFn fun i => .int (m + i)) := fun H1 e1 R r =>
  h H1 e1 _ fun vs H2 H' e2 e x dv => ⟨m, n, by cases dv with | cons a b => cases b with | cons c f => cases f; rw [a.int_eq, c.int_eq], h1, r _ (fun _ => True) H2 H' e2 e x (fun _ _ => trivial) walk_range⟩
end
section
variable {K : PySem.W.Frag} {H0 H10 H H1 : Hp} {σ : L2.St} {ss : List SD} {te ta : TE} {tt : TT} {d : PyData} {D : Ends} {t1 t2 : TS}
/-- a for: k is asked where the walked thing is known; Pv by the turn, the slots and the heap -/
theorem st_for {wi : TI} {g : TG} {tb : TS} {n : Nat} {Y : Hp → Nat → Hp → V → Hp → Prop} (nw : Now H0 H10 H H1) (h : EvI wi σ H n Y)
    (k : ∀ Hb H2, Ex H Hb → Now H0 H10 Hb H2 → Ex H1 H2 → ∃ Pv : Nat → L2.St → Hp → Prop, Pv 0 σ H2 ∧ (∀ i σ' H3, Pv i σ' H3 → Ex Hb H3) ∧
      (∀ i x σ' H3 H4, i < n → Pv i σ' H3 → Y Hb i H3 x H4 → g x σ' H4 fun σ2 H5 => tb { D with nx := Pv (i + 1), ct := Pv (i + 1), bk := D.nx } σ2 H5) ∧ ∀ σ' H3, Pv n σ' H3 → D.nx σ' H3) : tFor wi g tb D σ H1 :=
  h H1 nw.ex _ fun J G H2 H' e2 e x hG w => by
    obtain ⟨Pv, p0, pe, pt, pd⟩ := k H' H2 x.ex (nw.on e2 e x) e2
    exact for_it (w.mono (G' := fun H3 => Ex H' H3) (fun H3 e3 => hG H3 e3) fun _ _ _ _ _ _ y => y) Pv p0 (fun i σ' H3 _ p => pe i σ' H3 p) (fun i y σ' H3 H4 hi p yy => pt i y σ' H3 H4 hi p yy) pd
/-- a while: W by a measure, the slots and the heap -/
theorem st_while {tb : TS} {tc : TT} (W : Nat → L2.St → Hp → Prop) (m0 : Nat) (h0 : W m0 σ H1)
    (hs : ∀ m σ' H', W m σ' H' → ∃ Hl b, Ex Hl H' ∧ EvB tc σ' Hl b ∧ (b = true → ∀ H2, Ex H' H2 → tb { D with nx := fun σ2 H3 => ∃ m', m' < m ∧ W m' σ2 H3, ct := fun σ2 H3 => ∃ m', m' < m ∧ W m' σ2 H3, bk := D.nx } σ' H2) ∧ (b = false → ∀ H2, Ex H' H2 → D.nx σ' H2)) : tWhile tc tb D σ H1 :=
  ⟨W, ⟨m0, h0⟩, fun m σ' H' w => by
    obtain ⟨Hl, b, e, eb, k1, k2⟩ := hs m σ' H' w
    refine eb H' e _ fun H2 e2 => ?_
    cases b with
    | true => exact ⟨_, fun _ _ z => z, k1 rfl H2 e2⟩
    | false => exact k2 rfl H2 e2⟩
/-! ### list comprehensions -/
/-- a target takes an item: the slots behind it -/
def EvG (g : TG) (x : V) (σ : L2.St) (H : Hp) (σ2 : L2.St) : Prop := ∀ Q : L2.St → Hp → Prop, Q σ2 H → g x σ H Q
theorem eg_name {j : Nat} {x : V} : EvG (gName j) x σ H (σ.set j (some x)) := fun _ q => q
theorem eg_nil : ∀ Q : L2.St → Hp → Prop, Q σ H → gNil [] σ H Q := fun _ q => ⟨rfl, q⟩
/-- (a, b) = a pair -/
theorem eg_pair {i j : Nat} {a : Addr} {x y : V} (h : SqT K H a [x, y]) : EvG (gTup K 2 (gCons (gName i) (gCons (gName j) gNil))) (.ref a) σ H ((σ.set i (some x)).set j (some y)) := fun _ q =>
  ⟨a, [x, y], rfl, h, rfl, x, [y], rfl, y, [], rfl, rfl, q⟩
/-- what evaluates to a new list -/
def EvN (K : PySem.W.Frag) (te : TE) (σ : L2.St) (H : Hp) (ds : List PyData) : Prop := ∀ H1, Ex H H1 → ∀ Q : VK, (∀ q H2 H', Ex H1 H2 → Ex H' H2 → Ext H H1 H' → H1 q = none → (∃ xs, H' q = some (.lst xs) ∧ DtAll K H' xs ds) → Q (.ref q) H2) → te σ H1 Q
theorem EvN.ed {K : PySem.W.Frag} {te : TE} {σ : L2.St} {H : Hp} {ds : List PyData} (h : EvN K te σ H ds) : EvD K te σ H (.list ds) := fun H1 e1 Q q => h H1 e1 Q fun p H2 H' e2 e x _ ⟨xs, h1, h2⟩ => q _ H2 H' e2 e x (.lst h1 h2)
theorem en_is {K : PySem.W.Frag} {te : TE} {σ : L2.St} {H : Hp} {ds es : List PyData} (h : EvN K te σ H ds) (e : ds = es) : EvN K te σ H es := e ▸ h
theorem en_lc {wi : TI} {g : TG} {tt : TT} {te : TE} {vs : List Nat} {n : Nat} {Y : Hp → Nat → Hp → V → Hp → Prop} (els : Nat → Option PyData) {out : List PyData} (hw : EvI wi σ H n Y)
    (ht : ∀ i, i < n → ∀ Hi Hb H2 x H3, Ex H Hi → Ex Hi Hb → Ex Hb H2 → Y Hi i H2 x H3 → ∃ Hc σ2, Ext Hb H2 Hc ∧ Ex Hc H3 ∧ Ex H2 H3 ∧ EvG g x (L2.wipe σ vs) H3 σ2 ∧ L2.wipe σ2 vs = L2.wipe σ vs ∧
      ∃ b, EvB tt σ2 Hc b ∧ (b = false → els i = none) ∧ (b = true → ∃ d, els i = some d ∧ EvD K te σ2 Hc d)) (hn : n ≤ 50000) (ho : out = (List.range n).filterMap els) : EvN K (tLc wi g tt te vs) σ H out := fun H1 e1 Q q =>
  hw H1 e1 _ fun J G H2 Hb e2 eb xb hG w Dl hD => by
    have hDb : Hb Dl = none := fresh_back eb hD
    have hD1 : H1 Dl = none := fresh_back e2 hD
    refine lc_it (w.mono (G' := fun H3 => Ex Hb H3) (fun H3 e3 => hG H3 e3) fun _ _ _ _ _ _ y => y)
      (fun i Hr => ∃ Hl acc, Ex Hb Hl ∧ Ex Hl Hr ∧ Ex H1 Hr ∧ Ext H H1 Hl ∧ Hl Dl = none ∧ Hr Dl = some (.lst acc) ∧ DtAll K Hl acc ((List.range i).filterMap els) ∧ acc.length ≤ i) ?_ ?_ ?_ ?_
    · exact ⟨Hb, [], Ex.refl _, eb.trans (Ex.new hD), e2.trans (Ex.new hD), xb, hDb, upd_same, .nil, Nat.le_refl _⟩
    · rintro i Hr hi ⟨Hl, acc, a1, a2, _⟩
      exact a1.trans a2
    · rintro i x Hr H3 hi ⟨Hl, acc, a1, a2, a3, a4, a5, a6, a7, a8⟩ y
      obtain ⟨Hc, σ2, c1, c2, c3, c4, c5, b, c6, c7, c8⟩ := ht i hi Hb Hl Hr x H3 xb.ex a1 a2 y
      refine c4 _ ⟨c5, c6 H3 c2 _ fun H4 e4 => ?_⟩
      have n1 : Hc Dl = none := c1.off a5 a6
      cases b with
      | false =>
        refine ⟨Hc, acc, a1.trans c1.ex, c2.trans e4, (a3.trans c3).trans e4, a4.trans a3 c1, n1, (c3.trans e4) Dl _ a6, ?_, Nat.le_succ_of_le a8⟩
        rw [List.range_succ, List.filterMap_append, List.filterMap_cons, c7 rfl]
        show DtAll K Hc acc (_ ++ [])
        rw [List.append_nil]
        exact DtAll.ex c1.ex a7
      | true =>
        obtain ⟨d, d1, d2⟩ := c8 rfl
        refine d2 H4 (c2.trans e4) _ fun v H5 Hd e5 ed xd dv => ?_
        have n2 : Hd Dl = none := xd.off n1 ((c3.trans e4) Dl _ a6)
        refine ⟨acc, (((c3.trans e4).trans e5) Dl _ a6), sz_lt (by omega), Hd, acc ++ [v], (a1.trans c1.ex).trans xd.ex, ex_off ed n2, ex_off (((a3.trans c3).trans e4).trans e5) hD1, (a4.trans a3 c1).trans ((a3.trans c3).trans e4) xd, n2, upd_same, ?_, ?_⟩
        · rw [List.range_succ, List.filterMap_append, List.filterMap_cons, d1]
          exact (DtAll.ex (c1.ex.trans xd.ex) a7).append (.cons dv .nil)
        · rw [List.length_append]
          exact Nat.succ_le_succ a8
    · rintro Hr ⟨Hl, acc, a1, a2, a3, a4, a5, a6, a7, a8⟩
      refine q Dl Hr (upd Hl Dl (.lst acc)) a3 ?_ ⟨a4.ex.trans (Ex.new a5), fun b o hb => ?_⟩ hD1 ?_
      · intro b o hb
        by_cases z : b = Dl
        · subst z
          rw [upd_same] at hb
          cases hb
          exact a6
        · rw [upd_ne z] at hb
          exact a2 b o hb
      · by_cases z : b = Dl
        · subst z
          rw [upd_same] at hb
          cases hb
          exact .inr ⟨hD1, fun ps z => by cases z⟩
        · rw [upd_ne z] at hb
          exact a4.fresh b o hb
      · rw [ho]
        exact ⟨acc, upd_same, DtAll.ex (Ex.new a5) a7⟩
theorem ed_lc {wi : TI} {g : TG} {tt : TT} {te : TE} {vs : List Nat} {n : Nat} {Y : Hp → Nat → Hp → V → Hp → Prop} (els : Nat → Option PyData) {out : List PyData} (hw : EvI wi σ H n Y)
    (ht : ∀ i, i < n → ∀ Hi Hb H2 x H3, Ex H Hi → Ex Hi Hb → Ex Hb H2 → Y Hi i H2 x H3 → ∃ Hc σ2, Ext Hb H2 Hc ∧ Ex Hc H3 ∧ Ex H2 H3 ∧ EvG g x (L2.wipe σ vs) H3 σ2 ∧ L2.wipe σ2 vs = L2.wipe σ vs ∧
      ∃ b, EvB tt σ2 Hc b ∧ (b = false → els i = none) ∧ (b = true → ∃ d, els i = some d ∧ EvD K te σ2 Hc d)) (hn : n ≤ 50000) (ho : out = (List.range n).filterMap els) : EvD K (tLc wi g tt te vs) σ H (.list out) := (en_lc els hw ht hn ho).ed
theorem filterMap_range {α β : Type} (l : List α) (f : α → Option β) : (List.range l.length).filterMap (fun i => (l[i]?).bind f) = l.filterMap f := by
  induction l with
  | nil => rfl
  | cons a r ih =>
    rw [List.length_cons, List.range_succ_eq_map, List.filterMap_cons, List.filterMap_map]
    show (match (some a).bind f with | none => _ | some b => b :: _) = _
    rw [List.filterMap_cons]
    have e : (List.range r.length).filterMap ((fun i => ((a :: r)[i]?).bind f) ∘ Nat.succ) = r.filterMap f := by
      rw [← ih]
      apply congrArg (fun g => List.filterMap g (List.range r.length))
      funext i
      simp
    rw [e]
    rfl
end
end LR

/-! ### defs: promises over data, calls, walks of anything (own work) -/
namespace LR
open PySem PySem.Spec PyProof.Rows L2 Evl
/-- the way of exceptions: L2N's -/
abbrev CXL (P : Program) (w : World) : CXT := L2N.CX P w
theorem passN {X : Cx} : Passes (CXL X.prog X.w) X E0 := fun _ _ _ _ _ _ _ h => by
  obtain ⟨_, _, _, _, _, _, _, _, _, _, _, _, z⟩ := h
  exact z.elim
/-- a def that is called by its global name -/
structure Fx (P : Program) (w : World) (K : PySem.W.Frag) (mg : Str → Option Value) (base : Heap) (k : Nat) (x : Str) (ps : List Str) (sp : Sp) : Prop where
  ex : ∃ (f : Addr) (fd : FuncData), FnOk P w K mg base (CXL P w) k f fd ps sp ∧ mg x = some (.ref f) ∧ PySem.W.keepIn K (.ref f) = true ∧ Binds K fd ps []
theorem Fx.mono {P : Program} {w : World} {K : PySem.W.Frag} {mg : Str → Option Value} {base : Heap} {j k : Nat} {x : Str} {ps : List Str} {sp : Sp} (c : Fx P w K mg base j x ps sp) (h : j ≤ k) : Fx P w K mg base k x ps sp := by
  obtain ⟨f, fd, F, r⟩ := c.ex
  exact ⟨f, fd, F.mono h, r⟩
section
variable {X : Cx} {k j : Nat} {x : Str} {ps : List Str} {sp : Sp} {E : XK} {p pos : Pos} {e : Expr} {es : List Expr} {t : TA}
theorem pe_fx (c : Fx X.prog X.w X.K X.mg X.base k x ps sp) (hr : Room j X.A) (hk : k ≤ j) (hg : Gl X x) (hx : Passes (CXL X.prog X.w) X E) (ha : PA X (e :: es) t)
    (hdb : (x == ("__debug__" : Str)) = false := by decide) (he : starEach (e :: es) X.env = (false, eval e X.env) :: starEach es X.env := by rfl) (hpl : (backTo pos (starEach es X.env)).any (·.1) = false := by rfl) :
    PE X (.Call (.Name x p) (e :: es) [] pos) (tCall sp [] E t) := by
  obtain ⟨f, fd, F, hm, kp, b⟩ := c.ex
  exact pe_call F (hr.mono hk) hg hm kp b .nil hx ha hdb he hpl
/-- a for, a comprehension over a list, a tuple or a text -/
def iU (K : PySem.W.Frag) (tl : TE) : TI := fun σ H R => tl σ H fun x H1 => (∃ a, x = .ref a ∧ (∃ xs, SqL K H1 a xs) ∧ R (Itl K a) H1) ∨ (∃ a, x = .ref a ∧ (∃ xs, SqT K H1 a xs) ∧ R (Itt K a) H1) ∨ (∃ z, x = .str z ∧ R (Its z) H1)
theorem pi_U {tg l : Expr} {tl : TE} (hl : PE X l tl) : PI X tg l (iU X.K tl) := by
  refine ⟨fun pins s σ H R I h => ?_⟩
  refine thn (hl.run pins s σ H _ I h) fun v s1 ⟨x, H1, I1, r1, q1⟩ => ?_
  rcases q1 with ⟨a, e, ⟨xs, hq⟩, q⟩ | ⟨a, e, ⟨xs, hq⟩, q⟩ | ⟨z, e, q⟩
  · subst e
    cases r1
    obtain ⟨its, rv, p, hz⟩ := I1.list hq
    exact wpAny_pyIter_list p.isList (pi_one (tk := s1.toks) I1 _ (turn_list a _) ⟨_, Heap.get?_push_size _ rfl, rfl, rfl⟩ q)
  · subst e
    cases r1
    obtain ⟨its, rv, p, hz⟩ := I1.tuple hq
    exact wpAny_pyIter_tuple (show s1.heap.IsTuple a its.toArray from p) (pi_one (tk := s1.toks) I1 _ (turn_tuple a _) ⟨_, Heap.get?_push_size _ rfl, rfl, rfl⟩ q)
  · subst e
    obtain ⟨t, rfl⟩ := r1
    cases ha : z.cps.all (· < 128)
    · exact wpAny_pyIter_wide ha (pi_one (tk := s1.toks) I1 _ (turn_str _ z t "str_iterator" (.inr rfl)) ⟨_, Heap.get?_push_size _ rfl, rfl, rfl⟩ q)
    · exact wpAny_pyIter_ascii ha (pi_one (tk := s1.toks) I1 _ (turn_str _ z t "str_ascii_iterator" (.inl rfl)) ⟨_, Heap.get?_push_size _ rfl, rfl, rfl⟩ q)
end
section
variable {K : PySem.W.Frag} {σ : L2.St} {H : Hp} {te : TE} {ta : TA}
theorem eiU_str {z : Str} (h : EvD K te σ H (.str z)) : EvI (iU K te) σ H z.cps.size (YS z) := fun H1 e1 R r =>
  h H1 e1 _ fun v H2 H' e2 e x dv => .inr (.inr ⟨z, dv.str_eq, r _ (fun _ => True) H2 H' e2 e x (fun _ _ => trivial) walk_str⟩)
/-- items of data; what was known stays -/
theorem eiU_list {ds : List PyData} (h : EvD K te σ H (.list ds)) : EvI (iU K te) σ H ds.length (YD K ds) := fun H1 e1 R r =>
  h H1 e1 _ fun v H2 H' e2 e x dv => by
    obtain ⟨a, xs, rfl, ha, ra⟩ := dv.lst_eq
    refine .inl ⟨a, rfl, ⟨xs, sq_of (e a _ ha)⟩, r _ (fun H3 => Ex H' H3) H2 H' e2 e x (fun H3 e3 => e3) ?_⟩
    rw [← ra.length]
    exact (walk_list (K := K) (a := a) (xs := xs)).mono (fun H3 e3 => sq_of (e3 a _ ha)) fun i H3 y H4 hi e3 z => by
      obtain ⟨d, d1, d2⟩ := ra.get' z.2
      exact ⟨z.1, d, d1, d2⟩
theorem eiU_tup {ds : List PyData} (h : EvD K te σ H (.tuple ds)) : EvI (iU K te) σ H ds.length (YD K ds) := fun H1 e1 R r =>
  h H1 e1 _ fun v H2 H' e2 e x dv => by
    obtain ⟨a, xs, rfl, ha, ra⟩ := dv.tup_eq
    refine .inr (.inl ⟨a, rfl, ⟨xs, ex_t e ha⟩, r _ (fun H3 => Ex H' H3) H2 H' e2 e x (fun H3 e3 => e3) ?_⟩)
    rw [← ra.length]
    exact (walk_tup (K := K) (a := a) (xs := xs)).mono (fun H3 e3 => ex_t e3 ha) fun i H3 y H4 hi e3 z => by
      obtain ⟨d, d1, d2⟩ := ra.get' z.2
      exact ⟨z.1, d, d1, d2⟩
/-- the promise of a pure def: from data to data -/
def spR (K : PySem.W.Frag) (n : Nat) (R : List PyData → PyData → Prop) : Sp := fun vs H1 Q _ => ∃ H ds r, Ex H H1 ∧ DtAll K H vs ds ∧ ds.length = n ∧ R ds r ∧ KD K H H1 r Q
theorem spR_len {n : Nat} {R : List PyData → PyData → Prop} {vs : List V} {H1 : Hp} {Q : VK} {E : XK} (h : spR K n R vs H1 Q E) : vs.length = n := by
  obtain ⟨H, ds, r, _, da, hl, _⟩ := h
  rw [da.length, hl]
theorem ed_call {n : Nat} {R : List PyData → PyData → Prop} {E : XK} {ds : List PyData} {z : PyData} (ha : EvDs K ta σ H ds) (hR : R ds z) (hn : ds.length = n := by rfl) : EvD K (tCall (spR K n R) [] E ta) σ H z := fun H1 e1 Q q =>
  ha H1 e1 _ fun vs H2 Ha e2 ea xa da => by
    show spR K n R (vs ++ []) H2 Q E
    rw [List.append_nil]
    exact ⟨Ha, ds, z, ea, da, hn, hR, fun v H3 Hb e3 eb xb db => q v H3 Hb (e2.trans e3) eb (xa.trans e2 xb) db⟩
end
section
variable {P : Program} {w : World} {K : PySem.W.Frag} {mg : Str → Option Value} {base : Heap}
/-- a pure def of the text keeps its promise -/
theorem fn_pure {nm qual : Str} {st : Stmt} {f : Addr} {fd : FuncData} {N ps : List Str} {k n : Nat} {R : List PyData → PyData → Prop} (F : FunD K nm qual (defArgs st) (defBody st) (defScope st) [] [] f fd) (S : FnScope N ps (defScope st)) (hn : ps.length = n)
    (body : ∀ (cdv : Value) (A : Around) (outer : List Env) (s : Shared) (Hs : Hp) (E : XK), Room k (A.deeper (envOfC qual (defScope st) s.heap.objs.size f cdv)) → ∀ (ds : List PyData) (r : PyData), ds.length = n → R ds r →
      ∃ t, PSs (cxOf (CXL P w) P w K mg base N qual (defScope st) f cdv A outer s Hs E).nox (defBody st) t ∧
        ∀ (σ : L2.St) (H0 H10 : Hp) (Q : VK), Now H0 H10 H0 H10 → Sl K H0 σ (ds.map .dat ++ List.replicate (N.length - n) .unk) → KD K H0 H10 r Q → t { nx := fun _ H' => Q .non H', rt := Q } σ H10) :
    FnOk P w K mg base (CXL P w) (k + 1) f fd ps (spR K n R) := by
  refine F.ok S (fun vs H Q E h => ?_) (fun cdv A outer s H1 vs Q E hr h => ?_)
  · rw [hn]
    exact spR_len h
  · obtain ⟨H, ds, r, e, da, hl, hR, q⟩ := h
    obtain ⟨t, ht, hk⟩ := body cdv A outer s H1 E hr ds r hl hR
    refine ⟨t, ht.nox, hk _ H H1 Q (Now.start e) ?_ q⟩
    have z := sl_start (K := K) (H := H) (N.length - vs.length) da
    have lv : vs.length = n := da.length.trans hl
    rw [lv] at z
    unfold L2.start
    rw [lv]
    exact z
theorem fx_pure {x nm qual : Str} {st : Stmt} {f : Addr} {fd : FuncData} {N ps : List Str} {k n : Nat} {R : List PyData → PyData → Prop} (F : FunD K nm qual (defArgs st) (defBody st) (defScope st) [] [] f fd) (hm : mg x = some (.ref f)) (S : FnScope N ps (defScope st)) (hn : ps.length = n)
    (hb : ∀ (kV doc pm : Value) (an : Option Addr) (cdv ct : Value) (us : List Value), us.length = ps.length → bindArgs (PySem.W.fnOf nm qual (defArgs st) (defBody st) (defScope st) .none kV doc pm an cdv ct) ⟨us, []⟩ = pure (ps.zip us))
    (body : ∀ (cdv : Value) (A : Around) (outer : List Env) (s : Shared) (Hs : Hp) (E : XK), Room k (A.deeper (envOfC qual (defScope st) s.heap.objs.size f cdv)) → ∀ (ds : List PyData) (r : PyData), ds.length = n → R ds r →
      ∃ t, PSs (cxOf (CXL P w) P w K mg base N qual (defScope st) f cdv A outer s Hs E).nox (defBody st) t ∧
        ∀ (σ : L2.St) (H0 H10 : Hp) (Q : VK), Now H0 H10 H0 H10 → Sl K H0 σ (ds.map .dat ++ List.replicate (N.length - n) .unk) → KD K H0 H10 r Q → t { nx := fun _ H' => Q .non H', rt := Q } σ H10) :
    Fx P w K mg base (k + 1) x ps (spR K n R) := ⟨f, fd, fn_pure F S hn body, hm, F.kp, F.bindsN hb⟩
/-- the law's promise, at the end -/
theorem law_sp {H : Hp} {a : Addr} {ns : List Int} {R : List PyData → PyData → Prop} (hR : R [scrD ns] (.bool true)) (hS : SqL K H a (ns.map V.int)) : spR K 1 R [.ref a] H (fun v _ => v = .bl true) fun _ _ _ => False :=
  ⟨H, [scrD ns], .bool true, Ex.refl _, .cons (.scr ns hS) .nil, rfl, hR, fun _ _ _ _ _ _ dv => dv.bl_eq⟩
end
end LR

/-! ### rules with the written part by name (inside a comprehension the context is another, the written part is the same) -/
namespace LR
open PySem PySem.Spec PyProof.Rows L2 Evl
section
variable {X : Cx} {K : PySem.W.Frag}
theorem op_addK (h : X.K = K) : OpR X (binaryOp .Add) (rAddU K) := h ▸ op_addU
theorem op_mulK (h : X.K = K) : OpR X (binaryOp .Mult) (rMulU K) := h ▸ op_mulU
theorem op_eqK (h : X.K = K) (hu : X.A.units + 64 < cLine) : OpR X (compareOp .Eq) (rEqU K) := h ▸ op_eqU hu
theorem op_neK (h : X.K = K) (hu : X.A.units + 64 < cLine) : OpR X (compareOp .NotEq) (rNeU K) := h ▸ op_neU hu
theorem call_lenK (h : X.K = K) : CallR X (.builtin "len") (lenR K) := h ▸ call_len
theorem call_isK (h : X.K = K) : CallR X (.builtin "isinstance") (rIsi K) := h ▸ call_isi
theorem cr_allK (h : X.K = K) (hc : X.calm = true) : CallR X (.builtin "all") (rAll K) := h ▸ cr_all hc
theorem cr_anyK (h : X.K = K) (hc : X.calm = true) : CallR X (.builtin "any") (rAny K) := h ▸ cr_any hc
theorem cr_sumK (h : X.K = K) (hc : X.calm = true) : CallR X (.builtin "sum") (rSum K) := h ▸ cr_sum hc
theorem ix_K (h : X.K = K) : IxR X (rIx K) := h ▸ ix_seq
theorem sl_K (h : X.K = K) : SlR X (rSlU K) := h ▸ sl_U
theorem pi_K {tg l : Expr} {tl : TE} (h : X.K = K) (hl : PE X l tl) : PI X tg l (iU K tl) := h ▸ pi_U hl
theorem pg_tupK {es : List Expr} {k : Nat} {pos : Pos} {t : TGs} {n : Nat} (hK : X.K = K) (hc : X.calm = true) (h : PGs X es t)
    (hn : (assignEach es X.env).length = n := by rfl) (hst : (assignEach es X.env).findIdx? (·.1) = none := by rfl) : PG X (.Tuple es k pos) (gTup K n t) := hK ▸ pg_tup hc h hn hst
def rTupOf (K : PySem.W.Frag) : List V → Hp → VK → Prop := fun xs H Q => ∃ p ys, xs = [.ref p] ∧ ((SqL K H p ys ∧ ∀ l, H l = none → Q (.ref l) (upd H l (.tup ys))) ∨ (SqT K H p ys ∧ Q (.ref p) H))
theorem call_tupK (h : X.K = K) : CallR X (.type "tuple") (rTupOf K) := h ▸ call_tuple_of
def rLstOf (K : PySem.W.Frag) : List V → Hp → VK → Prop := fun xs H Q => ∃ p ys, xs = [.ref p] ∧ (SqL K H p ys ∨ SqT K H p ys) ∧ ∀ l, H l = none → Q (.ref l) (upd H l (.lst ys))
theorem call_lstK (h : X.K = K) : CallR X (.type "list") (rLstOf K) := h ▸ call_list_of
theorem pe_bmK {T : String} {name : Str} {id : String} {r : V → List V → Hp → VK → Prop} {o e : Expr} {es : List Expr} {to : TE} {t : TA} {apos cpos : Pos} (hK : X.K = K) (pa : PlainAttrs T) (slot : Slot T name id) (hty : typeOf (.builtin id) = pure (.type "method_descriptor")) (hm : MtR X id r) (ho : PE X o to) (ha : PA X (e :: es) t)
    (hbase : attributeBase o name X.env (eval o X.env) = eval o X.env := by rfl)
    (hfew : ((backTo cpos (starEach (e :: es) X.env)).all (fun x => !x.1) && (backToKw cpos (keywordEach [] X.env)).all (fun x => x.1.isSome)
      && decide ((e :: es).length + ([] : List Keyword).length + (if ([] : List Keyword).isEmpty then 0 else 1) < 30)) = true := by rfl)
    (hline : (apos.endLine == cpos.line) = true := by rfl) (he : starEach (e :: es) X.env = (false, eval e X.env) :: starEach es X.env := by rfl) (hpl : (backTo cpos (starEach es X.env)).any (·.1) = false := by rfl) :
    PE X (.Call (.Attribute o name apos) (e :: es) [] cpos) (tBM K T r to t) := hK ▸ pe_bm pa slot hty hm ho ha hbase hfew hline he hpl
def rJoin (K : PySem.W.Frag) : V → List V → Hp → VK → Prop := fun x xs H Q => ∃ a p, ∃ ys : List Str, x = .str a ∧ xs = [.ref p] ∧ (SqL K H p (ys.map V.str) ∨ SqT K H p (ys.map V.str)) ∧ (ys.map (·.length)).sum + ys.length * a.length ≤ 16777216 ∧ Q (.str (Txt.join a ys)) H
theorem mt_joinK (h : X.K = K) : MtR X "str.join" (rJoin K) := h ▸ mt_join
theorem pi_zipK {e e2 : Expr} {ta : TA} {p pos tpos : Pos} {elts : List Expr} {kk : Nat} (hK : X.K = K) (hg : Gl X "zip") (hm : X.mg "zip" = none) (ha : PA X [e, e2] ta)
    (hs : starEach [e, e2] X.env = (false, eval e X.env) :: starEach [e2] X.env := by rfl) (hpl : (backTo pos (starEach [e2] X.env)).any (·.1) = false := by rfl) :
    PI X (.Tuple elts kk tpos) (.Call (.Name "zip" p) [e, e2] [] pos) (RZ.iZipA K ta) := hK ▸ RZ.pi_zipA hg hm ha hs hpl
end
end LR

/-! ### sets of texts and whole numbers that can be walked (own work over the kit's tables) -/
namespace LR
open PySem PySem.Spec PyProof.Rows L2
/-- the key of a row -/
def keyE (r : Int × Value) : Key := match r.2 with
  | .int i _ => .inl i
  | .str z _ => .inr z
  | _ => .inl 0
def RowOk (P : Program) (w : World) (r : Int × Value) : Prop := ∃ k, RelV (kV k) r.2 ∧ r.1 = (mixKind P w).hash k
theorem keyE_of {r : Int × Value} {k : Key} (h : RelV (kV k) r.2) : keyE r = k := by
  unfold keyE
  cases k with
  | inl i =>
    obtain ⟨t, e⟩ := (show ∃ t, r.2 = Value.int i t from h)
    rw [e]
  | inr x =>
    obtain ⟨t, e⟩ := (show ∃ t, r.2 = Value.str x t from h)
    rw [e]
theorem row_elems {P : Program} {w : World} {l : List (Int × Value)} (g : ∀ r ∈ l, RowOk P w r) : ElemsOf (mixKind P w) l := fun r hr => by
  obtain ⟨k, h1, h2⟩ := g r hr
  exact ⟨⟨k, kV_is h1, h2⟩, key_scan h1⟩
theorem row_mem {P : Program} {w : World} {l : List (Int × Value)} (g : ∀ r ∈ l, RowOk P w r) (k : Key) : k ∈ l.map keyE ↔ ∃ r ∈ l, (mixKind P w).is k r.2 = true := by
  rw [List.mem_map]
  constructor
  · rintro ⟨r, hr, q⟩
    obtain ⟨k', h1, _⟩ := g r hr
    rw [keyE_of h1] at q
    subst q
    exact ⟨r, hr, kV_is h1⟩
  · rintro ⟨r, hr, q⟩
    obtain ⟨k', h1, _⟩ := g r hr
    exact ⟨r, hr, (keyE_of h1).trans ((mixKind P w).inj _ _ _ (kV_is h1) q)⟩
/-- the set at a, with its rows -/
def KSet (P : Program) (w : World) (h : Heap) (a : Addr) (S : Key → Bool) (n : Nat) : Prop :=
  ∃ ob rows ep tb, h.get? a = some ob ∧ ob.ExactSet ∧ ob.data = .set rows ep tb ∧ (∀ r ∈ rows.toList, RowOk P w r) ∧ (rows.toList.map keyE).Nodup ∧ (∀ k, S k = true ↔ k ∈ rows.toList.map keyE) ∧
    rows.size < scanBound ∧ tb.fits rows.size = true ∧ rows.size = n ∧ Ris tb.place.toList ∧ (w.params.followText "set-order" = true ∨ tb.led = true)
section
variable {P : Program} {w : World} {h h' : Heap} {a : Addr} {S : Key → Bool} {n : Nat}
theorem KSet.at (R : KSet P w h a S n) (k : ∀ ob, h.get? a = some ob → h'.get? a = some ob) : KSet P w h' a S n := by
  obtain ⟨ob, rows, ep, tb, ho, r⟩ := R
  exact ⟨ob, rows, ep, tb, k ob ho, r⟩
theorem KSet.congr {S' : Key → Bool} (R : KSet P w h a S n) (e : ∀ k, S' k = S k) : KSet P w h a S' n := by
  rw [show S' = S from funext e]
  exact R
theorem kset_fresh (ho : h.get? a = some { cls := .type "set", dict := none, data := .set #[] 0 (.fresh 0 0 (!w.params.followText "set-order")) }) : KSet P w h a (fun _ => false) 0 :=
  ⟨_, #[], 0, _, ho, ⟨rfl, rfl, rfl⟩, rfl, (fun r hr => by simp at hr), by simp, (fun k => by simp), by decide, by rfl, rfl, List.Pairwise.nil, by
    cases w.params.followText "set-order" with
    | true => exact .inl rfl
    | false => exact .inr rfl⟩
end
section
variable {P : Program} {w : World} {A : Around} {E : Value → Shared → Prop} {s : Shared} {a : Addr} {S : Key → Bool} {n : Nat}
theorem kset_tail {gv : Bool → Sem Unit} (hgv : ∀ (b : Bool) (z : Shared) (Q' : Unit → Shared → Prop), Q' () z → wpAny (model P w) A (gv b) Q' E z)
    {ob : Obj} {rows : Array (Int × Value)} {ep : Nat} {tb : SetTable} (ho : s.heap.get? a = some ob) (hex : ob.ExactSet) (hd : ob.data = .set rows ep tb)
    {rw1 : Array (Int × Value)} {tb2 : SetTable} {S' : Key → Bool} (g1 : ∀ r ∈ rw1.toList, RowOk P w r) (nd1 : (rw1.toList.map keyE).Nodup) (m1 : ∀ k, S' k = true ↔ k ∈ rw1.toList.map keyE)
    (hb1 : rw1.size < scanBound) (hf2 : tb2.fits rw1.size = true) (hr : Ris tb2.place.toList) (hl : w.params.followText "set-order" = true ∨ tb2.led = true) {was : Bool} {R : Option Bool → Shared → Prop}
    (hR : ∀ h', Heap.SameBut a s.heap h' → KSet P w h' a S' rw1.size → R (some true) { s with heap := h' }) :
    wpAny (model P w) A (do
        storeSet a rw1 tb2
        if (!was && tb2.tooFull) = true then do
            gv (relayAll tb2 rw1 (SetTable.grown rw1.size)).2.2
            storeSet a (relayAll tb2 rw1 (SetTable.grown rw1.size)).1 (relayAll tb2 rw1 (SetTable.grown rw1.size)).2.1
            pure (some true)
          else pure (some true)) R E s := by
  have st1 := store_at (es' := rw1) (t' := tb2) ho hd
  have same1 := Heap.SameBut.update s.heap a (Obj.putSet rw1 tb2)
  refine wpAny_bind (wpAny_storeSet_of ho hd ?_ (fits_of_scanBound hb1))
  split
  · have q1 := relayAll_perm tb2 rw1 (SetTable.grown rw1.size)
    have q2 := relayAll_fits tb2 rw1 (SetTable.grown rw1.size)
    have q3 := relayAll_ris tb2 rw1 (SetTable.grown rw1.size)
    have q4 := relayAll_led tb2 rw1 (SetTable.grown rw1.size)
    generalize relayAll tb2 rw1 (SetTable.grown rw1.size) = Z at q1 q2 q3 q4 ⊢
    obtain ⟨rw2, tb3, gave⟩ := Z
    dsimp only at q1 q2 q3 q4 ⊢
    have hsz : rw2.size = rw1.size := by
      have e := q1.length_eq
      simpa using e
    have hb2 : rw2.size < scanBound := hsz ▸ hb1
    refine wpAny_bind (hgv _ _ _ (wpAny_bind (wpAny_storeSet_of st1 rfl ?_ (fits_of_scanBound hb2))))
    have st2 := store_at (es' := rw2) (t' := tb3) st1 rfl
    refine wpAny_pure (hR _ (same1.trans (Heap.SameBut.update _ a _)) ⟨_, rw2, _, tb3, st2, hex, rfl, fun r hr => g1 r (q1.mem_iff.mp hr), (q1.map keyE).nodup_iff.mpr nd1, fun k => (m1 k).trans (q1.map keyE).mem_iff.symm, hb2, q2, hsz, q3, ?_⟩)
    rcases hl with z | z
    · exact .inl z
    · exact .inr (q4.trans z)
  · exact wpAny_pure (hR _ same1 ⟨_, rw1, _, tb2, st1, hex, rfl, g1, nd1, m1, hb1, hf2, rfl, hr, hl⟩)
theorem kset_add {k : Key} {u : Value} {Q : Bool → Shared → Prop} (hu : RelV (kV k) u) (R : KSet P w s.heap a S n) (room : n + 1 < scanBound)
    (hQ : ∀ h', Heap.SameBut a s.heap h' → KSet P w h' a (fun j => S j || decide (j = k)) (if S k = true then n else n + 1) → Q (!S k) { s with heap := h' }) :
    wpAny (model P w) A (setAddHashed a u ((mixKind P w).hash k)) Q E s := by
  obtain ⟨ob, rows, ep, tb, ho, hex, hd, g, nd, hm, hb, hf, hn, hr, hl⟩ := R
  have hkey : (mixKind P w).is k u = true := kV_is hu
  have hsc := key_scan hu
  have hel := row_elems g
  unfold setAddHashed setAddHashedIn
  refine wpAny_holding (wpAny_bind (wpAny_setState_of ho hd hf ?_))
  dsimp only
  rw [byScan_of hsc hb hel]
  simp only [↓reduceIte]
  unfold setAddByScan
  refine wpAny_bind (wpAny_bind (wpAny_rule (wpAny_bind (wpAny_setScan_of hkey ho hd hf hel ?_))))
  cases fi : List.findIdx? (fun r => (mixKind P w).is k r.2) rows.toList with
  | some j =>
    dsimp only
    obtain ⟨hj, pj, _⟩ := List.findIdx?_eq_some_iff_getElem.mp fi
    have inS : S k = true := (hm k).2 ((row_mem g k).2 ⟨rows.toList[j], List.getElem_mem hj, pj⟩)
    have z := hQ s.heap (Heap.SameBut.refl a s.heap) ⟨ob, rows, ep, tb, ho, hex, hd, g, nd, fun i => by
      rw [Bool.or_eq_true, decide_eq_true_eq, ← hm i]
      constructor
      · rintro (y | rfl)
        · exact y
        · exact inS
      · exact .inl, hb, hf, by rw [if_pos inS]; exact hn, hr, hl⟩
    rw [inS] at z
    exact wpAny_pure (wpAny_pure z)
  | none =>
    dsimp only
    have out : k ∉ rows.toList.map keyE := fun z => by
      obtain ⟨r, hr, q⟩ := (row_mem g k).1 z
      have c := List.findIdx?_eq_none_iff.mp fi r hr
      rw [q] at c
      cases c
    have outS : S k = false := by
      cases q : S k with
      | false => rfl
      | true => exact absurd ((hm k).1 q) out
    have gave : ∀ (b : Bool) {z : Shared} {Q' : Unit → Shared → Prop}, Q' () z → wpAny (model P w) A (match b with | true => rule "set.scan.the-table-gave-way" | false => pure ()) Q' E z := fun b z Q' q => by
      cases b with
      | true => exact wpAny_rule q
      | false => exact wpAny_pure q
    have q1 := layNew_perm tb rows ((mixKind P w).hash k) u
    have q2 := layNew_fits tb rows ((mixKind P w).hash k) u
    have q3 := layNew_ris tb rows ((mixKind P w).hash k) u hr
    have q4 := layNew_led tb rows ((mixKind P w).hash k) u
    generalize layNew tb rows ((mixKind P w).hash k) u = Z at q1 q2 q3 q4 ⊢
    obtain ⟨rw1, tb1, was, gv⟩ := Z
    dsimp only at q1 q2 q3 q4 ⊢
    rw [Array.toList_push] at q1
    have pc : rw1.toList.Perm (((mixKind P w).hash k, u) :: rows.toList) := q1.trans (List.perm_append_singleton _ _)
    have pk : (rw1.toList.map keyE).Perm (k :: rows.toList.map keyE) := by
      have y := pc.map keyE
      rw [List.map_cons, keyE_of (r := ((mixKind P w).hash k, u)) hu] at y
      exact y
    have g1 : ∀ r ∈ rw1.toList, RowOk P w r := fun r hr => by
      rcases List.mem_cons.mp (pc.mem_iff.mp hr) with z | z
      · rw [z]
        exact ⟨k, hu, rfl⟩
      · exact g r z
    have nd1 : (rw1.toList.map keyE).Nodup := pk.nodup_iff.mpr (List.nodup_cons.mpr ⟨out, nd⟩)
    have m1 : ∀ i, (S i || decide (i = k)) = true ↔ i ∈ rw1.toList.map keyE := fun i => by
      rw [pk.mem_iff, List.mem_cons, Bool.or_eq_true, decide_eq_true_eq, hm i]
      exact Or.comm
    have hsz : rw1.size = n + 1 := by
      have e := pc.length_eq
      simp only [List.length_cons, Array.length_toList] at e
      omega
    have hb1 : rw1.size < scanBound := hsz ▸ room
    have led1 : w.params.followText "set-order" = true ∨ tb1.led = true := by
      rcases hl with z | z
      · exact .inl z
      · exact .inr (q4.trans z)
    have fin : ∀ h', Heap.SameBut a s.heap h' → KSet P w h' a (fun j => S j || decide (j = k)) rw1.size → Q true { s with heap := h' } := fun h' sb r => by
      have q := hQ h' sb
      rw [outS, if_neg (by decide), ← hsz] at q
      exact q r
    refine wpAny_bind (gave _ ?_)
    split
    · refine wpAny_bind ?_
      rw [hashByValue_scannable 8 hsc]
      refine wpAny_pure (kset_tail ?_ ho hex hd g1 nd1 m1 hb1 ?_ ?_ ?_ fun h' sb r => ?_)
      · intro b z Q' q; cases b <;> first | exact wpAny_pure q | exact wpAny_rule q
      · first | (split <;> first | exact q2 | exact SetTable.fits_plain_off q2) | exact q2
      · first | (split <;> exact q3) | exact q3
      · first | (split <;> exact led1) | exact led1
      · dsimp only
        exact wpAny_pure (fin h' sb r)
    · refine wpAny_bind (wpAny_pure ?_)
      simp only [↓reduceIte]
      refine kset_tail ?_ ho hex hd g1 nd1 m1 hb1 q2 q3 led1 fun h' sb r => ?_
      · intro b z Q' q; cases b <;> first | exact wpAny_pure q | exact wpAny_rule q
      · dsimp only
        exact wpAny_pure (fin h' sb r)
/-- among the keys -/
def inK (ks : List Key) (j : Key) : Bool := ks.any fun k => decide (j = k)
theorem inK_iff {ks : List Key} {j : Key} : inK ks j = true ↔ j ∈ ks := by
  unfold inK
  rw [List.any_eq_true]
  constructor
  · rintro ⟨k, hk, e⟩
    rw [of_decide_eq_true e]
    exact hk
  · intro h
    exact ⟨j, h, by simp⟩
/-- the loop behind set(..) -/
theorem kset_loop {I : Addr} {fp wr : List Addr} {G : Array GenState → Array GenState → Prop} {m : Nat} {Pv : Nat → Value → Prop} {St : Nat → Shared → Prop} {R : Result → Shared → Prop}
    (W : WalksS P w A.in1 I fp wr G m Pv St) (T : Addr) (hTf : T ∉ fp) (ks : List Key) (hm : m = ks.length) (hb : ks.length + 1 < scanBound) (hval : ∀ i v, Pv i v → ∃ k, ks[i]? = some k ∧ RelV (kV k) v) :
    ∀ (d i : Nat) (s : Shared), m - i = d → i ≤ m → St i s → (∃ c, c ≤ i ∧ KSet P w s.heap T (inK (ks.take i)) c) →
      (∀ s' c, Moved (T :: wr) G s s' → c ≤ m → KSet P w s'.heap T (inK ks) c → R (.ok (.ret .none)) s') →
      codeAny (model P w) A (.builtin "set.update.loop" ⟨[.ref T, .ref I], []⟩) R s := by
  have hTw : T ∉ wr := fun h => hTf (W.sub _ h)
  have sub : ∀ b ∈ wr, b ∈ T :: wr := fun b hb => List.mem_cons_of_mem _ hb
  intro d
  induction d with
  | zero =>
    rintro i z hd hi hst ⟨c, hc, hT⟩ hR
    obtain rfl : i = m := by omega
    refine codeAny_builtin F.entry_set_update_loop ?_
    rw [Around.under_plainId F.plain_set_update_loop _]
    show wpAny _ A.in1 (pyNext (.ref I) >>= _) _ _ z
    refine wpAny_bind (W.done z _ _ hst fun z' mv => ?_)
    show wpAny _ A.in1 (ret Value.none) _ _ z'
    rw [List.take_of_length_le (show ks.length ≤ i by omega)] at hT
    exact wpAny_pure (hR z' c (mv.mono sub) hc (hT.at fun o e => mv.heap T o hTw e))
  | succ d ih =>
    rintro i z hd hi hst ⟨c, hc, hT⟩ hR
    have lt : i < m := by omega
    refine codeAny_builtin F.entry_set_update_loop ?_
    rw [Around.under_plainId F.plain_set_update_loop _]
    show wpAny _ A.in1 (pyNext (.ref I) >>= _) _ _ z
    refine wpAny_bind (W.item i z _ _ lt hst fun v z' hP hst' mv => ?_)
    obtain ⟨k, hk, rv⟩ := hval i v hP
    have hT' := hT.at (h' := z'.heap) fun o e => mv.heap T o hTw e
    show wpAny _ A.in1 (holding [v] (setAdd T v) >>= _) _ _ z'
    refine wpAny_bind (wpAny_holding ?_)
    unfold setAdd
    refine wpAny_holding (wpAny_bind ((mixKind P w).pyHash (k := k) (kV_is rv) ?_))
    refine kset_add (s := { z' with toks := z'.toks + 1 }) rv hT' (by omega) fun h' sb r => ?_
    have r2 : KSet P w h' T (inK (ks.take (i + 1))) (if inK (ks.take i) k = true then c else c + 1) := r.congr fun j => by
      unfold inK
      rw [List.take_add_one, hk, List.any_append]
      simp
    refine wpAny_pure ⟨plainId_quiet F.plain_set_update_loop _, ih (i + 1) _ (by omega) lt (W.frame _ z' _ _ hst' (Nat.le_succ _) fun b hb o e => ?_) ⟨_, by split <;> omega, r2⟩ fun z2 c2 mv2 hc2 hT2 => ?_⟩
    · rw [sb.2 b fun y : b = T => hTf (y ▸ hb)]
      exact e
    · refine hR z2 c2 (Moved.trans W.gtrans ((mv.mono sub).then_heap (Nat.le_succ _) fun b o hb e => ?_) mv2) hc2 hT2
      rw [sb.2 b fun y : b = T => hb (y ▸ List.mem_cons_self)]
      exact e
set_option maxHeartbeats 3200000 in
/-- set(a list of keys) -/
theorem kset_call {l : Addr} {its : Array Value} {ks : List Key} {Q : Value → Shared → Prop} (hh : A.handled = none) (hl : s.heap.IsList l its) (rv : Vals (ks.map kV) its.toList) (hb : ks.length + 1 < scanBound)
    (h : ∀ (h' : Heap) (tk c : Nat), KSet P w h' s.heap.objs.size (inK ks) c → c ≤ ks.length → (∀ b o, s.heap.get? b = some o → h'.get? b = some o) → Q (.ref s.heap.objs.size) { s with heap := h', toks := tk }) :
    wpAny (model P w) A (call (.type "set") [.ref l]) Q E s := by
  have size : its.size = ks.length := by
    have q := rv.length
    rw [List.length_map, Array.length_toList] at q
    exact q.symm
  obtain ⟨_, _, mro⟩ := F.called_set.mro
  have made := F.called_set.made
  have subT := F.called_set.sub
  have c1 := F.called_set.notType
  have c2 := F.called_set.canCreate
  have c3 := F.typeCall_set_1 (.ref l)
  refine wpAny_call (codeAny_of_tree (show wpAny _ _ (callAny (.type "set") _) _ _ _ from wpAny_pure ⟨Code.quiet_builtin _ (by decide +kernel), codeAny_builtin F.entry_type_call ?_⟩))
  rw [Around.under_plain (weight_type_call_type "set" [.ref l] []) rfl]
  repeat (any_goals (first | assumption | wp_step))
  let ob0 : Obj := { cls := .type "set", dict := none, data := .set #[] 0 (.fresh 0 0 (!w.params.followText "set-order")) }
  refine codeAny_mono (code_set_led1 (.ref l) (E := E) (Q₁ := fun ob z => ob = .ref s.heap.objs.size ∧ z = { s with heap := s.heap.push ob0 }) ⟨rfl, rfl⟩) fun r z hr => ?_
  match r, hr with
  | .error _, hr => exact hr
  | .ok (.ret ob), hr =>
    obtain ⟨rfl, rfl⟩ := hr
    have atT : (s.heap.push ob0).get? s.heap.objs.size = some ob0 := Heap.get?_push_size _ rfl
    have tyT : Shared.TypeIs { s with heap := s.heap.push ob0 } (.ref s.heap.objs.size) "set" := ⟨_, atT, rfl⟩
    have i1 := F.called_set.init.lookup
    have i2 := F.called_set.init.bind (.ref s.heap.objs.size)
    repeat (any_goals (first | assumption | wp_step))
    refine codeAny_mono (codeAny_call_builtin (R := wants (fun r z => r = .none ∧ ∃ h' tk c, z = { s with heap := h', toks := tk } ∧ KSet P w h' s.heap.objs.size (inK ks) c ∧ c ≤ ks.length ∧ ∀ b o, s.heap.get? b = some o → h'.get? b = some o) E) F.called_set.init.plain F.entry_set_init (check_set_init_1 tyT ?_)) fun r2 z2 hr2 => ?_
    · have hlT : l < s.heap.objs.size := by
        obtain ⟨o, ho, _⟩ := hl
        exact Heap.lt_size ho
      have hl1 : (s.heap.push ob0).IsList l its := hl.push _
      obtain ⟨ol, hol, hcl, nl, hdl⟩ := hl1
      obtain ⟨oc, od, oda, osl⟩ := ol
      simp only at hcl hdl
      subst hcl; subst hdl
      have n1 := F.sub_list_set
      have n2 := F.sub_list_frozenset
      have n3 : (Value.type "list" == Value.type "dict") = false := by decide
      have hl2 : (s.heap.push ob0).IsList l its := ⟨_, hol, rfl, nl, rfl⟩
      unfold Builtin.«set.__init__» noKeywords Builtin.Frozenset.updateFrom
      generalize hPI : pyIter = PI
      wp_walk
      subst hPI
      refine wpAny_pyIter_list hl2 (wpAny_bind (wpAny_runValue ?_))
      have hneI : l ≠ (s.heap.push ob0).objs.size := by
        rw [Heap.size_push]
        exact Nat.ne_of_lt (Nat.lt_succ_of_lt hlT)
      have hTf : s.heap.objs.size ∉ [(s.heap.push ob0).objs.size, l] := by
        rw [Heap.size_push]
        simp only [List.mem_cons, List.not_mem_nil, or_false, not_or]
        exact ⟨Nat.ne_of_lt (Nat.lt_succ_self _), Nat.ne_of_gt hlT⟩
      have hval : ∀ (i : Nat) (v : Value), its[i]? = some v → ∃ k, ks[i]? = some k ∧ RelV (kV k) v := fun i v hv => by
        have hi : i < ks.length := size ▸ (Array.getElem?_eq_some_iff.mp hv).1
        obtain ⟨u, hu, ru⟩ := rv.get (i := i) (x := kV ks[i]) (by rw [List.getElem?_map, List.getElem?_eq_getElem hi] <;> rfl)
        rw [Array.getElem?_toList, hv] at hu
        cases hu
        exact ⟨_, List.getElem?_eq_getElem hi, ru⟩
      refine kset_loop ((Walks.list (show A.in1.in1.in1.handled = none by simp [hh]) _ l hneI its).toS) s.heap.objs.size hTf ks size hb hval (its.size - 0) 0 _ rfl (Nat.zero_le _) ⟨⟨_, Heap.get?_push_size _ rfl, rfl, rfl⟩, hl2.push _⟩ ⟨0, Nat.le_refl 0, ?_⟩ fun z c mv hc hT => ?_
      · exact (kset_fresh (Heap.get?_push_of_some _ atT)).congr fun _ => rfl
      · obtain ⟨h', g', d', tk', os'⟩ := z
        obtain rfl : g' = s.gens := mv.gens
        obtain rfl : d' = s.drawn := mv.drawn
        obtain rfl : os' = s.os := mv.os
        rw [size] at hc
        refine wpAny_pure (show wpAny _ _ (ret Value.none) _ _ _ from wpAny_pure ⟨rfl, h', tk', c, rfl, hT, hc, fun b o e => ?_⟩)
        have lt := Heap.lt_size e
        refine mv.heap b o ?_ (Heap.get?_push_of_some _ (Heap.get?_push_of_some _ e))
        rw [Heap.size_push]
        simp only [List.mem_cons, List.not_mem_nil, or_false, not_or]
        exact ⟨Nat.ne_of_lt lt, Nat.ne_of_lt (Nat.lt_succ_of_lt lt)⟩
    · match r2, hr2 with
      | .error _, hr2 => exact hr2
      | .ok (.ret _), hr2 =>
        obtain ⟨rfl, h', tk, c, rfl, hT, hc, kp⟩ := hr2
        repeat (any_goals (first | assumption | wp_step))
        exact h _ _ _ hT hc kp
end
end LR

/-! ### sorted(set(..)), len(set(..)) (own work) -/
namespace LR
open PySem PySem.Spec PyProof.Rows L2 Evl
/-- rising, each once -/
def insU {α : Type} (lt : α → α → Bool) (x : α) : List α → List α
  | [] => [x]
  | y :: r => if lt x y then x :: y :: r else if lt y x then y :: insU lt x r else y :: r
def usort {α : Type} (lt : α → α → Bool) (l : List α) : List α := l.foldr (insU lt) []
structure TotO {α : Type} (lt : α → α → Bool) : Prop where
  irr : ∀ a, lt a a = false
  tr : ∀ a b c, lt a b = true → lt b c = true → lt a c = true
  tot : ∀ a b, lt a b = false → lt b a = false → a = b
section
variable {α : Type} {lt : α → α → Bool}
theorem mem_insU (o : TotO lt) {x z : α} : ∀ {l : List α}, z ∈ insU lt x l ↔ z = x ∨ z ∈ l
  | [] => by simp [insU]
  | y :: r => by
    unfold insU
    split
    · simp
    · split
      · simp only [List.mem_cons, mem_insU o]
        constructor
        · rintro (h | h | h) <;> simp [h]
        · rintro (h | h | h) <;> simp [h]
      · have e : x = y := o.tot x y (by simpa using ‹¬lt x y = true›) (by simpa using ‹¬lt y x = true›)
        subst e
        simp
theorem ris_insU (o : TotO lt) {x : α} : ∀ {l : List α}, l.Pairwise (fun a b => lt a b = true) → (insU lt x l).Pairwise (fun a b => lt a b = true)
  | [], _ => by simp [insU]
  | y :: r, h => by
    obtain ⟨h1, h2⟩ := List.pairwise_cons.mp h
    unfold insU
    split
    · rename_i hx
      refine List.pairwise_cons.mpr ⟨fun z hz => ?_, h⟩
      rcases List.mem_cons.mp hz with rfl | hz
      · exact hx
      · exact o.tr _ _ _ hx (h1 z hz)
    · split
      · rename_i hy
        refine List.pairwise_cons.mpr ⟨fun z hz => ?_, ris_insU o h2⟩
        rcases (mem_insU o).mp hz with rfl | hz
        · exact hy
        · exact h1 z hz
      · exact h
theorem mem_usort (o : TotO lt) {z : α} : ∀ {l : List α}, z ∈ usort lt l ↔ z ∈ l
  | [] => by simp [usort]
  | x :: r => by
    show z ∈ insU lt x (usort lt r) ↔ _
    rw [mem_insU o, mem_usort o, List.mem_cons]
theorem ris_usort (o : TotO lt) : ∀ (l : List α), (usort lt l).Pairwise (fun a b => lt a b = true)
  | [] => .nil
  | x :: r => ris_insU o (ris_usort o r)
/-- lists that rise are told by their members -/
theorem ris_eq (o : TotO lt) : ∀ {l m : List α}, l.Pairwise (fun a b => lt a b = true) → m.Pairwise (fun a b => lt a b = true) → (∀ z, z ∈ l ↔ z ∈ m) → l = m
  | [], [], _, _, _ => rfl
  | [], y :: m, _, _, h => absurd ((h y).mpr List.mem_cons_self) (by simp)
  | x :: l, [], _, _, h => absurd ((h x).mp List.mem_cons_self) (by simp)
  | x :: l, y :: m, h1, h2, h => by
    obtain ⟨a1, a2⟩ := List.pairwise_cons.mp h1
    obtain ⟨b1, b2⟩ := List.pairwise_cons.mp h2
    have no : ∀ {a b : α}, lt a b = true → lt b a = true → False := fun p q => by
      have z := o.tr _ _ _ p q
      rw [o.irr] at z
      cases z
    have e : x = y := by
      rcases List.mem_cons.mp ((h x).mp List.mem_cons_self) with z | z
      · exact z
      · rcases List.mem_cons.mp ((h y).mpr List.mem_cons_self) with q | q
        · exact q.symm
        · exact (no (a1 y q) (b1 x z)).elim
    subst e
    congr 1
    refine ris_eq o a2 b2 fun z => ?_
    constructor
    · intro hz
      rcases List.mem_cons.mp ((h z).mp (List.mem_cons_of_mem _ hz)) with q | q
      · subst q
        have w := a1 z hz
        rw [o.irr] at w
        cases w
      · exact q
    · intro hz
      rcases List.mem_cons.mp ((h z).mpr (List.mem_cons_of_mem _ hz)) with q | q
      · subst q
        have w := b1 z hz
        rw [o.irr] at w
        cases w
      · exact q
theorem len_insU {x : α} : ∀ {l : List α}, (insU lt x l).length ≤ l.length + 1
  | [] => by simp [insU]
  | y :: r => by
    unfold insU
    split
    · simp
    · split
      · have := len_insU (x := x) (l := r)
        simp only [List.length_cons]
        omega
      · simp
theorem len_usort : ∀ {l : List α}, (usort lt l).length ≤ l.length
  | [] => Nat.le_refl _
  | x :: r => by
    have h1 := len_insU (lt := lt) (x := x) (l := usort lt r)
    have h2 := len_usort (l := r)
    show (insU lt x (usort lt r)).length ≤ r.length + 1
    omega
end
def ltS (a b : Str) : Bool := ltCps a.cps.toList b.cps.toList
def ltI (a b : Int) : Bool := decide (a < b)
theorem str_cps_inj {a b : Str} (h : a.cps.toList = b.cps.toList) : a = b := Str.ext' (Array.toList_inj.mp h)
theorem tot_ltS : TotO ltS where
  irr := fun a => by
    unfold ltS
    rw [ltCps_eq]
    exact decide_eq_false (List.lt_irrefl _)
  tr := fun a b c h1 h2 => by
    unfold ltS at *
    rw [ltCps_eq] at *
    exact decide_eq_true (List.lt_trans (of_decide_eq_true h1) (of_decide_eq_true h2))
  tot := fun a b h1 h2 => by
    unfold ltS at *
    rw [ltCps_eq] at *
    exact str_cps_inj (List.le_antisymm (List.not_lt.mp (of_decide_eq_false h2)) (List.not_lt.mp (of_decide_eq_false h1)))
theorem tot_ltI : TotO ltI where
  irr := fun a => decide_eq_false (by omega)
  tr := fun a b c h1 h2 => decide_eq_true (by have := of_decide_eq_true h1; have := of_decide_eq_true h2; omega)
  tot := fun a b h1 h2 => by have := of_decide_eq_false h1; have := of_decide_eq_false h2; omega
theorem risingS_pw : ∀ {p : Str} {l : List Str}, risingS p l = true → (p :: l).Pairwise fun a b => ltS b a = false
  | p, [], _ => by simp
  | p, x :: r, h => by
    have h' : (!ltCps x.cps.toList p.cps.toList && risingS x r) = true := h
    simp only [Bool.and_eq_true, Bool.not_eq_true'] at h'
    have ih := risingS_pw h'.2
    refine List.pairwise_cons.mpr ⟨fun z hz => ?_, ih⟩
    rcases List.mem_cons.mp hz with rfl | hz
    · exact h'.1
    · have h1 : ltS x p = false := h'.1
      have h2 : ltS z x = false := (List.pairwise_cons.mp ih).1 z hz
      cases q : ltS z p with
      | false => rfl
      | true =>
        cases q2 : ltS x z with
        | true =>
          have := tot_ltS.tr _ _ _ q2 q
          rw [h1] at this
          cases this
        | false =>
          have e := tot_ltS.tot _ _ q2 h2
          subst e
          rw [h1] at q
          cases q
theorem sortedS_ris {l : List Str} (h : sortedS l = true) (nd : l.Nodup) : l.Pairwise fun a b => ltS a b = true := by
  cases l with
  | nil => exact .nil
  | cons p r =>
    refine (risingS_pw h).imp₂ (fun a b h1 h2 => ?_) nd
    cases q : ltS a b with
    | true => rfl
    | false => exact absurd (tot_ltS.tot _ _ q h1) h2
/-- the set as an object -/
def KSO (P : Program) (w : World) (a : Addr) (S : Key → Bool) (n : Nat) : HO := .ext fun h => KSet P w h a S n
section
variable {X : Cx}
theorem kso_new {P : Program} {w : World} {H : Hp} {h : Heap} {a : Addr} {S : Key → Bool} {n : Nat} (R : KSet P w h a S n) : ObjOk P w H h a (KSO P w a S n) := by
  have ⟨o, _, _, _, ho, _⟩ := R
  exact ⟨R, ⟨o, ho⟩, fun h1 h2 p k => p.at k⟩
theorem kso_get {pins : List (Addr × Obj)} {σ : L2.St} {H : Hp} {s : Shared} {a : Addr} {S : Key → Bool} {n : Nat} (I : Inv X pins σ H s) (ha : H a = some (KSO X.prog X.w a S n)) : KSet X.prog X.w s.heap a S n := (I.hok a _ ha).1
/-- set(a list) -/
def rSetK (K : PySem.W.Frag) (P : Program) (w : World) : List V → Hp → VK → Prop := fun xs H Q => ∃ (p : Addr) (ks : List Key), xs = [.ref p] ∧ SqL K H p (ks.map kV) ∧ ks.length < 4000 ∧ ∀ q c, H q = none → c ≤ ks.length → Q (.ref q) (upd H q (KSO P w q (inK ks) c))
theorem cr_setK (hc : X.calm = true) : CallR X (.type "set") (rSetK X.K X.prog X.w) := by
  intro pins s σ H vs us Q I r h
  obtain ⟨p, ks, rfl, hs, hl, q⟩ := h
  obtain ⟨its, rv, hl', _⟩ := I.list hs
  rw [Vals.ref1 r]
  refine kset_call (I.ok.hd hc) hl'.isList (by simpa using rv) (by show ks.length + 1 < 4096; omega) fun h' tk c hT hcl kp => ?_
  exact ⟨.ref _, upd H s.heap.objs.size (KSO X.prog X.w s.heap.objs.size (inK ks) c), I.laid (t' := tk) kp (Nat.le_refl _) (kso_new hT), rfl, q _ c (I.hok.fresh (Nat.le_refl _)) hcl⟩
/-- len(a set) -/
def rLenK (P : Program) (w : World) : List V → Hp → VK → Prop := fun xs H Q => ∃ (a : Addr) (S : Key → Bool) (n : Nat), xs = [.ref a] ∧ H a = some (KSO P w a S n) ∧ ∀ ks : List Key, ks.Nodup → (∀ k, k ∈ ks ↔ S k = true) → Q (.int ks.length) H
theorem cr_lenK : CallR X (.builtin "len") (rLenK X.prog X.w) := by
  intro pins s σ H vs us Q I r h
  obtain ⟨a, S, n, rfl, ha, q⟩ := h
  obtain ⟨ob, rows, ep, tb, ho, hex, hd, g, nd, hm, hb, hf, hn, hr, hl⟩ := kso_get I ha
  rw [Vals.ref1 r]
  have e : ((rows.toList.map keyE).length : Int) = (rows.size : Int) := by simp
  have z := q _ nd fun k => (hm k).symm
  rw [e] at z
  exact call_len_set ho hex hd hf (by have : rows.size < 4096 := hb; omega) ⟨.int rows.size, H, I.tok _, ⟨_, rfl⟩, z⟩
theorem strs_keys : ∀ {vs : List Value}, (∀ v ∈ vs, ∃ x t, v = Value.str x t) → StrsAre vs (vs.map strOf)
  | [], _ => .nil
  | v :: vs, h => by
    obtain ⟨x, t, rfl⟩ := h v List.mem_cons_self
    exact .cons x t (strs_keys fun u hu => h u (List.mem_cons_of_mem _ hu))
/-- sorted(a set of texts) -/
def rSortKS (P : Program) (w : World) : List V → Hp → VK → Prop := fun xs H Q => ∃ (a : Addr) (zs : List Str) (n : Nat), xs = [.ref a] ∧ H a = some (KSO P w a (inK (zs.map .inr)) n) ∧ ∀ p, H p = none → Q (.ref p) (upd H p (.lst ((usort ltS zs).map V.str)))
theorem cr_sortKS (hc : X.calm = true) : CallR X (.builtin "sorted") (rSortKS X.prog X.w) := by
  intro pins s σ H vs us Q I r h
  obtain ⟨a, zs, n, rfl, ha, q⟩ := h
  obtain ⟨ob, rows, ep, tb, ho, hex, hd, g, nd, hm, hb, hf, hn, hr, hl⟩ := kso_get I ha
  rw [Vals.ref1 r]
  refine Calls.call_function_entry kind_sorted plain_sorted entry_sorted (args_sorted1 _) ?_
  unfold Builtin.«sorted»
  refine wpAny_bind (m := checkCount "sorted" 1 1 _) (wpAny_pure (wpAny_bind (collect_set (A := X.A.in1) (I.ok.hd hc) ⟨ob, ho, hex.1, hd⟩ hf hb hr hl fun s1 vs k1 hz g1 o1 pm => ?_)))
  have row : ∀ r ∈ rows.toList, ∃ x t, r.2 = Value.str x t ∧ keyE r = .inr x := fun r hr => by
    obtain ⟨k, h1, _⟩ := g r hr
    have e := keyE_of h1
    have hk : k ∈ zs.map Sum.inr := inK_iff.mp ((hm k).mpr (e ▸ List.mem_map_of_mem hr))
    obtain ⟨x, _, rfl⟩ := List.mem_map.mp hk
    obtain ⟨t, ht⟩ := (show ∃ t, r.2 = Value.str x t from h1)
    exact ⟨x, t, ht, e⟩
  have hI : StrsAre vs (vs.map strOf) := strs_keys fun v hv => by
    obtain ⟨r, hr, e⟩ := List.mem_map.mp (pm.mem_iff.mp hv)
    obtain ⟨x, t, h1, _⟩ := row r hr
    exact ⟨x, t, by rw [← e]; exact h1⟩
  have pk : ((vs.map strOf).map Sum.inr : List Key).Perm (rows.toList.map keyE) := by
    have y := (pm.map strOf).map (Sum.inr : Str → Key)
    have e : ((rows.toList.map (·.2)).map strOf).map (Sum.inr : Str → Key) = rows.toList.map keyE := by
      rw [List.map_map, List.map_map]
      refine List.map_congr_left fun r hr => ?_
      obtain ⟨x, t, h1, h2⟩ := row r hr
      rw [h2]
      show Sum.inr (strOf r.2) = Sum.inr x
      rw [h1]
      rfl
    rw [← e]
    exact y
  have hvl : vs.length = rows.size := by
    have y := pm.length_eq
    simpa using y
  have hvz : vs.length ≤ sizeLine := hvl ▸ fits_of_scanBound hb
  refine wpAny_bind (wpAny_newList ?_ hvz)
  have hoL : (s1.heap.push (seqObj "list" vs.toArray 0)).get? s1.heap.objs.size = some (seqObj "list" vs.toArray 0) := Heap.get?_push_size _ rfl
  refine wpAny_bind (wpAny_holding (wpAny_call_entry slot_list_sort ⟨_, hoL, rfl⟩ entry_list_sort (list_sort_treeKAny strKind_oneLt hoL hI.keysOf (fun v₁ v₂ rest e => keyKind_strs (by rw [← e]; exact hI)) hvz fun st' hp hs => ?_) (args_list_sort _)))
  obtain ⟨ys, y1, y2, y3⟩ := sorted_out_str hI hp hs
  have inj : ∀ {x y : Str}, (Sum.inr x : Key) = Sum.inr y → x = y := fun h => Sum.inr.inj h
  have nd2 : (vs.map strOf).Nodup := by
    have z := pk.nodup_iff.mpr nd
    exact (List.pairwise_map.mp z).imp fun h e => h (congrArg _ e)
  have same : ys = usort ltS zs := by
    refine ris_eq tot_ltS (sortedS_ris y3 (y2.nodup_iff.mpr nd2)) (ris_usort tot_ltS _) fun z => ?_
    rw [y2.mem_iff, mem_usort tot_ltS]
    constructor
    · intro hz
      have h1 : (Sum.inr z : Key) ∈ zs.map Sum.inr := inK_iff.mp ((hm _).mpr (pk.mem_iff.mp (List.mem_map_of_mem hz)))
      obtain ⟨z', hz', e⟩ := List.mem_map.mp h1
      rw [← inj e]
      exact hz'
    · intro hz
      have h1 : (Sum.inr z : Key) ∈ (vs.map strOf).map Sum.inr := pk.mem_iff.mpr ((hm _).mp (inK_iff.mpr (List.mem_map_of_mem hz)))
      obtain ⟨z', hz', e⟩ := List.mem_map.mp h1
      rw [← inj e]
      exact hz'
  subst same
  obtain ⟨c, hc'⟩ := sortedHeap_at (vs := vs) (out := (arrOf st').map (·.2)) hoL
  have hlen : ((usort ltS zs).map V.str).length ≤ sizeLine := by
    rw [List.length_map, y2.length_eq, List.length_map]
    exact hvz
  have kp : ∀ b u, s.heap.get? b = some u → (sortedHeap (s1.heap.push (seqObj "list" vs.toArray 0)) s1.heap.objs.size vs ((arrOf st').map (·.2))).get? b = some u := fun b u e => by
    have y := k1 b u e
    have lt := Heap.lt_size y
    rw [sortedHeap_old (Nat.ne_of_lt lt) (by rw [Heap.size_push]; exact Nat.lt_succ_of_lt lt)]
    exact Heap.get?_push_of_some _ y
  have hn' : H s1.heap.objs.size = none := I.hok.fresh hz
  refine ⟨.none, rfl, wpAny_pure ⟨_, rfl, ?_⟩⟩
  have J : Inv X pins σ (upd H s1.heap.objs.size (.lst ((usort ltS zs).map V.str))) { s with heap := sortedHeap (s1.heap.push (seqObj "list" vs.toArray 0)) s1.heap.objs.size vs ((arrOf st').map (·.2)), gens := s1.gens, drawn := s1.drawn, toks := s1.toks } :=
    I.call (ch := []) (Un.laid kp hz hn') (I.hok.laid kp hz ⟨hlen, ((arrOf st').map (·.2)).toList, c, vals_of_strs y1, by rw [Array.toArray_toList]; exact hc'⟩) (by rw [g1]; exact I.bare) (fun _ z => nomatch z)
  have e : ({ s1 with heap := sortedHeap (s1.heap.push (seqObj "list" vs.toArray 0)) s1.heap.objs.size vs ((arrOf st').map (·.2)) } : Shared) = { s with heap := sortedHeap (s1.heap.push (seqObj "list" vs.toArray 0)) s1.heap.objs.size vs ((arrOf st').map (·.2)), gens := s1.gens, drawn := s1.drawn, toks := s1.toks } := by
    cases s1
    cases s
    cases o1
    rfl
  show EP X pins σ Q _ ({ s1 with heap := sortedHeap (s1.heap.push (seqObj "list" vs.toArray 0)) s1.heap.objs.size vs ((arrOf st').map (·.2)) } : Shared)
  rw [e]
  exact ⟨.ref _, _, J, rfl, q _ hn'⟩
end
end LR

/-! ### more rules over data (own work) -/
namespace LR
open PySem PySem.Spec PyProof.Rows L2 Evl
/-- the small letters, the figures -/
abbrev smallS : Str := "abcdefghijklmnopqrstuvwxyz"
abbrev figS : Str := "0123456789"
def isKeyS (z : Str) : Bool := decide (1 ≤ z.length) && decide (z.length ≤ 10) && z.cps.toList.all fun c => decide (c ∈ smallS.cps.toList)
def isValS (z : Str) : Bool := decide (z.length ≤ 12) && z.cps.toList.all fun c => decide (c ∈ (smallS ++ figS).cps.toList)
def isKeyD : PyData → Bool
  | .str z => isKeyS z
  | _ => false
def isValD : PyData → Bool
  | .str z => isValS z
  | _ => false
/-- texts are not without bound -/
def lenOk : PyData → Prop
  | .str z => z.length ≤ 50000
  | _ => True
theorem rdu_neg {K : PySem.W.Frag} {H : Hp} {i : Int} : RDU K (rU fun i => .int (-i)) (.int i) H (.int (-i)) := fun H' x _ dx H1 e1 Q q => ⟨i, dx.int_eq, q.val e1 fun _ => .int _⟩
abbrev mk (l : List Nat) : Str := ⟨l.toArray⟩
section
variable {K : PySem.W.Frag} {σ : L2.St} {H : Hp} {ta tb te ti : TE} {P : Program} {w : World}
theorem strs_keyV (zs : List Str) : zs.map V.str = (zs.map (Sum.inr : Str → Key)).map kV := by
  rw [List.map_map]
  rfl
theorem ints_keyV (zs : List Int) : zs.map V.int = (zs.map (Sum.inl : Int → Key)).map kV := by
  rw [List.map_map]
  rfl
/-- sorted(set(texts)) -/
theorem ed_sortSetS {zs : List Str} (h : EvD K te σ H (.list (zs.map .str))) (hl : zs.length < 4000) : EvD K (tCB (rSortKS P w) (tCons (tCB (rSetK K P w) (tCons te tNil)) tNil)) σ H (.list ((usort ltS zs).map .str)) := fun H1 e1 Q q =>
  h H1 e1 _ fun v H2 Ha e2 ea xa da => by
    obtain ⟨a, xs, rfl, ha, ra⟩ := da.lst_eq
    have ex := strs_dp ra
    subst ex
    refine ⟨a, zs.map .inr, rfl, by rw [← strs_keyV]; exact sq_of (ea a _ ha), by rw [List.length_map]; exact hl, fun p c hp hc => ?_⟩
    refine ⟨p, zs, c, rfl, upd_same, fun p2 hp2 => ?_⟩
    exact q _ _ (upd Ha p2 _) ((e2.trans (Ex.new hp)).trans (Ex.new hp2)) (ex_upd (ea.trans (Ex.new hp))) (xa.trans (e2.trans (Ex.new hp)) (Ext.new (ea.trans (Ex.new hp)) hp2)) (.lst upd_same (dp_strs _))
/-- len(set(..)) of keys -/
theorem nodup_ulen {ks : List Key} {n : List Key} (h1 : ks.Nodup) (h2 : n.Nodup) (h : ∀ k, k ∈ ks ↔ k ∈ n) : ks.length = n.length := by
  have a := List.Nodup.length_le_of_subset h1 (fun k hk => (h k).mp hk)
  have b := List.Nodup.length_le_of_subset h2 (fun k hk => (h k).mpr hk)
  omega
/-- sep.join(texts) -/
theorem ed_join {a : Str} {zs : List Str} {N : Nat} (ha : EvD K ta σ H (.str a)) (hb : EvD K tb σ H (.list (zs.map .str))) (hl : (zs.map (·.length)).sum + zs.length * a.length ≤ N) (hN : N ≤ 16777216 := by decide) : EvD K (tM1 (rJoin K) ta tb) σ H (.str (Txt.join a zs)) := fun H1 e1 Q q =>
  ha H1 e1 _ fun v H2 Ha e2 ea xa da => ⟨⟨a, da.str_eq⟩, (hb.mono xa.ex) H2 ea _ fun v' H3 Hb e3 eb xb db => by
    obtain ⟨p, xs, rfl, hp, rp⟩ := db.lst_eq
    have ex := strs_dp rp
    subst ex
    exact ⟨a, p, zs, da.str_eq, rfl, .inl (sq_of (eb p _ hp)), Nat.le_trans hl hN, q _ H3 Hb (e2.trans e3) eb (xa.trans e2 xb) (.str _)⟩⟩
/-- text.index(text) -/
theorem ed_sindex {a b : Str} {i : Nat} {rest : List Nat} (ha : EvD K ta σ H (.str a)) (hb : EvD K tb σ H (.str b)) (hi : Builtin.Str.occurrences a b 0 a.length 1 = i :: rest) : EvD K (tM1 (fun x xs H Q => ∃ a b i rest, x = .str a ∧ xs = [.str b] ∧ Builtin.Str.occurrences a b 0 a.length 1 = i :: rest ∧ Q (.int (i : Nat)) H) ta tb) σ H (.int i) := fun H1 e1 Q q =>
  ha H1 e1 _ fun v H2 Ha e2 ea xa da => ⟨⟨a, da.str_eq⟩, (hb.mono xa.ex) H2 ea _ fun v' H3 Hb e3 eb xb db => ⟨a, b, i, rest, da.str_eq, by rw [db.str_eq], hi, q _ H3 Hb (e2.trans e3) eb (xa.trans e2 xb) (.int _)⟩⟩
theorem ed_sfind {a b : Str} (ha : EvD K ta σ H (.str a)) (hb : EvD K tb σ H (.str b)) : EvD K (tM1 (fun x xs H Q => ∃ a b, x = .str a ∧ xs = [.str b] ∧ Q (.int (Txt.find a b)) H) ta tb) σ H (.int (Txt.find a b)) := fun H1 e1 Q q =>
  ha H1 e1 _ fun v H2 Ha e2 ea xa da => ⟨⟨a, da.str_eq⟩, (hb.mono xa.ex) H2 ea _ fun v' H3 Hb e3 eb xb db => ⟨a, b, da.str_eq, by rw [db.str_eq], q _ H3 Hb (e2.trans e3) eb (xa.trans e2 xb) (.int _)⟩⟩
/-- sum(whole numbers) -/
theorem ed_sum {ns : List Int} (h : EvD K te σ H (.list (ns.map .int))) : EvD K (tCB (rSum K) (tCons te tNil)) σ H (.int ns.sum) := fun H1 e1 Q q =>
  h H1 e1 _ fun v H2 Ha e2 ea xa da => by
    obtain ⟨a, xs, rfl, ha, ra⟩ := da.lst_eq
    have ex := ints_dp ra
    subst ex
    exact ⟨a, ns, rfl, sq_of (ea a _ ha), q _ H2 Ha e2 ea xa (.int _)⟩
/-- list(a list) -/
theorem ed_listL {ds : List PyData} (h : EvD K te σ H (.list ds)) : EvD K (tCB (rLstOf K) (tCons te tNil)) σ H (.list ds) := fun H1 e1 Q q =>
  h H1 e1 _ fun v H2 Ha e2 ea xa da => by
    obtain ⟨a, xs, rfl, ha, ra⟩ := da.lst_eq
    refine ⟨a, xs, rfl, .inl (sq_of (ea a _ ha)), fun p hp => ?_⟩
    exact q _ _ (upd Ha p _) (e2.trans (Ex.new hp)) (ex_upd ea) (xa.trans e2 (Ext.new ea hp)) (.lst upd_same (DtAll.ex (Ex.new (fresh_back ea hp)) ra))
theorem ed_listT {ds : List PyData} (h : EvD K te σ H (.tuple ds)) : EvD K (tCB (rLstOf K) (tCons te tNil)) σ H (.list ds) := fun H1 e1 Q q =>
  h H1 e1 _ fun v H2 Ha e2 ea xa da => by
    obtain ⟨a, xs, rfl, ha, ra⟩ := da.tup_eq
    refine ⟨a, xs, rfl, .inr (ex_t ea ha), fun p hp => ?_⟩
    exact q _ _ (upd Ha p _) (e2.trans (Ex.new hp)) (ex_upd ea) (xa.trans e2 (Ext.new ea hp)) (.lst upd_same (DtAll.ex (Ex.new (fresh_back ea hp)) ra))
theorem ed_min2 {a b : Int} {tA : TA} (h : EvDs K tA σ H [.int a, .int b]) : EvD K (tCB (fun xs H Q => ∃ i j, xs = [.int i, .int j] ∧ Q (.int (if j < i then j else i)) H) tA) σ H (.int (if b < a then b else a)) :=
  ed_cb h fun H' vs e dv H1 e1 Q q => by
    cases dv with
    | cons x y =>
      cases y with
      | cons y z =>
        cases z
        rw [x.int_eq, y.int_eq]
        exact ⟨a, b, rfl, q.val e1 fun _ => .int _⟩
/-- [e for k in range(n)] -/
theorem ed_lcR {tA : TA} {n : Int} {j : Nat} {vs : List Nat} {ss : List SD} (f : Nat → PyData) (s : Sl K H σ ss) (hn : EvDs K tA σ H [.int n]) (h2 : n ≤ 50000) (hv : vs = [j])
    (he : ∀ i, i < n.toNat → ∀ (σ2 : L2.St) (Hc : Hp), Ex H Hc → Sl K Hc σ2 ((wipeS ss vs).set j (.dat (.int i))) → EvD K te σ2 Hc (f i)) (h1 : -(2 ^ 62) ≤ n := by omega) :
    EvD K (tLc (iRng1 tA) (gName j) tYes te vs) σ H (.list ((List.range n.toNat).map f)) := by
  subst hv
  refine ed_lc (fun i => some (f i)) (ei_range hn h1 (by omega)) (fun i hi Hi Hb H2 x H3 e0 e1 e2 y => ?_) (by omega) ?_
  · obtain ⟨rfl, rfl⟩ := y
    refine ⟨Hb, _, Ext.refl _ _, e2, Ex.refl _, eg_name, ?_, true, fun H1 _ Q q => q H1 (Ex.refl _), (fun h => nomatch h), fun _ => ⟨f i, rfl, ?_⟩⟩
    · show ((L2.wipe σ []).set j none |>.set j _).set j none = (L2.wipe σ []).set j none
      simp
    · refine he i hi _ Hb (e0.trans e1) ?_
      have z := (((s.ex (e0.trans e1)).wipe [j]).set (s := .dat (.int i)) (o := some (.int (0 + i))) (by show Dt K Hb (.int (0 + (i : Int))) (.int i); rw [Int.zero_add]; exact .int _) j)
      exact z
  · induction List.range n.toNat with
    | nil => rfl
    | cons a r ih => rw [List.filterMap_cons, List.map_cons, ih]
/-- [e for x in data if ..] -/
theorem ed_lcW {ds : List PyData} {j : Nat} {vs : List Nat} {ss : List SD} {tt : TT} (f : PyData → Option PyData) (s : Sl K H σ ss) (hw : EvI (iU K ti) σ H ds.length (YD K ds)) (h2 : ds.length ≤ 50000) (hv : vs = [j])
    (he : ∀ d ∈ ds, ∀ (σ2 : L2.St) (Hc : Hp), Ex H Hc → Sl K Hc σ2 ((wipeS ss vs).set j (.dat d)) → ∃ b, EvB tt σ2 Hc b ∧ (b = false → f d = none) ∧ (b = true → ∃ z, f d = some z ∧ EvD K te σ2 Hc z)) :
    EvD K (tLc (iU K ti) (gName j) tt te vs) σ H (.list (ds.filterMap f)) := by
  subst hv
  refine ed_lc (fun i => (ds[i]?).bind f) hw (fun i hi Hi Hb H2 x H3 e0 e1 e2 y => ?_) h2 (filterMap_range ds f).symm
  obtain ⟨rfl, d, hd, dx⟩ := y
  obtain ⟨b, b1, b2, b3⟩ := he d (List.mem_of_getElem? hd) _ Hb (e0.trans e1) (((s.ex (e0.trans e1)).wipe [j]).set (s := .dat d) (o := some x) (Dt.ex e1 dx) j)
  refine ⟨Hb, _, Ext.refl _ _, e2, Ex.refl _, eg_name, ?_, b, b1, fun h => ?_, fun h => ?_⟩
  · show ((L2.wipe σ []).set j none |>.set j _).set j none = (L2.wipe σ []).set j none
    simp
  · show (ds[i]?).bind f = none
    rw [hd]
    exact b2 h
  · obtain ⟨z, z1, z2⟩ := b3 h
    refine ⟨z, ?_, z2⟩
    show (ds[i]?).bind f = some z
    rw [hd]
    exact z1
theorem ed_lcD {ds : List PyData} {j : Nat} {vs : List Nat} {ss : List SD} (f : PyData → PyData) (s : Sl K H σ ss) (hw : EvI (iU K ti) σ H ds.length (YD K ds)) (h2 : ds.length ≤ 50000) (hv : vs = [j])
    (he : ∀ d ∈ ds, ∀ (σ2 : L2.St) (Hc : Hp), Ex H Hc → Sl K Hc σ2 ((wipeS ss vs).set j (.dat d)) → EvD K te σ2 Hc (f d)) : EvD K (tLc (iU K ti) (gName j) tYes te vs) σ H (.list (ds.map f)) := by
  have z := ed_lcW (te := te) (tt := tYes) (fun d => some (f d)) s hw h2 hv fun d hd σ2 Hc e1 s2 => ⟨true, fun H1 _ Q q => q H1 (Ex.refl _), (fun h => nomatch h), fun _ => ⟨f d, rfl, he d hd σ2 Hc e1 s2⟩⟩
  refine ed_is z ?_
  congr 1
  exact congrFun List.filterMap_eq_map' ds
/-- [e for c in text] -/
theorem ed_lcS {z : Str} {j : Nat} {ss : List SD} {vs : List Nat} (f : Nat → PyData) (hz : z.length ≤ 50000) (s : Sl K H σ ss) (hi : EvD K ti σ H (.str z)) (hv : vs = [j])
    (he : ∀ c ∈ z.cps.toList, ∀ (σ2 : L2.St) (Hc : Hp), Ex H Hc → Sl K Hc σ2 ((wipeS ss vs).set j (.dat (.str ⟨#[c]⟩))) → EvD K te σ2 Hc (f c)) :
    EvD K (tLc (iU K ti) (gName j) tYes te vs) σ H (.list (z.cps.toList.map f)) := by
  subst hv
  refine ed_lc (fun i => (z.cps.toList[i]?).bind fun c => some (f c)) (eiU_str hi) (fun i hi Hi Hb H2 x H3 e0 e1' e2 y => ?_) (by show z.cps.size ≤ 50000; exact hz) ?_
  · have e1 := e0.trans e1'
    obtain ⟨rfl, c, hc, rfl⟩ := y
    have hc' : z.cps.toList[i]? = some c := by simpa using hc
    refine ⟨Hb, _, Ext.refl _ _, e2, Ex.refl _, eg_name, ?_, true, fun H1 _ Q q => q H1 (Ex.refl _), (fun h => nomatch h), fun _ => ⟨f c, ?_, ?_⟩⟩
    · show ((L2.wipe σ []).set j none |>.set j _).set j none = (L2.wipe σ []).set j none
      simp
    · rw [hc']
      rfl
    · exact he c (List.mem_of_getElem? hc') _ Hb e1 (((s.ex e1).wipe [j]).set (s := .dat (.str ⟨#[c]⟩)) (o := some (.str ⟨#[c]⟩)) (.str _) j)
  · have e : z.cps.size = z.cps.toList.length := by simp
    rw [e, filterMap_range]
    exact (congrFun List.filterMap_eq_map' _).symm
/-- zip of two lists -/
def YZ (K : PySem.W.Frag) (ds es : List PyData) : Hp → Nat → Hp → V → Hp → Prop := fun Hi i H v H' => ∃ T x y d e, v = .ref T ∧ H T = none ∧ H' = upd H T (.tup [x, y]) ∧ ds[i]? = some d ∧ es[i]? = some e ∧ Dt K Hi x d ∧ Dt K Hi y e
theorem ei_zip {tA : TA} {ds es : List PyData} (h : EvDs K tA σ H [.list ds, .list es]) : EvI (RZ.iZipA K tA) σ H (min ds.length es.length) (YZ K ds es) := fun H1 e1 R r =>
  h H1 e1 _ fun vs H2 H' e2 e x dv => by
    cases dv with
    | cons d1 d2 =>
      cases d2 with
      | cons d2 d3 =>
        cases d3
        obtain ⟨a, xs, rfl, ha, ra⟩ := d1.lst_eq
        obtain ⟨b, ys, rfl, hb, rb⟩ := d2.lst_eq
        refine ⟨a, b, xs, ys, rfl, .inl ⟨sq_of (e a _ ha), sq_of (e b _ hb), r _ (fun H3 => Ex H' H3) H2 H' e2 e x (fun H3 e3 => e3) ?_⟩⟩
        refine (walk_zip (K := K) (a := a) (b := b) (xs := xs) (ys := ys) (by rw [ra.length, rb.length])).mono (fun H3 e3 => ⟨sq_of (e3 a _ ha), sq_of (e3 b _ hb)⟩) fun i H3 v H4 hi e3 z => ?_
        obtain ⟨T, x, y, h1, h2, h3, h4, h5⟩ := z
        obtain ⟨d, q1, q2⟩ := ra.get' h4
        obtain ⟨d', q3, q4⟩ := rb.get' h5
        exact ⟨T, x, y, d, d', h1, h2, h3, q1, q3, q2, q4⟩
end
section
variable {K : PySem.W.Frag} {H0 H10 H H1 : Hp} {σ : L2.St} {ss : List SD} {te tb : TE} {d : PyData} {D : Ends}
/-- a for, with what the walked thing has laid -/
theorem st_forX {wi : TI} {g : TG} {tb : TS} {n : Nat} {Y : Hp → Nat → Hp → V → Hp → Prop} (nw : Now H0 H10 H H1) (h : EvI wi σ H n Y)
    (k : ∀ Hb H2, Ext H H1 Hb → Now H0 H10 Hb H2 → Ex H1 H2 → ∃ Pv : Nat → L2.St → Hp → Prop, Pv 0 σ H2 ∧ (∀ i σ' H3, Pv i σ' H3 → Ex Hb H3) ∧
      (∀ i x σ' H3 H4, i < n → Pv i σ' H3 → Y Hb i H3 x H4 → g x σ' H4 fun σ2 H5 => tb { D with nx := Pv (i + 1), ct := Pv (i + 1), bk := D.nx } σ2 H5) ∧ ∀ σ' H3, Pv n σ' H3 → D.nx σ' H3) : tFor wi g tb D σ H1 :=
  h H1 nw.ex _ fun J G H2 H' e2 e x hG w => by
    obtain ⟨Pv, p0, pe, pt, pd⟩ := k H' H2 x (nw.on e2 e x) e2
    exact for_it (w.mono (G' := fun H3 => Ex H' H3) (fun H3 e3 => hG H3 e3) fun _ _ _ _ _ _ y => y) Pv p0 (fun i σ' H3 _ p => pe i σ' H3 p) (fun i y σ' H3 H4 hi p yy => pt i y σ' H3 H4 hi p yy) pd
/-- a, b = [], x -/
theorem st_parNew {i j : Nat} (n : Now H0 H10 H H1) (s : Sl K H σ ss) (h : ∀ H', Ex H H' → EvD K tb σ H' d) (k : ∀ l σ' H' H2, Ex H H' → H' l = none → H10 l = none → H2 l = some (.lst []) → Now H0 H10 H' H2 → Sl K H' σ' ((ss.set i (.val (.ref l))).set j (.dat d)) → D.nx σ' H2) :
    tPar i j (tCons (tLst tNil) (tCons tb tNil)) D σ H1 :=
  ⟨by show 0 ≤ sizeLine; exact Nat.zero_le _, fun p hp => by
    refine (h H (Ex.refl _)) _ (n.ex.trans (Ex.new hp)) _ fun v H2 H' e2 e x dv => ?_
    have hl : H' p = none := x.off (fresh_back n.ex hp) upd_same
    exact ⟨_, _, rfl, k p _ H' H2 x.ex hl (fresh_back n.grow hp) (e2 p _ upd_same) ⟨e, n.ext.trans (n.grow.trans (Ex.new hp)) x, (n.grow.trans (Ex.new hp)).trans e2⟩ (((s.ex x.ex).set (s := .val (.ref p)) (o := some (.ref p)) rfl i).set (s := .dat d) (o := some v) dv j)⟩⟩
/-- a list of one's own: at l, with ds in it -/
structure Own (K : PySem.W.Frag) (H10 H H1 : Hp) (l : Addr) (ds : List PyData) : Prop where
  no : H l = none
  old : H10 l = none
  ex : ∃ vs, H1 l = some (.lst vs) ∧ DtAll K H vs ds
theorem Own.on {l : Addr} {ds : List PyData} {H' H2 : Hp} (o : Own K H10 H H1 l ds) (x : Ext H H1 H') (e : Ex H1 H2) : Own K H10 H' H2 l ds := by
  obtain ⟨vs, h1, h2⟩ := o.ex
  exact ⟨x.off o.no h1, o.old, vs, e l _ h1, DtAll.ex x.ex h2⟩
/-- x = e, with what is laid -/
theorem st_asgX {i : Nat} (n : Now H0 H10 H H1) (s : Sl K H σ ss) (h : EvD K te σ H d) (k : ∀ σ' H' H2, Ext H H1 H' → Ex H1 H2 → Now H0 H10 H' H2 → Sl K H' σ' (ss.set i (.dat d)) → D.nx σ' H2) : tAsg te (gName i) D σ H1 :=
  h H1 n.ex _ fun v H2 H' e2 e x dv => k _ H' H2 x e2 (n.on e2 e x) ((s.ex x.ex).set (s := .dat d) (o := some v) dv i)
theorem st_ifX {b : Bool} {tt : TT} {t1 t2 : TS} (n : Now H0 H10 H H1) (h : EvB tt σ H b) (k1 : b = true → ∀ H2, Ex H1 H2 → Now H0 H10 H H2 → t1 D σ H2) (k2 : b = false → ∀ H2, Ex H1 H2 → Now H0 H10 H H2 → t2 D σ H2) : tIfS tt t1 t2 D σ H1 :=
  h H1 n.ex _ fun H2 e2 => by
    have n2 : Now H0 H10 H H2 := ⟨n.ex.trans e2, n.ext, n.grow.trans e2⟩
    cases b with
    | true => exact k1 rfl H2 e2 n2
    | false => exact k2 rfl H2 e2 n2
/-- l.append(e) -/
theorem st_appO {i : Nat} {l : Addr} {ds : List PyData} (n : Now H0 H10 H H1) (s : Sl K H σ ss) (hi : ss[i]? = some (.val (.ref l))) (o : Own K H10 H H1 l ds) (hz : ds.length < 100000) (h : EvD K te σ H d)
    (k : ∀ H' H2, Ext H H1 H' → Own K H10 H' H2 l (ds ++ [d]) → (∀ b u, b ≠ l → H1 b = some u → H2 b = some u) → Now H0 H10 H' H2 → Sl K H' σ ss → D.nx σ H2) : tDrop (tBM K "list" rAppend (tVar i) (tCons te tNil)) D σ H1 := by
  obtain ⟨vs, h1, h2⟩ := o.ex
  refine ⟨.ref l, s.val hi, Or.inl ⟨rfl, vs, sq_of h1⟩, h H1 n.ex _ fun v H2 H' e2 e x dv => ⟨l, vs, v, rfl, rfl, e2 l _ h1, sz_lt (by rw [h2.length]; exact hz), ?_⟩⟩
  have off := x.off o.no h1
  exact k H' _ x ⟨off, o.old, _, upd_same, (DtAll.ex x.ex h2).append (.cons dv .nil)⟩ (fun b u hb hu => by rw [upd_ne hb]; exact e2 b u hu) ((n.on e2 e x).mut off o.old) (s.ex x.ex)
/-- x = [..], a list of one's own -/
theorem st_newD {i : Nat} {ta : TA} {ds : List PyData} (n : Now H0 H10 H H1) (s : Sl K H σ ss) (h : EvDs K ta σ H ds) (hl : ds.length ≤ 100000) (k : ∀ l σ' H' H2, Ext H H1 H' → Ex H1 H2 → H1 l = none → Own K H10 H' H2 l ds → Now H0 H10 H' H2 → Sl K H' σ' (ss.set i (.val (.ref l))) → D.nx σ' H2) : tAsg (tLst ta) (gName i) D σ H1 :=
  h H1 n.ex _ fun vs H2 H' e2 e x dv => ⟨by rw [dv.length]; exact sz_of hl, fun p hp => k p _ H' _ x (e2.trans (Ex.new hp)) (fresh_back e2 hp) ⟨fresh_back e hp, fresh_back (n.grow.trans e2) hp, vs, upd_same, dv⟩ ⟨e.trans (Ex.new hp), n.ext.trans n.grow x, (n.grow.trans e2).trans (Ex.new hp)⟩ ((s.ex x.ex).set (s := .val (.ref p)) (o := some (.ref p)) rfl i)⟩
/-- l.extend(e) -/
theorem st_extO {i : Nat} {l : Addr} {ds es : List PyData} (n : Now H0 H10 H H1) (s : Sl K H σ ss) (hi : ss[i]? = some (.val (.ref l))) (o : Own K H10 H H1 l ds) (hz : ds.length + es.length ≤ 100000) (h : EvD K te σ H (.list es))
    (k : ∀ H' H2, Ext H H1 H' → Own K H10 H' H2 l (ds ++ es) → (∀ b u, b ≠ l → H1 b = some u → H2 b = some u) → Now H0 H10 H' H2 → Sl K H' σ ss → D.nx σ H2) : tDrop (tBM K "list" rExtend (tVar i) (tCons te tNil)) D σ H1 := by
  obtain ⟨vs, h1, h2⟩ := o.ex
  refine ⟨.ref l, s.val hi, Or.inl ⟨rfl, vs, sq_of h1⟩, h H1 n.ex _ fun v H2 H' e2 e x dv => ?_⟩
  obtain ⟨b, zs, rfl, hb, rb⟩ := dv.lst_eq
  have off := x.off o.no h1
  refine ⟨l, b, vs, zs, rfl, rfl, e2 l _ h1, e b _ hb, sz_of (by rw [h2.length, rb.length]; exact hz), ?_⟩
  exact k H' _ x ⟨off, o.old, _, upd_same, (DtAll.ex x.ex h2).append rb⟩ (fun b u hb hu => by rw [upd_ne hb]; exact e2 b u hu) ((n.on e2 e x).mut off o.old) (s.ex x.ex)
/-- a slot, told otherwise -/
theorem Sl.as {s' : SD} {o : Option V} : ∀ {σ : L2.St} {ss : List SD} {i : Nat}, Sl K H σ ss → σ[i]? = some o → SdOk K H o s' → Sl K H σ (ss.set i s')
  | _, _, _, .nil, h, _ => by simp at h
  | _, _, 0, .cons a b, h, ok => by
    simp at h
    subst h
    exact .cons ok b
  | _, _, i + 1, .cons a b, h, ok => .cons a (Sl.as b (by simpa using h) ok)
/-- a list of one's own that is not changed any more -/
theorem Own.freeze {i : Nat} {l : Addr} {ds : List PyData} (n : Now H0 H10 H H1) (s : Sl K H σ ss) (hi : ss[i]? = some (.val (.ref l))) (o : Own K H10 H H1 l ds) : ∃ H', Ex H H' ∧ (∀ b, b ≠ l → H' b = H b) ∧ Now H0 H10 H' H1 ∧ Sl K H' σ (ss.set i (.dat (.list ds))) := by
  obtain ⟨vs, h1, h2⟩ := o.ex
  have e1 : Ex H (upd H l (.lst vs)) := Ex.new o.no
  refine ⟨upd H l (.lst vs), e1, fun b hb => upd_ne hb, ⟨?_, ⟨n.ext.ex.trans e1, fun b u hb => ?_⟩, n.grow⟩, (s.ex e1).as (s.val hi) (.lst upd_same (DtAll.ex e1 h2))⟩
  · intro b u hb
    by_cases z : b = l
    · subst z
      rw [upd_same] at hb
      cases hb
      exact h1
    · rw [upd_ne z] at hb
      exact n.ex b u hb
  · by_cases z : b = l
    · subst z
      rw [upd_same] at hb
      cases hb
      exact .inr ⟨o.old, fun ps z => by cases z⟩
    · rw [upd_ne z] at hb
      exact n.ext.fresh b u hb
/-- a list of one's own is told -/
theorem st_retOwn {i : Nat} {l : Addr} {vs : List V} {ds : List PyData} {Q : VK} (n : Now H0 H10 H H1) (s : Sl K H σ ss) (hi : ss[i]? = some (.val (.ref l))) (hl : H l = none) (h0 : H10 l = none) (h1 : H1 l = some (.lst vs)) (dv : DtAll K H vs ds) (q : KD K H0 H10 (.list ds) Q) (hQ : D.rt = Q := by rfl) : tRet (tVar i) D σ H1 := by
  subst hQ
  refine ⟨.ref l, s.val hi, ?_⟩
  refine q _ H1 (upd H l (.lst vs)) n.grow ?_ ⟨n.ext.ex.trans (Ex.new hl), fun b o hb => ?_⟩ (.lst upd_same (DtAll.ex (Ex.new hl) dv))
  · intro b o hb
    by_cases z : b = l
    · subst z
      rw [upd_same] at hb
      cases hb
      exact h1
    · rw [upd_ne z] at hb
      exact n.ex b o hb
  · by_cases z : b = l
    · subst z
      rw [upd_same] at hb
      cases hb
      exact .inr ⟨h0, fun ps z => by cases z⟩
    · rw [upd_ne z] at hb
      exact n.ext.fresh b o hb
end
def lstD : PyData → Bool
  | .list _ => true
  | .dict _ => true
  | _ => false
theorem kit_lst (d : PyData) : kitB (tyD d) "list" = some (lstD d) := by
  cases d with
  | none => exact (by decide +kernel : kitB "NoneType" "list" = some false)
  | bool _ => exact (by decide +kernel : kitB "bool" "list" = some false)
  | int _ => exact (by decide +kernel : kitB "int" "list" = some false)
  | str _ => exact (by decide +kernel : kitB "str" "list" = some false)
  | list _ => exact (by decide +kernel : kitB "list" "list" = some true)
  | tuple _ => exact (by decide +kernel : kitB "tuple" "list" = some false)
  | dict _ => exact (by decide +kernel : kitB "list" "list" = some true)
def tupD : PyData → Bool
  | .tuple _ => true
  | _ => false
theorem kit_tup (d : PyData) : kitB (tyD d) "tuple" = some (tupD d) := by
  cases d with
  | none => exact (by decide +kernel : kitB "NoneType" "tuple" = some false)
  | bool _ => exact (by decide +kernel : kitB "bool" "tuple" = some false)
  | int _ => exact (by decide +kernel : kitB "int" "tuple" = some false)
  | str _ => exact (by decide +kernel : kitB "str" "tuple" = some false)
  | list _ => exact (by decide +kernel : kitB "list" "tuple" = some false)
  | tuple _ => exact (by decide +kernel : kitB "tuple" "tuple" = some true)
  | dict _ => exact (by decide +kernel : kitB "list" "tuple" = some false)
def intD : PyData → Bool
  | .bool _ => true
  | .int _ => true
  | _ => false
theorem kit_int (d : PyData) : kitB (tyD d) "int" = some (intD d) := by
  cases d with
  | none => exact (by decide +kernel : kitB "NoneType" "int" = some false)
  | bool _ => exact (by decide +kernel : kitB "bool" "int" = some true)
  | int _ => exact (by decide +kernel : kitB "int" "int" = some true)
  | str _ => exact (by decide +kernel : kitB "str" "int" = some false)
  | list _ => exact (by decide +kernel : kitB "list" "int" = some false)
  | tuple _ => exact (by decide +kernel : kitB "tuple" "int" = some false)
  | dict _ => exact (by decide +kernel : kitB "list" "int" = some false)
def boolD : PyData → Bool
  | .bool _ => true
  | _ => false
theorem kit_bool (d : PyData) : kitB (tyD d) "bool" = some (boolD d) := by
  cases d with
  | none => exact (by decide +kernel : kitB "NoneType" "bool" = some false)
  | bool _ => exact (by decide +kernel : kitB "bool" "bool" = some true)
  | int _ => exact (by decide +kernel : kitB "int" "bool" = some false)
  | str _ => exact (by decide +kernel : kitB "str" "bool" = some false)
  | list _ => exact (by decide +kernel : kitB "list" "bool" = some false)
  | tuple _ => exact (by decide +kernel : kitB "tuple" "bool" = some false)
  | dict _ => exact (by decide +kernel : kitB "list" "bool" = some false)
theorem cr_minK {X : Cx} {K : PySem.W.Frag} (h : X.K = K) (hc : X.calm = true) : CallR X (.builtin "min") (rMin K) := h ▸ cr_min hc
theorem cr_maxK {X : Cx} {K : PySem.W.Frag} (h : X.K = K) (hc : X.calm = true) : CallR X (.builtin "max") (rMax K) := h ▸ cr_max hc
/-- min, max of a list; what is least, greatest -/
theorem ed_minL {K : PySem.W.Frag} {σ : L2.St} {H : Hp} {te : TE} {ns : List Int} {m : Int} (h : EvD K te σ H (.list (ns.map .int))) (h1 : m ∈ ns) (h2 : ∀ y ∈ ns, m ≤ y) : EvD K (tCB (rMin K) (tCons te tNil)) σ H (.int m) := fun H1 e1 Q q =>
  h H1 e1 _ fun v H2 Ha e2 ea xa da => by
    obtain ⟨a, xs, rfl, ha, ra⟩ := da.lst_eq
    have ex := ints_dp ra
    subst ex
    refine ⟨a, ns, rfl, sq_of (ea a _ ha), List.length_pos_of_mem h1, fun m' m1 m2 => ?_⟩
    have e : m' = m := Int.le_antisymm (m2 m h1) (h2 m' m1)
    subst e
    exact q _ H2 Ha e2 ea xa (.int _)
theorem ed_maxL {K : PySem.W.Frag} {σ : L2.St} {H : Hp} {te : TE} {ns : List Int} {m : Int} (h : EvD K te σ H (.list (ns.map .int))) (h1 : m ∈ ns) (h2 : ∀ y ∈ ns, y ≤ m) : EvD K (tCB (rMax K) (tCons te tNil)) σ H (.int m) := fun H1 e1 Q q =>
  h H1 e1 _ fun v H2 Ha e2 ea xa da => by
    obtain ⟨a, xs, rfl, ha, ra⟩ := da.lst_eq
    have ex := ints_dp ra
    subst ex
    refine ⟨a, ns, rfl, sq_of (ea a _ ha), List.length_pos_of_mem h1, fun m' m1 m2 => ?_⟩
    have e : m' = m := Int.le_antisymm (h2 m' m1) (m2 m h1)
    subst e
    exact q _ H2 Ha e2 ea xa (.int _)
/-- len(set(whole numbers that are all unlike)) -/
theorem ed_lenSetI {P : Program} {w : World} {K : PySem.W.Frag} {σ : L2.St} {H : Hp} {te : TE} {ns : List Int} (h : EvD K te σ H (.list (ns.map .int))) (hl : ns.length < 4000) (nd : ns.Nodup) : EvD K (tCB (rLenK P w) (tCons (tCB (rSetK K P w) (tCons te tNil)) tNil)) σ H (.int ns.length) := fun H1 e1 Q q =>
  h H1 e1 _ fun v H2 Ha e2 ea xa da => by
    obtain ⟨a, xs, rfl, ha, ra⟩ := da.lst_eq
    have ex := ints_dp ra
    subst ex
    refine ⟨a, ns.map .inl, rfl, by rw [← ints_keyV]; exact sq_of (ea a _ ha), by rw [List.length_map]; exact hl, fun p c hp hc => ?_⟩
    refine ⟨p, _, c, rfl, upd_same, fun ks k1 k2 => ?_⟩
    have e : ks.length = ns.length := by
      have z := nodup_ulen k1 (n := ns.map (Sum.inl : Int → Key)) (List.pairwise_map.mpr (nd.imp fun h e => h (Sum.inl.inj e))) fun k => (k2 k).trans inK_iff
      rw [List.length_map] at z
      exact z
    rw [e]
    exact q _ _ Ha (e2.trans (Ex.new hp)) (ea.trans (Ex.new hp)) xa (.int _)
theorem st_retO {K : PySem.W.Frag} {H0 H10 H H1 : Hp} {σ : L2.St} {ss : List SD} {D : Ends} {i : Nat} {l : Addr} {ds : List PyData} {Q : VK} (n : Now H0 H10 H H1) (s : Sl K H σ ss) (hi : ss[i]? = some (.val (.ref l))) (o : Own K H10 H H1 l ds) (q : KD K H0 H10 (.list ds) Q) (hQ : D.rt = Q := by rfl) : tRet (tVar i) D σ H1 := by
  obtain ⟨vs, h1, h2⟩ := o.ex
  exact st_retOwn n s hi o.no o.old h1 h2 q hQ
theorem lay_strs : ∀ l : List Str, (∀ z ∈ l, PyData.strOk z = true) → PyData.canLayAll0 (l.map .str) = true
  | [], _ => rfl
  | n :: r, h => by simp only [List.map_cons, PyData.canLayAll0, PyData.canLay0, h n List.mem_cons_self, Bool.true_and, lay_strs r fun z hz => h z (List.mem_cons_of_mem _ hz)]
theorem depth_strs : ∀ l : List Str, PyData.depthAll (l.map .str) = 0
  | [] => rfl
  | n :: r => by simp only [List.map_cons, PyData.depthAll, PyData.depth, depth_strs r]; rfl
theorem shaped_strs {l : List Str} (h : ∀ z ∈ l, PyData.strOk z = true) : SeqAt.shaped (.list (l.map .str)) = true := by
  unfold SeqAt.shaped
  simp only [PyData.canLay0, lay_strs l h, PyData.depth, depth_strs, Bool.true_and]
  rfl
theorem eqv_refl' {d : PyData} (h : SeqAt.shaped d = true) : PyData.eqv d d = true := SeqAt.eqv_refl d (SeqAt.canLay_of_shaped h)
end LR

/-! ### the program's own exceptions: facts (own work) -/
namespace LR
open PySem PySem.Spec PyProof.Rows L2 Evl
abbrev gaE (K : PySem.W.Frag) (x : Str) : Addr := He.ga K x
def excOne (K : PySem.W.Frag) (x : Str) : Bool :=
  (He.Fa.exc x).ok K && ((He.Fa.glo x).ok K && (He.eqO (PySem.W.findIn K (.ref (gaE K x)) "__getattribute__") (some (some (.builtin "BaseException.__getattribute__"))) && (He.eqO (PySem.W.findIn K (.ref (gaE K x)) "__getattr__") (some none) &&
  (PySem.W.hasDictIn K (gaE K x) && (He.eqO (PySem.W.findIn K (.ref (gaE K x)) "__class__") (some (some (.builtin "object.__class__"))) && (He.eqO (PySem.W.specialIn K (.builtin "object.__class__") "__get__") (some (some (.builtin "getset_descriptor.__get__"))) &&
  (decide (PySem.W.takesIn K (.builtin "object.__class__") = some true) && decide (PySem.W.mroIn K (gaE K x) (.type "object") = some true))))))))
def excTwo (K : PySem.W.Frag) (x y : Str) : Bool := decide (PySem.W.kitOne K (.ref (gaE K x)) (.ref (gaE K y)) = some (decide (x = y))) && decide (PySem.W.exmOne K (.ref (gaE K x)) (.ref (gaE K y)) = some (decide (x = y)))
def excTop (K : PySem.W.Frag) (x : Str) : Bool := decide (PySem.W.kitOne K (.ref (gaE K x)) (.type "ValueError") = some true) && decide (PySem.W.exmOne K (.ref (gaE K x)) (.ref (gaE K "LeafError")) = some true)
def exOk (ns : List Str) (K : PySem.W.Frag) : Bool := (He.Fa.glo "LeafError").ok K && ns.all fun x => excOne K x && (excTop K x && ns.all fun y => excTwo K x y)
/-- what is known of the exceptions ns -/
structure ExT (ns : List Str) (K : PySem.W.Frag) (mg : Str → Option Value) : Prop where
  leaf : mg "LeafError" = some (.ref (gaE K "LeafError"))
  glo : ∀ x ∈ ns, mg x = some (.ref (gaE K x))
  exc : ∀ x ∈ ns, PySem.W.excIn K (gaE K x) He.veBase "ValueError.__new__" = true
  keep : ∀ x ∈ ns, PySem.W.keepIn K (.ref (gaE K x)) = true
  sub : ∀ x ∈ ns, PySem.W.subIn K (.ref (gaE K x)) (.type "BaseException") = some true
  ty : ∀ x ∈ ns, PySem.W.typeIn K (.ref (gaE K x)) = some (.type "type")
  own : ∀ x ∈ ns, ExcC K (gaE K x)
  kit : ∀ x ∈ ns, ∀ y ∈ ns, PySem.W.kitOne K (.ref (gaE K x)) (.ref (gaE K y)) = some (decide (x = y))
  exm : ∀ x ∈ ns, ∀ y ∈ ns, PySem.W.exmOne K (.ref (gaE K x)) (.ref (gaE K y)) = some (decide (x = y))
  ve : ∀ x ∈ ns, PySem.W.kitOne K (.ref (gaE K x)) (.type "ValueError") = some true
  exl : ∀ x ∈ ns, PySem.W.exmOne K (.ref (gaE K x)) (.ref (gaE K "LeafError")) = some true
theorem exT_of {ns : List Str} {K : PySem.W.Frag} {h : Heap} {mg : Str → Option Value} (X : K.In h) (G : h.Ns mainGlobals mg) (c : exOk ns K = true) : ExT ns K mg := by
  obtain ⟨c0, c⟩ := He.ba c
  have a : ∀ x ∈ ns, excOne K x = true ∧ excTop K x = true ∧ ∀ y ∈ ns, excTwo K x y = true := fun x hx => by
    obtain ⟨c1, c⟩ := He.ba (List.all_eq_true.mp c x hx)
    obtain ⟨c2, c3⟩ := He.ba c
    exact ⟨c1, c2, List.all_eq_true.mp c3⟩
  have b : ∀ x ∈ ns, (He.Fa.exc x).ok K = true ∧ (He.Fa.glo x).ok K = true ∧ PySem.W.findIn K (.ref (gaE K x)) "__getattribute__" = some (some (.builtin "BaseException.__getattribute__")) ∧ PySem.W.findIn K (.ref (gaE K x)) "__getattr__" = some none ∧
      PySem.W.hasDictIn K (gaE K x) = true ∧ PySem.W.findIn K (.ref (gaE K x)) "__class__" = some (some (.builtin "object.__class__")) ∧ PySem.W.specialIn K (.builtin "object.__class__") "__get__" = some (some (.builtin "getset_descriptor.__get__")) ∧
      PySem.W.takesIn K (.builtin "object.__class__") = some true ∧ PySem.W.mroIn K (gaE K x) (.type "object") = some true := fun x hx => by
    obtain ⟨c1, c⟩ := He.ba (a x hx).1
    obtain ⟨c2, c⟩ := He.ba c
    obtain ⟨c3, c⟩ := He.ba c
    obtain ⟨c4, c⟩ := He.ba c
    obtain ⟨c5, c⟩ := He.ba c
    obtain ⟨c6, c⟩ := He.ba c
    obtain ⟨c7, c⟩ := He.ba c
    obtain ⟨c8, c9⟩ := He.ba c
    exact ⟨c1, c2, He.eqO_ok c3, He.eqO_ok c4, c5, He.eqO_ok c6, He.eqO_ok c7, of_decide_eq_true c8, of_decide_eq_true c9⟩
  have e : ∀ x ∈ ns, _ := fun x hx => He.exc_ok (b x hx).1
  exact {
    leaf := He.glo_ok X G c0
    glo := fun x hx => He.glo_ok X G (b x hx).2.1
    exc := fun x hx => (e x hx).1
    keep := fun x hx => (e x hx).2.1
    sub := fun x hx => (e x hx).2.2.1
    ty := fun x hx => (e x hx).2.2.2
    own := fun x hx => ⟨(b x hx).2.2.1, (b x hx).2.2.2.1, (e x hx).2.2.1, (b x hx).2.2.2.2.1, (b x hx).2.2.2.2.2.1, (b x hx).2.2.2.2.2.2.1, (b x hx).2.2.2.2.2.2.2.1, (b x hx).2.2.2.2.2.2.2.2⟩
    kit := fun x hx y hy => of_decide_eq_true (He.ba ((a x hx).2.2 y hy)).1
    exm := fun x hx y hy => of_decide_eq_true (He.ba ((a x hx).2.2 y hy)).2
    ve := fun x hx => of_decide_eq_true (He.ba (a x hx).2.1).1
    exl := fun x hx => of_decide_eq_true (He.ba (a x hx).2.1).2 }
end LR

/-! ### within an except suite (own work) -/
namespace LR
open PySem PySem.Spec PyProof.Rows L2 Evl L2H
section
variable {X : Cx}
/-- isinstance(e, c), e the exception that is pinned -/
theorem call_isP {a D : Addr} {oe : Obj} (C : ExcC X.K D) (hz : Zc (.ref D) none oe) (hf : ∃ vs, oe.data = .fields vs) (hp : (a, oe) ∈ X.pn) : CallR X (.builtin "isinstance") (rIsE X.K D a) := by
  rintro pins s σ H xs us Q I r ⟨c, cv, b, rfl, hcv, e, q⟩
  match us, r with
  | _, .cons rx (.cons rt .nil) =>
    cases rx
    obtain rfl := hcv _ rt
    obtain ⟨get, _⟩ := I.pin (a, oe) (List.mem_append_left _ hp)
    have J : PySem.W.InstAt s.heap a oe D none := by
      obtain ⟨vs, hv⟩ := hf
      obtain ⟨c1, c2, c3, c4⟩ := oe
      obtain ⟨z1, z2⟩ := hz
      simp only at z1 z2 hv
      subst z1 z2 hv
      exact ⟨get, rfl, rfl, trivial⟩
    exact PySem.W.kia_one (PySem.W.handS_kitx_exc C.hg C.hk C.hs C.hd C.ha C.hn C.ht C.hm) I.kIn J e (fun z => nomatch z) fun tk => ⟨.bl b, H, I.kept (t' := tk) fun _ _ z => z, rfl, q⟩
/-- xs.count(b), truths -/
def eqb (b : Bool) (v : Value) : Bool := match v with
  | .bool c => c == b
  | _ => false
def rCntB (K : PySem.W.Frag) : V → List V → Hp → VK → Prop := fun x xs H Q => ∃ (p : Addr) (bs : List Bool) (b : Bool), x = .ref p ∧ xs = [.bl b] ∧ SqL K H p (bs.map V.bl) ∧ Q (.int (bs.count b : Nat)) H
theorem eqb_count {b : Bool} : ∀ bs : List Bool, (bs.map Value.bool).countP (eqb b) = bs.count b
  | [] => rfl
  | c :: r => by
    rw [List.map_cons, List.countP_cons, List.count_cons, eqb_count r]
    rfl
theorem mt_lcountB : MtR X "list.count" (rCntB X.K) := by
  rintro pins s σ H x xs v us Q I rx rxs ⟨p, bs, b, rfl, rfl, hs, q⟩
  cases rx
  obtain ⟨u, rfl, ru⟩ := rxs.one
  cases ru
  obtain ⟨its, rv, ⟨⟨cls, dd, data, sl⟩, n, ho, hc, hdn, hd⟩, hlen⟩ := I.list hs
  simp only at hc hd
  subst hc hd
  have hi := rv.bls
  subst hi
  refine call_meets PySem.F.slot_list_count ⟨_, ho, rfl⟩ PySem.F.entry_list_count (PySem.F.args_list_count_2 _ _)
    (SeqAt.list_countAt p (bs.map Value.bool).toArray n dd sl (.bool b) (eqb b)) ⟨ho, fun y hy => ?_, ?_⟩
  · have hy' : y ∈ bs.map Value.bool := List.mem_toArray.mp hy
    obtain ⟨c, _, rfl⟩ := List.mem_map.mp hy'
    exact SeqAt.EqAt.bool_bool c b
  · refine ⟨.int (bs.count b : Nat), H, I.tok _, ⟨s.toks, ?_⟩, q⟩
    show Value.int (((bs.map Value.bool).toArray.toList.countP (eqb b) : Nat) : Int) s.toks = _
    rw [show ((bs.map Value.bool).toArray.toList) = bs.map Value.bool from rfl, eqb_count]
theorem mt_lcountK {K : PySem.W.Frag} (h : X.K = K) : MtR X "list.count" (rCntB K) := h ▸ mt_lcountB
theorem mt_idxK {K : PySem.W.Frag} (h : X.K = K) : MtR X "list.index" (rIndex K) := h ▸ mt_index
theorem call_isPK {K : PySem.W.Frag} {a D : Addr} {oe : Obj} (h : X.K = K) (C : ExcC K D) (hz : Zc (.ref D) none oe) (hf : ∃ vs, oe.data = .fields vs) (hp : (a, oe) ∈ X.pn) : CallR X (.builtin "isinstance") (rIsE K D a) := by
  subst h
  exact call_isP C hz hf hp
end
section
variable {K : PySem.W.Frag} {σ : L2.St} {H : Hp} {ss : List SD} {ta tb te : TE}
theorem ed_isE {a D : Addr} {i : Nat} {c : V} {cv : Value} {b : Bool} (s : Sl K H σ ss) (hi : ss[i]? = some (.val (.ref a))) (hc : ∀ u, RelV c u → u = cv) (hk : PySem.W.kitOne K (.ref D) cv = some b) : EvD K (tCB (rIsE K D a) (tCons (tVar i) (tCons (tC c) tNil))) σ H (.bool b) := fun H1 e1 Q q =>
  ⟨.ref a, s.val hi, c, cv, b, rfl, hc, hk, q.val e1 fun _ => .bl b⟩
theorem ed_countB {bs : List Bool} {b : Bool} (ha : EvD K ta σ H (.list (bs.map .bool))) (hb : EvD K tb σ H (.bool b)) : EvD K (tBM K "list" (rCntB K) ta (tCons tb tNil)) σ H (.int (bs.count b : Nat)) := fun H1 e1 Q q =>
  ha H1 e1 _ fun v H2 Ha e2 ea xa da => by
    obtain ⟨a, xs, rfl, h, r⟩ := da.lst_eq
    refine ⟨.inl ⟨rfl, xs, sq_of (ea a _ h)⟩, (hb.mono xa.ex) H2 ea _ fun v' H3 Hb e3 eb xb db => ?_⟩
    rw [db.bl_eq]
    refine ⟨a, bs, b, rfl, rfl, sq_of ?_, q _ H3 Hb (e2.trans e3) eb (xa.trans e2 xb) (.int _)⟩
    rw [← bls_dp r]
    exact eb a _ (xb.ex a _ h)
theorem ed_indexB {bs : List Bool} {b : Bool} {j : Nat} (ha : EvD K ta σ H (.list (bs.map .bool))) (hb : EvD K tb σ H (.bool b)) (hj : bs[j]? = some b) (hf : ∀ m z, m < j → bs[m]? = some z → z ≠ b) : EvD K (tBM K "list" (rIndex K) ta (tCons tb tNil)) σ H (.int (j : Nat)) := fun H1 e1 Q q =>
  ha H1 e1 _ fun v H2 Ha e2 ea xa da => by
    obtain ⟨a, xs, rfl, h, r⟩ := da.lst_eq
    have ex := bls_dp r
    subst ex
    refine ⟨.inl ⟨rfl, _, sq_of (ea a _ h)⟩, (hb.mono xa.ex) H2 ea _ fun v' H3 Hb e3 eb xb db => ?_⟩
    rw [db.bl_eq]
    refine ⟨a, bs.map V.bl, .bl b, j, .bl b, rfl, rfl, sq_of (eb a _ (xb.ex a _ h)), rfl, ?_, by rw [List.getElem?_map, hj] <;> rfl, by cases b <;> rfl, fun m z hm hz => ?_, q _ H3 Hb (e2.trans e3) eb (xa.trans e2 xb) (.int _)⟩
    · exact List.all_eq_true.mpr fun z hz => by
        obtain ⟨c, _, rfl⟩ := List.mem_map.mp hz
        rfl
    · rw [List.getElem?_map] at hz
      obtain ⟨c, hc, rfl⟩ := Option.map_eq_some_iff.mp hz
      have := hf m c hm hc
      cases b <;> cases c <;> first | rfl | exact absurd rfl this
end
/-- a def's call where p's exception is handled, p known -/
theorem run_hot {CX : CXT} {P : Program} {w : World} {K : PySem.W.Frag} {mg : Str → Option Value} {base : Heap} {k : Nat} {f : Addr} {nm qual : Str} {pa : Arguments} {bd : List Stmt} {sc : Scope} {fd : FuncData} {N ps : List Str} (F : FunD K nm qual pa bd sc [] [] f fd) (S : FnScope N ps sc)
    {A : Around} {outer : List Env} {s : Shared} {H : Hp} {args : Args} {us : List Value} {vs : List V} {Q : VK} {E : XK} {p : Addr × Obj} (hr : RoomH (k + 1) A) (hpin : PinOk outer H s p) (e0 : Env0 P w K mg base A outer s H) (hb : BindsTo s fd args (ps.zip us)) (r : Vals vs us) (hl : vs.length = ps.length)
    (hbody : ∀ cdv : Value, RoomH k (A.deeper (envOfC qual sc s.heap.objs.size f cdv)) → ∃ t, PSs (cxH CX P w K mg base N qual sc f cdv A outer s H E p) bd t ∧ t { nx := fun _ H' => Q .non H', rt := Q } (L2.start N vs) H) :
    codeAny (model P w) A (.call (.ref f) args) (CR CX outer P w H s Q E) s := by
  obtain ⟨oc, od, dV, kV, doc, pm, an, cdv, ct, osl, rfl, lk, hcd, _, _⟩ := F.ex
  have kin : K.In s.heap := e0.mod.kin.keeps fun b o e => (e0.bs b o e).1
  have lim : s.heap.NoLimit := e0.mod.nolimit.keeps fun b o e => (e0.bs b o e).1
  have kinds : ∀ y ∈ ps.zip us, sc.names.lookup y.1 = some .local ∨ (sc.names.lookup y.1 = some .cell ∧ ((cellsFrom (s.heap.objs.size + 1) sc.names []).lookup y.1).isSome = true) := by
    rintro ⟨n, v⟩ hy
    rcases S.par n (List.of_mem_zip hy).1 with z | z
    · exact .inl z
    · exact .inr ⟨z, PySem.W.cellsFrom_some _ _ _ (.inl z)⟩
  refine codeAny_call_function hr.depth (kin _ _ lk) rfl S.co S.gen rfl (PySem.W.codeRec_of kin hcd) (hb _ _ _ _ (wpAny_newFunctionEnv_cells S.kind kinds fun env he s1 x => ?_))
  subst he
  obtain ⟨t, ht, hq⟩ := hbody cdv (hr.deeper _)
  refine ⟨lim.keeps x.toInCall.keep, codeAny_func (wpAny_mono (ht.run [] s1 (L2.start N vs) H _ (inv_startH S hpin e0 hl r x) hq) (fun fl s' hs => ?_) fun e s' hs => hs)⟩
  match fl, hs with
  | .ret u, ⟨v, σ', H', J, rv, q⟩ => exact ⟨v, H', J.os, J.bare, J.base, J.hok, rv, q⟩
  | .next, ⟨σ', H', J, q⟩ => exact ⟨V.non, H', J.os, J.bare, J.base, J.hok, rfl, q⟩
  | .brk, ⟨_, _, _, q⟩ => exact False.elim q
  | .cont, ⟨_, _, _, q⟩ => exact False.elim q
/-- x(e), e the handled exception, x a def that raises nothing -/
theorem pe_hot {X : Cx} {k i : Nat} {f a : Addr} {oe : Obj} {nm qual : Str} {pa : Arguments} {bd : List Stmt} {sc : Scope} {fd : FuncData} {N : List Str} {p1 n x : Str} {q q2 pos : Pos} {te : Hp → VK → Prop} (F : FunD X.K nm qual pa bd sc [] [] f fd) (S : FnScope N [p1] sc)
    (hr : RoomH (k + 1) X.A) (hp : (a, oe) ∈ X.pn) (hg : Gl X x) (hm : X.mg x = some (.ref f)) (hb : Binds X.K fd [p1] []) (hi : X.N[i]? = some n) (hv : Vis X.env.scope n)
    (hbody : ∀ (s : Shared) (H : Hp) (cdv : Value) (Q : VK), RoomH k (X.A.deeper (envOfC qual sc s.heap.objs.size f cdv)) → te H Q → ∃ t, PSs (cxH (CXL X.prog X.w) X.prog X.w X.K X.mg X.base N qual sc f cdv X.A X.stack s H E0 (a, oe)) bd t ∧ t { nx := fun _ H' => Q .non H', rt := Q } (L2.start N [.ref a]) H)
    (hdb : (x == ("__debug__" : Str)) = false := by decide) (hd : (n == ("__debug__" : Str)) = false := by decide) (hcd : (n == ("__classdict__" : Str)) = false := by decide) :
    PE X (.Call (.Name x q) [.Name n q2] [] pos) (fun σ H Q => σ[i]? = some (some (.ref a)) ∧ te H Q) := by
  refine ⟨fun pins s σ H Q I ⟨hs, h⟩ => ?_⟩
  refine wpAny_Call_Name_kw (ld_glob I hg hm ?_ hdb)
  have pv : PE X (.Name n q2) (tVar i) := pe_var hi hv hd hcd
  have pa1 : PA X [.Name n q2] (tCons (tVar i) tNil) := pa_cons pv pa_nil
  refine PySem.W.callWith_K (h₀ := X.base) I.ok.mod.kin F.kp (thn (pa1.run pos pins s σ H (fun vs H1 => vs = [.ref a] ∧ te H1 Q) I ⟨_, hs, rfl, h⟩) fun us s1 ⟨vs, H1, I1, r, e, hq⟩ => ⟨I1.kIn, ?_⟩) (by rfl) (by rfl)
  subst e
  have P1 := I1.pin (a, oe) (List.mem_append_left _ hp)
  have hpin : PinOk X.stack H1 s1 (a, oe) := ⟨P1.1, P1.2.1, fun z => (List.mem_cons.mp (I1.stkSub a z)).elim P1.2.2.1 P1.2.2.2.1, P1.2.2.2.2⟩
  have b := hb s1 us I1.kIn (by rw [List.append_nil, ← r.length]; rfl)
  rw [List.append_nil] at b
  refine wpAny_call (codeAny_mono (run_hot (E := E0) (Q := Q) F S hr hpin I1.env0 b r rfl fun cdv hr' => hbody s1 H1 cdv Q hr' hq) fun z s' hz => ?_)
  match z, hz with
  | .error e, ⟨_, _, _, _, _, _, _, _, _, _, _, _, y⟩ => exact y.elim
  | .ok (.ret u), hz => exact I1.after hz
  | .ok .next, hz => exact False.elim hz
  | .ok .brk, hz => exact False.elim hz
  | .ok .cont, hz => exact False.elim hz
end LR

/-! ### x(lambda: ..), what the lambda raises has no context (own work over the kit's lambdas) -/
namespace LR
open PySem PySem.Spec PyProof.Rows L2 Evl L2H LamX
/-- the body's context -/
def lamN (X : Cx) (A : Around) (outer : List Env) (s : Shared) (H : Hp) (E : XK) (scope : Scope) (f c' : Addr) : Cx :=
  { lamCx X A outer s H E scope f c' with xe := fun u z => wpAny (model X.prog X.w) (A.deeper (lamEnv X scope s.heap.objs.size f c')) (leaving (lamEnv X scope s.heap.objs.size f c') u) (fun _ z2 => CXL X.prog X.w outer H s E u z2) (fun u2 z2 => CXL X.prog X.w outer H s E u2 z2) z }
section
variable {X : Cx} {pins : List (Addr × Obj)} {σ : L2.St} {H HZ : Hp} {s s1 : Shared}
theorem lamN_takes {A : Around} {outer : List Env} {E : XK} {scope : Scope} {f c' : Addr} : L2N.Takes (lamN X A outer s H E scope f c') (fun cls d _ H' => E cls d H') := L2N.takes_of rfl rfl rfl rfl
theorem lamN_pass {A : Around} {outer : List Env} {E : XK} {scope : Scope} {f c' : Addr} : Passes (CXL (lamN X A outer s H E scope f c').prog (lamN X A outer s H E scope f c').w) (lamN X A outer s H E scope f c') E := L2N.passes_call lamN_takes fun _ _ _ _ h => h
/-- a(), in the def that got the lambda -/
theorem pe_actN {CXg : CXT} {Eg : XK} {Ng : List Str} {qg : Str} {sg : Scope} {g f c' : Addr} {cdg pm ctv : Value} {params : Arguments} {body : Expr} {scope : Scope} {k i : Nat} {a : Str} {pn : List (Addr × Obj)} {xe : Value → Shared → Prop} {W : WX} {E : XK} {tb : TE} {p1 p2 : Pos}
    (I : Inv X pins σ H s) (L : LamS X.env.scope scope) (at_f : s.heap.get? f = some (PySem.W.kla_obj "<lambda>" (X.env.qual ++ "<lambda>") params body scope (cloFrom X.env.cells scope.names []) pm c' ctv)) (no_f : H f = none) (fr_f : f ∉ frs X.stack)
    (bind0 : bindArgs (PySem.W.kla_fn "<lambda>" (X.env.qual ++ "<lambda>") params body scope (cloFrom X.env.cells scope.names []) pm (.ref c') ctv) ⟨[], []⟩ = pure [])
    (tk : L2N.Takes ((cxOf CXg X.prog X.w X.K X.mg X.base Ng qg sg g cdg X.A X.stack s H Eg).tr pn xe) W) (hr : Room (k + 1) (X.A.deeper (envOfC qg sg s.heap.objs.size g cdg)))
    (hbody : ∀ (A : Around) (outer : List Env) (s : Shared) (H : Hp), Room k (A.deeper (lamEnv X scope s.heap.objs.size f c')) → PE (lamN X A outer s H E scope f c') body tb)
    (hN : Ng[i]? = some a) (hv : Vis sg a) (hd : (a == ("__debug__" : Str)) = false := by decide) (hcd : (a == ("__classdict__" : Str)) = false := by decide) :
    PE ((cxOf CXg X.prog X.w X.K X.mg X.base Ng qg sg g cdg X.A X.stack s H Eg).tr pn xe) (.Call (.Name a p1) [] [] p2) (fun σZ HZ Q => (∀ cls d H', E cls d H' → W cls d σZ H') ∧ σZ[i]? = some (some (.ref f)) ∧ HZ c' = some (CodeO c' (X.env.qual ++ "<lambda>")) ∧ tb σ HZ Q) := by
  refine ⟨fun pz sZ σZ HZ Q IZ ⟨hW, hs, hc, ht⟩ => ?_⟩
  refine wpAny_Call_Name_kw (thn ((pe_var (pos := p1) (i := i) hN hv hd hcd).run pz sZ σZ HZ (fun v H1 => v = .ref f ∧ H1 = HZ) IZ ⟨.ref f, hs, rfl, rfl⟩) ?_)
  rintro u s1 ⟨v, H1, I1, r1, rfl, rfl⟩
  obtain rfl : u = Value.ref f := r1
  have f1 : s1.heap.get? f = some (PySem.W.kla_obj "<lambda>" (X.env.qual ++ "<lambda>") params body scope (cloFrom X.env.cells scope.names []) pm c' ctv) := I1.base.keep f _ at_f no_f fr_f (fun z => nomatch (show f ∈ ([] : List Addr) from z))
  obtain ⟨⟨oc, vs, t, c1, c2, c3⟩, _, _⟩ := I1.hok c' _ hc
  have un : Un (frs X.stack) [] H H1 s.heap s1.heap := I1.base
  have rc : codeAny (model X.prog X.w) (X.A.deeper (envOfC qg sg s.heap.objs.size g cdg)) (.call (.ref f) ⟨[], []⟩) (CR (CXL X.prog X.w) (envOfC qg sg s.heap.objs.size g cdg :: X.stack) X.prog X.w H1 s1 Q E) s1 := by
    refine PySem.W.kla_callFunE hr.depth f1 rfl L.co L.gen rfl ⟨c', oc, vs, t, rfl, c1, c2, c3⟩ ?_
    rw [bind0]
    refine wpAny_pure (wpAny_newFunctionEnv (fun y hy => (L.own y hy).2) (fun y hy => absurd hy (by simp)) (fun h₁ ns sb => ⟨I1.nolimit.fresh _ sb, ?_⟩) L.kind)
    have kp : ∀ b o, s1.heap.get? b = some o → h₁.get? b = some o := fun b o e => sb.extBut b o (Nat.ne_of_lt (Heap.lt_size e)) (Heap.get?_push_of_some _ e)
    have J0 := lam_start2 (A := X.A.deeper (envOfC qg sg s.heap.objs.size g cdg)) (outer := envOfC qg sg s.heap.objs.size g cdg :: X.stack) (E := E) (scope := scope) (f := f) (c' := c') (tk := s1.toks + ([] : List (Str × Value)).length) I L I1.env0 hr.hd un ns kp
    have J : Inv (lamN X (X.A.deeper (envOfC qg sg s.heap.objs.size g cdg)) (envOfC qg sg s.heap.objs.size g cdg :: X.stack) s1 H1 E scope f c') [] σ H1 { s1 with heap := h₁, toks := s1.toks + ([] : List (Str × Value)).length } :=
      Inv.unwish (X := lamN X (X.A.deeper (envOfC qg sg s.heap.objs.size g cdg)) (envOfC qg sg s.heap.objs.size g cdg :: X.stack) s1 H1 E scope f c') (E := (lamCx X (X.A.deeper (envOfC qg sg s.heap.objs.size g cdg)) (envOfC qg sg s.heap.objs.size g cdg :: X.stack) s1 H1 E scope f c').xe) J0
    show codeAny _ _ (.expr body (lamEnv X scope s1.heap.objs.size f c')) _ _
    refine PySem.W.kla_codeExpr (wpAny_mono ((hbody _ _ s1 H1 (hr.deeper _)).run [] _ _ H1 Q J ht) ?_ fun e s' hq => hq)
    rintro v s' ⟨w', H', J', rv, q⟩
    exact ⟨w', H', J'.os, J'.bare, J'.base, J'.hok, rv, q⟩
  refine PySem.W.callWith_F0 ⟨_, _, _, _, f1⟩ (wpAny_call (codeAny_mono rc fun r s' hq => ?_))
  match r, hq with
  | .error e, hq => exact tk e s' (L2N.XE.of_call I1 hW hq)
  | .ok (.ret u), hq => exact I1.after hq
  | .ok .next, hq => exact False.elim hq
  | .ok .brk, hq => exact False.elim hq
  | .ok .cont, hq => exact False.elim hq
end
/-- the def that calls what it got: TT is what it makes of the lambda's reading -/
def GivesN (X : Cx) (Ng : List Str) (x : Str) (sg : Scope) (g : Addr) (cdg : Value) (bg : List Stmt) (a : Str) (q : Str) (TT : (XK → Hp → VK → Prop) → Hp → VK → Prop) : Prop :=
  ∀ (f c' : Addr) (s : Shared) (H : Hp) (Q : VK) (tl : XK → Hp → VK → Prop),
    (∀ (W : WX) (pn : List (Addr × Obj)) (xe : Value → Shared → Prop) (E : XK) (p1 p2 : Pos), L2N.Takes ((cxOf (CXL X.prog X.w) X.prog X.w X.K X.mg X.base Ng x sg g cdg X.A X.stack s H E0).tr pn xe) W →
      PE ((cxOf (CXL X.prog X.w) X.prog X.w X.K X.mg X.base Ng x sg g cdg X.A X.stack s H E0).tr pn xe) (.Call (.Name a p1) [] [] p2) (fun σZ HZ Q => (∀ cls d H', E cls d H' → W cls d σZ H') ∧ σZ[0]? = some (some (.ref f)) ∧ HZ c' = some (CodeO c' q) ∧ tl E HZ Q)) →
    Room 1 (X.A.deeper (envOfC x sg s.heap.objs.size g cdg)) → H c' = some (CodeO c' q) → TT tl H Q →
    ∃ t, PSs (cxOf (CXL X.prog X.w) X.prog X.w X.K X.mg X.base Ng x sg g cdg X.A X.stack s H E0).nox bg t ∧ t { nx := fun _ H' => Q .non H', rt := Q } (L2.start Ng [.ref f]) H
section
variable {X : Cx}
/-- x(lambda: body) -/
theorem pe_lamN {T : List (Addr × Str)} {TT : (XK → Hp → VK → Prop) → Hp → VK → Prop} {x a : Str} {g c P : Addr} {k : Nat} {pg : Arguments} {bg : List Stmt} {sg : Scope} {fd : FuncData} {Ng : List Str}
    {params : Arguments} {body : Expr} {scope : Scope} {t : XK → TE} {p lpos pos : Pos} (hg : Gl X x) (hm : X.mg x = some (.ref g)) (F : FunD X.K x x pg bg sg [] [] g fd) (hb : L2.Binds X.K fd [a] []) (Sg : FnScope Ng [a] sg) (hNg : Ng[0]? = some a) (hva : Vis sg a)
    (hG : ∀ cdv, GivesN X Ng x sg g cdv bg a (X.env.qual ++ "<lambda>") TT)
    (TB : TabB X.base X.mg c P) (hcode : X.env.code = .ref c) (hmT : (P, X.env.qual ++ "<lambda>") ∈ T) (hu : ∀ p ∈ T, p.1 = P → p.2 = X.env.qual ++ "<lambda>") (hr : Room (k + 3) X.A) (L : LamS X.env.scope scope) (hdef : defaultsOf params X.env = ([], []))
    (hbind : ∀ (q : Str) (cl : List (Str × Addr)) (pm cv ctv : Value), bindArgs (PySem.W.kla_fn "<lambda>" q params body scope cl pm cv ctv) ⟨[], []⟩ = pure [])
    (hbody : ∀ (A : Around) (outer : List Env) (s : Shared) (H : Hp) (E : XK) (f c' : Addr), Room (k + 1) (A.deeper (lamEnv X scope s.heap.objs.size f c')) → PE (lamN X A outer s H E scope f c') body (t E))
    (hdb : (x == ("__debug__" : Str)) = false := by decide) (hd : (a == ("__debug__" : Str)) = false := by decide) (hcd : (a == ("__classdict__" : Str)) = false := by decide) :
    PE X (.Call (.Name x p) [.Lambda params body scope lpos] [] pos) (tLam T TT t) := by
  refine ⟨fun pins s σ H Q I ⟨hT, h⟩ => ?_⟩
  obtain ⟨oc, od, dV, kV, doc, pm, an, cdv, ct, osl, rfl, lk, hcg, _, _⟩ := F.ex
  refine wpAny_Call_Name_kw (ld_glob I hg hm (PySem.W.callWith_K (h₀ := X.base) I.ok.mod.kin F.kp ?_ (by rfl) (by rfl)) hdb)
  show wpAny _ _ (spliced ((false, eval (.Lambda params body scope lpos) X.env) :: backTo pos (starEach [] X.env))) _ _ s
  refine Calls.spliced_cons (lam_make2 I TB hcode hmT hu hT hdef (L.has I.ok) fun f c' pm' ctv H1 s' I1 eN T1 hf hfn hfr hco => Calls.spliced_nil ⟨I1.kIn, ?_⟩)
  have rc : codeAny (model X.prog X.w) X.A (.call (.ref g) ⟨[.ref f], []⟩) (CR (CXL X.prog X.w) X.stack X.prog X.w H1 s' Q E0) s' := by
    refine run_ofS (N := Ng) (ps := [a]) (us := [.ref f]) (vs := [.ref f]) lk hcg Sg hr I1.env0 (hb s' [.ref f] I1.kIn rfl) (.cons rfl .nil) rfl fun hr' => ?_
    obtain ⟨t', w1, w2⟩ := hG cdv f c' s' H1 Q (fun E H' Q' => t E σ H' Q') (fun W pn xe E p1 p2 tk => pe_actN (i := 0) I1 L hf hfn hfr (hbind _ _ _ _ _) tk hr' (fun A outer s H hr2 => hbody A outer s H E f c' hr2) hNg hva hd hcd) (hr'.mono (by omega)) hco (h H1 eN T1)
    exact ⟨t', w1.nox, w2⟩
  refine wpAny_call (codeAny_mono rc fun r s2 hq => ?_)
  match r, hq with
  | .error e, ⟨_, _, _, _, _, _, _, _, _, _, _, _, y⟩ => exact y.elim
  | .ok (.ret u), hq => exact I1.after hq
  | .ok .next, hq => exact False.elim hq
  | .ok .brk, hq => exact False.elim hq
  | .ok .cont, hq => exact False.elim hq
theorem takesN0 : L2N.Takes X (fun _ _ _ _ => False) := fun _ _ x => by
  obtain ⟨_, _, _, _, _, _, _, _, _, _, _, _, _, _, _, _, z⟩ := x
  exact z.elim
end
end LR

/-! ### defs that may raise; laws that hand lambdas on (own work) -/
namespace LR
open PySem PySem.Spec PyProof.Rows L2 Evl L2H LamX
/-- what a deed comes to: data, or the name of what is raised -/
abbrev Ans := Except Str PyData
/-- what follows -/
def KX (K : PySem.W.Frag) (E : XK) (H H1 : Hp) (Q : VK) : Ans → Prop
  | .ok d => KD K H H1 d Q
  | .error x => ∀ H2, Ex H1 H2 → E (.ref (gaE K x)) none H2
def spX (K : PySem.W.Frag) (n : Nat) (R : List PyData → Ans → Prop) : Sp := fun vs H1 Q E => ∃ H ds r, Ex H H1 ∧ DtAll K H vs ds ∧ ds.length = n ∧ R ds r ∧ KX K E H H1 Q r
theorem spX_len {K : PySem.W.Frag} {n : Nat} {R : List PyData → Ans → Prop} {vs : List V} {H1 : Hp} {Q : VK} {E : XK} (h : spX K n R vs H1 Q E) : vs.length = n := by
  obtain ⟨H, ds, r, _, da, hl, _⟩ := h
  rw [da.length, hl]
def EvX (K : PySem.W.Frag) (E : XK) (te : TE) (σ : L2.St) (H : Hp) (r : Ans) : Prop := ∀ H1, Ex H H1 → ∀ Q : VK, KX K E H H1 Q r → te σ H1 Q
section
variable {K : PySem.W.Frag} {σ : L2.St} {H H0 H10 H1 : Hp} {te : TE} {ta : TA} {E : XK} {r : Ans} {d : PyData} {D : Ends} {ss : List SD}
theorem EvX.ed (h : EvX K E te σ H (.ok d)) : EvD K te σ H d := h
theorem EvD.ex (h : EvD K te σ H d) : EvX K E te σ H (.ok d) := h
theorem ex_call {n : Nat} {R : List PyData → Ans → Prop} {ds : List PyData} (ha : EvDs K ta σ H ds) (hR : R ds r) (hn : ds.length = n := by rfl) : EvX K E (tCall (spX K n R) [] E ta) σ H r := fun H1 e1 Q q =>
  ha H1 e1 _ fun vs H2 Ha e2 ea xa da => by
    show spX K n R (vs ++ []) H2 Q E
    rw [List.append_nil]
    refine ⟨Ha, ds, r, ea, da, hn, hR, ?_⟩
    cases r with
    | ok d => exact fun v H3 Hb e3 eb xb db => q v H3 Hb (e2.trans e3) eb (xa.trans e2 xb) db
    | error x => exact fun H3 e3 => q H3 (e2.trans e3)
/-- e, for what it does -/
theorem st_doX (n : Now H0 H10 H H1) (s : Sl K H σ ss) (h : EvX K E te σ H r) (ok : ∀ d, r = .ok d → ∀ H' H2, Ext H H1 H' → Ex H1 H2 → Now H0 H10 H' H2 → Sl K H' σ ss → D.nx σ H2) (er : ∀ x, r = .error x → ∀ H2, Ex H10 H2 → E (.ref (gaE K x)) none H2) : tDrop te D σ H1 := by
  refine h H1 n.ex _ ?_
  cases r with
  | ok d => exact fun v H2 H' e2 e x dv => ok d rfl H' H2 x e2 (n.on e2 e x) (s.ex x.ex)
  | error x => exact fun H2 e2 => er x rfl H2 (n.grow.trans e2)
/-- x = e -/
theorem st_setX {i : Nat} (n : Now H0 H10 H H1) (s : Sl K H σ ss) (h : EvX K E te σ H r) (ok : ∀ d, r = .ok d → ∀ σ' H' H2, Ext H H1 H' → Ex H1 H2 → Now H0 H10 H' H2 → Sl K H' σ' (ss.set i (.dat d)) → D.nx σ' H2) (er : ∀ x, r = .error x → ∀ H2, Ex H10 H2 → E (.ref (gaE K x)) none H2) : tAsg te (gName i) D σ H1 := by
  refine h H1 n.ex _ ?_
  cases r with
  | ok d => exact fun v H2 H' e2 e x dv => ok d rfl _ H' H2 x e2 (n.on e2 e x) ((s.ex x.ex).set (s := .dat d) (o := some v) dv i)
  | error x => exact fun H2 e2 => er x rfl H2 (n.grow.trans e2)
/-- return e -/
theorem st_retX {Q : VK} (n : Now H0 H10 H H1) (h : EvX K E te σ H r) (q : KX K E H0 H10 Q r) (hQ : D.rt = Q := by rfl) : tRet te D σ H1 := by
  subst hQ
  refine h H1 n.ex _ ?_
  cases r with
  | ok d => exact fun v H2 H' e2 e x dv => q v H2 H' (n.grow.trans e2) e (n.ext.trans n.grow x) dv
  | error x => exact fun H2 e2 => q H2 (n.grow.trans e2)
end
section
variable {P : Program} {w : World} {K : PySem.W.Frag} {mg : Str → Option Value} {base : Heap}
theorem passE {X : Cx} {E : XK} {E₁ : Value → Shared → Prop} (hs : X.stack = X.env :: X.outer) (hf : X.env.frame = some X.env.locals) (hex : X.ex = [])
    (hx : X.xe = fun e s' => wpAny (model X.prog X.w) X.A (leaving X.env e) (fun _ s'' => L2N.CX X.prog X.w X.outer X.H_0 X.s_0 E e s'') E₁ s') : Passes (CXL X.prog X.w) X E := L2N.passes_call (L2N.takes_of hs hf hex hx) fun _ _ _ _ h => h
/-- a def that may raise keeps its promise -/
theorem fx_raise {x nm qual : Str} {st : Stmt} {f : Addr} {fd : FuncData} {N ps : List Str} {k n : Nat} {R : List PyData → Ans → Prop} (F : FunD K nm qual (defArgs st) (defBody st) (defScope st) [] [] f fd) (hm : mg x = some (.ref f)) (S : FnScope N ps (defScope st)) (hn : ps.length = n)
    (hb : ∀ (kV doc pm : Value) (an : Option Addr) (cdv ct : Value) (us : List Value), us.length = ps.length → bindArgs (PySem.W.fnOf nm qual (defArgs st) (defBody st) (defScope st) .none kV doc pm an cdv ct) ⟨us, []⟩ = pure (ps.zip us))
    (body : ∀ (cdv : Value) (A : Around) (outer : List Env) (s : Shared) (Hs : Hp) (E : XK), Room k (A.deeper (envOfC qual (defScope st) s.heap.objs.size f cdv)) → ∀ (ds : List PyData) (r : Ans), ds.length = n → R ds r →
      ∃ t, PSs (cxOf (CXL P w) P w K mg base N qual (defScope st) f cdv A outer s Hs E) (defBody st) t ∧
        ∀ (σ : L2.St) (H0 H10 : Hp) (Q : VK), Now H0 H10 H0 H10 → Sl K H0 σ (ds.map .dat ++ List.replicate (N.length - n) .unk) → KX K E H0 H10 Q r → t { nx := fun _ H' => Q .non H', rt := Q } σ H10) :
    Fx P w K mg base (k + 1) x ps (spX K n R) := by
  refine ⟨f, fd, F.ok S (fun vs H Q E h => by rw [hn]; exact spX_len h) (fun cdv A outer s H1 vs Q E hr h => ?_), hm, F.kp, F.bindsN hb⟩
  obtain ⟨H, ds, r, e, da, hl, hR, q⟩ := h
  obtain ⟨t, ht, hk⟩ := body cdv A outer s H1 E hr ds r hl hR
  refine ⟨t, ht, hk _ H H1 Q (Now.start e) ?_ q⟩
  have lv : vs.length = n := da.length.trans hl
  have z := sl_start (K := K) (H := H) (N.length - vs.length) da
  rw [lv] at z
  unfold L2.start
  rw [lv]
  exact z
end
/-! ### laws with lambdas: the tables of code objects are written -/
def NT (H : Hp) : Prop := ∀ b ps, H b ≠ some (.tbl ps)
theorem ex_nt {H H1 H2 : Hp} (nt : NT H) (e : Ex H H1) (x : ExtN H1 H2) : Ex H H2 := fun b o h => x b o (e b o h) fun ps z => nt b ps (z ▸ h)
/-- new objects that are no tables, and not where one was that is none -/
structure ExtL (H H1 H' : Hp) : Prop where
  ex : Ex H H'
  fresh : ∀ b o, H' b = some o → H b = some o ∨ ((∀ o', H1 b = some o' → ∃ ps, o' = .tbl ps) ∧ ∀ ps, o ≠ .tbl ps)
theorem Ext.l {H H1 H' : Hp} (x : Ext H H1 H') : ExtL H H1 H' := ⟨x.ex, fun b o h => (x.fresh b o h).imp id fun z => ⟨fun o' q => (by rw [z.1] at q; cases q), z.2⟩⟩
theorem ExtL.nt {H H1 H' : Hp} (x : ExtL H H1 H') (n : NT H) : NT H' := fun b ps h => by
  rcases x.fresh b _ h with z | z
  · exact n b ps z
  · exact z.2 ps rfl
theorem ExtL.trans {H H1 H' H2 H'' : Hp} (a : ExtL H H1 H') (e : ExtN H1 H2) (b : ExtL H' H2 H'') : ExtL H H1 H'' := ⟨a.ex.trans b.ex, fun c o h => by
  rcases b.fresh c o h with z | z
  · exact a.fresh c o z
  · refine .inr ⟨fun o' h' => ?_, z.2⟩
    by_cases q : ∃ ps, o' = .tbl ps
    · exact q
    · exact z.1 o' (e c o' h' fun ps y => q ⟨ps, y⟩)⟩

/-- the law's own: nothing is asked of what was there, but that what is known is no table -/
abbrev E00 : Hp := fun _ => none
theorem now_l {H H1 : Hp} (nt : NT H) (e : Ex H H1) : Now E00 E00 H H1 := ⟨e, ⟨(fun b o h => nomatch h), fun b o h => .inr ⟨rfl, fun ps z => nt b ps (z ▸ h)⟩⟩, fun b o h => nomatch h⟩
theorem Now.nt {H H1 : Hp} (n : Now E00 E00 H H1) : NT H := fun b ps h => by
  rcases n.ext.fresh b _ h with z | z
  · cases z
  · exact z.2 ps rfl
def EvL (K : PySem.W.Frag) (T : List (Addr × Str)) (te : TE) (σ : L2.St) (H : Hp) (d : PyData) : Prop := ∀ H1, Ex H H1 → NT H → Tabs T H1 → ∀ Q : VK, (∀ v H2 H', ExtN H1 H2 → Tabs T H2 → Ex H' H2 → ExtL H H1 H' → Dt K H' v d → Q v H2) → te σ H1 Q
def EvBL (T : List (Addr × Str)) (tt : TT) (σ : L2.St) (H : Hp) (b : Bool) : Prop := ∀ H1, Ex H H1 → NT H → Tabs T H1 → ∀ Q : Bool → Hp → Prop, (∀ H2, ExtN H1 H2 → Tabs T H2 → Ex H H2 → Q b H2) → tt σ H1 Q
section
variable {K : PySem.W.Frag} {T : List (Addr × Str)} {σ : L2.St} {H H1 : Hp} {ta tb te : TE} {d e z : PyData} {t u : TT} {D : Ends} {ss : List SD}
theorem EvD.l (h : EvD K te σ H d) : EvL K T te σ H d := fun H1 e1 _ tb Q q => h H1 e1 Q fun v H2 H' e2 e x dv => q v H2 H' (.of e2) (tb.ext e2) e x.l dv
theorem EvB.l {b : Bool} (h : EvB t σ H b) : EvBL T t σ H b := fun H1 e1 _ tb Q q => h H1 e1 Q fun H2 e2 => q H2 (.of e2) (tb.ext e2) (e1.trans e2)
theorem el_op {r : R2} (ha : EvL K T ta σ H d) (hb : EvD K tb σ H e) (hr : RD2 K r d e H z) : EvL K T (tOp r ta tb) σ H z := fun H1 e1 nt tbs Q q =>
  ha H1 e1 nt tbs _ fun x H2 Ha e2 t2 ea xa da => (hb.mono xa.ex) H2 ea _ fun y H3 Hb e3 eb xb db => hr Hb x y (xa.ex.trans xb.ex) (Dt.ex xb.ex da) db H3 eb Q fun v H4 Hc e4 ec xc dc =>
    q v H4 Hc ((e2.trans (.of e3)).trans (.of e4)) ((t2.ext e3).ext e4) ec ((xa.trans e2 xb.l).trans (e2.trans (.of e3)) xc.l) dc
theorem el_isi {n : String} {b : Bool} (ha : EvL K T ta σ H d) (h : kitB (tyD d) n = some b) : EvL K T (tCB (rIsi K) (tCons ta (tCons (tC (.ty n)) tNil))) σ H (.bool b) := fun H1 e1 nt tbs Q q =>
  ha H1 e1 nt tbs _ fun x H2 Ha e2 t2 ea xa da => rdc_isi (H := H) h Ha _ xa.ex x da rfl H2 ea Q fun v H4 Hc e4 ec xc dc => q v H4 Hc (e2.trans (.of e4)) (t2.ext e4) ec (xa.trans e2 xc.l) dc
theorem ebl_test {b : Bool} (h : EvL K T te σ H (.bool b)) : EvBL T (tTest te) σ H b := fun H1 e1 nt tbs Q q => h H1 e1 nt tbs _ fun v H2 H' e2 t2 e x dv => ⟨b, dv.bl_eq, q H2 e2 t2 (x.ex.trans e)⟩
theorem ebl_B {b : Bool} (h : EvL K T te σ H (.bool b)) : EvBL T (tB te) σ H b := fun H1 e1 nt tbs Q q => h H1 e1 nt tbs _ fun v H2 H' e2 t2 e x dv => ⟨b, dv.bl_eq, q H2 e2 t2 (x.ex.trans e)⟩
theorem ebl_and {a b : Bool} (h1 : EvBL T t σ H a) (h2 : a = true → EvBL T u σ H b) : EvBL T (tAnd t u) σ H (a && b) := fun H1 e1 nt tbs Q q => h1 H1 e1 nt tbs _ fun H2 e2 t2 ex => by
  cases a with
  | true => exact h2 rfl H2 ex nt t2 Q fun H3 e3 t3 ex3 => q H3 (e2.trans e3) t3 ex3
  | false => exact q H2 e2 t2 ex
theorem ebl_or {a b : Bool} (h1 : EvBL T t σ H a) (h2 : a = false → EvBL T u σ H b) : EvBL T (tOr t u) σ H (a || b) := fun H1 e1 nt tbs Q q => h1 H1 e1 nt tbs _ fun H2 e2 t2 ex => by
  cases a with
  | true => exact q H2 e2 t2 ex
  | false => exact h2 rfl H2 ex nt t2 Q fun H3 e3 t3 ex3 => q H3 (e2.trans e3) t3 ex3
theorem ebl_not {a : Bool} (h1 : EvBL T t σ H a) : EvBL T (tNot t) σ H (!a) := fun H1 e1 nt tbs Q q => h1 H1 e1 nt tbs _ fun H2 e2 t2 ex => q H2 e2 t2 ex
theorem ebl_is {a b : Bool} (h : EvBL T t σ H a) (e : a = b) : EvBL T t σ H b := e ▸ h
/-- if, at the law -/
theorem sl_if {b : Bool} {t1 t2 : TS} (n : Now E00 E00 H H1) (tb : Tabs T H1) (h : EvBL T t σ H b) (k1 : b = true → ∀ H2, ExtN H1 H2 → Now E00 E00 H H2 → Tabs T H2 → t1 D σ H2) (k2 : b = false → ∀ H2, ExtN H1 H2 → Now E00 E00 H H2 → Tabs T H2 → t2 D σ H2) : tIfS t t1 t2 D σ H1 :=
  h H1 n.ex n.nt tb _ fun H2 e2 tb2 ex => by
    cases b with
    | true => exact k1 rfl H2 e2 (now_l n.nt ex) tb2
    | false => exact k2 rfl H2 e2 (now_l n.nt ex) tb2
/-- x = e, at the law -/
theorem sl_asg {i : Nat} (n : Now E00 E00 H H1) (tb : Tabs T H1) (s : Sl K H σ ss) (h : EvL K T te σ H d) (k : ∀ σ' H' H2, ExtL H H1 H' → ExtN H1 H2 → Now E00 E00 H' H2 → Tabs T H2 → Sl K H' σ' (ss.set i (.dat d)) → D.nx σ' H2) : tAsg te (gName i) D σ H1 :=
  h H1 n.ex n.nt tb _ fun v H2 H' e2 t2 e x dv => k _ H' H2 x e2 (now_l (x.nt n.nt) e) t2 ((s.ex x.ex).set (s := .dat d) (o := some v) dv i)
/-- return e, at the law: Q asks of the value alone -/
theorem sl_ret {Q : VK} (n : Now E00 E00 H H1) (tb : Tabs T H1) (h : EvL K T te σ H d) (q : ∀ v H2 H', Dt K H' v d → Q v H2) (hQ : D.rt = Q := by rfl) : tRet te D σ H1 := by
  subst hQ
  exact h H1 n.ex n.nt tb _ fun v H2 H' _ _ _ _ dv => q v H2 H' dv
end
/-- a, b = x, y, by a tuple -/
theorem st_asgPair {K : PySem.W.Frag} {H0 H10 H H1 : Hp} {σ : L2.St} {ss : List SD} {D : Ends} {i j : Nat} {tA : TA} {d e : PyData} (n : Now H0 H10 H H1) (s : Sl K H σ ss) (h : EvDs K tA σ H [d, e]) (k : ∀ σ' H' H2, Ext H H1 H' → Ex H1 H2 → Now H0 H10 H' H2 → Sl K H' σ' ((ss.set i (.dat d)).set j (.dat e)) → D.nx σ' H2) : tAsg (tTup tA) (gTup K 2 (gCons (gName i) (gCons (gName j) gNil))) D σ H1 :=
  h H1 n.ex _ fun vs H2 H' e2 ex x dv => by
    cases dv with
    | cons a b =>
      cases b with
      | cons b c =>
        cases c
        refine ⟨by show 2 ≤ sizeLine; decide, fun p hp => eg_pair (st_of upd_same) _ ?_⟩
        exact k _ H' _ x (e2.trans (Ex.new hp)) ⟨ex.trans (Ex.new hp), n.ext.trans n.grow x, (n.grow.trans e2).trans (Ex.new hp)⟩ (((s.ex x.ex).set (s := .dat d) (o := some _) a i).set (s := .dat e) (o := some _) b j)
/-- the law's promise: the tables are there -/
def spL (K : PySem.W.Frag) (T : List (Addr × Str)) : Sp := fun vs H1 Q _ => ∃ (a : Addr) (ns : List Int), vs = [.ref a] ∧ ns.length ≤ 63 ∧ SqL K H1 a (ns.map V.int) ∧ Tabs T H1 ∧ ∀ H2, Q (.bl true) H2
/-- what the law knows of the script -/
theorem script_only {K : PySem.W.Frag} {H1 : Hp} {a : Addr} {xs : List V} (h : SqL K H1 a xs) : ∃ H : Hp, Ex H H1 ∧ NT H ∧ SqL K H a xs := by
  rcases h with h | h
  · have only : ∀ b o, (if b = a then H1 b else none) = some o → b = a ∧ H1 b = some o := fun b o z => by
      by_cases e : b = a
      · rw [if_pos e] at z
        exact ⟨e, z⟩
      · rw [if_neg e] at z
        cases z
    refine ⟨fun b => if b = a then H1 b else none, fun b o z => (only b o z).2, fun b ps z => ?_, .inl ?_⟩
    · obtain ⟨rfl, z2⟩ := only b _ z
      rcases h with q | ⟨o, q⟩
      · rw [z2] at q
        cases q
      · rw [z2] at q
        cases q
    · have e : (fun b => if b = a then H1 b else none) a = H1 a := if_pos rfl
      rcases h with q | ⟨o, q⟩
      · exact .inl (e.trans q)
      · exact .inr ⟨o, e.trans q⟩
  · exact ⟨E00, (fun b o z => nomatch z), (fun b ps z => nomatch z), .inr h⟩
/-- the law by its body, its code object known -/
theorem fn_law {P : Program} {w : World} {K : PySem.W.Frag} {mg : Str → Option Value} {base : Heap} {nm qual : Str} {st : Stmt} {f : Addr} {fd : FuncData} {N ps : List Str} {k : Nat} {p : He.Defn} {sp : Sp} (F : FunD K nm qual (defArgs st) (defBody st) (defScope st) [] [] f fd) (hf : f = He.fAd K p) (S : FnScope N ps (defScope st)) (len : ∀ vs H Q E, sp vs H Q E → vs.length = ps.length)
    (body : ∀ (cdv : Value), cdv = .ref (He.codeOf K p) → ∀ (A : Around) (outer : List Env) (s : Shared) (H : Hp) (vs : List V) (Q : VK) (E : XK), Room k (A.deeper (envOfC qual (defScope st) s.heap.objs.size f cdv)) → sp vs H Q E →
      ∃ t, PSs (cxOf (CXL P w) P w K mg base N qual (defScope st) f cdv A outer s H E).nox (defBody st) t ∧ t { nx := fun _ H' => Q .non H', rt := Q } (L2.start N vs) H) : FnOk P w K mg base (CXL P w) (k + 1) f fd ps sp := by
  obtain ⟨oc, od, dV, kV, doc, pm, an, cdv, ct, osl, rfl, lk, hcd, _, _⟩ := F.ex
  have hc : ∃ c, cdv = .ref c := by
    cases cdv with
    | ref c => exact ⟨c, rfl⟩
    | _ => cases hcd
  obtain ⟨c, rfl⟩ := hc
  subst hf
  have e : He.codeOf K p = c := He.codeOf_eq lk rfl
  subst e
  refine fn_of lk hcd S len fun A outer s H vs Q E hr hsp => ?_
  obtain ⟨t, h1, h2⟩ := body _ rfl A outer s H vs Q E hr hsp
  exact ⟨t, h1.nox, h2⟩
/-- what _law_told tells -/
def toldD : Ans → PyData
  | .ok d => d
  | .error x => .tuple [.str "refused", .str x]
end LR

/-! ### enumerate(text) (own work) -/
namespace LR
open PySem PySem.Spec PyProof.Rows L2 Evl
/-- a text's signs, each with its place, in new pairs -/
def ItEs (x : Str) : It := ⟨fun i _ => i < x.cps.size, fun i H v H' => ∃ T c, v = .ref T ∧ H T = none ∧ x.cps[i]? = some c ∧ H' = upd H T (.tup [.int (i : Nat), .str ⟨#[c]⟩]), fun i _ => i = x.cps.size⟩
theorem draws_str {P : Program} {w : World} {A : Around} (hh : A.handled = none) (it : Addr) (x : Str) (t : Tok) : Draws P w A it [it] x.cps.size (fun i v => ∃ c u, x.cps[i]? = some c ∧ v = .str ⟨#[c]⟩ u) (fun i h => h.IsStrIter it (strIterType x) x t i) := by
  unfold strIterType
  cases x.cps.all (· < 128) with
  | true => exact Draws.strAscii hh it x t
  | false => exact Draws.strWide hh it x t
theorem turn_enumS {P : Program} {w : World} {K : PySem.W.Frag} {elts : List Expr} {kk : Nat} {tpos : Pos} (x : Str) (t : Tok) (e it : Addr) :
    Turn P w K (.Tuple elts kk tpos) (ItEs x) [e, it] e (fun i h => (∃ old, IsEnum h e it ((i : Nat) : Int) old) ∧ h.IsStrIter it (strIterType x) x t i ∧ e ≠ it) where
  mem := List.mem_cons_self
  obj := by
    rintro i h ⟨⟨old, he⟩, ⟨o, ho, hc, hd⟩, _⟩ b hb
    simp only [List.mem_cons, List.not_mem_nil, or_false] at hb
    rcases hb with rfl | rfl
    · exact ⟨_, he, fun v q => nomatch q⟩
    · exact ⟨o, ho, fun v q => by rw [hd] at q; cases q⟩
  keep := by
    rintro i h h' ⟨⟨old, he⟩, ⟨o, ho, r⟩, hne⟩ k
    exact ⟨⟨old, k e (by simp) _ he⟩, ⟨o, k it (by simp) o ho, r⟩, hne⟩
  item := by
    rintro X rfl rfl rfl hc i pins s σ H E I hf ⟨⟨old, he⟩, hit, hne⟩ hg
    have D := draws_str (P := X.prog) (w := X.w) (A := X.A.in1) (by simpa using I.ok.hd hc) it x t
    have lt1 : e < s.heap.objs.size := Heap.lt_size he
    have lt2 : it < s.heap.objs.size := by
      obtain ⟨_, z, _⟩ := hit
      exact Heap.lt_size z
    refine wpAny_pyNext_enum_itemD D he hit hg hne (by simpa using hne) fun v h' tk hv ho hit' hT hsz hk => ?_
    obtain ⟨c, u, hcx, rfl⟩ := hv
    refine ⟨_, rfl, wpAny_letOwnedTupleGo_enum (s := { s with heap := h', toks := tk + 1 }) ho fun h2 he2 sb => ?_⟩
    have at2 : h2.get? s.heap.objs.size = some { cls := .type "tuple", data := .seq #[.int i tk, .str ⟨#[c]⟩ u] } := (sb.2 _ (Nat.ne_of_gt lt1)).trans hT
    have new : ObjOk X.prog X.w (upd H s.heap.objs.size (.tup [.int (i : Nat), .str ⟨#[c]⟩])) h2 s.heap.objs.size (.tup [.int (i : Nat), .str ⟨#[c]⟩]) :=
      ⟨by show 2 ≤ sizeLine; decide, [.int i tk, .str ⟨#[c]⟩ u], .cons ⟨_, rfl⟩ (.cons ⟨_, rfl⟩ .nil), ⟨_, at2, rfl, _, rfl⟩⟩
    have I1 : Inv X pins σ (upd H s.heap.objs.size (.tup [.int (i : Nat), .str ⟨#[c]⟩])) { s with heap := h2, toks := tk + 1 } :=
      I.turnedNew (ch := [e, it]) (fun b ob hb z => by
        have n1 : b ≠ e := fun y => hb (y ▸ List.mem_cons_self)
        have n2 : b ≠ it := fun y => hb (y ▸ List.mem_cons_of_mem _ List.mem_cons_self)
        exact (sb.2 b n1).trans (hk b ob n1 n2 z)) hf (Nat.le_refl _) new
    refine ⟨.ref s.heap.objs.size, _, I1, rfl, ⟨_, c, rfl, I.hok.fresh (Nat.le_refl _), hcx, rfl⟩, ⟨⟨.str ⟨#[c]⟩ u, ?_⟩, ?_, hne⟩, fun b hb => ?_⟩
    · rw [show ((i + 1 : Nat) : Int) = (i : Int) + 1 by omega]
      exact he2
    · obtain ⟨o, z, r⟩ := hit'
      exact ⟨o, (sb.2 it (Ne.symm hne)).trans z, r⟩
    · have lt : b < s.heap.objs.size := by
        simp only [List.mem_cons, List.not_mem_nil, or_false] at hb
        rcases hb with rfl | rfl
        · exact lt1
        · exact lt2
      rw [upd_ne (Nat.ne_of_lt lt)]
      exact (hf b hb).1
  done := by
    rintro X rfl rfl rfl hc i pins s σ H E I hf ⟨⟨old, he⟩, hit, hne⟩ hg
    have D := draws_str (P := X.prog) (w := X.w) (A := X.A.in1) (by simpa using I.ok.hd hc) it x t
    have hi : i = x.cps.size := hg
    subst hi
    obtain ⟨f0, f1, _, f3, f4, f5⟩ := hf it (by simp)
    exact wpAny_pyNext_enum_endD D he hit fun h' eb => ⟨rfl, I.turned (t' := s.toks) (fun b o hb z => eb b o hb z) f0 f1 f3 f4 f5⟩
  self := fun A i s Q E st h => by
    obtain ⟨⟨_, he⟩, _⟩ := st
    exact wpAny_pyIter_enum he h
def iEnumS (ta : TA) : TI := fun σ H R => ta σ H fun vs H1 => ∃ x, vs = [.str x] ∧ R (ItEs x) H1
theorem pi_enumS {X : Cx} {e : Expr} {ta : TA} {p pos tpos : Pos} {elts : List Expr} {kk : Nat} (hg : Gl X "enumerate") (hm : X.mg "enumerate" = none) (ha : PA X [e] ta) (hs : starEach [e] X.env = [(false, eval e X.env)] := by rfl) :
    PI X (.Tuple elts kk tpos) (.Call (.Name "enumerate" p) [e] [] pos) (iEnumS ta) := by
  refine ⟨fun pins s σ H R I h => Call_ (ld_blt I hg hm boot_enumerate (PyProof.Rows.callWith_type1 (thn (ha.run pos pins s σ H _ I h) ?_) hs rfl))⟩
  rintro us s1 ⟨vs, H1, I1, r1, x, rfl, q⟩
  match us, r1 with
  | _, .cons r .nil =>
    obtain ⟨t, rfl⟩ := r
    refine call_enumerate_str fun h' he hit hsz hk => wpAny_pyIter_enum he ⟨s1.heap.objs.size + 1, [s1.heap.objs.size + 1, s1.heap.objs.size], _, _, H1, rfl, I1.kept (t' := s1.toks) hk, turn_enumS x t (s1.heap.objs.size + 1) s1.heap.objs.size, ⟨⟨.none, he⟩, hit, Nat.succ_ne_self _⟩, fun b hb => ?_, q⟩
    have le : s1.heap.objs.size ≤ b := by
      simp only [List.mem_cons, List.not_mem_nil, or_false] at hb
      rcases hb with z | z
      · rw [z]; exact Nat.le_succ _
      · rw [z]; exact Nat.le_refl _
    exact I1.fpOk le (I1.hok.fresh le)
/-- for place, sign in enumerate(text) -/
def YE (z : Str) : Hp → Nat → Hp → V → Hp → Prop := fun _ i H v H' => ∃ T c, v = .ref T ∧ H T = none ∧ z.cps[i]? = some c ∧ H' = upd H T (.tup [.int (i : Nat), .str ⟨#[c]⟩])
theorem ei_enumS {K : PySem.W.Frag} {σ : L2.St} {H : Hp} {te : TE} {z : Str} (h : EvD K te σ H (.str z)) : EvI (iEnumS (tCons te tNil)) σ H z.cps.size (YE z) := fun H1 e1 R r =>
  h H1 e1 _ fun v H2 H' e2 e x dv => ⟨z, by rw [dv.str_eq], r _ (fun _ => True) H2 H' e2 e x (fun _ _ => trivial) ⟨fun _ _ hi _ => hi, fun _ _ => rfl, fun _ _ _ _ _ _ y => y⟩⟩
end LR

/-! ### comprehensions over pairs (own work) -/
namespace LR
open PySem PySem.Spec PyProof.Rows L2 Evl
/-- [e for a, b in data if ..], the items pairs -/
theorem wipe2 {σ : L2.St} {i j : Nat} {x y : V} : L2.wipe (((L2.wipe σ [i, j]).set i (some x)).set j (some y)) [i, j] = L2.wipe σ [i, j] := by
  have e : ∀ τ : L2.St, L2.wipe τ [i, j] = (τ.set j none).set i none := fun τ => rfl
  rw [e, e]
  generalize hτ : σ.set j none = τ
  apply List.ext_getElem?
  intro k
  subst hτ
  simp only [List.length_set, List.getElem?_set]
  by_cases h1 : i = k
  · simp [h1]
  · by_cases h2 : j = k
    · simp [h1, h2]
    · simp [h1, h2]
theorem en_lcP {K : PySem.W.Frag} {σ : L2.St} {H : Hp} {ti te : TE} {tt : TT} {ds : List PyData} {i j : Nat} {vs : List Nat} {ss : List SD} (f : PyData → Option PyData) (s : Sl K H σ ss) (hw : EvI (iU K ti) σ H ds.length (YD K ds)) (h2 : ds.length ≤ 50000) (hv : vs = [i, j])
    (he : ∀ d ∈ ds, ∃ x y, d = .tuple [x, y] ∧ ∀ (σ2 : L2.St) (Hc : Hp), Ex H Hc → Sl K Hc σ2 (((wipeS ss vs).set i (.dat x)).set j (.dat y)) → ∃ b, EvB tt σ2 Hc b ∧ (b = false → f d = none) ∧ (b = true → ∃ z, f d = some z ∧ EvD K te σ2 Hc z)) :
    EvN K (tLc (iU K ti) (gTup K 2 (gCons (gName i) (gCons (gName j) gNil))) tt te vs) σ H (ds.filterMap f) := by
  subst hv
  refine en_lc (fun k => (ds[k]?).bind f) hw (fun k hk Hi Hb H2 x H3 e0 e1 e2 y => ?_) h2 (filterMap_range ds f).symm
  obtain ⟨rfl, d, hd, dx⟩ := y
  obtain ⟨p, q, rfl, hb⟩ := he d (List.mem_of_getElem? hd)
  obtain ⟨a, xs, rfl, ha, ra⟩ := dx.tup_eq
  obtain ⟨v1, v2, rfl, r1, r2⟩ : ∃ v1 v2, xs = [v1, v2] ∧ Dt K Hi v1 p ∧ Dt K Hi v2 q := by
    cases ra with
    | cons r1 rr =>
      cases rr with
      | cons r2 rr =>
        cases rr
        exact ⟨_, _, rfl, r1, r2⟩
  have sl : Sl K Hb (((L2.wipe σ [i, j]).set i (some v1)).set j (some v2)) (((wipeS ss [i, j]).set i (.dat p)).set j (.dat q)) := Sl.set (s := .dat q) (o := some v2) (Dt.ex e1 r2) j (Sl.set (s := .dat p) (o := some v1) (Dt.ex e1 r1) i (Sl.wipe [i, j] (s.ex (e0.trans e1))))
  obtain ⟨b, b1, b2, b3⟩ := hb _ Hb (e0.trans e1) sl
  refine ⟨Hb, ((L2.wipe σ [i, j]).set i (some v1)).set j (some v2), Ext.refl _ _, e2, Ex.refl _, eg_pair (ex_t (e1.trans e2) ha), wipe2 (σ := σ) (x := v1) (y := v2), b, b1, fun h => ?_, fun h => ?_⟩
  · show (ds[k]?).bind f = none
    rw [hd]
    exact b2 h
  · obtain ⟨z, z1, z2⟩ := b3 h
    refine ⟨z, ?_, z2⟩
    show (ds[k]?).bind f = some z
    rw [hd]
    exact z1
theorem ed_lcP {K : PySem.W.Frag} {σ : L2.St} {H : Hp} {ti te : TE} {tt : TT} {ds : List PyData} {i j : Nat} {vs : List Nat} {ss : List SD} (f : PyData → Option PyData) (s : Sl K H σ ss) (hw : EvI (iU K ti) σ H ds.length (YD K ds)) (h2 : ds.length ≤ 50000) (hv : vs = [i, j])
    (he : ∀ d ∈ ds, ∃ x y, d = .tuple [x, y] ∧ ∀ (σ2 : L2.St) (Hc : Hp), Ex H Hc → Sl K Hc σ2 (((wipeS ss vs).set i (.dat x)).set j (.dat y)) → ∃ b, EvB tt σ2 Hc b ∧ (b = false → f d = none) ∧ (b = true → ∃ z, f d = some z ∧ EvD K te σ2 Hc z)) :
    EvD K (tLc (iU K ti) (gTup K 2 (gCons (gName i) (gCons (gName j) gNil))) tt te vs) σ H (.list (ds.filterMap f)) := (en_lcP f s hw h2 hv he).ed
end LR

/-! ### zip of a list and a tuple; comprehensions over zips; dicts of the top (own work) -/
namespace LR
open PySem PySem.Spec PyProof.Rows L2 Evl
/-- the list at a and the tuple at b as they stand at each turn, the items in new pairs -/
def ItzM (K : PySem.W.Frag) (a b : Addr) : It :=
  ⟨fun i H => ∃ (xs ys : List V) (x y : V), SqL K H a xs ∧ SqT K H b ys ∧ xs[i]? = some x ∧ ys[i]? = some y,
    fun i H v H' => ∃ T x y, v = .ref T ∧ H T = none ∧ H' = upd H T (.tup [x, y]) ∧ (∀ xs, SqL K H a xs → xs[i]? = some x) ∧ ∀ ys, SqT K H b ys → ys[i]? = some y,
    fun i H => ∃ xs ys : List V, SqL K H a xs ∧ SqT K H b ys ∧ i ≤ xs.length ∧ i ≤ ys.length ∧ (i = xs.length ∨ i = ys.length)⟩
structure MApart (z TI TO i1 i2 a b : Addr) : Prop where
  TIz : TI ≠ z
  TOz : TO ≠ z
  TITO : TI ≠ TO
  TIi1 : TI ≠ i1
  TIi2 : TI ≠ i2
  TOi1 : TO ≠ i1
  TOi2 : TO ≠ i2
  i1z : i1 ≠ z
  i2z : i2 ≠ z
  i12 : i1 ≠ i2
  az : a ≠ z
  bz : b ≠ z
  aTO : a ≠ TO
  bTO : b ≠ TO
  ai1 : a ≠ i1
  ai2 : a ≠ i2
  bi1 : b ≠ i1
  bi2 : b ≠ i2
theorem MApart.sep {z TI TO i1 i2 a b : Addr} (D : MApart z TI TO i1 i2 a b) : ZipSep2 z TI TO i1 i2 [i1, a] [i2, b] where
  TIz := D.TIz
  TOz := D.TOz
  TITO := D.TITO
  TIi1 := D.TIi1
  mem1 := List.mem_cons_self
  zf1 := by simp [D.i1z.symm, D.az.symm]
  Tf1 := by simp [D.TOi1, D.aTO.symm]
  TIi2 := D.TIi2
  mem2 := List.mem_cons_self
  zf2 := by simp [D.i2z.symm, D.bz.symm]
  Tf2 := by simp [D.TOi2, D.bTO.symm]
  sep1_2 := by simp [D.i12, D.bi1.symm]
  sep2_1 := by simp [D.i12.symm, D.ai2.symm]
theorem turn_zipM {P : Program} {w : World} {K : PySem.W.Frag} {elts : List Expr} {kk : Nat} {tpos : Pos} {a b z TI TO i1 i2 : Addr} (D : MApart z TI TO i1 i2 a b) :
    Turn P w K (.Tuple elts kk tpos) (ItzM K a b) [z, TI, TO, i1, i2] z (fun i h => IsZip h z TI TO .none ∧ IsTupOf2 h TI (.ref i1) (.ref i2) ∧ (∃ x y, IsTupOf2 h TO x y) ∧ h.IsListIter i1 a i ∧ h.IsTupleIter i2 b i) where
  mem := by simp
  obj := fun i h st c hc => by
    obtain ⟨hz, hTI, ⟨x, y, hTO⟩, ⟨o1, e1, _, d1⟩, ⟨o2, e2, _, d2⟩⟩ := st
    have e' : c = z ∨ c = TI ∨ c = TO ∨ c = i1 ∨ c = i2 := by simpa using hc
    rcases e' with q | q | q | q | q
    · rw [q]; exact ⟨_, hz, fun v q => nomatch q⟩
    · rw [q]; exact ⟨_, hTI, fun v q => nomatch q⟩
    · rw [q]; exact ⟨_, hTO, fun v q => nomatch q⟩
    · rw [q]; exact ⟨o1, e1, fun v q => by rw [d1] at q; cases q⟩
    · rw [q]; exact ⟨o2, e2, fun v q => by rw [d2] at q; cases q⟩
  keep := fun i h h' st k => by
    obtain ⟨hz, hTI, ⟨x, y, hTO⟩, h1, h2⟩ := st
    exact ⟨k z (by simp) _ hz, k TI (by simp) _ hTI, ⟨x, y, k TO (by simp) _ hTO⟩, h1.at fun o q => k i1 (by simp) o q, h2.at fun o q => k i2 (by simp) o q⟩
  item := by
    intro X hP hw hK hc i pins s σ H E I hf st hg
    subst hP hw hK
    obtain ⟨hz, hTI, ⟨x0, y0, hTO⟩, h1, h2⟩ := st
    obtain ⟨xs, ys, x, y, hqx, hqy, hx, hy⟩ := hg
    obtain ⟨its, rv, p, _⟩ := I.list hqx
    obtain ⟨its2, rv2, p2, _⟩ := I.tuple hqy
    obtain ⟨u, hu, ru⟩ := rv.get hx
    obtain ⟨u2, hu2, ru2⟩ := rv2.get hy
    have hzl : z < s.heap.objs.size := Heap.lt_size hz
    have hh : X.A.in1.in1.handled = none := by simpa using I.ok.hd hc
    have D1 := Draws.list (prog := X.prog) (w := X.w) (A := X.A.in1) (by simpa using I.ok.hd hc) i1 a D.ai1 its.toArray
    have D2 := Draws.tuple (prog := X.prog) (w := X.w) (A := X.A.in1) (by simpa using I.ok.hd hc) i2 b D.bi2 its2.toArray
    have lt1 : i < its.toArray.size := by simpa using (List.getElem?_eq_some_iff.mp hu).1
    have lt2 : i < its2.toArray.size := by simpa using (List.getElem?_eq_some_iff.mp hu2).1
    refine wpAny_pyNext_zipD2_item D.sep D1 D2 hz hTI hTO ⟨h1, p.isList⟩ ⟨h2, p2⟩ lt1 lt2 fun v1 v2 h' tk y1 y2 z' TO' st1 st2 hT hsz hk => ?_
    have e1 : v1 = u := by
      have : its[i]? = some v1 := by simpa using y1
      rw [hu] at this
      exact (Option.some.inj this).symm
    have e2 : v2 = u2 := by
      have : its2[i]? = some v2 := by simpa using y2
      rw [hu2] at this
      exact (Option.some.inj this).symm
    subst e1 e2
    refine ⟨_, rfl, wpAny_letOwnedTupleGo_zip (s := { s with heap := h', toks := tk }) z' fun h'' z'' sb => ?_⟩
    have hT2 : h''.get? s.heap.objs.size = some { cls := .type "tuple", data := .seq #[v1, v2] } := (sb.2 _ (Nat.ne_of_gt hzl)).trans hT
    have new : ObjOk X.prog X.w (upd H s.heap.objs.size (.tup [x, y])) h'' s.heap.objs.size (.tup [x, y]) :=
      ⟨by show 2 ≤ sizeLine; decide, [v1, v2], .cons ru (.cons ru2 .nil), ⟨_, hT2, rfl, _, rfl⟩⟩
    have I1 : Inv X pins σ (upd H s.heap.objs.size (.tup [x, y])) { s with heap := h'', toks := tk } :=
      I.turnedNew (t' := tk) (ch := [z, TI, TO, i1, i2]) (fun c o hb q => (sb.2 c (fun q' => hb (by simp [q']))).trans (hk c o (fun q' => hb (by simp [q'])) (fun q' => hb (by simp [q'])) (fun q' => hb (by simp [q'])) (fun q' => hb (by simp [q'])) q)) hf (Nat.le_refl _) new
    refine ⟨.ref s.heap.objs.size, _, I1, rfl, ⟨_, x, y, rfl, I.hok.fresh (Nat.le_refl _), rfl, fun l hl => by rw [I.list_inj hl hqx]; exact hx, fun l hl => by rw [I.tuple_inj hl hqy]; exact hy⟩, ⟨z'', ?_, ⟨v1, v2, ?_⟩, ?_, ?_⟩, fun c hcm => ?_⟩
    · exact (sb.2 _ D.TIz).trans (hk _ _ D.TIz D.TITO D.TIi1 D.TIi2 hTI)
    · exact (sb.2 _ D.TOz).trans TO'
    · exact st1.1.at fun o q => (sb.2 _ D.i1z).trans q
    · exact st2.1.at fun o q => (sb.2 _ D.i2z).trans q
    · have hlt : c < s.heap.objs.size := by
        have e' : c = z ∨ c = TI ∨ c = TO ∨ c = i1 ∨ c = i2 := by simpa using hcm
        rcases e' with q | q | q | q | q
        · rw [q]; exact hzl
        · rw [q]; exact Heap.lt_size hTI
        · rw [q]; exact Heap.lt_size hTO
        · rw [q]; obtain ⟨_, e1, _⟩ := h1; exact Heap.lt_size e1
        · rw [q]; obtain ⟨_, e2, _⟩ := h2; exact Heap.lt_size e2
      rw [upd_ne (Nat.ne_of_lt hlt)]
      exact (hf c hcm).1
  done := by
    intro X hP hw hK hc i pins s σ H E I hf st hg
    subst hP hw hK
    obtain ⟨hz, hTI, ⟨x0, y0, hTO⟩, h1, h2⟩ := st
    obtain ⟨xs, ys, hqx, hqy, le1, le2, hend⟩ := hg
    obtain ⟨its, rv, p, _⟩ := I.list hqx
    obtain ⟨its2, rv2, p2, _⟩ := I.tuple hqy
    have l1 := rv.length
    have l2 := rv2.length
    have D1 := Draws.list (prog := X.prog) (w := X.w) (A := X.A.in1) (by simpa using I.ok.hd hc) i1 a D.ai1 its.toArray
    have D2 := Draws.tuple (prog := X.prog) (w := X.w) (A := X.A.in1) (by simpa using I.ok.hd hc) i2 b D.bi2 its2.toArray
    have s1 : its.toArray.size = its.length := by simp
    have s2 : its2.toArray.size = its2.length := by simp
    refine wpAny_pyNext_zipD2_end D.sep D1 D2 hz hTI hTO ⟨h1, p.isList⟩ ⟨h2, p2⟩ (by omega) (by omega) (by omega) fun h' tk hk => ⟨rfl, I.turnedL (t' := tk) (ch := [z, TI, TO, i1, i2]) (fun c o hb q =>
      hk c o (fun q' => hb (by simp [q'])) (fun q' => hb (by simp [q'])) (fun q' => hb (by simp [q'])) (fun q' => hb (by simp [q'])) q) hf⟩
  self := fun A i s Q E st h => wpAny_pyIter_zip st.1 h
theorem mapart {n a b : Nat} (ha : a < n) (hb : b < n) : MApart (n + 4) (n + 2) (n + 3) n (n + 1) a b := by
  constructor <;> (show @Ne Nat _ _; omega)
/-- zip of two lists, two tuples, a list and a tuple -/
def iZipU (K : PySem.W.Frag) (ta : TA) : TI := fun σ H R => ta σ H fun vs H1 => ∃ a b xs ys, vs = [.ref a, .ref b] ∧ ((SqL K H1 a xs ∧ SqL K H1 b ys ∧ R (Itz K a b) H1) ∨ ((SqT K H1 a xs ∧ SqT K H1 b ys ∧ R (RZ.ItzT K a b) H1) ∨ (SqL K H1 a xs ∧ SqT K H1 b ys ∧ R (ItzM K a b) H1)))
theorem pi_zipU {X : Cx} {e e2 : Expr} {ta : TA} {p pos tpos : Pos} {elts : List Expr} {kk : Nat} (hg : Gl X "zip") (hm : X.mg "zip" = none) (ha : PA X [e, e2] ta)
    (hs : starEach [e, e2] X.env = (false, eval e X.env) :: starEach [e2] X.env := by rfl) (hpl : (backTo pos (starEach [e2] X.env)).any (·.1) = false := by rfl) :
    PI X (.Tuple elts kk tpos) (.Call (.Name "zip" p) [e, e2] [] pos) (iZipU X.K ta) := by
  refine ⟨fun pins s σ H R I h => ?_⟩
  refine Call_ (ld_blt I hg hm PyProof.Rows.boot_zip (PyProof.Rows.callWith_type1 (thn (ha.run pos pins s σ H _ I h) fun us s1 ⟨vs, H1, I1, r1, q1⟩ => ?_) hs hpl))
  obtain ⟨a, b, xs, ys, ex, q1⟩ := q1
  subst ex
  cases r1 with
  | cons r rr =>
    cases rr with
    | cons r' rr =>
      cases rr
      cases r
      cases r'
      have fresh5 : ∀ c, c ∈ [s1.heap.objs.size + 4, s1.heap.objs.size + 2, s1.heap.objs.size + 3, s1.heap.objs.size, s1.heap.objs.size + 1] → FpOk X pins H1 c := fun c hcm => by
        have e' : c = s1.heap.objs.size + 4 ∨ c = s1.heap.objs.size + 2 ∨ c = s1.heap.objs.size + 3 ∨ c = s1.heap.objs.size ∨ c = s1.heap.objs.size + 1 := by simpa using hcm
        have hle : s1.heap.objs.size ≤ c := by omega
        exact I1.fpOk hle (I1.hok.fresh hle)
      rcases q1 with ⟨hqx, hqy, q⟩ | ⟨hqx, hqy, q⟩ | ⟨hqx, hqy, q⟩
      · obtain ⟨its, rv, p1, _⟩ := I1.list hqx
        obtain ⟨its2, rv2, p2, _⟩ := I1.list hqy
        refine call_zip_2 p1.isList p2.isList fun h' hz hTI hTO h1 h2 hsz hk => wpAny_pyIter_zip hz ?_
        have I2 : Inv X pins σ H1 { s1 with heap := h' } := I1.kept (t' := s1.toks) hk
        exact ⟨s1.heap.objs.size + 4, [s1.heap.objs.size + 4, s1.heap.objs.size + 2, s1.heap.objs.size + 3, s1.heap.objs.size, s1.heap.objs.size + 1], _, _, H1, rfl, I2, turn_zip (PySem.W.ktu_apart s1.heap.objs.size a b p1.lt p2.lt), ⟨hz, hTI, ⟨_, _, hTO⟩, h1, h2⟩, fresh5, q⟩
      · obtain ⟨its, rv, p1, _⟩ := I1.tuple hqx
        obtain ⟨its2, rv2, p2, _⟩ := I1.tuple hqy
        obtain ⟨o1, ho1, _⟩ := id p1
        obtain ⟨o2, ho2, _⟩ := id p2
        refine RZ.call_zipT (show s1.heap.IsTuple a its.toArray from p1) (show s1.heap.IsTuple b its2.toArray from p2) fun h' hz hTI hTO h1 h2 hsz hk => wpAny_pyIter_zip hz ?_
        have I2 : Inv X pins σ H1 { s1 with heap := h' } := I1.kept (t' := s1.toks) hk
        exact ⟨s1.heap.objs.size + 4, [s1.heap.objs.size + 4, s1.heap.objs.size + 2, s1.heap.objs.size + 3, s1.heap.objs.size, s1.heap.objs.size + 1], _, _, H1, rfl, I2, RZ.turn_zipT (PySem.W.ktu_apart s1.heap.objs.size a b (Heap.lt_size ho1) (Heap.lt_size ho2)), ⟨hz, hTI, ⟨_, _, hTO⟩, h1, h2⟩, fresh5, q⟩
      · obtain ⟨its, rv, p1, _⟩ := I1.list hqx
        obtain ⟨its2, rv2, p2, _⟩ := I1.tuple hqy
        obtain ⟨o2, ho2, _⟩ := id p2
        refine zip_begins2 (begins_list a its.toArray) (begins_tuple b its2.toArray) p1.isList (show s1.heap.IsTuple b its2.toArray from p2) fun h' hz hTI hTO h1 h2 hsz hk => wpAny_pyIter_zip hz ?_
        have I2 : Inv X pins σ H1 { s1 with heap := h' } := I1.kept (t' := s1.toks) hk
        exact ⟨s1.heap.objs.size + 4, [s1.heap.objs.size + 4, s1.heap.objs.size + 2, s1.heap.objs.size + 3, s1.heap.objs.size, s1.heap.objs.size + 1], _, _, H1, rfl, I2, turn_zipM (mapart p1.lt (Heap.lt_size ho2)), ⟨hz, hTI, ⟨_, _, hTO⟩, ⟨_, h1, rfl, rfl⟩, ⟨_, h2, rfl, rfl⟩⟩, fresh5, q⟩
theorem pi_zipUK {X : Cx} {K : PySem.W.Frag} {e e2 : Expr} {ta : TA} {p pos tpos : Pos} {elts : List Expr} {kk : Nat} (hK : X.K = K) (hg : Gl X "zip") (hm : X.mg "zip" = none) (ha : PA X [e, e2] ta)
    (hs : starEach [e, e2] X.env = (false, eval e X.env) :: starEach [e2] X.env := by rfl) (hpl : (backTo pos (starEach [e2] X.env)).any (·.1) = false := by rfl) :
    PI X (.Tuple elts kk tpos) (.Call (.Name "zip" p) [e, e2] [] pos) (iZipU K ta) := hK ▸ pi_zipU hg hm ha hs hpl
section
variable {K : PySem.W.Frag} {a b : Addr} {xs ys : List V}
theorem walk_zipM {n : Nat} (hn : n = min xs.length ys.length) : Walk (ItzM K a b) n (fun H => SqL K H a xs ∧ SqT K H b ys) (YPair (fun i => xs[i]?) (fun i => ys[i]?)) := by
  refine ⟨fun i H hi h => ?_, fun H h => ?_, fun i H v H' hi h y => ?_⟩
  · have l1 : i < xs.length := by omega
    have l2 : i < ys.length := by omega
    exact ⟨xs, ys, _, _, h.1, h.2, List.getElem?_eq_getElem l1, List.getElem?_eq_getElem l2⟩
  · exact ⟨xs, ys, h.1, h.2, by omega, by omega, by omega⟩
  · obtain ⟨T, x, y, e1, e2, e3, e4, e5⟩ := y
    exact ⟨T, x, y, e1, e2, e3, e4 xs h.1, e5 ys h.2⟩
theorem walk_zipTT {n : Nat} (hn : n = min xs.length ys.length) : Walk (RZ.ItzT K a b) n (fun H => SqT K H a xs ∧ SqT K H b ys) (YPair (fun i => xs[i]?) (fun i => ys[i]?)) := by
  refine ⟨fun i H hi h => ?_, fun H h => ?_, fun i H v H' hi h y => ?_⟩
  · have l1 : i < xs.length := by omega
    have l2 : i < ys.length := by omega
    exact ⟨xs, ys, _, _, h.1, h.2, List.getElem?_eq_getElem l1, List.getElem?_eq_getElem l2⟩
  · exact ⟨xs, ys, h.1, h.2, by omega⟩
  · obtain ⟨T, x, y, e1, e2, e3, e4, e5⟩ := y
    exact ⟨T, x, y, e1, e2, e3, e4 xs h.1, e5 ys h.2⟩
end
section
variable {K : PySem.W.Frag} {σ : L2.St} {H : Hp} {tA : TA} {ds es : List PyData}
theorem two_dt {vs : List V} {d e : PyData} (h : DtAll K H vs [d, e]) : ∃ x y, vs = [x, y] ∧ Dt K H x d ∧ Dt K H y e := by
  cases h with
  | cons d1 d2 =>
    cases d2 with
    | cons d2 d3 =>
      cases d3
      exact ⟨_, _, rfl, d1, d2⟩
theorem ei_zipLL (h : EvDs K tA σ H [.list ds, .list es]) : EvI (iZipU K tA) σ H (min ds.length es.length) (YZ K ds es) := fun H1 e1 R r =>
  h H1 e1 _ fun vs H2 H' e2 e x dv => by
    obtain ⟨v1, v2, rfl, d1, d2⟩ := two_dt dv
    obtain ⟨a, xs, rfl, ha, ra⟩ := d1.lst_eq
    obtain ⟨b, ys, rfl, hb, rb⟩ := d2.lst_eq
    refine ⟨a, b, xs, ys, rfl, .inl ⟨sq_of (e a _ ha), sq_of (e b _ hb), r _ (fun H3 => Ex H' H3) H2 H' e2 e x (fun H3 e3 => e3) ?_⟩⟩
    refine (walk_zip (K := K) (a := a) (b := b) (xs := xs) (ys := ys) (by rw [ra.length, rb.length])).mono (fun H3 e3 => ⟨sq_of (e3 a _ ha), sq_of (e3 b _ hb)⟩) fun i H3 v H4 hi e3 z => ?_
    obtain ⟨T, x, y, h1, h2, h3, h4, h5⟩ := z
    obtain ⟨d, q1, q2⟩ := ra.get' h4
    obtain ⟨d', q3, q4⟩ := rb.get' h5
    exact ⟨T, x, y, d, d', h1, h2, h3, q1, q3, q2, q4⟩
theorem ei_zipTT (h : EvDs K tA σ H [.tuple ds, .tuple es]) : EvI (iZipU K tA) σ H (min ds.length es.length) (YZ K ds es) := fun H1 e1 R r =>
  h H1 e1 _ fun vs H2 H' e2 e x dv => by
    obtain ⟨v1, v2, rfl, d1, d2⟩ := two_dt dv
    obtain ⟨a, xs, rfl, ha, ra⟩ := d1.tup_eq
    obtain ⟨b, ys, rfl, hb, rb⟩ := d2.tup_eq
    refine ⟨a, b, xs, ys, rfl, .inr (.inl ⟨ex_t e ha, ex_t e hb, r _ (fun H3 => Ex H' H3) H2 H' e2 e x (fun H3 e3 => e3) ?_⟩)⟩
    refine (walk_zipTT (K := K) (a := a) (b := b) (xs := xs) (ys := ys) (by rw [ra.length, rb.length])).mono (fun H3 e3 => ⟨ex_t e3 ha, ex_t e3 hb⟩) fun i H3 v H4 hi e3 z => ?_
    obtain ⟨T, x, y, h1, h2, h3, h4, h5⟩ := z
    obtain ⟨d, q1, q2⟩ := ra.get' h4
    obtain ⟨d', q3, q4⟩ := rb.get' h5
    exact ⟨T, x, y, d, d', h1, h2, h3, q1, q3, q2, q4⟩
theorem ei_zipLT (h : EvDs K tA σ H [.list ds, .tuple es]) : EvI (iZipU K tA) σ H (min ds.length es.length) (YZ K ds es) := fun H1 e1 R r =>
  h H1 e1 _ fun vs H2 H' e2 e x dv => by
    obtain ⟨v1, v2, rfl, d1, d2⟩ := two_dt dv
    obtain ⟨a, xs, rfl, ha, ra⟩ := d1.lst_eq
    obtain ⟨b, ys, rfl, hb, rb⟩ := d2.tup_eq
    refine ⟨a, b, xs, ys, rfl, .inr (.inr ⟨sq_of (e a _ ha), ex_t e hb, r _ (fun H3 => Ex H' H3) H2 H' e2 e x (fun H3 e3 => e3) ?_⟩)⟩
    refine (walk_zipM (K := K) (a := a) (b := b) (xs := xs) (ys := ys) (by rw [ra.length, rb.length])).mono (fun H3 e3 => ⟨sq_of (e3 a _ ha), ex_t e3 hb⟩) fun i H3 v H4 hi e3 z => ?_
    obtain ⟨T, x, y, h1, h2, h3, h4, h5⟩ := z
    obtain ⟨d, q1, q2⟩ := ra.get' h4
    obtain ⟨d', q3, q4⟩ := rb.get' h5
    exact ⟨T, x, y, d, d', h1, h2, h3, q1, q3, q2, q4⟩
/-- [e for a, b in zip(..)] -/
theorem ed_lcZ {wi : TI} {te : TE} {i j : Nat} {vs : List Nat} {ss : List SD} (f : PyData → PyData → PyData) (s : Sl K H σ ss) (hw : EvI wi σ H (min ds.length es.length) (YZ K ds es)) (h2 : min ds.length es.length ≤ 50000) (hv : vs = [i, j])
    (he : ∀ (k : Nat) (x y : PyData), ds[k]? = some x → es[k]? = some y → ∀ (σ2 : L2.St) (Hc : Hp), Ex H Hc → Sl K Hc σ2 (((wipeS ss vs).set i (.dat x)).set j (.dat y)) → EvD K te σ2 Hc (f x y)) :
    EvD K (tLc wi (gTup K 2 (gCons (gName i) (gCons (gName j) gNil))) tYes te vs) σ H (.list (List.zipWith f ds es)) := by
  subst hv
  have e0 : (ds.zip es).length = min ds.length es.length := List.length_zip
  refine ed_lc (fun k => ((ds.zip es)[k]?).bind fun p => some (f p.1 p.2)) hw (fun k hk Hi Hb H2 x H3 e0 e1 e2 y => ?_) h2 ?_
  · obtain ⟨Tt, v1, v2, d, e, rfl, hT, rfl, hd, hes, r1, r2⟩ := y
    have hz : (ds.zip es)[k]? = some (d, e) := by
      rw [List.getElem?_zip_eq_some]
      exact ⟨hd, hes⟩
    have sl : Sl K Hb (((L2.wipe σ [i, j]).set i (some v1)).set j (some v2)) (((wipeS ss [i, j]).set i (.dat d)).set j (.dat e)) := Sl.set (s := .dat e) (o := some v2) (Dt.ex e1 r2) j (Sl.set (s := .dat d) (o := some v1) (Dt.ex e1 r1) i (Sl.wipe [i, j] (s.ex (e0.trans e1))))
    refine ⟨Hb, ((L2.wipe σ [i, j]).set i (some v1)).set j (some v2), Ext.refl _ _, e2.trans (Ex.new hT), Ex.new hT, eg_pair (st_of upd_same), wipe2 (σ := σ) (x := v1) (y := v2), true, fun H1 _ Q q => q H1 (Ex.refl _), (fun h => nomatch h), fun _ => ⟨f d e, ?_, he k d e hd hes _ Hb (e0.trans e1) sl⟩⟩
    show ((ds.zip es)[k]?).bind _ = _
    rw [hz]
    rfl
  · rw [← e0, filterMap_range]
    have : List.zipWith f ds es = (ds.zip es).map fun p => f p.1 p.2 := by
      rw [List.zip, List.map_zipWith]
    rw [this]
    exact (congrFun List.filterMap_eq_map' _).symm
end
/-! dicts of the top -/
structure DcT (w : World) (K : PySem.W.Frag) (mg : Str → Option Value) (x : Str) (kvs : List (Str × He.Dv)) : Prop where
  glo : mg x = some (.ref (gaE K x))
  at_ : ∀ q ∈ kvs, KDct K w (gaE K x) q.1 (q.2.v K)
theorem ix_kdK {X : Cx} {K : PySem.W.Frag} {w : World} (hK : X.K = K) (hw : X.w = w) : IxR X (rIxD K w) := hK ▸ hw ▸ ix_kdict
theorem ed_ixK {K : PySem.W.Frag} {w : World} {σ : L2.St} {H : Hp} {te : TE} {a : Addr} {z : Str} {v : V} {d : PyData} (h : EvD K te σ H (.str z)) (hk : KDct K w a z v) (hd : ∀ H, Dt K H v d) : EvD K (tOp (rIxD K w) (tC (.ref a)) te) σ H d := fun H1 e1 Q q =>
  h H1 e1 _ fun y H2 Ha e2 ea xa da => ⟨a, z, v, rfl, da.str_eq, hk, q v H2 Ha e2 ea xa (hd Ha)⟩
/-- text.split(text) -/
theorem ed_split {K : PySem.W.Frag} {σ : L2.St} {H : Hp} {ta tb : TE} {a b : Str} (ha : EvD K ta σ H (.str a)) (hb : EvD K tb σ H (.str b)) (h1 : (b.length == 0) = false) (h2 : a.length ≤ 60000) : EvD K (tM1 (fun x xs H Q => ∃ a b, x = .str a ∧ xs = [.str b] ∧ (b.length == 0) = false ∧ a.length + 2 ≤ sizeLine ∧ rNewStrs (Txt.split a b) H Q) ta tb) σ H (.list ((Txt.split a b).map .str)) := fun H1 e1 Q q =>
  ha H1 e1 _ fun v H2 Ha e2 ea xa da => ⟨⟨a, da.str_eq⟩, (hb.mono xa.ex) H2 ea _ fun v' H3 Hb e3 eb xb db => ⟨a, b, da.str_eq, by rw [db.str_eq], h1, Nat.le_trans (show a.length + 2 ≤ 60002 by omega) (by decide), fun p hp =>
    q _ _ (upd Hb p _) ((e2.trans e3).trans (Ex.new hp)) (ex_upd eb) ((xa.trans e2 xb).trans (e2.trans e3) (Ext.new eb hp)) (.lst upd_same (dp_strs _))⟩⟩
end LR

/-! ### t[::-1] of a tuple; enumerate(list); tuples times a number (own work) -/
namespace LR
open PySem PySem.Spec PyProof.Rows L2 Evl
theorem rev_places (n : Nat) : Builtin.Slice.sliceAdjust none none (-1) (n : Int) = ((n : Int) - 1, -1) ∧ Builtin.Slice.slicePlaces ((n : Int) - 1) (-1) (-1) = n := by
  refine ⟨rfl, ?_⟩
  unfold Builtin.Slice.slicePlaces
  have h1 : ¬ ((-1 : Int) > 0) := by decide
  simp only [h1, if_false]
  have e : (-(-1) : Int) = 1 := by decide
  rw [e]
  split
  · rw [Int.ediv_one]
    omega
  · omega
theorem fm_congr {α β : Type} {f g : α → Option β} : ∀ {l : List α}, (∀ a ∈ l, f a = g a) → l.filterMap f = l.filterMap g
  | [], _ => rfl
  | a :: r, h => by
    rw [List.filterMap_cons, List.filterMap_cons, h a List.mem_cons_self, fm_congr fun x hx => h x (List.mem_cons_of_mem _ hx)]
theorem rev_pick (xs : Array Value) : ((List.range xs.size).filterMap fun (m : Nat) => xs[(((xs.size : Int) - 1) + (m : Int) * (-1)).toNat]?).toArray = xs.toList.reverse.toArray := by
  congr 1
  have h := filterMap_range xs.toList.reverse some
  rw [List.length_reverse, Array.length_toList] at h
  rw [show xs.toList.reverse.filterMap some = xs.toList.reverse by rw [List.filterMap_some]] at h
  rw [← h]
  refine fm_congr fun m hm => ?_
  have hm' := List.mem_range.mp hm
  have hl : m < xs.toList.length := by rw [Array.length_toList]; exact hm'
  rw [List.getElem?_reverse hl, Array.length_toList]
  have e : (((xs.size : Int) - 1) + (m : Int) * (-1)).toNat = xs.size - 1 - m := by omega
  rw [e]
  cases q : xs[xs.size - 1 - m]? with
  | none =>
    have : xs.toList[xs.size - 1 - m]? = none := by rw [Array.getElem?_toList]; exact q
    rw [this]
    rfl
  | some v =>
    have : xs.toList[xs.size - 1 - m]? = some v := by rw [Array.getElem?_toList]; exact q
    rw [this]
    rfl
section
variable {prog : Program} {w : World} {A : Around} {E : Value → Shared → Prop} {s : Shared}
theorem sliceApplied_rev {sl : Addr} {tk : Tok} {n : Nat} {Q : Int × Int × Nat → Shared → Prop} (hs : s.heap.IsSliceOf sl .none .none (.int (-1) tk)) (h : Q ((n : Int) - 1, -1, n) s) : wpAny (model prog w) A (Builtin.Slice.sliceApplied (.ref sl) (pure (n : Int))) Q E s := by
  obtain ⟨os, hos, hcs, hds⟩ := id hs
  unfold Builtin.Slice.sliceApplied Builtin.Slice.sliceFields
  refine wpAny_bind (wpAny_bind (wpAny_field hos hds (x := .none) rfl (wpAny_bind (wpAny_field hos hds (x := .none) rfl (wpAny_bind (wpAny_field hos hds (x := .int (-1) tk) rfl (wpAny_pure ?_)))))))
  refine wpAny_bind (HT.slicePart_ (IsPart.int (-1) tk) ?_)
  show wpAny _ _ (if ((-1 : Int) == 0) = true then _ else _) _ _ s
  rw [if_neg (by decide)]
  refine wpAny_bind (HT.slicePart_ IsPart.none (wpAny_bind (HT.slicePart_ IsPart.none (wpAny_bind (wpAny_pure ?_)))))
  show wpAny _ _ (match Builtin.Slice.sliceAdjust none none (-1) (n : Int) with | (lo, hi) => pure (lo, (-1 : Int), Builtin.Slice.slicePlaces lo hi (-1))) _ _ s
  rw [(rev_places n).1]
  show wpAny _ _ (pure ((n : Int) - 1, (-1 : Int), Builtin.Slice.slicePlaces ((n : Int) - 1) (-1) (-1))) _ _ s
  rw [(rev_places n).2]
  exact wpAny_pure h
theorem getItem_tuple_rev {t sl : Addr} {tk : Tok} {items : Array Value} {Q : Value → Shared → Prop} (ht : IsTup s.heap t items) (hs : s.heap.IsSliceOf sl .none .none (.int (-1) tk))
    (h : Q (.ref s.heap.objs.size) { s with heap := s.heap.push { cls := .type "tuple", data := .seq items.toList.reverse.toArray } })
    (hsz : items.size ≤ sizeLine) : wpAny (model prog w) A (getItem (.ref t) (.ref sl)) Q E s := by
  have htake : sizeOk (.seq items.toList.reverse.toArray) := by
    show items.toList.reverse.toArray.size ≤ sizeLine
    rw [List.size_toArray, List.length_reverse, Array.length_toList]
    exact hsz
  obtain ⟨os, hos, hcs, hds⟩ := id hs
  have hTs : s.TypeIs (.ref sl) "slice" := ⟨os, hos, hcs⟩
  unfold getItem
  try with_reducible refine wpAny_holding ?_
  first | refine wpAny_bind (wpAny_pure ?_) | skip
  refine wpAny_bind (wpAny_sequenceKey ht.typeIs (by decide) ?_)
  refine wpAny_bind (wpAny_callSpecial?_slot (name := Str.ofString "__getitem__") ht.typeIs PyProof.Rows.slot_tuple_getitem
    (wpAny_call_entry PyProof.Rows.slot_tuple_getitem ht.typeIs PyProof.Rows.entry_tuple_getitem ?_ (PyProof.Rows.args_tuple_getitem _ _)))
  show wpAny _ _ (Builtin.Tuple.tupleItemsOf (.ref t) >>= _) _ _ s
  refine wpAny_bind (PyProof.Rows.tupleItemsOf_ ht ?_)
  refine wpAny_bind (wpAny_typeOf hTs ?_)
  rw [if_pos (by decide)]
  refine wpAny_bind (sliceApplied_rev hs ?_)
  have hno : ¬ (((items.size : Int) - 1 == 0 && (-1 : Int) == 1 && items.size == items.size) = true) := by
    intro q
    rw [Bool.and_eq_true, Bool.and_eq_true] at q
    exact absurd q.1.2 (by decide)
  show wpAny _ _ (if ((items.size : Int) - 1 == 0 && (-1 : Int) == 1 && items.size == items.size) = true then _ else _) _ _ s
  rw [if_neg hno, rev_pick]
  first
    | exact wpAny_bind (m := Builtin.Tuple.tupleExact _) (wpAny_newObj_type (wpAny_pure ⟨_, rfl, wpAny_pure h⟩) htake)
    | exact wpAny_bind (m := Builtin.Tuple.tupleExact _) (wpAny_newObj_type (wpAny_bind (wpAny_pure (wpAny_pure ⟨_, rfl, wpAny_pure h⟩))) htake)
    | exact wpAny_bind (wpAny_bind (m := Builtin.Tuple.tupleExact _) (wpAny_newObj_type (wpAny_pure (wpAny_pure ⟨_, rfl, wpAny_pure h⟩)) htake))
    | exact wpAny_bind (wpAny_bind (m := Builtin.Tuple.tupleExact _) (wpAny_newObj_type (wpAny_pure ⟨_, rfl, wpAny_pure h⟩) htake))
end
theorem Vals.reverse {xs : List V} {us : List Value} (r : Vals xs us) : Vals xs.reverse us.reverse := by
  induction r with
  | nil => exact .nil
  | cons a _ ih =>
    rw [List.reverse_cons, List.reverse_cons]
    exact ih.append (.cons a .nil)
def tRev (K : PySem.W.Frag) (te ts : TE) : TE := fun σ H Q => te σ H fun x H1 => ts σ H1 fun y H2 => y = .int (-1) ∧ ∃ a xs, x = .ref a ∧ SqT K H2 a xs ∧ ∀ p, H2 p = none → Q (.ref p) (upd H2 p (.tup xs.reverse))
theorem pe_rev {X : Cx} {K : PySem.W.Frag} {e st : Expr} {te ts : TE} {p2 pos : Pos} (hK : X.K = K) (he : PE X e te) (hst : PE X st ts) : PE X (.Subscript e (.Slice none none (some st) p2) pos) (tRev K te ts) := by
  subst hK
  refine ⟨fun pins s σ H Q I h => ?_⟩
  refine Subscript_ (thn (he.run pins s σ H _ I h) fun v s1 ⟨x, H1, I1, r1, q1⟩ => ?_)
  refine wpAny_Slice ?_
  rw [evalPart_none]
  refine wpAny_pure (wpAny_pure ?_)
  rw [evalPart_some]
  refine thn (hst.run pins s1 σ H1 _ I1 q1) fun vs s3 ⟨y, H3, I3, ry, q3⟩ => ?_
  obtain ⟨rfl, a, xs, rfl, hx, q⟩ := q3
  obtain ⟨tk, rfl⟩ := ry
  have I4 : Inv X pins σ H3 { s3 with heap := s3.heap.push { cls := .type "slice", data := .fields #[.none, .none, .int (-1) tk] } } := I3.kept (t' := s3.toks) fun b ob q => Heap.get?_push_of_some _ q
  cases r1
  obtain ⟨its, r, ht, hz⟩ := I4.tuple hx
  show wpAny (model X.prog X.w) X.A (subscriptTail e (.Slice none none (some st) p2) (.ref a) (.ref s3.heap.objs.size)) (EP X pins σ Q) X.xe { s3 with heap := s3.heap.push { cls := .type "slice", data := .fields #[.none, .none, .int (-1) tk] } }
  refine tail_any (ops := [.ref a, .ref s3.heap.objs.size]) ht.typeIs PyProof.Rows.slot_tuple_getitem.lookup ?_ (by with_unfolding_all rfl)
  have hlen : its.toArray.size = xs.length := by rw [List.size_toArray]; exact r.length.symm
  refine getItem_tuple_rev ht (Heap.IsSliceOf.new ..) ?_ (by rw [hlen]; exact hz)
  refine ⟨.ref _, _, I4.laid (t' := s3.toks) (o := .tup xs.reverse) (fun b ob q => Heap.get?_push_of_some _ q) (Nat.le_refl _) ?_, rfl, q _ (I4.hok.fresh (Nat.le_refl _))⟩
  exact ⟨by rw [List.length_reverse]; exact hz, _, Vals.reverse r, IsTup.new _ _⟩
section
variable {K : PySem.W.Frag} {σ : L2.St} {H : Hp} {te ts : TE}
theorem DtAll.reverse : ∀ {vs : List V} {ds : List PyData}, DtAll K H vs ds → DtAll K H vs.reverse ds.reverse
  | _, _, .nil => .nil
  | _, _, .cons a b => by
    rw [List.reverse_cons, List.reverse_cons]
    exact (DtAll.reverse b).append (.cons a .nil)
theorem ed_rev {ds : List PyData} (h : EvD K te σ H (.tuple ds)) (hs : EvD K ts σ H (.int (-1))) : EvD K (tRev K te ts) σ H (.tuple ds.reverse) := fun H1 e1 Q q =>
  h H1 e1 _ fun v H2 Ha e2 ea xa da => (hs.mono xa.ex) H2 ea _ fun y H3 Hb e3 eb xb db => by
    obtain ⟨a, xs, rfl, ha, ra⟩ := da.tup_eq
    refine ⟨db.int_eq, a, xs, rfl, ex_t (xb.ex.trans eb) ha, fun p hp => ?_⟩
    exact q _ _ (upd Hb p _) ((e2.trans e3).trans (Ex.new hp)) (ex_upd eb) ((xa.trans e2 xb).trans (e2.trans e3) (Ext.new eb hp)) (.tup (st_of upd_same) (DtAll.ex (xb.ex.trans (Ex.new (fresh_back eb hp))) (DtAll.reverse ra)))
end
end LR
namespace LR
open PySem PySem.Spec PyProof.Rows L2 Evl
section
variable {K : PySem.W.Frag} {σ : L2.St} {H : Hp} {te : TE}
/-- enumerate(list) -/
theorem ei_enumL {ds : List PyData} (h : EvD K te σ H (.list ds)) : EvI (iEnum K (tCons te tNil)) σ H (min ((List.range ds.length).map fun i : Nat => PyData.int i).length ds.length) (YZ K ((List.range ds.length).map fun i : Nat => PyData.int i) ds) := fun H1 e1 R r =>
  h H1 e1 _ fun v H2 H' e2 e x dv => by
    obtain ⟨a, xs, rfl, ha, ra⟩ := dv.lst_eq
    refine ⟨a, xs, rfl, sq_of (e a _ ha), r _ (fun H3 => Ex H' H3) H2 H' e2 e x (fun H3 e3 => e3) ?_⟩
    rw [List.length_map, List.length_range, Nat.min_self, ← ra.length]
    refine (walk_enum (K := K) (a := a) (xs := xs)).mono (fun H3 e3 => sq_of (e3 a _ ha)) fun i H3 v H4 hi e3 z => ?_
    obtain ⟨T, x, y, h1, h2, h3, h4, h5⟩ := z
    obtain ⟨d', q3, q4⟩ := ra.get' h5
    cases h4
    refine ⟨T, _, y, .int i, d', h1, h2, h3, ?_, q3, .int _, q4⟩
    rw [List.getElem?_map, List.getElem?_range hi]
    rfl
theorem pi_enumK {X : Cx} {e : Expr} {ta : TA} {p pos tpos : Pos} {elts : List Expr} {kk : Nat} (hK : X.K = K) (hg : Gl X "enumerate") (hm : X.mg "enumerate" = none) (ha : PA X [e] ta) (hs : starEach [e] X.env = [(false, eval e X.env)] := by rfl) :
    PI X (.Tuple elts kk tpos) (.Call (.Name "enumerate" p) [e] [] pos) (iEnum K ta) := hK ▸ pi_enum hg hm ha hs
end
end LR
namespace LR
open PySem PySem.Spec PyProof.Rows L2 Evl
section
variable {K : PySem.W.Frag} {σ : L2.St} {H : Hp} {te : TE}
theorem DtAll.rep {vs : List V} {ds : List PyData} (h : DtAll K H vs ds) : ∀ n : Nat, DtAll K H (List.replicate n vs).flatten (List.replicate n ds).flatten
  | 0 => .nil
  | n + 1 => by
    rw [List.replicate_succ, List.replicate_succ, List.flatten_cons, List.flatten_cons]
    exact h.append (DtAll.rep h n)
/-- t * k -/
theorem rd_mulT {ds : List PyData} {k : Int} (hne : ds ≠ []) (h2 : 2 ≤ k) (h3 : k ≤ 1000) (hl : ds.length ≤ 1000) : RD2 K (rMulU K) (.tuple ds) (.int k) H (.tuple (List.replicate k.toNat ds).flatten) := fun H' x y _ dx dy H1 e1 Q q => by
  obtain ⟨a, xs, rfl, ha, ra⟩ := dx.tup_eq
  refine .inr (.inr (.inr ⟨a, k, xs, rfl, dy.int_eq, ex_t e1 ha, fun z => ?_, h2, h3, by rw [ra.length]; exact hl, fun p hp => ?_⟩))
  · subst z
    cases ra
    exact hne rfl
  · exact q.new e1 hp (.tup (st_of upd_same) (DtAll.ex (Ex.new (fresh_back e1 hp)) (DtAll.rep ra _)))
end
end LR

/-! ### dicts of one's own: text or number to plain values (own work) -/
namespace LR
open PySem PySem.Spec PyProof.Rows L2 Evl
theorem units1 {n : Nat} (h : n + 64 < cLine) : n + 1 < cLine := Nat.lt_of_le_of_lt (Nat.add_le_add_left (by decide) n) h
/-- an object of one's own, as it stands -/
structure OwnO (H10 H H1 : Hp) (l : Addr) (o : HO) : Prop where
  no : H l = none
  old : H10 l = none
  at_ : H1 l = some o
section
variable {K : PySem.W.Frag} {H0 H10 H H1 : Hp} {σ : L2.St} {ss : List SD} {te ty tv : TE} {d : PyData} {D : Ends} {l : Addr} {o : HO}
theorem OwnO.on {H' H2 : Hp} (w : OwnO H10 H H1 l o) (x : Ext H H1 H') (e : Ex H1 H2) : OwnO H10 H' H2 l o := ⟨x.off w.no w.at_, w.old, e l _ w.at_⟩
theorem OwnO.to {o' : HO} (w : OwnO H10 H H1 l o) : OwnO H10 H (upd H1 l o') l o' := ⟨w.no, w.old, upd_same⟩
/-- another object is changed -/
theorem OwnO.past {b : Addr} {o' : HO} (w : OwnO H10 H H1 l o) (h : l ≠ b) : OwnO H10 H (upd H1 b o') l o := ⟨w.no, w.old, by rw [upd_ne h]; exact w.at_⟩
/-- it is not changed any more -/
theorem OwnO.freeze (w : OwnO H10 H H1 l o) (n : Now H0 H10 H H1) (ht : ∀ ps, o ≠ .tbl ps) : Ex H (upd H l o) ∧ Now H0 H10 (upd H l o) H1 := by
  have e1 : Ex H (upd H l o) := Ex.new w.no
  refine ⟨e1, ?_, ⟨n.ext.ex.trans e1, fun b u hb => ?_⟩, n.grow⟩
  · intro b u hb
    by_cases z : b = l
    · subst z
      rw [upd_same] at hb
      cases hb
      exact w.at_
    · rw [upd_ne z] at hb
      exact n.ex b u hb
  · by_cases z : b = l
    · subst z
      rw [upd_same] at hb
      cases hb
      exact .inr ⟨w.old, ht⟩
    · rw [upd_ne z] at hb
      exact n.ext.fresh b u hb
/-- x = {} -/
theorem st_newDk {i : Nat} (n : Now H0 H10 H H1) (s : Sl K H σ ss) (k : ∀ l σ' H2, Ex H1 H2 → H1 l = none → OwnO H10 H H2 l (.dK []) → Now H0 H10 H H2 → Sl K H σ' (ss.set i (.val (.ref l))) → D.nx σ' H2) : tAsg tDNewK (gName i) D σ H1 :=
  fun p hp => k p _ _ (Ex.new hp) hp ⟨fresh_back n.ex hp, fresh_back n.grow hp, upd_same⟩ ⟨n.ex.trans (Ex.new hp), n.ext, n.grow.trans (Ex.new hp)⟩ (s.set (s := .val (.ref p)) (o := some (.ref p)) rfl i)
/-- d[k] = v -/
theorem st_dput {i : Nat} {kvs : List (Key × V)} {k : Key} {kd : PyData} {v : V} (n : Now H0 H10 H H1) (s : Sl K H σ ss) (hi : ss[i]? = some (.val (.ref l))) (w : OwnO H10 H H1 l (.dK kvs)) (hz : kvs.length < 100000) (hy : EvD K ty σ H kd) (hk : ∀ H v, Dt K H v kd → v = kV k) (hv : EvD K tv σ H d) (hd : ∀ H u, Dt K H u d → u = v)
    (q : ∀ H' H2, Ext H H1 H' → OwnO H10 H' H2 l (.dK (putK kvs k v)) → (∀ b u, b ≠ l → H1 b = some u → H2 b = some u) → Now H0 H10 H' H2 → Sl K H' σ ss → D.nx σ H2) : sDPut (tVar i) ty tv D σ H1 :=
  hv H1 n.ex _ fun u H2 Ha e2 ea xa da => ⟨.ref l, s.val hi, (hy.mono xa.ex) H2 ea _ fun y H3 Hb e3 eb xb db => by
    have w3 := (w.on xa e2).on xb e3
    refine ⟨l, _, rfl, .inl ⟨kvs, k, w3.at_, hk _ _ db, sz_lt hz, rfl⟩, ?_⟩
    rw [hd _ _ da]
    exact q Hb _ (xa.trans e2 xb) w3.to (fun b u hb hu => by rw [upd_ne hb]; exact e3 b u (e2 b u hu)) (((n.on e2 ea xa).on e3 eb xb).mut w3.no w3.old) ((s.ex xa.ex).ex xb.ex)⟩
/-- d[k], the dict known -/
theorem ed_dget {i : Nat} {kvs : List (Key × V)} {k : Key} {kd : PyData} {v : V} (s : Sl K H σ ss) (hi : ss[i]? = some (.val (.ref l))) (hl : H l = some (.dK kvs)) (hy : EvD K ty σ H kd) (hk : ∀ H v, Dt K H v kd → v = kV k) (hv : valV kvs k = some v) (hd : ∀ H, Dt K H v d) : EvD K (tDGet (tVar i) ty) σ H d := fun H1 e1 Q q =>
  ⟨.ref l, s.val hi, hy H1 e1 _ fun y H2 Ha e2 ea xa da => by
    refine ⟨l, v, rfl, ?_, q v H2 Ha e2 ea xa (hd Ha)⟩
    rw [hk _ _ da, ← hv]
    exact DGet.k ((e1.trans e2) l _ hl)⟩
theorem key_str {z : Str} : ∀ (H : Hp) (v : V), Dt K H v (.str z) → v = kV (.inr z) := fun _ _ h => h.str_eq
theorem key_int {z : Int} : ∀ (H : Hp) (v : V), Dt K H v (.int z) → v = kV (.inl z) := fun _ _ h => h.int_eq
theorem val_str {z : Str} : ∀ (H : Hp) (v : V), Dt K H v (.str z) → v = .str z := fun _ _ h => h.str_eq
/-- sorted(d) -/
def rSortD : List V → Hp → VK → Prop := fun xs H Q => ∃ (a : Addr) (kvs : List (Key × V)) (ks : List Str), xs = [.ref a] ∧ Rd H a (.dK kvs) ∧ kvs.map (·.1) = ks.map Sum.inr ∧ ks.length < 64 ∧
    ∀ ys p, ys.Perm ks → sortedS ys = true → H p = none → Q (.ref p) (upd H p (.lst (ys.map V.str)))
theorem cr_sortD {X : Cx} (hc : X.calm = true) : CallR X (.builtin "sorted") rSortD := call_sortedD hc
theorem ed_sortD {i : Nat} {kvs : List (Key × V)} {ks : List Str} (s : Sl K H σ ss) (hi : ss[i]? = some (.val (.ref l))) (hl : H l = some (.dK kvs)) (hk : kvs.map (·.1) = ks.map Sum.inr) (nd : ks.Nodup) (hn : ks.length < 64) : EvD K (tCB rSortD (tCons (tVar i) tNil)) σ H (.list ((usort ltS ks).map .str)) := fun H1 e1 Q q =>
  ⟨.ref l, s.val hi, l, kvs, ks, rfl, .inl (e1 l _ hl), hk, hn, fun ys p pm so hp => by
    have e : ys = usort ltS ks := ris_eq tot_ltS (sortedS_ris so (pm.nodup_iff.mpr nd)) (ris_usort tot_ltS ks) fun z => pm.mem_iff.trans (mem_usort tot_ltS).symm
    rw [e]
    exact q _ _ (upd H p _) (Ex.new hp) (ex_upd e1) (Ext.new e1 hp) (.lst upd_same (dp_strs _))⟩
end
/-! a book of texts -/
def bookK (b : List (Str × Str)) : List (Key × V) := b.map fun p => (Sum.inr p.1, V.str p.2)
def putB (b : List (Str × Str)) (k v : Str) : List (Str × Str) := if (b.any fun p => decide (p.1 = k)) = true then b.map (fun p => if p.1 = k then (p.1, v) else p) else b ++ [(k, v)]
theorem book_put (b : List (Str × Str)) (k v : Str) : putK (bookK b) (.inr k) (.str v) = bookK (putB b k v) := by
  have e : ∀ b : List (Str × Str), ((bookK b).any fun kv => decide (kv.1 = Sum.inr k)) = b.any fun p => decide (p.1 = k) := fun b => by
    unfold bookK
    rw [List.any_map]
    congr 1
    funext p
    show decide ((Sum.inr p.1 : Key) = Sum.inr k) = decide (p.1 = k)
    exact decide_eq_decide.mpr ⟨fun h => Sum.inr.inj h, fun h => by rw [h]⟩
  unfold putK putB
  rw [e]
  split
  · unfold bookK
    rw [List.map_map, List.map_map]
    apply List.map_congr_left
    intro p _
    show (if (Sum.inr p.1 : Key) = Sum.inr k then _ else _) = (fun p : Str × Str => ((Sum.inr p.1 : Key), V.str p.2)) (if p.1 = k then (p.1, v) else p)
    by_cases z : p.1 = k
    · rw [if_pos z, if_pos (by rw [z])]
    · rw [if_neg z, if_neg fun h => z (Sum.inr.inj h)]
  · unfold bookK
    rw [List.map_append]
    rfl
theorem book_keys (b : List (Str × Str)) : (bookK b).map (·.1) = (b.map (·.1)).map Sum.inr := by
  unfold bookK
  rw [List.map_map, List.map_map]
  rfl
theorem putB_len (b : List (Str × Str)) (k v : Str) : (putB b k v).length ≤ b.length + 1 := by
  unfold putB
  split
  · rw [List.length_map]; omega
  · rw [List.length_append]; exact Nat.le_refl _
theorem putB_keys (b : List (Str × Str)) (k v : Str) : (putB b k v).map (·.1) = if (b.any fun p => decide (p.1 = k)) = true then b.map (·.1) else b.map (·.1) ++ [k] := by
  unfold putB
  split
  · rw [List.map_map]
    apply List.map_congr_left
    intro p _
    show (if p.1 = k then (p.1, v) else p).1 = p.1
    split <;> rfl
  · rw [List.map_append]
    rfl
theorem putB_nodup {b : List (Str × Str)} {k v : Str} (h : (b.map (·.1)).Nodup) : ((putB b k v).map (·.1)).Nodup := by
  rw [putB_keys]
  split
  · exact h
  · rename_i c
    rw [List.nodup_append]
    refine ⟨h, by simp, fun x hx y hy => ?_⟩
    rw [List.mem_singleton.mp hy]
    intro z
    subst z
    obtain ⟨p, hp, e⟩ := List.mem_map.mp hx
    exact c (List.any_eq_true.mpr ⟨p, hp, decide_eq_true e⟩)
theorem putB_all {q : Str × Str → Prop} {b : List (Str × Str)} {k v : Str} (h : ∀ p ∈ b, q p) (hn : q (k, v)) : ∀ p ∈ putB b k v, q p := by
  intro p hp
  unfold putB at hp
  split at hp
  · obtain ⟨p', hp', e⟩ := List.mem_map.mp hp
    by_cases z : p'.1 = k
    · rw [if_pos z] at e
      rw [← e, z]
      exact hn
    · rw [if_neg z] at e
      rw [← e]
      exact h p' hp'
  · rcases List.mem_append.mp hp with m | m
    · exact h p m
    · rw [List.mem_singleton.mp m]
      exact hn
/-- what stands under a key -/
theorem book_get {b : List (Str × Str)} {k : Str} (h : k ∈ b.map (·.1)) : ∃ v, valV (bookK b) (.inr k) = some (.str v) ∧ (k, v) ∈ b := by
  induction b with
  | nil => cases h
  | cons p r ih =>
    by_cases z : p.1 = k
    · refine ⟨p.2, ?_, ?_⟩
      · show valV (((Sum.inr p.1 : Key), V.str p.2) :: bookK r) (Sum.inr k) = _
        rw [valV_pos (by show (Sum.inr p.1 : Key) = _; rw [z])]
      · rw [← z]
        exact List.mem_cons_self
    · rw [List.map_cons] at h
      rcases List.mem_cons.mp h with e | e
      · exact absurd e.symm z
      · obtain ⟨v, h1, h2⟩ := ih e
        refine ⟨v, ?_, List.mem_cons_of_mem _ h2⟩
        show valV (((Sum.inr p.1 : Key), V.str p.2) :: bookK r) (Sum.inr k) = _
        rw [valV_neg (by show ¬ (Sum.inr p.1 : Key) = _; exact fun h => z (Sum.inr.inj h))]
        exact h1
theorem g_set {j : Nat} {x : V} {σ : L2.St} {H : Hp} {Q : L2.St → Hp → Prop} (h : Q (List.set σ j (some x)) H) : gName j x σ H Q := h
theorem t_seq {t1 t2 : TS} {D : Ends} {σ : L2.St} {H : Hp} (h : t1 { D with nx := t2 D } σ H) : tSeq t1 t2 D σ H := h
theorem t_next {D : Ends} {σ : L2.St} {H : Hp} (h : D.nx σ H) : tNext D σ H := h
end LR

/-! ### objects that change: what is known of them, methods, calls (own work) -/
namespace LR
open PySem PySem.Spec PyProof.Rows L2 Evl L2H LamX
open Classical in
/-- a heap without some places -/
noncomputable def less (H1 : Hp) (fp : Addr → Prop) : Hp := fun b => if fp b then none else H1 b
section
variable {H H1 H2 H' H0 H10 : Hp} {fp : Addr → Prop} {b : Addr} {o : HO}
theorem less_no (h : fp b) : less H1 fp b = none := if_pos h
theorem less_at (h : ¬ fp b) : less H1 fp b = H1 b := if_neg h
theorem less_some (h : less H1 fp b = some o) : ¬ fp b ∧ H1 b = some o := by
  by_cases c : fp b
  · rw [less_no c] at h
    cases h
  · rw [less_at c] at h
    exact ⟨c, h⟩
theorem less_none (h : less H1 fp b = none) : fp b ∨ H1 b = none := by
  by_cases c : fp b
  · exact .inl c
  · rw [less_at c] at h
    exact .inr h
theorem ex_less : Ex (less H1 fp) H1 := fun _ _ h => (less_some h).2
theorem less_ex (e : Ex H1 H2) : Ex (less H1 fp) (less H2 fp) := fun b o h => by
  obtain ⟨c, h⟩ := less_some h
  rw [less_at c]
  exact e b o h
/-- what stays of H10: none of it lies in fp -/
theorem ex_into (e : Ex H10 H1) (hf : ∀ b, fp b → H10 b = none) : Ex H10 (less H1 fp) := fun b o h => by
  have c : ¬ fp b := fun z => by
    rw [hf b z] at h
    cases h
  rw [less_at c]
  exact e b o h
end
/-- instances, dicts, lists -/
def PlainO : HO → Prop
  | .ins _ _ _ => True
  | .dK _ => True
  | .lst _ => True
  | _ => False
theorem PlainO.tbl {o : HO} (h : PlainO o) : ∀ ps, o ≠ .tbl ps := fun ps z => by
  subst z
  exact h
/-- a kind of object: where it stands, what it holds -/
structure ObjK (K : PySem.W.Frag) (C : Addr) (ms : List Str) (σ : Type) where
  At : Addr → Hp → Hp → (Addr → Prop) → σ → Prop
  self : ∀ {p H H1 fp S}, At p H H1 fp S → fp p
  off : ∀ {p H H1 fp S b}, At p H H1 fp S → fp b → H b = none
  al : ∀ {p H H1 fp S b}, At p H H1 fp S → fp b → ∃ o, H1 b = some o ∧ PlainO o
  keep : ∀ {p H H1 fp S H2}, At p H H1 fp S → (∀ b o, fp b → H1 b = some o → H2 b = some o) → At p H H2 fp S
  more : ∀ {p H H1 fp S H'}, At p H H1 fp S → Ex H H' → (∀ b, fp b → H' b = none) → At p H' H1 fp S
  on : ∀ {p H H1 fp S H' H2}, At p H H1 fp S → Ext H H1 H' → Ex H1 H2 → At p H' H2 fp S
  ins : ∀ {p H H1 fp S}, At p H H1 fp S → ∃ dx fs, H1 p = some (.ins C dx fs) ∧ ∀ m ∈ ms, fs.lookup m = none
section
variable {K : PySem.W.Frag} {C : Addr} {ms : List Str} {τ : Type} (O : ObjK K C ms τ)
/-- what a caller finds behind a call: the heap, what is known, where the object stands -/
structure Aft (p : Addr) (H B H2 H' : Hp) (fp' : Addr → Prop) (S' : τ) : Prop where
  up : Ex B H2
  ex : Ex H' H2
  ext : Ext H B H'
  at_ : O.At p H' H2 fp' S'
  nw : ∀ b, fp' b → B b = none
def KM (E : XK) (p : Addr) (H B : Hp) (Q : VK) (S' : τ) : Ans → Prop
  | .ok d => ∀ v H2 H' fp', Aft O p H B H2 H' fp' S' → Dt K H' v d → Q v H2
  | .error x => ∀ H2 H' fp', Aft O p H B H2 H' fp' S' → E (.ref (gaE K x)) none H2
/-- the promise of a method -/
def spM (n : Nat) (R : τ → List PyData → Ans → τ → Prop) : Sp := fun vs H1 Q E => ∃ H p S args ds r S' fp, vs = V.ref p :: args ∧ Ex H H1 ∧ O.At p H H1 fp S ∧ DtAll K H args ds ∧ ds.length = n ∧ R S ds r S' ∧ KM O E p H (less H1 fp) Q S' r
theorem spM_len {n : Nat} {R : τ → List PyData → Ans → τ → Prop} {vs : List V} {H1 : Hp} {Q : VK} {E : XK} (h : spM O n R vs H1 Q E) : vs.length = n + 1 := by
  obtain ⟨H, p, S, args, ds, r, S', fp, rfl, _, _, da, hl, _⟩ := h
  rw [List.length_cons, da.length, hl]
/-- a method that is called by its name -/
structure Mx (P : Program) (w : World) (K : PySem.W.Frag) (C : Addr) (mg : Str → Option Value) (base : Heap) (k : Nat) (m : Str) (ps : List Str) (sp : Sp) : Prop where
  ex : ∃ (f : Addr) (fd : FuncData), FnOk P w K mg base (CXL P w) k f fd ps sp ∧ Meth K C m f ∧ Binds K fd ps []
theorem pe_mx {X : Cx} {C : Addr} {k j : Nat} {m : Str} {ps : List Str} {sp : Sp} {E : XK} {pos apos : Pos} {o e : Expr} {es : List Expr} {ta : TE} {t : TA} {pl : Sem Bool} (c : Mx X.prog X.w X.K C X.mg X.base k m ps sp) (hC : Cls X.K C) (hr : Room j X.A) (hk : k ≤ j) (hx : Passes (CXL X.prog X.w) X E) (ho : PE X o ta) (ha : PA X (e :: es) t)
    (hst : starEach (e :: es) X.env = (false, eval e X.env) :: starEach es X.env := by rfl) (hpl : (backTo pos (starEach es X.env)).any (·.1) = false := by rfl)
    (ht : eval (.Call (.Attribute o m apos) (e :: es) [] pos) X.env = (do
      let ov ← eval o X.env
      standAt apos.atName
      let (f, first) ← holding [ov] (getMethod ov m pl)
      callWith pos f first (backTo pos (starEach (e :: es) X.env)) (backToKw pos (keywordEach [] X.env))) := by rfl) :
    PE X (.Call (.Attribute o m apos) (e :: es) [] pos) (tMeth C m sp [] E ta t) := by
  obtain ⟨f, fd, F, hm, b⟩ := c.ex
  exact pe_meth (pl := pl) ho hC hm F (hr.mono hk) b .nil hx ha hst hpl ht
theorem pe_mx0 {X : Cx} {C : Addr} {k j : Nat} {m : Str} {ps : List Str} {sp : Sp} {E : XK} {pos apos : Pos} {o : Expr} {ta : TE} {pl : Sem Bool} (c : Mx X.prog X.w X.K C X.mg X.base k m ps sp) (hC : Cls X.K C) (hr : Room j X.A) (hk : k ≤ j) (hx : Passes (CXL X.prog X.w) X E) (ho : PE X o ta)
    (ht : eval (.Call (.Attribute o m apos) [] [] pos) X.env = (do
      let ov ← eval o X.env
      standAt apos.atName
      let (f, first) ← holding [ov] (getMethod ov m pl)
      callWith pos f first (backTo pos (starEach [] X.env)) (backToKw pos (keywordEach [] X.env))) := by rfl) :
    PE X (.Call (.Attribute o m apos) [] [] pos) (tMeth C m sp [] E ta tNil) := by
  obtain ⟨f, fd, F, hm, b⟩ := c.ex
  exact pe_meth0 (pl := pl) ho hC hm F (hr.mono hk) b .nil hx ht
variable {O}
/-- what a call leaves to its caller: all that is not the object's -/
structure Kept (H H1 : Hp) (fp : Addr → Prop) (H' H2 : Hp) (fp' : Addr → Prop) : Prop where
  fr : ∀ b u, H1 b = some u → ¬ fp b → H2 b = some u
  of : ∀ b u, H b = none → H1 b = some u → ¬ fp b → H' b = none
  nw : ∀ b, fp' b → fp b ∨ H1 b = none
section
variable {H0 H10 H H1 : Hp} {σ : L2.St} {ss : List SD} {ta : TA} {ds : List PyData} {E : XK} {Q : VK} {p : Addr} {fp : Addr → Prop} {S S' : τ} {r : Ans} {n : Nat} {R : τ → List PyData → Ans → τ → Prop} {i : Nat} {m : Str}
/-- behind a call, in the caller's words -/
theorem Aft.now {Ha H2 H3 H' : Hp} {fp' : Addr → Prop} (nw : Now H0 H10 H H1) (hf : ∀ b, fp b → H10 b = none) (e2 : Ex H1 H2) (xa : Ext H H1 Ha) (a : Aft O p Ha (less H2 fp) H3 H' fp' S') : Now H0 H10 H' H3 ∧ (∀ b, fp' b → H10 b = none) ∧ Ex H H' ∧ Kept H H1 fp H' H3 fp' := by
  have e10 : Ex H10 (less H2 fp) := ex_into (nw.grow.trans e2) hf
  refine ⟨⟨a.ex, (nw.ext.trans nw.grow xa).trans e10 a.ext, e10.trans a.up⟩, fun b hb => fresh_back e10 (a.nw b hb), xa.ex.trans a.ext.ex, ⟨fun b u h c => ?_, fun b u h h1 c => ?_, fun b hb => ?_⟩⟩
  · exact a.up b u (by rw [less_at c]; exact e2 b u h)
  · exact a.ext.off (xa.off h h1) (show less H2 fp b = some u by rw [less_at c]; exact e2 b u h1)
  · rcases less_none (a.nw b hb) with z | z
    · exact .inl z
    · exact .inr (fresh_back e2 z)
/-- x.m(..) -/
theorem tm_call (nw : Now H0 H10 H H1) (s : Sl K H σ ss) (hi : ss[i]? = some (.val (.ref p))) (at_ : O.At p H H1 fp S) (hf : ∀ b, fp b → H10 b = none) (hm : m ∈ ms) (ha : EvDs K ta σ H ds) (hR : R S ds r S')
    (ok : ∀ d, r = .ok d → ∀ v H2 H' fp', Now H0 H10 H' H2 → Ex H H' → O.At p H' H2 fp' S' → (∀ b, fp' b → H10 b = none) → Kept H H1 fp H' H2 fp' → Dt K H' v d → Q v H2)
    (er : ∀ x, r = .error x → ∀ H2 H' fp', Now H0 H10 H' H2 → Ex H H' → O.At p H' H2 fp' S' → (∀ b, fp' b → H10 b = none) → Kept H H1 fp H' H2 fp' → E (.ref (gaE K x)) none H2) (hn : ds.length = n := by rfl) : tMeth C m (spM O n R) [] E (tVar i) ta σ H1 Q := by
  obtain ⟨dx, fs, h1, hl⟩ := O.ins at_
  refine ⟨.ref p, s.val hi, p, dx, fs, rfl, h1, hl m hm, ha H1 nw.ex _ fun vs H2 Ha e2 ea xa da => ?_⟩
  show spM O n R (.ref p :: (vs ++ [])) H2 Q E
  rw [List.append_nil]
  refine ⟨Ha, p, S, vs, ds, r, S', fp, rfl, ea, O.on at_ xa e2, da, hn, hR, ?_⟩
  cases r with
  | ok d =>
    intro v H3 H' fp' a dv
    obtain ⟨a1, a2, a3, a4⟩ := a.now nw hf e2 xa
    exact ok d rfl v H3 H' fp' a1 a3 a.at_ a2 a4 dv
  | error x =>
    intro H3 H' fp' a
    obtain ⟨a1, a2, a3, a4⟩ := a.now nw hf e2 xa
    exact er x rfl H3 H' fp' a1 a3 a.at_ a2 a4
theorem tm_call0 (nw : Now H0 H10 H H1) (s : Sl K H σ ss) (hi : ss[i]? = some (.val (.ref p))) (at_ : O.At p H H1 fp S) (hf : ∀ b, fp b → H10 b = none) (hm : m ∈ ms) (hR : R S [] r S')
    (ok : ∀ d, r = .ok d → ∀ v H2 H' fp', Now H0 H10 H' H2 → Ex H H' → O.At p H' H2 fp' S' → (∀ b, fp' b → H10 b = none) → Kept H H1 fp H' H2 fp' → Dt K H' v d → Q v H2)
    (er : ∀ x, r = .error x → ∀ H2 H' fp', Now H0 H10 H' H2 → Ex H H' → O.At p H' H2 fp' S' → (∀ b, fp' b → H10 b = none) → Kept H H1 fp H' H2 fp' → E (.ref (gaE K x)) none H2) : tMeth C m (spM O 0 R) [] E (tVar i) tNil σ H1 Q :=
  tm_call (n := 0) nw s hi at_ hf hm eds_nil hR ok er
end
section
variable {P : Program} {w : World} {mg : Str → Option Value} {base : Heap}
/-- a method keeps its promise -/
theorem fn_meth {nm qual : Str} {st : Stmt} {f : Addr} {fd : FuncData} {N ps : List Str} {k n : Nat} {dvs : List V} {kws : List (Str × V)} {R : τ → List PyData → Ans → τ → Prop} (F : FunD K nm qual (defArgs st) (defBody st) (defScope st) dvs kws f fd) (S : FnScope N ps (defScope st)) (hn : ps.length = n + 1)
    (body : ∀ (cdv : Value) (A : Around) (outer : List Env) (s : Shared) (Hs : Hp) (E : XK), Room k (A.deeper (envOfC qual (defScope st) s.heap.objs.size f cdv)) → ∀ (S : τ) (ds : List PyData) (r : Ans) (S' : τ), ds.length = n → R S ds r S' →
      ∃ t, PSs (cxOf (CXL P w) P w K mg base N qual (defScope st) f cdv A outer s Hs E) (defBody st) t ∧
        ∀ (σ : L2.St) (p : Addr) (H H1 : Hp) (fp : Addr → Prop) (Q : VK), Now H (less H1 fp) H H1 → O.At p H H1 fp S → Sl K H σ (SD.val (.ref p) :: (ds.map .dat ++ List.replicate (N.length - (n + 1)) .unk)) → KM O E p H (less H1 fp) Q S' r → t { nx := fun _ H' => Q .non H', rt := Q } σ H1) :
    FnOk P w K mg base (CXL P w) (k + 1) f fd ps (spM O n R) := by
  refine F.ok S (fun vs H Q E h => by rw [hn]; exact spM_len O h) (fun cdv A outer s H1 vs Q E hr h => ?_)
  obtain ⟨H, p, S0, args, ds, r, S', fp, rfl, e, at_, da, hl, hR, q⟩ := h
  obtain ⟨t, ht, hk⟩ := body cdv A outer s H1 E hr S0 ds r S' hl hR
  refine ⟨t, ht, hk _ p H H1 fp Q ⟨e, Ext.refl _ _, ex_less⟩ at_ ?_ q⟩
  have lv : args.length = n := da.length.trans hl
  have z := sl_start (K := K) (H := H) (N.length - (n + 1)) da
  have e2 : (V.ref p :: args).length = n + 1 := by rw [List.length_cons, lv]
  unfold L2.start
  rw [e2]
  exact .cons rfl z
theorem mx_raise {m nm qual : Str} {st : Stmt} {f : Addr} {fd : FuncData} {N ps : List Str} {k n : Nat} {R : τ → List PyData → Ans → τ → Prop} (F : FunD K nm qual (defArgs st) (defBody st) (defScope st) [] [] f fd) (hm : Meth K C m f) (S : FnScope N ps (defScope st)) (hn : ps.length = n + 1)
    (hb : ∀ (kV doc pm : Value) (an : Option Addr) (cdv ct : Value) (us : List Value), us.length = ps.length → bindArgs (PySem.W.fnOf nm qual (defArgs st) (defBody st) (defScope st) .none kV doc pm an cdv ct) ⟨us, []⟩ = pure (ps.zip us))
    (body : ∀ (cdv : Value) (A : Around) (outer : List Env) (s : Shared) (Hs : Hp) (E : XK), Room k (A.deeper (envOfC qual (defScope st) s.heap.objs.size f cdv)) → ∀ (S : τ) (ds : List PyData) (r : Ans) (S' : τ), ds.length = n → R S ds r S' →
      ∃ t, PSs (cxOf (CXL P w) P w K mg base N qual (defScope st) f cdv A outer s Hs E) (defBody st) t ∧
        ∀ (σ : L2.St) (p : Addr) (H H1 : Hp) (fp : Addr → Prop) (Q : VK), Now H (less H1 fp) H H1 → O.At p H H1 fp S → Sl K H σ (SD.val (.ref p) :: (ds.map .dat ++ List.replicate (N.length - (n + 1)) .unk)) → KM O E p H (less H1 fp) Q S' r → t { nx := fun _ H' => Q .non H', rt := Q } σ H1) :
    Mx P w K C mg base (k + 1) m ps (spM O n R) := ⟨f, fd, fn_meth F S hn body, hm, F.bindsN hb⟩
end
end
/-! ### fields -/
/-- an expression that tells a value and changes nothing -/
def EvV (te : TE) (σ : L2.St) (H : Hp) (v : V) : Prop := ∀ H1, Ex H H1 → ∀ Q : VK, Q v H1 → te σ H1 Q
section
variable {K : PySem.W.Frag} {C dx p : Addr} {H0 H10 H H1 Hx : Hp} {σ : L2.St} {ss : List SD} {i : Nat} {f : Str} {fs : List (Str × V)} {v : V} {d : PyData} {D : Ends} {tv te ty : TE} {tt : TT} {t1 t2 : TS} {b : Bool}
theorem ev_sl (s : Sl K H σ ss) (hi : ss[i]? = some (.val v)) : EvV (tVar i) σ H v := fun _ _ _ q => ⟨v, s.val hi, q⟩
theorem ev_fld (h : EvV te σ H (.ref p)) (hp : H p = some (.ins C dx fs)) (hC : Cls K C) (hn : NoAttr K C f) (hl : fs.lookup f = some v) : EvV (tFld K te f) σ H v := fun H1 e Q q => h H1 e _ ⟨p, C, dx, fs, v, rfl, e p _ hp, hC, hn, hl, q⟩
theorem EvV.ed (h : EvV te σ H v) (hd : Dt K H v d) : EvD K te σ H d := fun H1 e Q q => h H1 e Q (q v H1 H (Ex.refl _) e (Ext.refl _ _) hd)
/-- a heap without one place -/
def del (H : Hp) (p : Addr) : Hp := fun b => if b = p then none else H b
theorem del_same : del H p p = none := if_pos rfl
theorem del_ne {b : Addr} (h : b ≠ p) : del H p b = H b := if_neg h
theorem ex_del : Ex (del H p) H := fun b o h => by
  by_cases c : b = p
  · subst c
    rw [del_same] at h
    cases h
  · rw [del_ne c] at h
    exact h
/-- instances and dicts are no data -/
def NoData : HO → Prop
  | .ins _ _ _ => True
  | .dK _ => True
  | _ => False
theorem nodata_ne {o : HO} {a : Addr} (hp : H p = some o) (nd : NoData o) {xs : List V} (h : H a = some (.lst xs)) : a ≠ p := fun e => by
  subst e
  rw [h] at hp
  cases hp
  exact nd
theorem sqt_del {o : HO} {a : Addr} (hp : H p = some o) (nd : NoData o) {xs : List V} (h : SqT K H a xs) : SqT K (del H p) a xs := by
  rcases h with (h | ⟨ob, h⟩) | h
  · have c : a ≠ p := fun e => by
      subst e
      rw [h] at hp
      cases hp
      exact nd
    exact .inl (.inl (by rw [del_ne c]; exact h))
  · have c : a ≠ p := fun e => by
      subst e
      rw [h] at hp
      cases hp
      exact nd
    exact .inl (.inr ⟨ob, by rw [del_ne c]; exact h⟩)
  · exact .inr h
theorem sql_del {o : HO} {a : Addr} (hp : H p = some o) (nd : NoData o) {xs : List V} (h : SqL K H a xs) : SqL K (del H p) a xs := by
  rcases h with (h | ⟨ob, h⟩) | h
  · have c : a ≠ p := nodata_ne hp nd h
    exact .inl (.inl (by rw [del_ne c]; exact h))
  · have c : a ≠ p := fun e => by
      subst e
      rw [h] at hp
      cases hp
      exact nd
    exact .inl (.inr ⟨ob, by rw [del_ne c]; exact h⟩)
  · exact .inr h
mutual
theorem Dt.del {o : HO} (hp : H p = some o) (nd : NoData o) : ∀ {v : V} {d : PyData}, Dt K H v d → Dt K (del H p) v d
  | _, _, .non => .non
  | _, _, .bl b => .bl b
  | _, _, .int i => .int i
  | _, _, .str x => .str x
  | _, _, .lst h r => .lst (by rw [del_ne (nodata_ne hp nd h)]; exact h) (DtAll.del hp nd r)
  | _, _, .tup h r => .tup (sqt_del hp nd h) (DtAll.del hp nd r)
  | _, _, .scr ns h => .scr ns (sql_del hp nd h)
theorem DtAll.del {o : HO} (hp : H p = some o) (nd : NoData o) : ∀ {vs : List V} {ds : List PyData}, DtAll K H vs ds → DtAll K (del H p) vs ds
  | _, _, .nil => .nil
  | _, _, .cons a b => .cons (Dt.del hp nd a) (DtAll.del hp nd b)
end
/-- knowledge of an object is given up -/
theorem Ext.del {o : HO} (x : Ext (upd H p o) H1 Hx) (hp : H p = none) : Ext H H1 (del Hx p) := by
  refine ⟨fun b u h => ?_, fun b u h => ?_⟩
  · have c : b ≠ p := ne_of_none h hp
    rw [del_ne c]
    exact x.ex b u (by rw [upd_ne c]; exact h)
  · by_cases c : b = p
    · subst c
      rw [del_same] at h
      cases h
    · rw [del_ne c] at h
      rcases x.fresh b u h with z | z
      · rw [upd_ne c] at z
        exact .inl z
      · exact .inr z
/-- a test, with more known than what stays -/
theorem st_ifF (n : Now H0 H10 H H1) (ex : Ex Hx H1) (h : EvB tt σ Hx b) (k1 : b = true → ∀ H2, Ex H1 H2 → Now H0 H10 H H2 → t1 D σ H2) (k2 : b = false → ∀ H2, Ex H1 H2 → Now H0 H10 H H2 → t2 D σ H2) : tIfS tt t1 t2 D σ H1 :=
  h H1 ex _ fun H2 e2 => by
    have n2 : Now H0 H10 H H2 := ⟨n.ex.trans e2, n.ext, n.grow.trans e2⟩
    cases b with
    | true => exact k1 rfl H2 e2 n2
    | false => exact k2 rfl H2 e2 n2
theorem OwnO.ex {o : HO} (w : OwnO H10 H H1 p o) (n : Now H0 H10 H H1) : Ex (upd H p o) H1 := fun b u h => by
  by_cases c : b = p
  · subst c
    rw [upd_same] at h
    cases h
    exact w.at_
  · rw [upd_ne c] at h
    exact n.ex b u h
/-- x.f = e -/
theorem st_fld (n : Now H0 H10 H H1) (s : Sl K H σ ss) (hi : ss[i]? = some (.val (.ref p))) (w : OwnO H10 H H1 p (.ins C dx fs)) (hC : Cls K C) (hn : NoAttr K C f) (hl : fs.length < 1000) (hv : EvD K tv σ (upd H p (.ins C dx fs)) d)
    (k : ∀ v H' H2, Ext H H1 H' → OwnO H10 H' H2 p (.ins C dx (putF f v fs)) → (∀ b u, b ≠ p → H1 b = some u → H2 b = some u) → Dt K H' v d → Now H0 H10 H' H2 → Sl K H' σ ss → D.nx σ H2) : sFld K (tVar i) tv f D σ H1 :=
  hv H1 (w.ex n) _ fun v H2 Hx e2 ex x dv => by
    have hxp : Hx p = some (.ins C dx fs) := x.ex p _ upd_same
    have xd : Ext H H1 (del Hx p) := x.del w.no
    refine ⟨.ref p, s.val hi, p, C, dx, fs, rfl, e2 p _ w.at_, hC, hn, hl, ?_⟩
    refine k v (del Hx p) _ xd ⟨del_same, w.old, upd_same⟩ (fun b u hb h => by rw [upd_ne hb]; exact e2 b u h) (Dt.del hxp trivial dv) ?_ (s.ex xd.ex)
    exact ((n.on e2 (ex_del.trans ex) xd).mut del_same w.old)
/-- x.f += e, whole numbers -/
theorem st_fldAdd {z y : Int} (n : Now H0 H10 H H1) (s : Sl K H σ ss) (hi : ss[i]? = some (.val (.ref p))) (w : OwnO H10 H H1 p (.ins C dx fs)) (hC : Cls K C) (hn : NoAttr K C f) (hl : fs.length < 1000) (hf : fs.lookup f = some (.int z)) {rd : V → V → Hp → VK → Prop} {g : Int → Int → Int} (hr : ∀ Q : VK, ∀ H, Q (.int (g z y)) H → rd (.int z) (.int y) H Q)
    (k : ∀ H2, OwnO H10 H H2 p (.ins C dx (putF f (.int (g z y)) fs)) → (∀ b u, b ≠ p → H1 b = some u → H2 b = some u) → Now H0 H10 H H2 → Sl K H σ ss → D.nx σ H2) : sFldAug K (tVar i) (tC (.int y)) rd f D σ H1 :=
  ⟨.ref p, s.val hi, p, C, dx, fs, .int z, rfl, w.at_, hC, hn, hf, hr _ _ ⟨dx, fs, w.at_, hl, k _ w.to (fun b u hb h => by rw [upd_ne hb]; exact h) (n.mut w.no w.old) s⟩⟩
end
end LR
namespace LR
open PySem PySem.Spec PyProof.Rows L2 Evl L2H LamX
def rIsN0 : R2 := fun x y H Q => y = .non ∧ Q (.bl (decide (x = .non))) H
def rNotN0 : R2 := fun x y H Q => y = .non ∧ Q (.bl (!decide (x = .non))) H
theorem op_isN0 {X : Cx} : OpR X (compareOp .Is) rIsN0 := op_isN
theorem op_notN0 {X : Cx} : OpR X (compareOp .IsNot) rNotN0 := op_notN
theorem eb_notNV {te : TE} {σ : L2.St} {H : Hp} {v : V} (h : EvV te σ H v) : EvB (tTest (tOp rNotN0 te (tC .non))) σ H (!decide (v = .non)) := fun H1 e1 Q q => h H1 e1 _ ⟨rfl, _, rfl, q H1 (Ex.refl _)⟩
section
variable {X : Cx} {K : PySem.W.Frag} {o e value : Expr} {f : Str} {pos pos' tpos : Pos} {ta tv : TE}
theorem pe_fldK (hK : X.K = K) (he : PE X e ta) (hb : attributeBase e f X.env (eval e X.env) = eval e X.env := by rfl) : PE X (.Attribute e f pos) (tFld K ta f) := hK ▸ pe_fld he hb
theorem ps_fldK (hK : X.K = K) (ha : PE X o ta) (hv : PE X value tv) (hs : swapsWith value (some (.Attribute o f pos')) pos.line X.env = pure false := by rfl) : PS X (.Assign [.Attribute o f pos'] value pos) (sFld K ta tv f) := hK ▸ ps_fld ha hv hs
theorem ps_fldaugK {op : Operator} {rd : V → V → Hp → VK → Prop} (hK : X.K = K) (ha : PE X o ta) (hv : PE X value tv) (hop : InOp X op rd) : PS X (.AugAssign (.Attribute o f tpos) op value pos) (sFldAug K ta tv rd f) := hK ▸ ps_fldaug ha hv hop
end
section
variable {K : PySem.W.Frag} {C dx p l : Addr} {H0 H10 H H1 Hx : Hp} {σ : L2.St} {ss : List SD} {i : Nat} {f : Str} {fs : List (Str × V)} {v : V} {d : PyData} {D : Ends} {tv te ty td : TE}
/-- d[k] = v, the dict told by an expression; Hx: what is known besides -/
theorem st_dputV {kvs : List (Key × V)} {k : Key} {kd : PyData} {v : V} (n : Now H0 H10 H H1) (s : Sl K H σ ss) (w : OwnO H10 H H1 l (.dK kvs)) (ht : EvV td σ H (.ref l)) (hz : kvs.length < 100000) (hy : EvD K ty σ H kd) (hk : ∀ H v, Dt K H v kd → v = kV k) (hv : EvD K tv σ H d) (hd : ∀ H u, Dt K H u d → u = v)
    (q : ∀ H' H2, Ext H H1 H' → OwnO H10 H' H2 l (.dK (putK kvs k v)) → (∀ b u, b ≠ l → H1 b = some u → H2 b = some u) → Now H0 H10 H' H2 → Sl K H' σ ss → D.nx σ H2) : sDPut td ty tv D σ H1 :=
  hv H1 n.ex _ fun u H2 Ha e2 ea xa da => ht H2 (xa.ex.trans ea) _ ((hy.mono xa.ex) H2 ea _ fun y H3 Hb e3 eb xb db => by
    have w3 := (w.on xa e2).on xb e3
    refine ⟨l, _, rfl, .inl ⟨kvs, k, w3.at_, hk _ _ db, sz_lt hz, rfl⟩, ?_⟩
    rw [hd _ _ da]
    exact q Hb _ (xa.trans e2 xb) w3.to (fun b u hb hu => by rw [upd_ne hb]; exact e3 b u (e2 b u hu)) (((n.on e2 ea xa).on e3 eb xb).mut w3.no w3.old) ((s.ex xa.ex).ex xb.ex))
/-- l.append(e), the list told by an expression -/
theorem st_appV {ds : List PyData} (n : Now H0 H10 H H1) (s : Sl K H σ ss) (ex : Ex Hx H1) (ht : EvV td σ Hx (.ref l)) (o : Own K H10 H H1 l ds) (hz : ds.length < 100000) (h : EvD K te σ H d)
    (k : ∀ H' H2, Ext H H1 H' → Own K H10 H' H2 l (ds ++ [d]) → (∀ b u, b ≠ l → H1 b = some u → H2 b = some u) → Now H0 H10 H' H2 → Sl K H' σ ss → D.nx σ H2) : tDrop (tBM K "list" rAppend td (tCons te tNil)) D σ H1 := by
  obtain ⟨vs, h1, h2⟩ := o.ex
  refine ht H1 ex _ ⟨Or.inl ⟨rfl, vs, sq_of h1⟩, h H1 n.ex _ fun v H2 H' e2 e x dv => ⟨l, vs, v, rfl, rfl, e2 l _ h1, sz_lt (by rw [h2.length]; exact hz), ?_⟩⟩
  have off := x.off o.no h1
  exact k H' _ x ⟨off, o.old, _, upd_same, (DtAll.ex x.ex h2).append (.cons dv .nil)⟩ (fun b u hb hu => by rw [upd_ne hb]; exact e2 b u hu) ((n.on e2 e x).mut off o.old) (s.ex x.ex)
/-- d.get(k, e) -/
theorem ed_dget2 {kvs : List (Key × V)} {k : Key} {kd z : PyData} {tx : TE} (ht : EvV td σ H (.ref l)) (hl : H l = some (.dK kvs)) (hy : EvD K ty σ H kd) (hk : ∀ H v, Dt K H v kd → v = kV k) (hx : EvD K tx σ H z) (hd : match valV kvs k with | some v => ∀ H, Dt K H v d | none => d = z) : EvD K (tDGet2 td ty tx) σ H d := fun H1 e1 Q q =>
  ht H1 e1 _ ⟨l, rfl, .inl ⟨kvs, .inl (e1 l _ hl)⟩, hy H1 e1 _ fun y H2 Ha e2 ea xa da => (hx.mono xa.ex) H2 ea _ fun u H3 Hb e3 eb xb db => by
    refine ⟨valV kvs k, ?_, ?_⟩
    · rw [hk _ _ da]
      exact DGet.k (((e1.trans e2).trans e3) l _ hl)
    · cases hv : valV kvs k with
      | none =>
        rw [hv] at hd
        have hd' : d = z := hd
        subst hd'
        exact q u H3 Hb (e2.trans e3) eb (xa.trans e2 xb) db
      | some w =>
        rw [hv] at hd
        exact q w H3 Hb (e2.trans e3) eb (xa.trans e2 xb) (hd Hb)⟩
end
end LR
namespace LR
open PySem PySem.Spec PyProof.Rows L2 Evl L2H LamX
section
variable {K : PySem.W.Frag} {σ : L2.St} {H H0 H10 H1 : Hp} {te : TE} {E : XK} {r : Ans} {D : Ends} {ss : List SD} {i : Nat}
/-- e, for what it does: where it raises, the heap has only grown -/
theorem st_doE (n : Now H0 H10 H H1) (s : Sl K H σ ss) (h : EvX K E te σ H r) (ok : ∀ d, r = .ok d → ∀ H' H2, Ext H H1 H' → Ex H1 H2 → Now H0 H10 H' H2 → Sl K H' σ ss → D.nx σ H2) (er : ∀ x, r = .error x → ∀ H2, Ex H1 H2 → E (.ref (gaE K x)) none H2) : tDrop te D σ H1 := by
  refine h H1 n.ex _ ?_
  cases r with
  | ok d => exact fun v H2 H' e2 e x dv => ok d rfl H' H2 x e2 (n.on e2 e x) (s.ex x.ex)
  | error x => exact fun H2 e2 => er x rfl H2 e2
end
end LR
namespace LR
open PySem PySem.Spec PyProof.Rows L2 Evl L2H LamX
section
variable {K : PySem.W.Frag} {C dx p l : Addr} {H0 H10 H H1 Hx : Hp} {σ : L2.St} {ss : List SD} {i : Nat} {f : Str} {fs : List (Str × V)} {d : PyData} {D : Ends} {te : TE} {o : HO}
theorem Sl.del {o : HO} (hp : H p = some o) (nd : NoData o) : ∀ {σ : L2.St} {ss : List SD}, Sl K H σ ss → Sl K (del H p) σ ss
  | _, _, .nil => .nil
  | _, _, .cons (o := ov) (s := sd) a b => .cons (by
      cases ov with
      | none => cases sd <;> exact a
      | some v =>
        cases sd with
        | dat d => exact Dt.del hp nd a
        | val w => exact a
        | unk => trivial) (Sl.del hp nd b)
/-- an object that was known is one's own again -/
theorem Now.thaw (n : Now H0 H10 H H1) (hp : H p = some o) (h0 : H0 p = none) (h10 : H10 p = none) : Now H0 H10 (del H p) H1 ∧ OwnO H10 (del H p) H1 p o := by
  refine ⟨⟨ex_del.trans n.ex, ⟨fun b u h => ?_, fun b u h => ?_⟩, n.grow⟩, del_same, h10, n.ex p _ hp⟩
  · rw [del_ne (ne_of_none h h0)]
    exact n.ext.ex b u h
  · exact n.ext.fresh b u (ex_del b u h)
/-- x = e, e a plain value, with more known than what stays -/
theorem st_asgF (n : Now H0 H10 H H1) (s : Sl K H σ ss) (ex : Ex Hx H1) (h : EvD K te σ Hx d) (hd : ∀ H' v, Dt K H' v d → Dt K H v d) (k : ∀ σ' H2, Ex H1 H2 → Now H0 H10 H H2 → Sl K H σ' (ss.set i (.dat d)) → D.nx σ' H2) : tAsg te (gName i) D σ H1 :=
  h H1 ex _ fun v H2 H' e2 e x dv => k _ H2 e2 ⟨n.ex.trans e2, n.ext, n.grow.trans e2⟩ (s.set (s := .dat d) (o := some v) (hd H' v dv) i)
/-- x.f = [] -/
theorem st_fldNewL (n : Now H0 H10 H H1) (s : Sl K H σ ss) (hi : ss[i]? = some (.val (.ref p))) (w : OwnO H10 H H1 p (.ins C dx fs)) (hC : Cls K C) (hn : NoAttr K C f) (hl : fs.length < 1000)
    (k : ∀ q H2, H1 q = none → OwnO H10 H H2 p (.ins C dx (putF f (.ref q) fs)) → H2 q = some (.lst []) → (∀ b u, b ≠ p → H1 b = some u → H2 b = some u) → Now H0 H10 H H2 → Sl K H σ ss → D.nx σ H2) : sFld K (tVar i) (tLst tNil) f D σ H1 :=
  ⟨by show 0 ≤ sizeLine; exact Nat.zero_le _, fun q hq => by
    have c : p ≠ q := ne_of_none w.at_ hq
    have hp : upd H1 q (.lst []) p = some (.ins C dx fs) := by rw [upd_ne c]; exact w.at_
    refine ⟨.ref p, s.val hi, p, C, dx, fs, rfl, hp, hC, hn, hl, ?_⟩
    refine k q _ hq ⟨w.no, w.old, upd_same⟩ (by rw [upd_ne (Ne.symm c)]; exact upd_same) (fun b u hb h => ?_) ?_ s
    · rw [upd_ne hb, upd_ne (ne_of_none h hq)]
      exact h
    · have n1 : Now H0 H10 H (upd H1 q (.lst [])) := ⟨n.ex.trans (Ex.new hq), n.ext, n.grow.trans (Ex.new hq)⟩
      exact n1.mut w.no w.old⟩
/-- x.f = {} -/
theorem st_fldNewD (n : Now H0 H10 H H1) (s : Sl K H σ ss) (hi : ss[i]? = some (.val (.ref p))) (w : OwnO H10 H H1 p (.ins C dx fs)) (hC : Cls K C) (hn : NoAttr K C f) (hl : fs.length < 1000)
    (k : ∀ q H2, H1 q = none → OwnO H10 H H2 p (.ins C dx (putF f (.ref q) fs)) → H2 q = some (.dK []) → (∀ b u, b ≠ p → H1 b = some u → H2 b = some u) → Now H0 H10 H H2 → Sl K H σ ss → D.nx σ H2) : sFld K (tVar i) tDNewK f D σ H1 :=
  fun q hq => by
    have c : p ≠ q := ne_of_none w.at_ hq
    have hp : upd H1 q (.dK []) p = some (.ins C dx fs) := by rw [upd_ne c]; exact w.at_
    refine ⟨.ref p, s.val hi, p, C, dx, fs, rfl, hp, hC, hn, hl, ?_⟩
    refine k q _ hq ⟨w.no, w.old, upd_same⟩ (by rw [upd_ne (Ne.symm c)]; exact upd_same) (fun b u hb h => ?_) ?_ s
    · rw [upd_ne hb, upd_ne (ne_of_none h hq)]
      exact h
    · have n1 : Now H0 H10 H (upd H1 q (.dK [])) := ⟨n.ex.trans (Ex.new hq), n.ext, n.grow.trans (Ex.new hq)⟩
      exact n1.mut w.no w.old
end
end LR
namespace LR
open PySem PySem.Spec PyProof.Rows L2 Evl L2H LamX
/-! ### objects are made -/
section
variable {K : PySem.W.Frag} {C : Addr} {ms : List Str} {τ : Type} (O : ObjK K C ms τ)
def KNew (E : XK) (p : Addr) (H B : Hp) (Q : VK) : Except Str τ → Prop
  | .ok S => ∀ H2 fp', Ex B H2 → Ex H H2 → O.At p H H2 fp' S → (∀ b, fp' b → B b = none) → Q .non H2
  | .error x => ∀ H2, Ex B H2 → E (.ref (gaE K x)) none H2
def spNew (n : Nat) (R : List PyData → Except Str τ → Prop) : Sp := fun vs H1 Q E => ∃ H p args ds r dx, vs = V.ref p :: args ∧ Ex H H1 ∧ H p = none ∧ H1 p = some (.ins C dx []) ∧ DtAll K H args ds ∧ ds.length = n ∧ R ds r ∧ KNew O E p H (less H1 (· = p)) Q r
theorem spNew_len {n : Nat} {R : List PyData → Except Str τ → Prop} {vs : List V} {H1 : Hp} {Q : VK} {E : XK} (h : spNew O n R vs H1 Q E) : vs.length = n + 1 := by
  obtain ⟨H, p, args, ds, r, dx, rfl, _, _, _, da, hl, _⟩ := h
  rw [List.length_cons, da.length, hl]
variable {O}
variable {P : Program} {w : World} {mg : Str → Option Value} {base : Heap}
/-- __init__ keeps its promise -/
theorem fn_init {nm qual : Str} {st : Stmt} {f : Addr} {fd : FuncData} {N ps : List Str} {k n : Nat} {dvs : List V} {kws : List (Str × V)} {R : List PyData → Except Str τ → Prop} (F : FunD K nm qual (defArgs st) (defBody st) (defScope st) dvs kws f fd) (S : FnScope N ps (defScope st)) (hn : ps.length = n + 1)
    (body : ∀ (cdv : Value) (A : Around) (outer : List Env) (s : Shared) (Hs : Hp) (E : XK), Room k (A.deeper (envOfC qual (defScope st) s.heap.objs.size f cdv)) → ∀ (ds : List PyData) (r : Except Str τ), ds.length = n → R ds r →
      ∃ t, PSs (cxOf (CXL P w) P w K mg base N qual (defScope st) f cdv A outer s Hs E) (defBody st) t ∧
        ∀ (σ : L2.St) (p dx : Addr) (H H1 : Hp) (Q : VK), Now H (less H1 (· = p)) H H1 → OwnO (less H1 (· = p)) H H1 p (.ins C dx []) → Sl K H σ (SD.val (.ref p) :: (ds.map .dat ++ List.replicate (N.length - (n + 1)) .unk)) → KNew O E p H (less H1 (· = p)) Q r → t { nx := fun _ H' => Q .non H', rt := Q } σ H1) :
    FnOk P w K mg base (CXL P w) (k + 1) f fd ps (spNew O n R) := by
  refine F.ok S (fun vs H Q E h => by rw [hn]; exact spNew_len O h) (fun cdv A outer s H1 vs Q E hr h => ?_)
  obtain ⟨H, p, args, ds, r, dx, rfl, e, hp, hp1, da, hl, hR, q⟩ := h
  obtain ⟨t, ht, hk⟩ := body cdv A outer s H1 E hr ds r hl hR
  refine ⟨t, ht, hk _ p dx H H1 Q ⟨e, Ext.refl _ _, ex_less⟩ ⟨hp, less_no rfl, hp1⟩ ?_ q⟩
  have lv : args.length = n := da.length.trans hl
  have z := sl_start (K := K) (H := H) (N.length - (n + 1)) da
  have e2 : (V.ref p :: args).length = n + 1 := by rw [List.length_cons, lv]
  unfold L2.start
  rw [e2]
  exact .cons rfl z
section
variable {H0 H10 H H1 : Hp} {σ : L2.St} {ss : List SD} {ta : TA} {ds : List PyData} {E : XK} {Q : VK} {S : τ} {r : Except Str τ} {R : List PyData → Except Str τ → Prop}
/-- behind the arguments: a new object -/
theorem new_step {n : Nat} {vs : List V} {H2 Ha : Hp} (nw : Now H0 H10 H H1) (e2 : Ex H1 H2) (ea : Ex Ha H2) (xa : Ext H H1 Ha) (da : DtAll K Ha vs ds) (hn : ds.length = n) (hR : R ds r) {x dx : Addr} (hx : H2 x = none) (hdx : H2 dx = none) (hne : dx ≠ x)
    (ok : ∀ S, r = .ok S → ∀ p H' H3 fp', Ext H H1 H' → Ex H1 H3 → Now H0 H10 H' H3 → O.At p H' H3 fp' S → (∀ b, fp' b → H1 b = none) → Q (.ref p) H3)
    (er : ∀ y, r = .error y → ∀ H3, Ex H1 H3 → E (.ref (gaE K y)) none H3) :
    spNew O n R (.ref x :: vs) (upd (upd H2 dx (.own x)) x (.ins C dx [])) (fun v H3 => v = .non ∧ Q (.ref x) H3) E := by
  have hx' : upd H2 dx (.own x) x = none := by rw [upd_ne (Ne.symm hne)]; exact hx
  have e3 : Ex H2 (upd (upd H2 dx (.own x)) x (.ins C dx [])) := (Ex.new hdx).trans (Ex.new hx')
  have e4 : Ex H2 (less (upd (upd H2 dx (.own x)) x (.ins C dx [])) (· = x)) := ex_into e3 fun b hb => by rw [hb]; exact hx
  refine ⟨Ha, x, vs, ds, r, dx, rfl, ea.trans e3, fresh_back ea hx, upd_same, da, hn, hR, ?_⟩
  cases r with
  | ok S =>
    intro H3 fp' u1 u2 at_ nf
    refine ⟨rfl, ok S rfl x Ha H3 fp' xa (e2.trans (e4.trans u1)) ⟨u2, nw.ext.trans nw.grow xa, (nw.grow.trans e2).trans (e4.trans u1)⟩ at_ fun b hb => ?_⟩
    exact fresh_back (e2.trans e4) (nf b hb)
  | error y => exact fun H3 u1 => er y rfl H3 (e2.trans (e4.trans u1))
/-- C(), the defaults fill up -/
theorem tm_new0 {n : Nat} {dvs : List V} (nw : Now H0 H10 H H1) (dd : DtAll K H dvs ds) (hn : ds.length = n) (hR : R ds r)
    (ok : ∀ S, r = .ok S → ∀ p H' H3 fp', Ext H H1 H' → Ex H1 H3 → Now H0 H10 H' H3 → O.At p H' H3 fp' S → (∀ b, fp' b → H1 b = none) → Q (.ref p) H3)
    (er : ∀ y, r = .error y → ∀ H3, Ex H1 H3 → E (.ref (gaE K y)) none H3) : tMake C (spNew O n R) dvs E tNil σ H1 Q :=
  fun x dx hx hdx hne => new_step nw (Ex.refl _) nw.ex (Ext.refl _ _) dd hn hR hx hdx hne ok er
/-- C(k = e) -/
theorem tm_newK {n : Nat} {tk : TA} (nw : Now H0 H10 H H1) (ha : EvDs K tk σ H ds) (hn : ds.length = n) (hR : R ds r)
    (ok : ∀ S, r = .ok S → ∀ p H' H3 fp', Ext H H1 H' → Ex H1 H3 → Now H0 H10 H' H3 → O.At p H' H3 fp' S → (∀ b, fp' b → H1 b = none) → Q (.ref p) H3)
    (er : ∀ y, r = .error y → ∀ H3, Ex H1 H3 → E (.ref (gaE K y)) none H3) : tMakeK C 0 n (spNew O n R) (fun vs zs => vs ++ zs) E tNil tk σ H1 Q :=
  ha H1 nw.ex _ fun vs H2 Ha e2 ea xa da => ⟨rfl, da.length.trans hn, fun x dx hx hdx hne => new_step nw e2 ea xa da hn hR hx hdx hne ok er⟩
end
end
theorem kbn_all {K : PySem.W.Frag} {x qual : Str} {params : Arguments} {body : List Stmt} {scope : Scope} {kws : List (Str × V)} {f : Addr} {fd : FuncData} {ps ks : List Str} {n : Nat} (F : FunD K x qual params body scope [] kws f fd)
    (h : ∀ (kV doc pm : Value) (an : Option Addr) (cdv ct : Value) (us ws : List Value), us.length = n → ws.length = ks.length → bindArgs (PySem.W.fnOf x qual params body scope .none kV doc pm an cdv ct) ⟨us, ks.zip ws⟩ = pure (ps.zip (us ++ ws))) : L2.KBn K fd ps n ks (fun us ws => us ++ ws) (fun vs zs => vs ++ zs) := by
  obtain ⟨oc, od, dV, kV, doc, pm, an, cdv, ct, osl, rfl, lk, hcd, hD, hK⟩ := F.ex
  rcases hD with ⟨_, rfl⟩ | ⟨e, _⟩
  · exact ⟨fun s us ws _ l1 l2 => .of_eq (h kV doc pm an cdv ct us ws l1 l2), fun r1 r2 => r1.append r2⟩
  · exact absurd rfl e
end LR

/-! ### sets of whole numbers, sorted; list(dict), set(dict), sets put together (own work) -/
namespace LR
open PySem PySem.Spec PyProof.Rows L2 Evl
theorem risI_of {l : List Int} (h : l.Pairwise (· ≤ ·)) (nd : l.Nodup) : l.Pairwise fun a b => ltI a b = true := by
  have := h.and nd
  exact this.imp fun ⟨h1, h2⟩ => decide_eq_true (by omega)
section
variable {X : Cx}
/-- sorted(a set of whole numbers) -/
def rSortKI (P : Program) (w : World) : List V → Hp → VK → Prop := fun xs H Q => ∃ (a : Addr) (zs : List Int) (n : Nat), xs = [.ref a] ∧ H a = some (KSO P w a (inK (zs.map .inl)) n) ∧ ∀ p, H p = none → Q (.ref p) (upd H p (.lst ((usort ltI zs).map V.int)))
theorem cr_sortKI (hc : X.calm = true) : CallR X (.builtin "sorted") (rSortKI X.prog X.w) := by
  intro pins s σ H vs us Q I r h
  obtain ⟨a, zs, n, rfl, ha, q⟩ := h
  obtain ⟨ob, rows, ep, tb, ho, hex, hd, g, nd, hm, hb, hf, hn, hr, hl⟩ := kso_get I ha
  rw [Vals.ref1 r]
  refine Calls.call_function_entry kind_sorted plain_sorted entry_sorted (args_sorted1 _) ?_
  unfold Builtin.«sorted»
  refine wpAny_bind (m := checkCount "sorted" 1 1 _) (wpAny_pure (wpAny_bind (collect_set (A := X.A.in1) (I.ok.hd hc) ⟨ob, ho, hex.1, hd⟩ hf hb hr hl fun s1 vs k1 hz g1 o1 pm => ?_)))
  have row : ∀ r ∈ rows.toList, ∃ x t, r.2 = Value.int x t ∧ keyE r = .inl x := fun r hr => by
    obtain ⟨k, h1, _⟩ := g r hr
    have e := keyE_of h1
    have hk : k ∈ zs.map Sum.inl := inK_iff.mp ((hm k).mpr (e ▸ List.mem_map_of_mem hr))
    obtain ⟨x, _, rfl⟩ := List.mem_map.mp hk
    obtain ⟨t, ht⟩ := (show ∃ t, r.2 = Value.int x t from h1)
    exact ⟨x, t, ht, e⟩
  have hI : IntsAre vs (vs.map SrtO.iv) := SrtO.ints_iv fun v hv => by
    obtain ⟨r, hr, e⟩ := List.mem_map.mp (pm.mem_iff.mp hv)
    obtain ⟨x, t, h1, _⟩ := row r hr
    exact ⟨x, t, by rw [← e]; exact h1⟩
  have pk : ((vs.map SrtO.iv).map Sum.inl : List Key).Perm (rows.toList.map keyE) := by
    have y := (pm.map SrtO.iv).map (Sum.inl : Int → Key)
    have e : ((rows.toList.map (·.2)).map SrtO.iv).map (Sum.inl : Int → Key) = rows.toList.map keyE := by
      rw [List.map_map, List.map_map]
      refine List.map_congr_left fun r hr => ?_
      obtain ⟨x, t, h1, h2⟩ := row r hr
      rw [h2]
      show Sum.inl (SrtO.iv r.2) = Sum.inl x
      rw [h1]
      rfl
    rw [← e]
    exact y
  have hvl : vs.length = rows.size := by
    have y := pm.length_eq
    simpa using y
  have hvz : vs.length ≤ sizeLine := hvl ▸ fits_of_scanBound hb
  refine wpAny_bind (wpAny_newList ?_ hvz)
  have hoL : (s1.heap.push (seqObj "list" vs.toArray 0)).get? s1.heap.objs.size = some (seqObj "list" vs.toArray 0) := Heap.get?_push_size _ rfl
  refine wpAny_bind (wpAny_holding (wpAny_call_entry slot_list_sort ⟨_, hoL, rfl⟩ entry_list_sort (list_sort_treeKAny intKind_oneLt hoL hI.keysOfInt (fun v₁ v₂ rest e => keyKind_ints (by rw [← e]; exact hI)) hvz fun st' hp hs => ?_) (args_list_sort _)))
  obtain ⟨ys, y1, y2, y3⟩ := sorted_out hI hp (sortedTo_of_int hs)
  have inj : ∀ {x y : Int}, (Sum.inl x : Key) = Sum.inl y → x = y := fun h => Sum.inl.inj h
  have nd2 : (vs.map SrtO.iv).Nodup := by
    have z := pk.nodup_iff.mpr nd
    exact (List.pairwise_map.mp z).imp fun h e => h (congrArg _ e)
  have same : ys = usort ltI zs := by
    refine ris_eq tot_ltI (risI_of y3 (y2.nodup_iff.mpr nd2)) (ris_usort tot_ltI _) fun z => ?_
    rw [y2.mem_iff, mem_usort tot_ltI]
    constructor
    · intro hz
      have h1 : (Sum.inl z : Key) ∈ zs.map Sum.inl := inK_iff.mp ((hm _).mpr (pk.mem_iff.mp (List.mem_map_of_mem hz)))
      obtain ⟨z', hz', e⟩ := List.mem_map.mp h1
      rw [← inj e]
      exact hz'
    · intro hz
      have h1 : (Sum.inl z : Key) ∈ (vs.map SrtO.iv).map Sum.inl := pk.mem_iff.mpr ((hm _).mp (inK_iff.mpr (List.mem_map_of_mem hz)))
      obtain ⟨z', hz', e⟩ := List.mem_map.mp h1
      rw [← inj e]
      exact hz'
  subst same
  obtain ⟨c, hc'⟩ := sortedHeap_at (vs := vs) (out := (arrOf st').map (·.2)) hoL
  have hlen : ((usort ltI zs).map V.int).length ≤ sizeLine := by
    rw [List.length_map, y2.length_eq, List.length_map]
    exact hvz
  have kp : ∀ b u, s.heap.get? b = some u → (sortedHeap (s1.heap.push (seqObj "list" vs.toArray 0)) s1.heap.objs.size vs ((arrOf st').map (·.2))).get? b = some u := fun b u e => by
    have y := k1 b u e
    have lt := Heap.lt_size y
    rw [sortedHeap_old (Nat.ne_of_lt lt) (by rw [Heap.size_push]; exact Nat.lt_succ_of_lt lt)]
    exact Heap.get?_push_of_some _ y
  have hn' : H s1.heap.objs.size = none := I.hok.fresh hz
  refine ⟨.none, rfl, wpAny_pure ⟨_, rfl, ?_⟩⟩
  have J : Inv X pins σ (upd H s1.heap.objs.size (.lst ((usort ltI zs).map V.int))) { s with heap := sortedHeap (s1.heap.push (seqObj "list" vs.toArray 0)) s1.heap.objs.size vs ((arrOf st').map (·.2)), gens := s1.gens, drawn := s1.drawn, toks := s1.toks } :=
    I.call (ch := []) (Un.laid kp hz hn') (I.hok.laid kp hz ⟨hlen, ((arrOf st').map (·.2)).toList, c, vals_of_ints y1, by rw [Array.toArray_toList]; exact hc'⟩) (by rw [g1]; exact I.bare) (fun _ z => nomatch z)
  have e : ({ s1 with heap := sortedHeap (s1.heap.push (seqObj "list" vs.toArray 0)) s1.heap.objs.size vs ((arrOf st').map (·.2)) } : Shared) = { s with heap := sortedHeap (s1.heap.push (seqObj "list" vs.toArray 0)) s1.heap.objs.size vs ((arrOf st').map (·.2)), gens := s1.gens, drawn := s1.drawn, toks := s1.toks } := by
    cases s1
    cases s
    cases o1
    rfl
  show EP X pins σ Q _ ({ s1 with heap := sortedHeap (s1.heap.push (seqObj "list" vs.toArray 0)) s1.heap.objs.size vs ((arrOf st').map (·.2)) } : Shared)
  rw [e]
  exact ⟨.ref _, _, J, rfl, q _ hn'⟩
end
end LR

/-! ### EV: a plain evaluator, and how the heap follows it (own work) -/
namespace EV
open PySem PySem.Spec PyProof.Rows L2 Evl L2H LamX LR
/-- what a slot or a field holds -/
inductive Val where
  | dat (d : PyData)
  | obj (i : Nat)
  | ownL (ds : List PyData)
  | ownD (kvs : List (Key × PyData))
/-- what stands in the store: an instance, or a list or dict that is handed on -/
inductive Ob where
  | ins (C : Str) (fs : List (Str × Val))
  | box (v : Val)
structure Sg where
  sl : List (Option Val)
  st : List Ob
inductive Owner where
  | ob (i : Nat)
  | slot (j : Nat)
  | fld (i : Nat) (f : Str)
  deriving DecidableEq
/-- what an expression tells: data, an object, or the place of a list or dict -/
inductive Rv where
  | dat (d : PyData)
  | at_ (o : Owner)
structure Fr where
  H0 : Hp
  B : Hp
  a0 : Nat → Option Addr
abbrev Al := Owner → Option Addr
/-- the lambdas' tables; whether objects may change -/
structure TbS where
  fl : Bool
  l : List (Addr × Str)
def KvR (K : PySem.W.Frag) (H : Hp) (ws : List (Key × V)) (kvs : List (Key × PyData)) : Prop := ws.map (·.1) = kvs.map (·.1) ∧ DtAll K H (ws.map (·.2)) (kvs.map (·.2))
/-- the content of a list or a dict at a -/
def CoR (K : PySem.W.Frag) (H H1 : Hp) (a : Addr) : Val → Prop
  | .ownL ds => ∃ vs, H1 a = some (.lst vs) ∧ DtAll K H vs ds
  | .ownD kvs => ∃ ws, H1 a = some (.dK ws) ∧ KvR K H ws kvs
  | _ => False
def VR (K : PySem.W.Frag) (α : Al) (H H1 : Hp) (o : Owner) (u : V) : Val → Prop
  | .dat d => Dt K H u d
  | .obj i => ∃ a, u = .ref a ∧ α (.ob i) = some a
  | .ownL ds => ∃ a, u = .ref a ∧ α o = some a ∧ CoR K H H1 a (.ownL ds)
  | .ownD kvs => ∃ a, u = .ref a ∧ α o = some a ∧ CoR K H H1 a (.ownD kvs)
def FsR (K : PySem.W.Frag) (α : Al) (H H1 : Hp) (i : Nat) (us : List (Str × V)) (fs : List (Str × Val)) : Prop := us.map (·.1) = fs.map (·.1) ∧ ∀ f v, fs.lookup f = some v → ∃ u, us.lookup f = some u ∧ VR K α H H1 (.fld i f) u v
/-- the classes: which fields they may have -/
abbrev Fl := Str → List Str
structure ClsOk (K : PySem.W.Frag) (FL : Fl) (C : Str) : Prop where
  cls : Cls K (gaE K C)
  no : ∀ f ∈ FL C, NoAttr K (gaE K C) f
def ObR (K : PySem.W.Frag) (FL : Fl) (α : Al) (H H1 : Hp) (i : Nat) (a : Addr) : Ob → Prop
  | .ins C fs => ClsOk K FL C ∧ ∃ dx us, H1 a = some (.ins (gaE K C) dx us) ∧ FsR K α H H1 i us fs
  | .box v => CoR K H H1 a v
/-- the store's part -/
structure RelS (K : PySem.W.Frag) (FL : Fl) (T : TbS) (α : Al) (H H1 : Hp) (st : List Ob) : Prop where
  ex : Ex H H1
  nt : T.fl = true → NT H
  tb : Tabs T.l H1
  inj : ∀ o o' a, α o = some a → α o' = some a → o = o'
  off : ∀ o a, α o = some a → H a = none
  pl : ∀ o a, α o = some a → ∃ u, H1 a = some u ∧ PlainO u
  sto : ∀ i o, st[i]? = some o → ∃ a, α (.ob i) = some a ∧ ObR K FL α H H1 i a o
  dom : ∀ i, st.length ≤ i → α (.ob i) = none
structure Rel (K : PySem.W.Frag) (FL : Fl) (T : TbS) (F : Fr) (α : Al) (H H1 : Hp) (σ : L2.St) (g : Sg) : Prop extends RelS K FL T α H H1 g.st where
  ext : Ext F.H0 F.B H
  gro : Ex F.B H1
  ntB : T.fl = true → NT F.B
  offB : ∀ o a, α o = some a → F.B a = none
  old : ∀ i a, F.a0 i = some a → α (.ob i) = some a
  len : σ.length = g.sl.length
  slt : ∀ j v, g.sl[j]? = some (some v) → ∃ u, σ[j]? = some (some u) ∧ VR K α H H1 (.slot j) u v
section
variable {K : PySem.W.Frag} {FL : Fl} {T : TbS} {F : Fr} {α α' : Al} {H H1 H' H2 : Hp} {σ : L2.St} {g : Sg}
theorem KvR.ex {ws : List (Key × V)} {kvs : List (Key × PyData)} (h : KvR K H ws kvs) (e : Ex H H') : KvR K H' ws kvs := ⟨h.1, DtAll.ex e h.2⟩
theorem CoR.ex {a : Addr} {v : Val} (h : CoR K H H1 a v) (e : Ex H H') (k : ∀ u, H1 a = some u → H2 a = some u) : CoR K H' H2 a v := by
  cases v with
  | dat d => exact h
  | obj i => exact h
  | ownL ds => obtain ⟨vs, h1, h2⟩ := h; exact ⟨vs, k _ h1, DtAll.ex e h2⟩
  | ownD kvs => obtain ⟨ws, h1, h2⟩ := h; exact ⟨ws, k _ h1, h2.ex e⟩
theorem VR.ex {o : Owner} {u : V} {v : Val} (h : VR K α H H1 o u v) (e : Ex H H') (ha : ∀ i a, α (.ob i) = some a → α' (.ob i) = some a) (hk : ∀ a, α o = some a → α' o = some a ∧ ∀ u, H1 a = some u → H2 a = some u) : VR K α' H' H2 o u v := by
  cases v with
  | dat d => exact Dt.ex e h
  | obj i => obtain ⟨a, h1, h2⟩ := h; exact ⟨a, h1, ha _ _ h2⟩
  | ownL ds => obtain ⟨a, h1, h2, h3⟩ := h; obtain ⟨k1, k2⟩ := hk a h2; exact ⟨a, h1, k1, h3.ex e k2⟩
  | ownD ds => obtain ⟨a, h1, h2, h3⟩ := h; obtain ⟨k1, k2⟩ := hk a h2; exact ⟨a, h1, k1, h3.ex e k2⟩
theorem FsR.ex {i : Nat} {us : List (Str × V)} {fs : List (Str × Val)} (h : FsR K α H H1 i us fs) (e : Ex H H') (ha : ∀ j a, α (.ob j) = some a → α' (.ob j) = some a) (hk : ∀ f a, α (.fld i f) = some a → α' (.fld i f) = some a ∧ ∀ u, H1 a = some u → H2 a = some u) : FsR K α' H' H2 i us fs :=
  ⟨h.1, fun f v hl => by
    obtain ⟨u, h1, h2⟩ := h.2 f v hl
    exact ⟨u, h1, h2.ex e ha fun a h => hk f a h⟩⟩
theorem ObR.ex {i : Nat} {a : Addr} {o : Ob} (h : ObR K FL α H H1 i a o) (e : Ex H H') (ha : ∀ j a, α (.ob j) = some a → α' (.ob j) = some a) (hk : ∀ f a, α (.fld i f) = some a → α' (.fld i f) = some a ∧ ∀ u, H1 a = some u → H2 a = some u) (h0 : ∀ u, H1 a = some u → H2 a = some u) : ObR K FL α' H' H2 i a o := by
  cases o with
  | ins C fs => obtain ⟨c, dx, us, h1, h2⟩ := h; exact ⟨c, dx, us, h0 _ h1, h2.ex e ha hk⟩
  | box v => exact CoR.ex h e h0
theorem RelS.grow {st : List Ob} (r : RelS K FL T α H H1 st) (e2 : Ex H1 H2) (e : Ex H' H2) (x : Ext H H1 H') : RelS K FL T α H' H2 st where
  ex := e
  nt := fun hT b ps h => by
    rcases x.fresh b _ h with z | z
    · exact r.nt hT b ps z
    · exact z.2 ps rfl
  tb := r.tb.ext e2
  inj := r.inj
  off := fun o a h => by
    obtain ⟨u, hu, _⟩ := r.pl o a h
    exact x.off (r.off o a h) hu
  pl := fun o a h => by
    obtain ⟨u, hu, p⟩ := r.pl o a h
    exact ⟨u, e2 _ _ hu, p⟩
  sto := fun i o h => by
    obtain ⟨a, h1, h2⟩ := r.sto i o h
    exact ⟨a, h1, h2.ex x.ex (fun _ _ z => z) (fun f b z => ⟨z, fun u hu => e2 _ _ hu⟩) fun u hu => e2 _ _ hu⟩
  dom := r.dom
theorem Rel.grow (r : Rel K FL T F α H H1 σ g) (e2 : Ex H1 H2) (e : Ex H' H2) (x : Ext H H1 H') : Rel K FL T F α H' H2 σ g where
  toRelS := r.toRelS.grow e2 e x
  ext := r.ext.trans r.gro x
  gro := r.gro.trans e2
  ntB := r.ntB
  offB := r.offB
  old := r.old
  len := r.len
  slt := fun j v h => by
    obtain ⟨u, h1, h2⟩ := r.slt j v h
    exact ⟨u, h1, h2.ex x.ex (fun _ _ z => z) fun a z => ⟨z, fun u hu => e2 _ _ hu⟩⟩
def Sg.set (g : Sg) (j : Nat) (v : Val) : Sg := ⟨g.sl.set j (some v), g.st⟩
def Sg.clr (g : Sg) (j : Nat) : Sg := ⟨g.sl.set j none, g.st⟩
theorem set_get {α : Type} {l : List α} {j k : Nat} {x y : α} (h : (l.set j x)[k]? = some y) : (k = j ∧ y = x) ∨ (k ≠ j ∧ l[k]? = some y) := by
  by_cases c : k = j
  · subst c
    have hk : k < (l.set k x).length := (List.getElem?_eq_some_iff.mp h).1
    rw [List.getElem?_set_self (by simpa using hk)] at h
    cases h
    exact .inl ⟨rfl, rfl⟩
  · rw [List.getElem?_set_ne (Ne.symm c)] at h
    exact .inr ⟨c, h⟩
/-- data in a slot -/
theorem Rel.set (r : Rel K FL T F α H H1 σ g) {u : V} {v : Val} (j : Nat) (h : VR K α H H1 (.slot j) u v) : Rel K FL T F α H H1 (σ.set j (some u)) (g.set j v) where
  toRelS := r.toRelS
  ext := r.ext
  gro := r.gro
  ntB := r.ntB
  offB := r.offB
  old := r.old
  len := by simp [Sg.set, r.len]
  slt := fun k w hk => by
    rcases set_get hk with ⟨rfl, e⟩ | ⟨c, e⟩
    · cases e
      have hlt : k < σ.length := by
        rw [r.len]
        have := (List.getElem?_eq_some_iff.mp hk).1
        simpa [Sg.set] using this
      exact ⟨u, by rw [List.getElem?_set_self hlt], h⟩
    · obtain ⟨u', h1, h2⟩ := r.slt k w e
      exact ⟨u', by rw [List.getElem?_set_ne (Ne.symm c)]; exact h1, h2⟩
theorem Rel.clr (r : Rel K FL T F α H H1 σ g) (j : Nat) : Rel K FL T F α H H1 (σ.set j none) (g.clr j) where
  toRelS := r.toRelS
  ext := r.ext
  gro := r.gro
  ntB := r.ntB
  offB := r.offB
  old := r.old
  len := by simp [Sg.clr, r.len]
  slt := fun k w hk => by
    rcases set_get hk with ⟨rfl, e⟩ | ⟨c, e⟩
    · cases e
    · obtain ⟨u', h1, h2⟩ := r.slt k w e
      exact ⟨u', by rw [List.getElem?_set_ne (Ne.symm c)]; exact h1, h2⟩
theorem Rel.now (r : Rel K FL T F α H H1 σ g) : Now F.H0 F.B H H1 := ⟨r.ex, r.ext, r.gro⟩
end
/-! ### pure expressions -/
abbrev PM := Sg → Option PyData
abbrev PB := Sg → Option Bool
abbrev PMs := Sg → Option (List PyData)
section
variable (K : PySem.W.Frag) (FL : Fl) (T : TbS)
def SimP (te : TE) (p : PM) : Prop := ∀ (F : Fr) (α : Al) (H H1 : Hp) (σ : L2.St) (g : Sg) (d : PyData), Rel K FL T F α H H1 σ g → p g = some d → ∀ Q : VK, KD K H H1 d Q → te σ H1 Q
def SimPB (tt : TT) (p : PB) : Prop := ∀ (F : Fr) (α : Al) (H H1 : Hp) (σ : L2.St) (g : Sg) (b : Bool), Rel K FL T F α H H1 σ g → p g = some b → ∀ Q : Bool → Hp → Prop, (∀ H2, Ex H1 H2 → Q b H2) → tt σ H1 Q
def SimPs (ta : TA) (p : PMs) : Prop := ∀ (F : Fr) (α : Al) (H H1 : Hp) (σ : L2.St) (g : Sg) (ds : List PyData), Rel K FL T F α H H1 σ g → p g = some ds → ∀ Q : List V → Hp → Prop, (∀ vs H2 H', Ex H1 H2 → Ex H' H2 → Ext H H1 H' → DtAll K H' vs ds → Q vs H2) → ta σ H1 Q
end
section
variable {K : PySem.W.Frag} {FL : Fl} {T : TbS} {ta tb tc te : TE} {tt tu : TT} {pa pb pc : PM} {qa qb : PB} {tA tr : TA} {ps pr : PMs}
theorem Rel.same {F : Fr} {α : Al} {H H1 H2 : Hp} {σ : L2.St} {g : Sg} (r : Rel K FL T F α H H1 σ g) (e2 : Ex H1 H2) : Rel K FL T F α H H2 σ g := r.grow e2 (r.ex.trans e2) (Ext.refl _ _)
/-- a name -/
def pVar (j : Nat) : PM := fun g => match g.sl[j]? with
  | some (some (.dat d)) => some d
  | _ => none
theorem sp_var {j : Nat} : SimP K FL T (tVar j) (pVar j) := fun F α H H1 σ g d r h Q q => by
  unfold pVar at h
  split at h
  · rename_i d' hd
    cases h
    obtain ⟨u, h1, h2⟩ := r.slt j _ hd
    exact ⟨u, h1, KD.now q r.ex h2⟩
  · cases h
def pC (d : PyData) : PM := fun _ => some d
theorem sp_c {v : V} {d : PyData} (h : ∀ H, Dt K H v d) : SimP K FL T (tC v) (pC d) := fun F α H H1 σ g d' r h' Q q => by
  cases h'
  exact KD.now q r.ex (h H)
theorem sp_int {i : Int} : SimP K FL T (tC (.int i)) (pC (.int i)) := sp_c fun _ => .int i
theorem sp_str {x : Str} : SimP K FL T (tC (.str x)) (pC (.str x)) := sp_c fun _ => .str x
theorem sp_bl {b : Bool} : SimP K FL T (tC (.bl b)) (pC (.bool b)) := sp_c fun _ => .bl b
theorem sp_non : SimP K FL T (tC .non) (pC .none) := sp_c fun _ => .non
/-- an operator -/
def pOp (f : PyData → PyData → Option PyData) (a b : PM) : PM := fun g => (a g).bind fun d => (b g).bind fun e => f d e
def OpD (K : PySem.W.Frag) (r : R2) (f : PyData → PyData → Option PyData) : Prop := ∀ d e z, f d e = some z → ∀ H, RD2 K r d e H z
theorem bind_some {α β : Type} {o : Option α} {f : α → Option β} {z : β} (h : o.bind f = some z) : ∃ x, o = some x ∧ f x = some z := by
  cases o with
  | none => cases h
  | some x => exact ⟨x, rfl, h⟩
theorem sp_op {r : R2} {f : PyData → PyData → Option PyData} (hf : OpD K r f) (ha : SimP K FL T ta pa) (hb : SimP K FL T tb pb) : SimP K FL T (tOp r ta tb) (pOp f pa pb) := fun F α H H1 σ g z R h Q q => by
  obtain ⟨d, h1, h⟩ := bind_some h
  obtain ⟨e, h2, h3⟩ := bind_some h
  exact ha F α H H1 σ g d R h1 _ fun x H2 Ha e2 ea xa da => hb F α Ha H2 σ g e (R.grow e2 ea xa) h2 _ fun y H3 Hb e3 eb xb db =>
    hf d e z h3 Hb Hb x y (Ex.refl _) (Dt.ex xb.ex da) db H3 eb Q fun v H4 Hc e4 ec xc dc => q v H4 Hc ((e2.trans e3).trans e4) ec ((xa.trans e2 xb).trans (e2.trans e3) xc) dc
def pUn (f : PyData → Option PyData) (a : PM) : PM := fun g => (a g).bind f
theorem sp_un {r : V → Hp → VK → Prop} {f : PyData → Option PyData} (hf : ∀ d z, f d = some z → ∀ H, RDU K r d H z) (ha : SimP K FL T ta pa) : SimP K FL T (tUn r ta) (pUn f pa) := fun F α H H1 σ g z R h Q q => by
  obtain ⟨d, h1, h2⟩ := bind_some h
  exact ha F α H H1 σ g d R h1 _ fun x H2 Ha e2 ea xa da => hf d z h2 Ha Ha x (Ex.refl _) da H2 ea Q fun v H4 Hc e4 ec xc dc => q v H4 Hc (e2.trans e4) ec (xa.trans e2 xc) dc
/-! arguments -/
def pNil : PMs := fun _ => some []
def pCons (a : PM) (r : PMs) : PMs := fun g => (a g).bind fun d => (r g).bind fun ds => some (d :: ds)
theorem sps_nil : SimPs K FL T tNil pNil := fun F α H H1 σ g ds R h Q q => by
  cases h
  exact q [] H1 H (Ex.refl _) R.ex (Ext.refl _ _) .nil
theorem sps_cons (ha : SimP K FL T ta pa) (hr : SimPs K FL T tr pr) : SimPs K FL T (tCons ta tr) (pCons pa pr) := fun F α H H1 σ g z R h Q q => by
  obtain ⟨d, h1, h⟩ := bind_some h
  obtain ⟨ds, h2, h3⟩ := bind_some h
  cases h3
  exact ha F α H H1 σ g d R h1 _ fun x H2 Ha e2 ea xa da => hr F α Ha H2 σ g ds (R.grow e2 ea xa) h2 _ fun ys H3 Hb e3 eb xb db => q (x :: ys) H3 Hb (e2.trans e3) eb (xa.trans e2 xb) (.cons (Dt.ex xb.ex da) db)
/-- a built-in of data -/
def pCB (f : List PyData → Option PyData) (a : PMs) : PM := fun g => (a g).bind f
def CbD (K : PySem.W.Frag) (r : List V → Hp → VK → Prop) (f : List PyData → Option PyData) : Prop := ∀ ds z, f ds = some z → ∀ H, RDC K r ds H z
theorem sp_cb {r : List V → Hp → VK → Prop} {f : List PyData → Option PyData} (hf : CbD K r f) (ha : SimPs K FL T tA ps) : SimP K FL T (tCB r tA) (pCB f ps) := fun F α H H1 σ g z R h Q q => by
  obtain ⟨d, h1, h2⟩ := bind_some h
  exact ha F α H H1 σ g d R h1 _ fun x H2 Ha e2 ea xa da => hf d z h2 Ha Ha x (Ex.refl _) da H2 ea Q fun v H4 Hc e4 ec xc dc => q v H4 Hc (e2.trans e4) ec (xa.trans e2 xc) dc
def pTup (a : PMs) : PM := fun g => (a g).bind fun ds => if ds.length ≤ 100000 then some (.tuple ds) else none
def pLst (a : PMs) : PM := fun g => (a g).bind fun ds => if ds.length ≤ 100000 then some (.list ds) else none
theorem ite_some {α : Type} {c : Prop} [Decidable c] {x : α} {z : α} (h : (if c then some x else none) = some z) : c ∧ x = z := by
  split at h
  · rename_i hc; cases h; exact ⟨hc, rfl⟩
  · cases h
theorem sp_tup (ha : SimPs K FL T tA ps) : SimP K FL T (tTup tA) (pTup ps) := fun F α H H1 σ g z R h Q q => by
  obtain ⟨ds, h1, h2⟩ := bind_some h
  obtain ⟨hl, rfl⟩ := ite_some h2
  exact ha F α H H1 σ g ds R h1 _ fun xs H2 Ha e2 ea xa da => ⟨by rw [da.length]; exact sz_of hl, fun p hp => q _ _ (upd Ha p (.tup xs)) (e2.trans (Ex.new hp)) (ex_upd ea) (xa.trans e2 (Ext.new ea hp)) (.tup (st_of upd_same) (DtAll.ex (Ex.new (fresh_back ea hp)) da))⟩
theorem sp_lst (ha : SimPs K FL T tA ps) : SimP K FL T (tLst tA) (pLst ps) := fun F α H H1 σ g z R h Q q => by
  obtain ⟨ds, h1, h2⟩ := bind_some h
  obtain ⟨hl, rfl⟩ := ite_some h2
  exact ha F α H H1 σ g ds R h1 _ fun xs H2 Ha e2 ea xa da => ⟨by rw [da.length]; exact sz_of hl, fun p hp => q _ _ (upd Ha p (.lst xs)) (e2.trans (Ex.new hp)) (ex_upd ea) (xa.trans e2 (Ext.new ea hp)) (.lst upd_same (DtAll.ex (Ex.new (fresh_back ea hp)) da))⟩
/-! tests -/
def pTst (a : PM) : PB := fun g => (a g).bind fun d => match d with
  | .bool b => some b
  | _ => none
theorem tst_some {d : PyData} {b : Bool} (h : (match d with | .bool b => some b | _ => none) = some b) : d = .bool b := by
  cases d <;> simp at h
  rw [h]
theorem sb_test (h : SimP K FL T te pa) : SimPB K FL T (tTest te) (pTst pa) := fun F α H H1 σ g b R hb Q q => by
  obtain ⟨d, h1, h2⟩ := bind_some hb
  have e := tst_some h2
  subst e
  exact h F α H H1 σ g _ R h1 _ fun v H2 _ e2 _ _ dv => ⟨b, dv.bl_eq, q H2 e2⟩
theorem sb_B (h : SimP K FL T te pa) : SimPB K FL T (tB te) (pTst pa) := fun F α H H1 σ g b R hb Q q => by
  obtain ⟨d, h1, h2⟩ := bind_some hb
  have e := tst_some h2
  subst e
  exact h F α H H1 σ g _ R h1 _ fun v H2 _ e2 _ _ dv => ⟨b, dv.bl_eq, q H2 e2⟩
def bAnd (a b : PB) : PB := fun g => (a g).bind fun x => if x = true then b g else some false
def bOr (a b : PB) : PB := fun g => (a g).bind fun x => if x = true then some true else b g
def bNot (a : PB) : PB := fun g => (a g).bind fun x => some (!x)
theorem sb_and (h1 : SimPB K FL T tt qa) (h2 : SimPB K FL T tu qb) : SimPB K FL T (tAnd tt tu) (bAnd qa qb) := fun F α H H1 σ g b R hb Q q => by
  obtain ⟨x, k1, k2⟩ := bind_some hb
  refine h1 F α H H1 σ g x R k1 _ fun H2 e2 => ?_
  cases x with
  | true => exact h2 F α H H2 σ g b (R.same e2) k2 _ fun H3 e3 => q H3 (e2.trans e3)
  | false => cases k2; exact q H2 e2
theorem sb_or (h1 : SimPB K FL T tt qa) (h2 : SimPB K FL T tu qb) : SimPB K FL T (tOr tt tu) (bOr qa qb) := fun F α H H1 σ g b R hb Q q => by
  obtain ⟨x, k1, k2⟩ := bind_some hb
  refine h1 F α H H1 σ g x R k1 _ fun H2 e2 => ?_
  cases x with
  | false => exact h2 F α H H2 σ g b (R.same e2) k2 _ fun H3 e3 => q H3 (e2.trans e3)
  | true => cases k2; exact q H2 e2
theorem sb_not (h1 : SimPB K FL T tt qa) : SimPB K FL T (tNot tt) (bNot qa) := fun F α H H1 σ g b R hb Q q => by
  obtain ⟨x, k1, k2⟩ := bind_some hb
  cases k2
  exact h1 F α H H1 σ g x R k1 _ fun H2 e2 => q H2 e2
/-! and, or, not as values; the conditional -/
def asB (d : PyData) : Option Bool := match d with
  | .bool b => some b
  | _ => none
theorem asB_some {d : PyData} {b : Bool} (h : asB d = some b) : d = .bool b := tst_some h
def pAnd (a b : PM) : PM := fun g => (a g).bind fun d => (asB d).bind fun x => if x = true then b g else some (.bool false)
def pOr (a b : PM) : PM := fun g => (a g).bind fun d => (asB d).bind fun x => if x = true then some (.bool true) else b g
def pNot (a : PM) : PM := fun g => (a g).bind fun d => (asB d).bind fun x => some (.bool (!x))
theorem sp_and (ha : SimP K FL T ta pa) (hb : SimP K FL T tb pb) : SimP K FL T (tAndV ta tb) (pAnd pa pb) := fun F α H H1 σ g z R h Q q => by
  obtain ⟨d, h1, h⟩ := bind_some h
  obtain ⟨x, h2, h3⟩ := bind_some h
  rw [asB_some h2] at h1
  refine ha F α H H1 σ g _ R h1 _ fun v H2 Ha e2 ea xa da => ⟨x, da.bl_eq, ?_⟩
  cases x with
  | true => exact hb F α Ha H2 σ g z (R.grow e2 ea xa) h3 _ fun v H4 Hc e4 ec xc dc => q v H4 Hc (e2.trans e4) ec (xa.trans e2 xc) dc
  | false => cases h3; exact q _ H2 Ha e2 ea xa (.bl _)
theorem sp_or (ha : SimP K FL T ta pa) (hb : SimP K FL T tb pb) : SimP K FL T (tOrV ta tb) (pOr pa pb) := fun F α H H1 σ g z R h Q q => by
  obtain ⟨d, h1, h⟩ := bind_some h
  obtain ⟨x, h2, h3⟩ := bind_some h
  rw [asB_some h2] at h1
  refine ha F α H H1 σ g _ R h1 _ fun v H2 Ha e2 ea xa da => ⟨x, da.bl_eq, ?_⟩
  cases x with
  | false => exact hb F α Ha H2 σ g z (R.grow e2 ea xa) h3 _ fun v H4 Hc e4 ec xc dc => q v H4 Hc (e2.trans e4) ec (xa.trans e2 xc) dc
  | true => cases h3; exact q _ H2 Ha e2 ea xa (.bl _)
theorem sp_not (ha : SimP K FL T ta pa) : SimP K FL T (tNotV ta) (pNot pa) := fun F α H H1 σ g z R h Q q => by
  obtain ⟨d, h1, h⟩ := bind_some h
  obtain ⟨x, h2, h3⟩ := bind_some h
  rw [asB_some h2] at h1
  cases h3
  exact ha F α H H1 σ g _ R h1 _ fun v H2 Ha e2 ea xa da => ⟨x, da.bl_eq, q _ H2 Ha e2 ea xa (.bl _)⟩
def pIf (c : PB) (a b : PM) : PM := fun g => (c g).bind fun x => if x = true then a g else b g
theorem sp_if (hc : SimPB K FL T tt qa) (ha : SimP K FL T ta pa) (hb : SimP K FL T tb pb) : SimP K FL T (tIf tt ta tb) (pIf qa pa pb) := fun F α H H1 σ g z R h Q q => by
  obtain ⟨x, h1, h2⟩ := bind_some h
  refine hc F α H H1 σ g x R h1 _ fun H2 e2 => ?_
  cases x with
  | true => exact ha F α H H2 σ g z (R.same e2) h2 _ fun v H4 Hc e4 ec xc dc => q v H4 Hc (e2.trans e4) ec ((Ext.refl H H1).trans e2 xc) dc
  | false => exact hb F α H H2 σ g z (R.same e2) h2 _ fun v H4 Hc e4 ec xc dc => q v H4 Hc (e2.trans e4) ec ((Ext.refl H H1).trans e2 xc) dc
/-- a < b < c -/
def pChain (f f' : PyData → PyData → Option PyData) (a b c : PM) : PM := fun g => (a g).bind fun d => (b g).bind fun e => (f d e).bind fun z => (asB z).bind fun x => if x = true then (c g).bind fun y => f' e y else some (.bool false)
end
end EV

/-! ### EV: places, fields, walks, comprehensions (own work) -/
namespace EV
open PySem PySem.Spec PyProof.Rows L2 Evl L2H LamX LR
section
variable {K : PySem.W.Frag} {FL : Fl} {T : TbS} {ta tb tc te : TE} {tt tu : TT} {pa pb pc : PM} {qa qb : PB} {tA tr : TA} {ps pr : PMs}
theorem sp_chain {r r' : R2} {f f' : PyData → PyData → Option PyData} (hf : OpD K r f) (hf' : OpD K r' f') (ha : SimP K FL T ta pa) (hb : SimP K FL T tb pb) (hc : SimP K FL T tc pc) : SimP K FL T (tChain r r' ta tb tc) (pChain f f' pa pb pc) := fun F α H H1 σ g z R h Q q => by
  obtain ⟨d, h1, h⟩ := bind_some h
  obtain ⟨e, h2, h⟩ := bind_some h
  obtain ⟨y, h3, h⟩ := bind_some h
  obtain ⟨x, h4, h5⟩ := bind_some h
  rw [asB_some h4] at h3
  refine ha F α H H1 σ g d R h1 _ fun v H2 Ha e2 ea xa da => hb F α Ha H2 σ g e (R.grow e2 ea xa) h2 _ fun u H3 Hb e3 eb xb db => ?_
  refine hf d e _ h3 Hb Hb v u (Ex.refl _) (Dt.ex xb.ex da) db H3 eb _ fun w H4 Hc e4 ec xc dc => ⟨x, dc.bl_eq, ?_⟩
  have xx := (xa.trans e2 xb).trans (e2.trans e3) xc
  cases x with
  | true =>
    obtain ⟨y', h6, h7⟩ := bind_some h5
    refine hc F α Hc H4 σ g y' (((R.grow e2 ea xa).grow e3 eb xb).grow e4 ec xc) h6 _ fun w2 H5 Hd e5 ed xd dd => ?_
    exact hf' e y' z h7 Hd Hd u w2 (Ex.refl _) (Dt.ex (xc.ex.trans xd.ex) db) dd H5 ed Q fun v6 H6 He e6 ee xe de => q v6 H6 He ((((e2.trans e3).trans e4).trans e5).trans e6) ee ((xx.trans ((e2.trans e3).trans e4) xd).trans (((e2.trans e3).trans e4).trans e5) xe) de
  | false =>
    cases h5
    exact q _ H4 Hc ((e2.trans e3).trans e4) ec xx (.bl _)
/-! slices -/
abbrev PO := Sg → Option (Option Int)
def SimO (K : PySem.W.Frag) (FL : Fl) (T : TbS) (to : TO) (p : PO) : Prop := ∀ (F : Fr) (α : Al) (H H1 : Hp) (σ : L2.St) (g : Sg) (o : Option Int), Rel K FL T F α H H1 σ g → p g = some o → ∀ Q : Option Int → Hp → Prop, (∀ H2, Ex H1 H2 → Q o H2) → to σ H1 Q
def asI (d : PyData) : Option Int := match d with
  | .int i => some i
  | _ => none
theorem asI_some {d : PyData} {i : Int} (h : asI d = some i) : d = .int i := by
  cases d <;> simp [asI] at h
  rw [h]
def oNone : PO := fun _ => some none
def oSome (p : PM) : PO := fun g => (p g).bind fun d => (asI d).bind fun i => some (some i)
theorem so_none : SimO K FL T tNoPart oNone := fun F α H H1 σ g o R h Q q => by
  cases h
  exact q H1 (Ex.refl _)
theorem so_some (ha : SimP K FL T ta pa) : SimO K FL T (tPart ta) (oSome pa) := fun F α H H1 σ g o R h Q q => by
  obtain ⟨d, h1, h⟩ := bind_some h
  obtain ⟨i, h2, h3⟩ := bind_some h
  cases h3
  rw [asI_some h2] at h1
  exact ha F α H H1 σ g _ R h1 _ fun v H2 _ e2 _ _ dv => ⟨i, dv.int_eq, q H2 e2⟩
def slD (d : PyData) (lo hi : Option Int) : Option PyData := match d with
  | .str z => if z.length ≤ 100000 then some (.str (cutS z lo hi)) else none
  | .list ds => some (.list (cutD ds lo hi))
  | .tuple ds => some (.tuple (cutD ds lo hi))
  | _ => none
theorem sl_core {Ha H4 : Hp} {v : V} {d z : PyData} {x y : Option Int} {Q : VK} (da : Dt K Ha v d) (h : slD d x y = some z) (e : Ex Ha H4) (q : KD K Ha H4 z Q) : rSlU K v x y H4 Q := by
  cases d with
  | str s =>
    obtain ⟨hz, rfl⟩ := ite_some (show (if s.length ≤ 100000 then some (PyData.str (cutS s x y)) else none) = some z from h)
    exact ed_slS (K := K) (σ := []) (H := Ha) (ta := tC v) (tl := fun _ H Q => Q x H) (th := fun _ H Q => Q y H) (ed_c da) (fun H1 e Q q => q H1 (Ex.refl _)) (fun H1 e Q q => q H1 (Ex.refl _)) hz H4 e Q q
  | list ds =>
    have h5 : some (PyData.list (cutD ds x y)) = some z := h
    cases h5
    exact ed_slL (K := K) (σ := []) (H := Ha) (ta := tC v) (tl := fun _ H Q => Q x H) (th := fun _ H Q => Q y H) (ed_c da) (fun H1 e Q q => q H1 (Ex.refl _)) (fun H1 e Q q => q H1 (Ex.refl _)) H4 e Q q
  | tuple ds =>
    have h5 : some (PyData.tuple (cutD ds x y)) = some z := h
    cases h5
    exact ed_slT (K := K) (σ := []) (H := Ha) (ta := tC v) (tl := fun _ H Q => Q x H) (th := fun _ H Q => Q y H) (ed_c da) (fun H1 e Q q => q H1 (Ex.refl _)) (fun H1 e Q q => q H1 (Ex.refl _)) H4 e Q q
  | none => cases h
  | bool b => cases h
  | int i => cases h
  | dict kv => cases h
def pSl (a : PM) (l h : PO) : PM := fun g => (a g).bind fun d => (l g).bind fun x => (h g).bind fun y => slD d x y
theorem sp_sl {tl th : TO} {pl ph : PO} (ha : SimP K FL T ta pa) (hl : SimO K FL T tl pl) (hh : SimO K FL T th ph) : SimP K FL T (tSl (rSlU K) ta tl th) (pSl pa pl ph) := fun F α H H1 σ g z R h Q q => by
  obtain ⟨d, h1, h⟩ := bind_some h
  obtain ⟨x, h2, h⟩ := bind_some h
  obtain ⟨y, h3, h4⟩ := bind_some h
  refine ha F α H H1 σ g d R h1 _ fun v H2 Ha e2 ea xa da => hl F α Ha H2 σ g x (R.grow e2 ea xa) h2 _ fun H3 e3 => hh F α Ha H3 σ g y ((R.grow e2 ea xa).same e3) h3 _ fun H4 e4 => ?_
  exact sl_core da h4 (ea.trans (e3.trans e4)) fun v2 H5 H' e5 e x5 dv => q _ _ _ ((e2.trans (e3.trans e4)).trans e5) e (xa.trans e2 ((Ext.refl Ha H2).trans (e3.trans e4) x5)) dv
/-! ### calls of pure defs -/
theorem sp_call {n : Nat} {R' : List PyData → PyData → Prop} {E : XK} {f : List PyData → Option PyData} (hf : ∀ ds z, f ds = some z → R' ds z ∧ ds.length = n) (ha : SimPs K FL T tA ps) : SimP K FL T (tCall (spR K n R') [] E tA) (pCB f ps) := fun F α H H1 σ g z R h Q q => by
  obtain ⟨ds, h1, h2⟩ := bind_some h
  refine ha F α H H1 σ g ds R h1 _ fun vs H2 Ha e2 ea xa da => ?_
  show spR K n R' (vs ++ []) H2 Q E
  rw [List.append_nil]
  exact ⟨Ha, ds, z, ea, da, (hf ds z h2).2, (hf ds z h2).1, fun v H3 Hb e3 eb xb db => q v H3 Hb (e2.trans e3) eb (xa.trans e2 xb) db⟩
/-! ### places -/
abbrev WM := Sg → Option Owner
def SimW (K : PySem.W.Frag) (FL : Fl) (T : TbS) (te : TE) (w : WM) : Prop := ∀ (F : Fr) (α : Al) (H H1 : Hp) (σ : L2.St) (g : Sg) (o : Owner), Rel K FL T F α H H1 σ g → w g = some o → ∃ a, α o = some a ∧ ∀ Q : VK, Q (.ref a) H1 → te σ H1 Q
def wVal (v : Val) (o : Owner) : Option Owner := match v with
  | .dat _ => none
  | .obj i => some (.ob i)
  | _ => some o
theorem VR.at_ {α : Al} {H H1 : Hp} {o o' : Owner} {u : V} {v : Val} (h : VR K α H H1 o u v) (hw : wVal v o = some o') : ∃ a, u = .ref a ∧ α o' = some a := by
  cases v with
  | dat d => cases hw
  | obj i => cases hw; exact h
  | ownL ds => cases hw; obtain ⟨a, h1, h2, _⟩ := h; exact ⟨a, h1, h2⟩
  | ownD ds => cases hw; obtain ⟨a, h1, h2, _⟩ := h; exact ⟨a, h1, h2⟩
def wVar (j : Nat) : WM := fun g => match g.sl[j]? with
  | some (some v) => wVal v (.slot j)
  | _ => none
theorem sw_var {j : Nat} : SimW K FL T (tVar j) (wVar j) := fun F α H H1 σ g o R h => by
  unfold wVar at h
  split at h
  · rename_i v hv
    obtain ⟨u, h1, h2⟩ := R.slt j v hv
    obtain ⟨a, rfl, h3⟩ := h2.at_ h
    exact ⟨a, h3, fun Q q => ⟨_, h1, q⟩⟩
  · cases h
/-- the field f of the object at o -/
def fldAt (FL : Fl) (g : Sg) (o : Owner) (f : Str) : Option (Nat × Val) := match o with
  | .ob i => match g.st[i]? with
    | some (.ins C fs) => if f ∈ FL C then (fs.lookup f).map fun v => (i, v) else none
    | _ => none
  | _ => none
theorem Rel.fldAt {F : Fr} {α : Al} {H H1 : Hp} {σ : L2.St} {g : Sg} {o : Owner} {f : Str} {i : Nat} {v : Val} {a : Addr} (R : Rel K FL T F α H H1 σ g) (h : EV.fldAt FL g o f = some (i, v)) (ha : α o = some a) : o = .ob i ∧ ∃ C dx us u, H1 a = some (.ins (gaE K C) dx us) ∧ Cls K (gaE K C) ∧ NoAttr K (gaE K C) f ∧ us.lookup f = some u ∧ VR K α H H1 (.fld i f) u v := by
  unfold EV.fldAt at h
  split at h
  · rename_i i'
    split at h
    · rename_i C fs hs
      split at h
      · rename_i hf
        obtain ⟨v', h1, h2⟩ := Option.map_eq_some_iff.mp h
        cases h2
        obtain ⟨a', k1, k2⟩ := R.sto _ _ hs
        rw [ha] at k1
        cases k1
        obtain ⟨c, dx, us, k3, k4⟩ := k2
        obtain ⟨u, k5, k6⟩ := k4.2 f v h1
        exact ⟨rfl, C, dx, us, u, k3, c.cls, c.no f hf, k5, k6⟩
      · cases h
    · cases h
  · cases h
def wFld (FL : Fl) (w : WM) (f : Str) : WM := fun g => (w g).bind fun o => (EV.fldAt FL g o f).bind fun p => wVal p.2 (.fld p.1 f)
theorem sw_fld {w : WM} {f : Str} (h : SimW K FL T te w) : SimW K FL T (tFld K te f) (wFld FL w f) := fun F α H H1 σ g o R hw => by
  obtain ⟨o1, h1, h2⟩ := bind_some hw
  obtain ⟨⟨i, v⟩, h3, h4⟩ := bind_some h2
  obtain ⟨a, k1, k2⟩ := h F α H H1 σ g o1 R h1
  obtain ⟨rfl, C, dx, us, u, k3, k4, k5, k6, k7⟩ := R.fldAt h3 k1
  obtain ⟨b, rfl, k8⟩ := k7.at_ h4
  exact ⟨b, k8, fun Q q => k2 _ ⟨a, _, dx, us, _, rfl, k3, k4, k5, k6, q⟩⟩
def pFld (FL : Fl) (w : WM) (f : Str) : PM := fun g => (w g).bind fun o => (EV.fldAt FL g o f).bind fun p => match p.2 with
  | .dat d => some d
  | _ => none
theorem sp_fld {w : WM} {f : Str} (h : SimW K FL T te w) : SimP K FL T (tFld K te f) (pFld FL w f) := fun F α H H1 σ g d R hw Q q => by
  obtain ⟨o1, h1, h2⟩ := bind_some hw
  obtain ⟨⟨i, v⟩, h3, h4⟩ := bind_some h2
  obtain ⟨a, k1, k2⟩ := h F α H H1 σ g o1 R h1
  obtain ⟨rfl, C, dx, us, u, k3, k4, k5, k6, k7⟩ := R.fldAt h3 k1
  cases v with
  | dat d' =>
    cases h4
    exact k2 _ ⟨a, _, dx, us, _, rfl, k3, k4, k5, k6, KD.now q R.ex k7⟩
  | obj i => cases h4
  | ownL ds => cases h4
  | ownD ds => cases h4
/-- the content of a place -/
def contAt (g : Sg) (o : Owner) : Option Val := match o with
  | .ob i => match g.st[i]? with
    | some (.box v) => some v
    | _ => none
  | .slot j => match g.sl[j]? with
    | some (some v) => some v
    | _ => none
  | .fld i f => match g.st[i]? with
    | some (.ins _ fs) => fs.lookup f
    | _ => none
def lstAt (g : Sg) (o : Owner) : Option (List PyData) := (contAt g o).bind fun v => match v with
  | .ownL ds => some ds
  | _ => none
def dicAt (g : Sg) (o : Owner) : Option (List (Key × PyData)) := (contAt g o).bind fun v => match v with
  | .ownD ds => some ds
  | _ => none
theorem lstAt_cont {g : Sg} {o : Owner} {ds : List PyData} (h : lstAt g o = some ds) : contAt g o = some (.ownL ds) := by
  obtain ⟨v, h1, h2⟩ := bind_some h
  cases v <;> cases h2
  exact h1
theorem dicAt_cont {g : Sg} {o : Owner} {ds : List (Key × PyData)} (h : dicAt g o = some ds) : contAt g o = some (.ownD ds) := by
  obtain ⟨v, h1, h2⟩ := bind_some h
  cases v <;> cases h2
  exact h1
theorem Rel.cont {F : Fr} {α : Al} {H H1 : Hp} {σ : L2.St} {g : Sg} {o : Owner} {v : Val} {a : Addr} (R : Rel K FL T F α H H1 σ g) (h : contAt g o = some v) (hv : (∃ ds, v = .ownL ds) ∨ ∃ ds, v = .ownD ds) (ha : α o = some a) : CoR K H H1 a v := by
  unfold contAt at h
  split at h
  · split at h
    · rename_i hs
      cases h
      obtain ⟨a', k1, k2⟩ := R.sto _ _ hs
      rw [ha] at k1
      cases k1
      exact k2
    · cases h
  · split at h
    · rename_i hs
      cases h
      obtain ⟨u, k1, k2⟩ := R.slt _ _ hs
      rcases hv with ⟨ds, rfl⟩ | ⟨ds, rfl⟩
      · obtain ⟨b, _, k3, k4⟩ := k2
        rw [ha] at k3
        cases k3
        exact k4
      · obtain ⟨b, _, k3, k4⟩ := k2
        rw [ha] at k3
        cases k3
        exact k4
    · cases h
  · split at h
    · rename_i hs
      obtain ⟨a', k1, _, dx, us, k2, k3⟩ := R.sto _ _ hs
      obtain ⟨u, k4, k5⟩ := k3.2 _ _ h
      rcases hv with ⟨ds, rfl⟩ | ⟨ds, rfl⟩
      · obtain ⟨b, _, k3, k4⟩ := k5
        rw [ha] at k3
        cases k3
        exact k4
      · obtain ⟨b, _, k3, k4⟩ := k5
        rw [ha] at k3
        cases k3
        exact k4
    · cases h
theorem Rel.lst {F : Fr} {α : Al} {H H1 : Hp} {σ : L2.St} {g : Sg} {o : Owner} {ds : List PyData} {a : Addr} (R : Rel K FL T F α H H1 σ g) (h : lstAt g o = some ds) (ha : α o = some a) : ∃ vs, H1 a = some (.lst vs) ∧ DtAll K H vs ds := R.cont (lstAt_cont h) (.inl ⟨_, rfl⟩) ha
theorem Rel.dic {F : Fr} {α : Al} {H H1 : Hp} {σ : L2.St} {g : Sg} {o : Owner} {ds : List (Key × PyData)} {a : Addr} (R : Rel K FL T F α H H1 σ g) (h : dicAt g o = some ds) (ha : α o = some a) : ∃ ws, H1 a = some (.dK ws) ∧ KvR K H ws ds := R.cont (dicAt_cont h) (.inr ⟨_, rfl⟩) ha
/-! reads of a place -/
def pLenL (w : WM) : PM := fun g => (w g).bind fun o => (lstAt g o).bind fun ds => some (.int ds.length)
theorem sp_lenL {w : WM} (h : SimW K FL T te w) : SimP K FL T (tCB (lenR K) (tCons te tNil)) (pLenL w) := fun F α H H1 σ g d R hw Q q => by
  obtain ⟨o, h1, h2⟩ := bind_some hw
  obtain ⟨ds, h3, h4⟩ := bind_some h2
  cases h4
  obtain ⟨a, k1, k2⟩ := h F α H H1 σ g o R h1
  obtain ⟨vs, k3, k4⟩ := R.lst h3 k1
  refine k2 _ ⟨.ref a, ds.length, rfl, .inl ⟨vs, sq_of k3, k4.length.symm⟩, KD.now q R.ex (.int _)⟩
/-! ### walks -/
abbrev IM := Sg → Option (List PyData)
/-- what an item is: the heap has grown at most -/
def YI (K : PySem.W.Frag) (ds : List PyData) (Hi : Hp) : Nat → Hp → V → Hp → Prop := fun i H3 v H4 => Ex H3 H4 ∧ ∃ d, ds[i]? = some d ∧ ∀ Hb, Ex Hi Hb → Ex Hb H3 → ∃ Hc, Ext Hb H3 Hc ∧ Ex Hc H4 ∧ Dt K Hc v d
/-- what is walked is data -/
def SimI (K : PySem.W.Frag) (FL : Fl) (T : TbS) (wi : TI) (p : IM) : Prop := ∀ (F : Fr) (α : Al) (H H1 : Hp) (σ : L2.St) (g : Sg) (ds : List PyData), Rel K FL T F α H H1 σ g → p g = some ds → ∀ R : It → Hp → Prop, (∀ J (G : Hp → Prop) H2 H', Ex H1 H2 → Ex H' H2 → Ext H H1 H' → (∀ H3, Ex H' H3 → G H3) → Walk J ds.length G (YI K ds H') → R J H2) → wi σ H1 R
/-- what is walked is data, or stands while the heap but grows -/
def SimIo (K : PySem.W.Frag) (FL : Fl) (T : TbS) (wi : TI) (p : IM) : Prop := ∀ (F : Fr) (α : Al) (H H1 : Hp) (σ : L2.St) (g : Sg) (ds : List PyData), Rel K FL T F α H H1 σ g → p g = some ds → ∀ R : It → Hp → Prop, (∀ J (G : Hp → Prop) H2 H', Ex H1 H2 → Ex H' H2 → Ext H H1 H' → (∀ H3, Ex H2 H3 → G H3) → Walk J ds.length G (YI K ds H') → R J H2) → wi σ H1 R
theorem SimI.o {wi : TI} {p : IM} (h : SimI K FL T wi p) : SimIo K FL T wi p := fun F α H H1 σ g ds R hp Rk k => h F α H H1 σ g ds R hp Rk fun J G H2 H' e2 e x hG w => k J G H2 H' e2 e x (fun H3 e3 => hG H3 (e.trans e3)) w
theorem yi_at {ds : List PyData} {Hi H3 : Hp} {i : Nat} {v : V} {d : PyData} (h : ds[i]? = some d) (hd : Dt K Hi v d) : YI K ds Hi i H3 v H3 := ⟨Ex.refl _, d, h, fun Hb e1 e2 => ⟨Hb, Ext.refl _ _, e2, Dt.ex e1 hd⟩⟩
/-- a list, a tuple, a text -/
def iData (p : PM) : IM := fun g => (p g).bind fun d => match d with
  | .list ds => some ds
  | .tuple ds => some ds
  | .str z => some (z.cps.toList.map fun c => .str ⟨#[c]⟩)
  | _ => none
theorem si_data (ha : SimP K FL T ta pa) : SimI K FL T (iU K ta) (iData pa) := fun F α H H1 σ g ds R h Rk k => by
  obtain ⟨d, h1, h2⟩ := bind_some h
  refine ha F α H H1 σ g d R h1 _ fun v H2 H' e2 e x dv => ?_
  cases d with
  | list es =>
    cases h2
    obtain ⟨a, xs, rfl, ha, ra⟩ := dv.lst_eq
    refine .inl ⟨a, rfl, ⟨xs, sq_of (e a _ ha)⟩, k _ (fun H3 => Ex H' H3) H2 H' e2 e x (fun H3 e3 => e3) ?_⟩
    rw [← ra.length]
    exact (walk_list (K := K) (a := a) (xs := xs)).mono (fun H3 e3 => sq_of (e3 a _ ha)) fun i H3 y H4 hi e3 z => by
      obtain ⟨d, d1, d2⟩ := ra.get' z.2
      obtain ⟨rfl, _⟩ := z
      exact yi_at d1 d2
  | tuple es =>
    cases h2
    obtain ⟨a, xs, rfl, ha, ra⟩ := dv.tup_eq
    refine .inr (.inl ⟨a, rfl, ⟨xs, ex_t e ha⟩, k _ (fun H3 => Ex H' H3) H2 H' e2 e x (fun H3 e3 => e3) ?_⟩)
    rw [← ra.length]
    exact (walk_tup (K := K) (a := a) (xs := xs)).mono (fun H3 e3 => ex_t e3 ha) fun i H3 y H4 hi e3 z => by
      obtain ⟨d, d1, d2⟩ := ra.get' z.2
      obtain ⟨rfl, _⟩ := z
      exact yi_at d1 d2
  | str z =>
    cases h2
    refine .inr (.inr ⟨z, dv.str_eq, k _ (fun _ => True) H2 H' e2 e x (fun _ _ => trivial) ?_⟩)
    have e1 : (z.cps.toList.map fun c => PyData.str ⟨#[c]⟩).length = z.cps.size := by simp
    rw [e1]
    exact walk_str.mono (fun _ _ => trivial) fun i H3 y H4 hi _ z' => by
      obtain ⟨rfl, c, hc, rfl⟩ := z'
      have hc' : z.cps.toList[i]? = some c := by simpa using hc
      exact yi_at (d := .str ⟨#[c]⟩) (by rw [List.getElem?_map, hc']; rfl) (.str _)
  | none => cases h2
  | bool b => cases h2
  | int i => cases h2
  | dict kv => cases h2
/-- a list of one's own, while the heap but grows -/
def iOwn (w : WM) : IM := fun g => (w g).bind fun o => lstAt g o
theorem si_own {w : WM} (h : SimW K FL T te w) : SimIo K FL T (iU K te) (iOwn w) := fun F α H H1 σ g ds R hp Rk k => by
  obtain ⟨o, h1, h3⟩ := bind_some hp
  obtain ⟨a, k1, k2⟩ := h F α H H1 σ g o R h1
  obtain ⟨vs, k3, k4⟩ := R.lst h3 k1
  refine k2 _ (.inl ⟨a, rfl, ⟨vs, sq_of k3⟩, k _ (fun H3 => Ex H1 H3) H1 H (Ex.refl _) R.ex (Ext.refl _ _) (fun H3 e3 => e3) ?_⟩)
  rw [← k4.length]
  exact (walk_list (K := K) (a := a) (xs := vs)).mono (fun H3 e3 => sq_of (e3 a _ k3)) fun i H3 y H4 hi e3 z => by
    obtain ⟨d, d1, d2⟩ := k4.get' z.2
    obtain ⟨rfl, _⟩ := z
    exact yi_at d1 d2
def rngL (n : Int) : List PyData := (List.range n.toNat).map fun (i : Nat) => .int (i : Int)
def iRg (p : PMs) : IM := fun g => (p g).bind fun ds => match ds with
  | [.int n] => if n < 1000000 ∧ -1000000 < n then some (rngL n) else none
  | _ => none
theorem si_range (ha : SimPs K FL T tA ps) : SimI K FL T (iRng1 tA) (iRg ps) := fun F α H H1 σ g out R h Rk k => by
  obtain ⟨ds, h1, h2⟩ := bind_some h
  split at h2
  · rename_i n
    obtain ⟨hn, rfl⟩ := ite_some h2
    refine ha F α H H1 σ g _ R h1 _ fun vs H2 H' e2 e x dv => ⟨n, by cases dv with | cons a b => cases b; rw [a.int_eq], by omega, by omega, k _ (fun _ => True) H2 H' e2 e x (fun _ _ => trivial) ?_⟩
    have e1 : (rngL n).length = n.toNat := by simp [rngL]
    rw [e1]
    exact (walk_range (lo := 0) (n := n.toNat)).mono (fun _ _ => trivial) fun i H3 y H4 hi _ z => by
      obtain ⟨rfl, rfl⟩ := z
      refine yi_at (d := .int i) ?_ ?_
      · unfold rngL
        rw [List.getElem?_map, List.getElem?_range hi]
        rfl
      · show Dt K _ (.int (0 + (i : Int))) (.int i)
        rw [Int.zero_add]
        exact .int _
  · cases h2
def rngL2 (m n : Int) : List PyData := (List.range (n - m).toNat).map fun (i : Nat) => .int (m + (i : Int))
def iRg2 (p : PMs) : IM := fun g => (p g).bind fun ds => match ds with
  | [.int m, .int n] => if n < 1000000 ∧ -1000000 < n ∧ m < 1000000 ∧ -1000000 < m then some (rngL2 m n) else none
  | _ => none
theorem si_range2 (ha : SimPs K FL T tA ps) : SimI K FL T (iRng2 tA) (iRg2 ps) := fun F α H H1 σ g out R h Rk k => by
  obtain ⟨ds, h1, h2⟩ := bind_some h
  split at h2
  · rename_i m n
    obtain ⟨hn, rfl⟩ := ite_some h2
    refine ha F α H H1 σ g _ R h1 _ fun vs H2 H' e2 e x dv => ⟨m, n, by cases dv with | cons a b => cases b with | cons c f => cases f; rw [a.int_eq, c.int_eq], by omega, k _ (fun _ => True) H2 H' e2 e x (fun _ _ => trivial) ?_⟩
    have e1 : (rngL2 m n).length = (n - m).toNat := by simp [rngL2]
    rw [e1]
    exact (walk_range (lo := m) (n := (n - m).toNat)).mono (fun _ _ => trivial) fun i H3 y H4 hi _ z => by
      obtain ⟨rfl, rfl⟩ := z
      refine yi_at (d := .int (m + i)) ?_ (.int _)
      unfold rngL2
      rw [List.getElem?_map, List.getElem?_range hi]
      rfl
  · cases h2
/-! ### targets -/
abbrev GM := PyData → Sg → Option Sg
def SimG (K : PySem.W.Frag) (FL : Fl) (T : TbS) (tg : TG) (gm : GM) (vs : List Nat) : Prop := ∀ (F : Fr) (α : Al) (H H1 : Hp) (σ : L2.St) (g g' : Sg) (v : V) (d : PyData), Rel K FL T F α H H1 σ g → Dt K H v d → gm d g = some g' → ∃ σ', Rel K FL T F α H H1 σ' g' ∧ (∀ ws, (∀ x ∈ vs, x ∈ ws) → L2.wipe σ' ws = L2.wipe σ ws) ∧ ∀ Q : L2.St → Hp → Prop, Q σ' H1 → tg v σ H1 Q
theorem wipe_set {σ : L2.St} {j : Nat} {x : Option V} : ∀ {ws : List Nat}, j ∈ ws → L2.wipe (σ.set j x) ws = L2.wipe σ ws := by
  have get : ∀ (ws : List Nat) (τ : L2.St) (k : Nat), (L2.wipe τ ws)[k]? = if k ∈ ws then (τ[k]?).map (fun _ => none) else τ[k]? := by
    intro ws
    induction ws with
    | nil => intro τ k; simp [L2.wipe]
    | cons v r ih =>
      intro τ k
      show ((L2.wipe τ r).set v none)[k]? = _
      rw [List.getElem?_set]
      have hl : (L2.wipe τ r).length = τ.length := L2.wipe_length τ r
      by_cases c : v = k
      · subst c
        rw [if_pos rfl, if_pos List.mem_cons_self, hl]
        by_cases c2 : v < τ.length
        · rw [if_pos c2, List.getElem?_eq_getElem c2]
          rfl
        · rw [if_neg c2, List.getElem?_eq_none (Nat.le_of_not_lt c2)]
          rfl
      · rw [if_neg c, ih]
        have e : (k ∈ v :: r) = (k ∈ r) := by simp [Ne.symm c]
        simp only [e]
  intro ws hj
  apply List.ext_getElem?
  intro k
  rw [get, get, List.getElem?_set]
  by_cases c : j = k
  · subst c
    rw [if_pos rfl, if_pos hj, if_pos hj]
    by_cases c2 : j < σ.length
    · rw [if_pos c2, List.getElem?_eq_getElem c2]
      rfl
    · rw [if_neg c2, List.getElem?_eq_none (Nat.le_of_not_lt c2)]
  · rw [if_neg c]
def gmName (j : Nat) : GM := fun d g => some (g.set j (.dat d))
theorem sg_name {j : Nat} : SimG K FL T (gName j) (gmName j) [j] := fun F α H H1 σ g g' v d R hd h => by
  cases h
  exact ⟨σ.set j (some v), R.set j hd, fun ws hw => wipe_set (hw j List.mem_cons_self), fun Q q => q⟩
abbrev GMs := List PyData → Sg → Option Sg
def SimGs (K : PySem.W.Frag) (FL : Fl) (T : TbS) (tg : TGs) (gm : GMs) (vs : List Nat) : Prop := ∀ (F : Fr) (α : Al) (H H1 : Hp) (σ : L2.St) (g g' : Sg) (us : List V) (ds : List PyData), Rel K FL T F α H H1 σ g → DtAll K H us ds → gm ds g = some g' → ∃ σ', Rel K FL T F α H H1 σ' g' ∧ (∀ ws, (∀ x ∈ vs, x ∈ ws) → L2.wipe σ' ws = L2.wipe σ ws) ∧ ∀ Q : L2.St → Hp → Prop, Q σ' H1 → tg us σ H1 Q
def gmNil : GMs := fun ds g => match ds with
  | [] => some g
  | _ => none
def gmCons (a : GM) (r : GMs) : GMs := fun ds g => match ds with
  | d :: es => (a d g).bind fun g1 => r es g1
  | [] => none
theorem sgs_nil : SimGs K FL T gNil gmNil [] := fun F α H H1 σ g g' us ds R hd h => by
  cases ds with
  | nil => cases h; cases hd; exact ⟨σ, R, fun _ _ => rfl, fun Q q => ⟨rfl, q⟩⟩
  | cons d es => cases h
theorem sgs_cons {tg : TG} {gm : GM} {vs : List Nat} {tgs : TGs} {gms : GMs} {vr : List Nat} (h1 : SimG K FL T tg gm vs) (h2 : SimGs K FL T tgs gms vr) : SimGs K FL T (gCons tg tgs) (gmCons gm gms) (vs ++ vr) := fun F α H H1 σ g g' us ds R hd h => by
  cases hd with
  | nil => cases h
  | @cons u us d ds a b =>
    obtain ⟨g1, k1, k2⟩ := bind_some (show (gm d g).bind (fun g1 => gms ds g1) = some g' from h)
    obtain ⟨σ1, r1, w1, q1⟩ := h1 F α H H1 σ g g1 u d R a k1
    obtain ⟨σ2, r2, w2, q2⟩ := h2 F α H H1 σ1 g1 g' us ds r1 b k2
    exact ⟨σ2, r2, fun ws hw => (w2 ws fun x hx => hw x (List.mem_append_right _ hx)).trans (w1 ws fun x hx => hw x (List.mem_append_left _ hx)), fun Q q => ⟨u, us, rfl, q1 _ (q2 Q q)⟩⟩
def gmTup (n : Nat) (r : GMs) : GM := fun d g => match d with
  | .tuple ds => if ds.length = n then r ds g else none
  | _ => none
theorem sg_tup {n : Nat} {tgs : TGs} {gms : GMs} {vr : List Nat} (h : SimGs K FL T tgs gms vr) : SimG K FL T (gTup K n tgs) (gmTup n gms) vr := fun F α H H1 σ g g' v d R hd hm => by
  cases d with
  | tuple ds =>
    have hm : (if ds.length = n then gms ds g else none) = some g' := hm
    split at hm
    · rename_i hn
      obtain ⟨a, xs, rfl, ha, ra⟩ := hd.tup_eq
      obtain ⟨σ', r, w, q⟩ := h F α H H1 σ g g' xs ds R ra hm
      exact ⟨σ', r, w, fun Q k => ⟨a, xs, rfl, ex_t R.ex ha, ra.length.trans hn, q Q k⟩⟩
    · cases hm
  | none => cases hm
  | bool b => cases hm
  | int i => cases hm
  | str i => cases hm
  | list i => cases hm
  | dict kv => cases hm
/-! ### comprehensions -/
def Sg.wipe (g : Sg) : List Nat → Sg
  | [] => g
  | v :: vs => (g.wipe vs).clr v
theorem Rel.wipe {F : Fr} {α : Al} {H H1 : Hp} {σ : L2.St} {g : Sg} (R : Rel K FL T F α H H1 σ g) : ∀ vs : List Nat, Rel K FL T F α H H1 (L2.wipe σ vs) (g.wipe vs)
  | [] => R
  | v :: vs => (Rel.wipe R vs).clr v
def lcOne (gm : GM) (t : PB) (el : PM) (g : Sg) (d : PyData) : Option (Option PyData) := (gm d g).bind fun g1 => (t g1).bind fun b => if b = true then (el g1).map some else some none
def lcAll (gm : GM) (t : PB) (el : PM) (g : Sg) : List PyData → Option (List PyData)
  | [] => some []
  | d :: ds => (lcOne gm t el g d).bind fun o => (lcAll gm t el g ds).bind fun r => some (match o with | some z => z :: r | none => r)
theorem lcAll_get {gm : GM} {t : PB} {el : PM} {g : Sg} : ∀ {ds out : List PyData}, lcAll gm t el g ds = some out → (∀ (i : Nat) d, ds[i]? = some d → ∃ o, lcOne gm t el g d = some o) ∧ out = ds.filterMap fun d => (lcOne gm t el g d).join
  | [], out, h => by
    cases h
    exact ⟨fun i d h => by simp at h, rfl⟩
  | d :: ds, out, h => by
    obtain ⟨o, h1, h⟩ := bind_some h
    obtain ⟨r, h2, h3⟩ := bind_some h
    cases h3
    obtain ⟨a, b⟩ := lcAll_get h2
    refine ⟨fun i d' hd => ?_, ?_⟩
    · cases i with
      | zero => simp at hd; subst hd; exact ⟨o, h1⟩
      | succ i => exact a i d' (by simpa using hd)
    · rw [List.filterMap_cons, h1, b]
      cases o <;> rfl
def pTrue : PB := fun _ => some true
theorem sb_yes : SimPB K FL T tYes pTrue := fun F α H H1 σ g b R h Q q => by
  cases h
  exact q H1 (Ex.refl _)
def pLc (it : IM) (gm : GM) (t : PB) (el : PM) (vs : List Nat) : PM := fun g => (it g).bind fun ds => if ds.length ≤ 50000 then (lcAll gm t el (g.wipe vs) ds).map .list else none
/-- a comprehension, its list new: at p -/
theorem lc_new {wi : TI} {tg : TG} {gm : GM} {it : IM} {vs : List Nat} (hi : SimIo K FL T wi it) (hg : SimG K FL T tg gm vs) (ht : SimPB K FL T tt qa) (he : SimP K FL T te pa)
    {F : Fr} {α : Al} {H H1 : Hp} {σ : L2.St} {g : Sg} {out ds : List PyData} (R : Rel K FL T F α H H1 σ g) (h1 : it g = some ds) (hl : ds.length ≤ 50000) (h3 : lcAll gm qa pa (g.wipe vs) ds = some out) (Q : VK)
    (q : ∀ p H2 H' xs, Ex H1 H2 → Ex H' H2 → Ext H H1 H' → H1 p = none → H' p = none → H2 p = some (.lst xs) → DtAll K H' xs out → Q (.ref p) H2) : tLc wi tg tt te vs σ H1 Q := by
  obtain ⟨all, ho⟩ := lcAll_get h3
  let els : Nat → Option PyData := fun i => (ds[i]?).bind fun d => (lcOne gm qa pa (g.wipe vs) d).join
  have ho' : out = (List.range ds.length).filterMap els := by rw [ho]; exact (filterMap_range ds _).symm
  refine hi F α H H1 σ g ds R h1 _ fun J G H2 Hb e2 eb xb hG w Dl hD => ?_
  have hDb : Hb Dl = none := fresh_back eb hD
  have hD1 : H1 Dl = none := fresh_back e2 hD
  refine lc_it (w.mono (G' := fun H3 => Ex H2 H3) (fun H3 e3 => hG H3 e3) fun _ _ _ _ _ _ y => y)
    (fun i Hr => ∃ Hl acc, Ex Hb Hl ∧ Ex Hl Hr ∧ Ex H2 Hr ∧ Ext H H1 Hl ∧ Hl Dl = none ∧ Hr Dl = some (.lst acc) ∧ DtAll K Hl acc ((List.range i).filterMap els) ∧ acc.length ≤ i) ?_ ?_ ?_ ?_
  · exact ⟨Hb, [], Ex.refl _, eb.trans (Ex.new hD), Ex.new hD, xb, hDb, upd_same, .nil, Nat.le_refl _⟩
  · rintro i Hr hi ⟨Hl, acc, a1, a2, a3, _⟩
    exact a3
  · rintro i x Hr H3 hi ⟨Hl, acc, a1, a2, a3, a4, a5, a6, a7, a8⟩ ⟨y1, d, y2, y3⟩
    obtain ⟨Hc, c1, c2, c3⟩ := y3 Hl a1 a2
    obtain ⟨o, ho1⟩ := all i d y2
    obtain ⟨g1, k1, k2⟩ := bind_some ho1
    obtain ⟨b, k3, k4⟩ := bind_some k2
    have e13 : Ex H1 H3 := (e2.trans a3).trans y1
    have xc : Ext H H1 Hc := a4.trans (e2.trans a3) c1
    have Rc : Rel K FL T F α Hc H3 σ g := R.grow e13 c2 xc
    obtain ⟨σ2, R2, w2, q2⟩ := hg F α Hc H3 (L2.wipe σ vs) (g.wipe vs) g1 x d (Rc.wipe vs) c3 k1
    refine q2 _ ⟨?_, ht F α Hc H3 σ2 g1 b R2 k3 _ fun H4 e4 => ?_⟩
    · rw [w2 vs fun _ h => h]
      have idem : ∀ (ws : List Nat) (τ : L2.St), (∀ v ∈ ws, v ∈ vs) → L2.wipe (L2.wipe τ ws) vs = L2.wipe τ vs := by
        intro ws
        induction ws with
        | nil => intro τ _; rfl
        | cons v r ih => intro τ hv; show L2.wipe ((L2.wipe τ r).set v none) vs = _; rw [wipe_set (hv v List.mem_cons_self), ih τ fun x hx => hv x (List.mem_cons_of_mem _ hx)]
      exact idem vs σ fun _ h => h
    · have n1 : Hc Dl = none := c1.off a5 a6
      have eli : els i = o := by
        show (ds[i]?).bind _ = _
        rw [y2]
        show (lcOne gm qa pa (g.wipe vs) d).join = o
        rw [ho1]
        rfl
      cases b with
      | false =>
        cases k4
        refine ⟨Hc, acc, a1.trans c1.ex, c2.trans e4, (a3.trans y1).trans e4, xc, n1, (y1.trans e4) Dl _ a6, ?_, Nat.le_succ_of_le a8⟩
        rw [List.range_succ, List.filterMap_append, List.filterMap_cons, eli]
        show DtAll K Hc acc (_ ++ [])
        rw [List.append_nil]
        exact DtAll.ex c1.ex a7
      | true =>
        obtain ⟨z, k5, k6⟩ := Option.map_eq_some_iff.mp (show (pa g1).map some = some o from k4)
        subst k6
        refine he F α Hc H4 σ2 g1 z (R2.same e4) k5 _ fun v H5 Hd e5 ed xd dv => ?_
        have n2 : Hd Dl = none := xd.off n1 ((y1.trans e4) Dl _ a6)
        refine ⟨acc, (((y1.trans e4).trans e5) Dl _ a6), sz_lt (by omega), Hd, acc ++ [v], (a1.trans c1.ex).trans xd.ex, ex_off ed n2, ?_, xc.trans (e13.trans e4) xd, n2, upd_same, ?_, ?_⟩
        · exact ex_off (((a3.trans y1).trans e4).trans e5) hD
        · rw [List.range_succ, List.filterMap_append, List.filterMap_cons, eli]
          exact (DtAll.ex (c1.ex.trans xd.ex) a7).append (.cons dv .nil)
        · rw [List.length_append]
          exact Nat.succ_le_succ a8
  · rintro Hr ⟨Hl, acc, a1, a2, a3, a4, a5, a6, a7, a8⟩
    refine q Dl Hr Hl acc (e2.trans a3) a2 a4 hD1 a5 a6 ?_
    rw [ho']
    exact a7
theorem ext_lay {H H1 H' H2 : Hp} {p : Addr} {xs : List V} (x : Ext H H1 H') (e : Ex H' H2) (h1 : H1 p = none) (h' : H' p = none) (h2 : H2 p = some (.lst xs)) : Ext H H1 (upd H' p (.lst xs)) ∧ Ex (upd H' p (.lst xs)) H2 := by
  refine ⟨⟨x.ex.trans (Ex.new h'), fun b o hb => ?_⟩, fun b o hb => ?_⟩
  · by_cases z : b = p
    · subst z
      rw [upd_same] at hb
      cases hb
      exact .inr ⟨h1, fun ps z => by cases z⟩
    · rw [upd_ne z] at hb
      exact x.fresh b o hb
  · by_cases z : b = p
    · subst z
      rw [upd_same] at hb
      cases hb
      exact h2
    · rw [upd_ne z] at hb
      exact e b o hb
theorem sp_lc {wi : TI} {tg : TG} {gm : GM} {it : IM} {vs ws : List Nat} (hi : SimIo K FL T wi it) (hg : SimG K FL T tg gm vs) (ht : SimPB K FL T tt qa) (he : SimP K FL T te pa) (hv : ws = vs := by rfl) : SimP K FL T (tLc wi tg tt te ws) (pLc it gm qa pa vs) := fun F α H H1 σ g z R h Q q => by
  subst hv
  obtain ⟨ds, h1, h2⟩ := bind_some h
  have h2 : (if ds.length ≤ 50000 then (lcAll gm qa pa (g.wipe ws) ds).map PyData.list else none) = some z := h2
  split at h2
  · rename_i hl
    obtain ⟨out, h3, rfl⟩ := Option.map_eq_some_iff.mp h2
    refine lc_new hi hg ht he R h1 hl h3 Q fun p H2 H' xs e2 e x n1 n2 h4 h5 => ?_
    obtain ⟨x1, e1⟩ := ext_lay x e n1 n2 h4
    exact q _ H2 _ e2 e1 x1 (.lst upd_same (DtAll.ex (Ex.new n2) h5))
  · cases h2
end
end EV

/-! ### EV: expressions that do something, calls, statements, defs (own work) -/
namespace EV
open PySem PySem.Spec PyProof.Rows L2 Evl L2H LamX LR
theorem tabs_keep {T : List (Addr × Str)} {H H' : Hp} (t : Tabs T H) (k : ∀ b u, H b = some u → ¬ PlainO u → H' b = some u) : Tabs T H' := fun p hp => by
  obtain ⟨ps, h1, h2, h3⟩ := t p hp
  refine ⟨ps, k _ _ h1 id, h2, fun pos cv hc => ?_⟩
  obtain ⟨c, e1, e2⟩ := h3 pos cv hc
  exact ⟨c, e1, k _ _ e2 id⟩
def RR (K : PySem.W.Frag) (α : Al) (H : Hp) (u : V) : Rv → Prop
  | .dat d => Dt K H u d
  | .at_ o => ∃ a, u = .ref a ∧ α o = some a
structure Stp (α : Al) (H : Hp) (α' : Al) (H' : Hp) : Prop where
  ex : Ex H H'
  ob : ∀ i a, α (.ob i) = some a → α' (.ob i) = some a
  sl : ∀ j, α' (.slot j) = α (.slot j)
theorem Stp.refl (α : Al) (H : Hp) : Stp α H α H := ⟨Ex.refl _, fun _ _ h => h, fun _ => rfl⟩
theorem Stp.of {α : Al} {H H' : Hp} (e : Ex H H') : Stp α H α H' := ⟨e, fun _ _ h => h, fun _ => rfl⟩
abbrev EM := Sg → Option (Except Str Rv × Sg)
abbrev AM := Sg → Option (Except Str (List Rv) × Sg)
abbrev BM := Sg → Option (Except Str Bool × Sg)
section
variable (K : PySem.W.Frag) (FL : Fl) (T : TbS) (W : WX)
def KE (F : Fr) (α : Al) (H : Hp) (σ : L2.St) (g' : Sg) (Q : VK) : Except Str Rv → Prop
  | .ok v => ∀ α' H' H2 u, Rel K FL T F α' H' H2 σ g' → Stp α H α' H' → RR K α' H' u v → Q u H2
  | .error x => ∀ α' H' H2, Rel K FL T F α' H' H2 σ g' → Stp α H α' H' → W (.ref (gaE K x)) none σ H2
def KAs (F : Fr) (α : Al) (H : Hp) (σ : L2.St) (g' : Sg) (Q : List V → Hp → Prop) : Except Str (List Rv) → Prop
  | .ok vs => ∀ α' H' H2 us, Rel K FL T F α' H' H2 σ g' → Stp α H α' H' → Paired (RR K α' H') us vs → Q us H2
  | .error x => ∀ α' H' H2, Rel K FL T F α' H' H2 σ g' → Stp α H α' H' → W (.ref (gaE K x)) none σ H2
def KB (F : Fr) (α : Al) (H : Hp) (σ : L2.St) (g' : Sg) (Q : Bool → Hp → Prop) : Except Str Bool → Prop
  | .ok b => ∀ α' H' H2, Rel K FL T F α' H' H2 σ g' → Stp α H α' H' → Q b H2
  | .error x => ∀ α' H' H2, Rel K FL T F α' H' H2 σ g' → Stp α H α' H' → W (.ref (gaE K x)) none σ H2
def SimE (te : TE) (m : EM) : Prop := ∀ (F : Fr) (α : Al) (H H1 : Hp) (σ : L2.St) (g : Sg) (r : Except Str Rv) (g' : Sg), Rel K FL T F α H H1 σ g → m g = some (r, g') → ∀ Q : VK, KE K FL T W F α H σ g' Q r → te σ H1 Q
def SimA (ta : TA) (m : AM) : Prop := ∀ (F : Fr) (α : Al) (H H1 : Hp) (σ : L2.St) (g : Sg) (r : Except Str (List Rv)) (g' : Sg), Rel K FL T F α H H1 σ g → m g = some (r, g') → ∀ Q : List V → Hp → Prop, KAs K FL T W F α H σ g' Q r → ta σ H1 Q
def SimB (tt : TT) (m : BM) : Prop := ∀ (F : Fr) (α : Al) (H H1 : Hp) (σ : L2.St) (g : Sg) (r : Except Str Bool) (g' : Sg), Rel K FL T F α H H1 σ g → m g = some (r, g') → ∀ Q : Bool → Hp → Prop, KB K FL T W F α H σ g' Q r → tt σ H1 Q
end
def eBind {β γ : Type} (m : Sg → Option (Except Str β × Sg)) (k : β → Sg → Option (Except Str γ × Sg)) : Sg → Option (Except Str γ × Sg) := fun g => (m g).bind fun p => match p.1 with
  | .ok v => k v p.2
  | .error x => some (.error x, p.2)
theorem eBind_some {β γ : Type} {m : Sg → Option (Except Str β × Sg)} {k : β → Sg → Option (Except Str γ × Sg)} {g : Sg} {r : Except Str γ} {g' : Sg} (h : eBind m k g = some (r, g')) : (∃ v g1, m g = some (.ok v, g1) ∧ k v g1 = some (r, g')) ∨ ∃ x, m g = some (.error x, g') ∧ r = .error x := by
  obtain ⟨⟨r1, g1⟩, h1, h2⟩ := bind_some h
  cases r1 with
  | ok v => exact .inl ⟨v, g1, h1, h2⟩
  | error x => cases h2; exact .inr ⟨x, h1, rfl⟩
theorem Stp.trans {α α1 α2 : Al} {H H1 H2 : Hp} (a : Stp α H α1 H1) (b : Stp α1 H1 α2 H2) : Stp α H α2 H2 := ⟨a.ex.trans b.ex, fun i x h => b.ob i x (a.ob i x h), fun j => (b.sl j).trans (a.sl j)⟩
section
variable {K : PySem.W.Frag} {FL : Fl} {T : TbS} {W : WX} {ta tb tc te : TE} {tt tu : TT} {pa pb pc : PM} {qa qb : PB} {tA tr : TA} {ps pr : PMs} {ma mb : EM} {ms mr : AM} {ba bb : BM}
/-! lifts -/
def mP (p : PM) : EM := fun g => (p g).map fun d => (.ok (.dat d), g)
theorem se_p (h : SimP K FL T te pa) : SimE K FL T W te (mP pa) := fun F α H H1 σ g r g' R hm Q q => by
  obtain ⟨d, h1, h2⟩ := Option.map_eq_some_iff.mp hm
  cases h2
  exact h F α H H1 σ g d R h1 Q fun u H2 H' e2 e x dv => q α H' H2 u (R.grow e2 e x) (Stp.of x.ex) dv
def mW (w : WM) : EM := fun g => (w g).map fun o => (.ok (.at_ o), g)
theorem se_w {w : WM} (h : SimW K FL T te w) : SimE K FL T W te (mW w) := fun F α H H1 σ g r g' R hm Q q => by
  obtain ⟨o, h1, h2⟩ := Option.map_eq_some_iff.mp hm
  cases h2
  obtain ⟨a, k1, k2⟩ := h F α H H1 σ g o R h1
  exact k2 Q (q α H H1 _ R (Stp.refl _ _) ⟨a, rfl, k1⟩)
/-- what a name holds -/
def mVar (j : Nat) : EM := fun g => match g.sl[j]? with
  | some (some (.dat d)) => some (.ok (.dat d), g)
  | some (some v) => (wVal v (.slot j)).map fun o => (.ok (.at_ o), g)
  | _ => none
theorem se_var {j : Nat} : SimE K FL T W (tVar j) (mVar j) := fun F α H H1 σ g r g' R hm Q q => by
  unfold mVar at hm
  split at hm
  · rename_i d hd
    cases hm
    obtain ⟨u, h1, h2⟩ := R.slt j _ hd
    exact ⟨u, h1, q α H H1 u R (Stp.refl _ _) h2⟩
  · rename_i v hv hd
    obtain ⟨o, h1, h2⟩ := Option.map_eq_some_iff.mp hm
    cases h2
    obtain ⟨u, h3, h4⟩ := R.slt j v hd
    obtain ⟨a, rfl, h5⟩ := h4.at_ h1
    exact ⟨_, h3, q α H H1 _ R (Stp.refl _ _) ⟨a, rfl, h5⟩⟩
  · cases hm
def mBP (p : PB) : BM := fun g => (p g).map fun b => (.ok b, g)
theorem sbe_p (h : SimPB K FL T tt qa) : SimB K FL T W tt (mBP qa) := fun F α H H1 σ g r g' R hm Q q => by
  obtain ⟨b, h1, h2⟩ := Option.map_eq_some_iff.mp hm
  cases h2
  exact h F α H H1 σ g b R h1 Q fun H2 e2 => q α H H2 (R.same e2) (Stp.refl _ _)
/-! ### expressions in a row -/
def okV (v : Rv) : Option PyData := match v with
  | .dat d => some d
  | _ => none
theorem okV_some {v : Rv} {d : PyData} (h : okV v = some d) : v = .dat d := by
  cases v <;> simp [okV] at h
  rw [h]
def mOp (f : PyData → PyData → Option PyData) (a b : EM) : EM := eBind a fun x => eBind b fun y => fun g => (okV x).bind fun d => (okV y).bind fun e => (f d e).bind fun z => some (.ok (.dat z), g)
theorem KE.err {F : Fr} {α α1 : Al} {H H1 : Hp} {σ : L2.St} {g' : Sg} {Q : VK} {x : Str} (q : KE K FL T W F α H σ g' Q (.error x)) (s : Stp α H α1 H1) {Q' : VK} : KE K FL T W F α1 H1 σ g' Q' (.error x) := fun α' H' H2 R s' => q α' H' H2 R (s.trans s')
theorem RR.dat {α : Al} {H : Hp} {u : V} {v : Rv} {d : PyData} (h : RR K α H u v) (e : v = .dat d) : Dt K H u d := by subst e; exact h
theorem se_op {r : R2} {f : PyData → PyData → Option PyData} (hf : OpD K r f) (ha : SimE K FL T W ta ma) (hb : SimE K FL T W tb mb) : SimE K FL T W (tOp r ta tb) (mOp f ma mb) := fun F α H H1 σ g r g' R hm Q q => by
  rcases eBind_some hm with ⟨v, g1, h1, h2⟩ | ⟨x, h1, rfl⟩
  · refine ha F α H H1 σ g _ g1 R h1 _ fun α1 Ha H2 x R1 s1 rx => ?_
    rcases eBind_some h2 with ⟨w, g2, h3, h4⟩ | ⟨y, h3, rfl⟩
    · refine hb F α1 Ha H2 σ g1 _ g2 R1 h3 _ fun α2 Hb H3 y R2 s2 ry => ?_
      obtain ⟨d, k1, h5⟩ := bind_some h4
      obtain ⟨e, k2, h6⟩ := bind_some h5
      obtain ⟨z, k3, h7⟩ := bind_some h6
      cases h7
      exact hf d e z k3 Hb Hb x y (Ex.refl _) (Dt.ex s2.ex (rx.dat (okV_some k1))) (ry.dat (okV_some k2)) H3 R2.ex Q fun v H4 Hc e4 ec xc dc => q α2 Hc H4 v (R2.grow e4 ec xc) ((s1.trans s2).trans (Stp.of xc.ex)) dc
    · exact hb F α1 Ha H2 σ g1 _ _ R1 h3 _ (q.err s1)
  · exact ha F α H H1 σ g _ _ R h1 _ q
def mUn (f : PyData → Option PyData) (a : EM) : EM := eBind a fun x => fun g => (okV x).bind fun d => (f d).bind fun z => some (.ok (.dat z), g)
theorem se_un {r : V → Hp → VK → Prop} {f : PyData → Option PyData} (hf : ∀ d z, f d = some z → ∀ H, RDU K r d H z) (ha : SimE K FL T W ta ma) : SimE K FL T W (tUn r ta) (mUn f ma) := fun F α H H1 σ g r g' R hm Q q => by
  rcases eBind_some hm with ⟨v, g1, h1, h2⟩ | ⟨x, h1, rfl⟩
  · refine ha F α H H1 σ g _ g1 R h1 _ fun α1 Ha H2 x R1 s1 rx => ?_
    obtain ⟨d, k1, h5⟩ := bind_some h2
    obtain ⟨z, k3, h7⟩ := bind_some h5
    cases h7
    exact hf d z k3 Ha Ha x (Ex.refl _) (rx.dat (okV_some k1)) H2 R1.ex Q fun v H4 Hc e4 ec xc dc => q α1 Hc H4 v (R1.grow e4 ec xc) (s1.trans (Stp.of xc.ex)) dc
  · exact ha F α H H1 σ g _ _ R h1 _ q
/-! arguments -/
def aNil : AM := fun g => some (.ok [], g)
def aCons (a : EM) (r : AM) : AM := eBind a fun x => eBind r fun xs => fun g => some (.ok (x :: xs), g)
theorem RR.step {α α' : Al} {H H' : Hp} {u : V} {v : Rv} (h : RR K α H u v) (s : Stp α H α' H') (hv : ∀ i f, v ≠ .at_ (.fld i f)) : RR K α' H' u v := by
  cases v with
  | dat d => exact Dt.ex s.ex h
  | at_ o =>
    obtain ⟨a, e, h⟩ := h
    cases o with
    | ob i => exact ⟨a, e, s.ob i a h⟩
    | slot j => exact ⟨a, e, by rw [s.sl j]; exact h⟩
    | fld i f => exact absurd rfl (hv i f)
def noFld (v : Rv) : Bool := match v with
  | .at_ (.fld _ _) => false
  | _ => true
theorem noFld_ne {v : Rv} (h : noFld v = true) : ∀ i f, v ≠ .at_ (.fld i f) := fun i f e => by subst e; cases h
/-- arguments: none of them the place of a field -/
def aConsV (a : EM) (r : AM) : AM := eBind a fun x => eBind r fun xs => fun g => if noFld x = true then some (.ok (x :: xs), g) else none
theorem sa_nil : SimA K FL T W tNil aNil := fun F α H H1 σ g r g' R hm Q q => by
  cases hm
  exact q α H H1 [] R (Stp.refl _ _) .nil
theorem KAs.err {F : Fr} {α α1 : Al} {H H1 : Hp} {σ : L2.St} {g' : Sg} {Q : List V → Hp → Prop} {x : Str} (q : KAs K FL T W F α H σ g' Q (.error x)) (s : Stp α H α1 H1) {Q' : List V → Hp → Prop} : KAs K FL T W F α1 H1 σ g' Q' (.error x) := fun α' H' H2 R s' => q α' H' H2 R (s.trans s')
theorem sa_cons (ha : SimE K FL T W ta ma) (hr : SimA K FL T W tr mr) : SimA K FL T W (tCons ta tr) (aConsV ma mr) := fun F α H H1 σ g r g' R hm Q q => by
  rcases eBind_some hm with ⟨v, g1, h1, h2⟩ | ⟨x, h1, rfl⟩
  · refine ha F α H H1 σ g _ g1 R h1 _ fun α1 Ha H2 x R1 s1 rx => ?_
    rcases eBind_some h2 with ⟨w, g2, h3, h4⟩ | ⟨y, h3, rfl⟩
    · obtain ⟨nf, h5⟩ := ite_some h4
      cases h5
      exact hr F α1 Ha H2 σ g1 _ _ R1 h3 _ fun α2 Hb H3 ys R2 s2 ry => q α2 Hb H3 (x :: ys) R2 (s1.trans s2) (.cons (rx.step s2 (noFld_ne nf)) ry)
    · exact hr F α1 Ha H2 σ g1 _ _ R1 h3 _ (q.err s1)
  · exact ha F α H H1 σ g _ _ R h1 _ q
def okVs : List Rv → Option (List PyData)
  | [] => some []
  | .dat d :: r => (okVs r).map fun ds => d :: ds
  | _ :: _ => none
theorem okVs_all {α : Al} {H : Hp} : ∀ {us : List V} {vs : List Rv} {ds : List PyData}, Paired (RR K α H) us vs → okVs vs = some ds → DtAll K H us ds
  | _, _, _, .nil, h => by cases h; exact .nil
  | _, _, _, .cons (b := v) a b, h => by
    cases v with
    | dat d =>
      obtain ⟨es, h1, h2⟩ := Option.map_eq_some_iff.mp (show (okVs _).map _ = some _ from h)
      subst h2
      exact .cons a (okVs_all b h1)
    | at_ o => cases h
/-- a built-in of data -/
def mCB (f : List PyData → Option PyData) (a : AM) : EM := eBind a fun xs => fun g => (okVs xs).bind fun ds => (f ds).bind fun z => some (.ok (.dat z), g)
theorem se_cb {r : List V → Hp → VK → Prop} {f : List PyData → Option PyData} (hf : CbD K r f) (ha : SimA K FL T W tA ms) : SimE K FL T W (tCB r tA) (mCB f ms) := fun F α H H1 σ g r g' R hm Q q => by
  rcases eBind_some hm with ⟨v, g1, h1, h2⟩ | ⟨x, h1, rfl⟩
  · refine ha F α H H1 σ g _ g1 R h1 _ fun α1 Ha H2 x R1 s1 rx => ?_
    obtain ⟨d, k1, h5⟩ := bind_some h2
    obtain ⟨z, k3, h7⟩ := bind_some h5
    cases h7
    exact hf d z k3 Ha Ha x (Ex.refl _) (okVs_all rx k1) H2 R1.ex Q fun v H4 Hc e4 ec xc dc => q α1 Hc H4 v (R1.grow e4 ec xc) (s1.trans (Stp.of xc.ex)) dc
  · exact ha F α H H1 σ g _ _ R h1 _ q
def mTup (a : AM) : EM := eBind a fun xs => fun g => (okVs xs).bind fun ds => if ds.length ≤ 100000 then some (.ok (.dat (.tuple ds)), g) else none
def mLst (a : AM) : EM := eBind a fun xs => fun g => (okVs xs).bind fun ds => if ds.length ≤ 100000 then some (.ok (.dat (.list ds)), g) else none
theorem se_tup (ha : SimA K FL T W tA ms) : SimE K FL T W (tTup tA) (mTup ms) := fun F α H H1 σ g r g' R hm Q q => by
  rcases eBind_some hm with ⟨v, g1, h1, h2⟩ | ⟨x, h1, rfl⟩
  · refine ha F α H H1 σ g _ g1 R h1 _ fun α1 Ha H2 xs R1 s1 rx => ?_
    obtain ⟨ds, k1, h5⟩ := bind_some h2
    obtain ⟨hl, h7⟩ := ite_some h5
    cases h7
    have da := okVs_all rx k1
    exact ⟨by rw [da.length]; exact sz_of hl, fun p hp => q α1 (upd Ha p (.tup xs)) _ _ (R1.grow (Ex.new hp) (ex_upd R1.ex) (Ext.new R1.ex hp)) (s1.trans (Stp.of (Ex.new (fresh_back R1.ex hp)))) (.tup (st_of upd_same) (DtAll.ex (Ex.new (fresh_back R1.ex hp)) da))⟩
  · exact ha F α H H1 σ g _ _ R h1 _ q
theorem se_lst (ha : SimA K FL T W tA ms) : SimE K FL T W (tLst tA) (mLst ms) := fun F α H H1 σ g r g' R hm Q q => by
  rcases eBind_some hm with ⟨v, g1, h1, h2⟩ | ⟨x, h1, rfl⟩
  · refine ha F α H H1 σ g _ g1 R h1 _ fun α1 Ha H2 xs R1 s1 rx => ?_
    obtain ⟨ds, k1, h5⟩ := bind_some h2
    obtain ⟨hl, h7⟩ := ite_some h5
    cases h7
    have da := okVs_all rx k1
    exact ⟨by rw [da.length]; exact sz_of hl, fun p hp => q α1 (upd Ha p (.lst xs)) _ _ (R1.grow (Ex.new hp) (ex_upd R1.ex) (Ext.new R1.ex hp)) (s1.trans (Stp.of (Ex.new (fresh_back R1.ex hp)))) (.lst upd_same (DtAll.ex (Ex.new (fresh_back R1.ex hp)) da))⟩
  · exact ha F α H H1 σ g _ _ R h1 _ q
/-! tests -/
def asBv (v : Rv) : Option Bool := (okV v).bind asB
theorem asBv_some {v : Rv} {b : Bool} (h : asBv v = some b) : v = .dat (.bool b) := by
  obtain ⟨d, h1, h2⟩ := bind_some h
  rw [okV_some h1, asB_some h2]
def mTst (a : EM) : BM := eBind a fun x => fun g => (asBv x).bind fun b => some (.ok b, g)
theorem sbe_any {tt : TT} (hte : ∀ σ H1 (Q : Bool → Hp → Prop), te σ H1 (fun x H' => ∃ k, x = .bl k ∧ Q k H') → tt σ H1 Q) (ha : SimE K FL T W te ma) : SimB K FL T W tt (mTst ma) := fun F α H H1 σ g r g' R hm Q q => by
  refine hte σ H1 Q ?_
  rcases eBind_some hm with ⟨v, g1, h1, h2⟩ | ⟨x, h1, rfl⟩
  · refine ha F α H H1 σ g _ g1 R h1 _ fun α1 Ha H2 x R1 s1 rx => ?_
    obtain ⟨b, k1, h5⟩ := bind_some h2
    cases h5
    exact ⟨b, (rx.dat (asBv_some k1)).bl_eq, q α1 Ha H2 R1 s1⟩
  · exact ha F α H H1 σ g _ _ R h1 _ q
theorem sbe_test (ha : SimE K FL T W te ma) : SimB K FL T W (tTest te) (mTst ma) := sbe_any (fun _ _ _ h => h) ha
theorem sbe_B (ha : SimE K FL T W te ma) : SimB K FL T W (tB te) (mTst ma) := sbe_any (fun _ _ _ h => h) ha
def mAndB (a b : BM) : BM := eBind a fun x => if x = true then b else fun g => some (.ok false, g)
def mOrB (a b : BM) : BM := eBind a fun x => if x = true then fun g => some (.ok true, g) else b
def mNotB (a : BM) : BM := eBind a fun x => fun g => some (.ok (!x), g)
theorem KB.step {F : Fr} {α α1 : Al} {H H1 : Hp} {σ : L2.St} {g' : Sg} {Q : Bool → Hp → Prop} {r : Except Str Bool} (q : KB K FL T W F α H σ g' Q r) (s : Stp α H α1 H1) : KB K FL T W F α1 H1 σ g' Q r := by
  cases r with
  | ok b => exact fun α' H' H2 R s' => q α' H' H2 R (s.trans s')
  | error x => exact fun α' H' H2 R s' => q α' H' H2 R (s.trans s')
theorem KE.step {F : Fr} {α α1 : Al} {H H1 : Hp} {σ : L2.St} {g' : Sg} {Q : VK} {r : Except Str Rv} (q : KE K FL T W F α H σ g' Q r) (s : Stp α H α1 H1) : KE K FL T W F α1 H1 σ g' Q r := by
  cases r with
  | ok b => exact fun α' H' H2 u R s' => q α' H' H2 u R (s.trans s')
  | error x => exact fun α' H' H2 R s' => q α' H' H2 R (s.trans s')
theorem sbe_and (ha : SimB K FL T W tt ba) (hb : SimB K FL T W tu bb) : SimB K FL T W (tAnd tt tu) (mAndB ba bb) := fun F α H H1 σ g r g' R hm Q q => by
  rcases eBind_some hm with ⟨v, g1, h1, h2⟩ | ⟨x, h1, rfl⟩
  · refine ha F α H H1 σ g _ g1 R h1 _ fun α1 Ha H2 R1 s1 => ?_
    cases v with
    | true => exact hb F α1 Ha H2 σ g1 r g' R1 h2 Q (q.step s1)
    | false => cases h2; exact q α1 Ha H2 R1 s1
  · exact ha F α H H1 σ g _ _ R h1 _ q
theorem sbe_or (ha : SimB K FL T W tt ba) (hb : SimB K FL T W tu bb) : SimB K FL T W (tOr tt tu) (mOrB ba bb) := fun F α H H1 σ g r g' R hm Q q => by
  rcases eBind_some hm with ⟨v, g1, h1, h2⟩ | ⟨x, h1, rfl⟩
  · refine ha F α H H1 σ g _ g1 R h1 _ fun α1 Ha H2 R1 s1 => ?_
    cases v with
    | false => exact hb F α1 Ha H2 σ g1 r g' R1 h2 Q (q.step s1)
    | true => cases h2; exact q α1 Ha H2 R1 s1
  · exact ha F α H H1 σ g _ _ R h1 _ q
theorem sbe_not (ha : SimB K FL T W tt ba) : SimB K FL T W (tNot tt) (mNotB ba) := fun F α H H1 σ g r g' R hm Q q => by
  rcases eBind_some hm with ⟨v, g1, h1, h2⟩ | ⟨x, h1, rfl⟩
  · cases h2
    exact ha F α H H1 σ g _ _ R h1 _ fun α1 Ha H2 R1 s1 => q α1 Ha H2 R1 s1
  · exact ha F α H H1 σ g _ _ R h1 _ q
def mIf (c : BM) (a b : EM) : EM := eBind c fun x => if x = true then a else b
theorem se_if (hc : SimB K FL T W tt ba) (ha : SimE K FL T W ta ma) (hb : SimE K FL T W tb mb) : SimE K FL T W (tIf tt ta tb) (mIf ba ma mb) := fun F α H H1 σ g r g' R hm Q q => by
  rcases eBind_some hm with ⟨v, g1, h1, h2⟩ | ⟨x, h1, rfl⟩
  · refine hc F α H H1 σ g _ _ R h1 _ fun α1 Ha H2 R1 s1 => ?_
    cases v with
    | true => exact ha F α1 Ha H2 σ g1 r g' R1 h2 Q (q.step s1)
    | false => exact hb F α1 Ha H2 σ g1 r g' R1 h2 Q (q.step s1)
  · exact hc F α H H1 σ g _ _ R h1 _ q
def mAnd (a b : EM) : EM := eBind a fun v => fun g => (asBv v).bind fun x => if x = true then b g else some (.ok (.dat (.bool false)), g)
def mOr (a b : EM) : EM := eBind a fun v => fun g => (asBv v).bind fun x => if x = true then some (.ok (.dat (.bool true)), g) else b g
def mNot (a : EM) : EM := eBind a fun v => fun g => (asBv v).bind fun x => some (.ok (.dat (.bool (!x))), g)
theorem se_and (ha : SimE K FL T W ta ma) (hb : SimE K FL T W tb mb) : SimE K FL T W (tAndV ta tb) (mAnd ma mb) := fun F α H H1 σ g r g' R hm Q q => by
  rcases eBind_some hm with ⟨v, g1, h1, h2⟩ | ⟨x, h1, rfl⟩
  · refine ha F α H H1 σ g _ g1 R h1 _ fun α1 Ha H2 u R1 s1 ru => ?_
    obtain ⟨x, k1, k2⟩ := bind_some h2
    refine ⟨x, (ru.dat (asBv_some k1)).bl_eq, ?_⟩
    cases x with
    | true => exact hb F α1 Ha H2 σ g1 r g' R1 k2 Q (q.step s1)
    | false => cases k2; exact q α1 Ha H2 _ R1 s1 (.bl _)
  · exact ha F α H H1 σ g _ _ R h1 _ q
theorem se_or (ha : SimE K FL T W ta ma) (hb : SimE K FL T W tb mb) : SimE K FL T W (tOrV ta tb) (mOr ma mb) := fun F α H H1 σ g r g' R hm Q q => by
  rcases eBind_some hm with ⟨v, g1, h1, h2⟩ | ⟨x, h1, rfl⟩
  · refine ha F α H H1 σ g _ g1 R h1 _ fun α1 Ha H2 u R1 s1 ru => ?_
    obtain ⟨x, k1, k2⟩ := bind_some h2
    refine ⟨x, (ru.dat (asBv_some k1)).bl_eq, ?_⟩
    cases x with
    | false => exact hb F α1 Ha H2 σ g1 r g' R1 k2 Q (q.step s1)
    | true => cases k2; exact q α1 Ha H2 _ R1 s1 (.bl _)
  · exact ha F α H H1 σ g _ _ R h1 _ q
theorem se_not (ha : SimE K FL T W ta ma) : SimE K FL T W (tNotV ta) (mNot ma) := fun F α H H1 σ g r g' R hm Q q => by
  rcases eBind_some hm with ⟨v, g1, h1, h2⟩ | ⟨x, h1, rfl⟩
  · refine ha F α H H1 σ g _ g1 R h1 _ fun α1 Ha H2 u R1 s1 ru => ?_
    obtain ⟨x, k1, k2⟩ := bind_some h2
    cases k2
    exact ⟨x, (ru.dat (asBv_some k1)).bl_eq, q α1 Ha H2 _ R1 s1 (.bl _)⟩
  · exact ha F α H H1 σ g _ _ R h1 _ q
/-- a slice of what is told by doing -/
def mSl (a : EM) (l h : PO) : EM := eBind a fun v => fun g => (okV v).bind fun d => (l g).bind fun x => (h g).bind fun y => (slD d x y).bind fun z => some (.ok (.dat z), g)
theorem se_sl {tl th : TO} {pl ph : PO} (ha : SimE K FL T W ta ma) (hl : SimO K FL T tl pl) (hh : SimO K FL T th ph) : SimE K FL T W (tSl (rSlU K) ta tl th) (mSl ma pl ph) := fun F α H H1 σ g r g' R hm Q q => by
  rcases eBind_some hm with ⟨v, g1, h1, h2⟩ | ⟨x, h1, rfl⟩
  · refine ha F α H H1 σ g _ g1 R h1 _ fun α1 Ha H2 u R1 s1 ru => ?_
    obtain ⟨d, k1, h3⟩ := bind_some h2
    obtain ⟨x, k2, h4⟩ := bind_some h3
    obtain ⟨y, k3, h5⟩ := bind_some h4
    obtain ⟨z, k4, h6⟩ := bind_some h5
    cases h6
    have da := ru.dat (okV_some k1)
    exact hl F α1 Ha H2 σ _ x R1 k2 _ fun H3 e3 => hh F α1 Ha H3 σ _ y (R1.same e3) k3 _ fun H4 e4 => sl_core da k4 (R1.ex.trans (e3.trans e4)) fun v H5 Hc e5 ec xc dc => by
      have xc' : Ext Ha H2 Hc := (Ext.refl Ha H2).trans (e3.trans e4) xc
      exact q α1 Hc H5 v (R1.grow ((e3.trans e4).trans e5) ec xc') (s1.trans (Stp.of xc.ex)) dc
  · exact ha F α H H1 σ g _ _ R h1 _ q
end
end EV

/-! ### EV: calls, statements, defs (own work) -/
namespace EV
open PySem PySem.Spec PyProof.Rows L2 Evl L2H LamX LR
def stoA (α : Al) : Al := fun o => match o with
  | .slot _ => none
  | .ob i => α (.ob i)
  | .fld i f => α (.fld i f)
def merge (α α' : Al) : Al := fun o => match o with
  | .slot j => α (.slot j)
  | .ob i => α' (.ob i)
  | .fld i f => α' (.fld i f)
structure Frm (α : Al) (H H1 : Hp) (α' : Al) (H' H2 : Hp) : Prop where
  ex : Ex H H'
  fr : ∀ b u, H1 b = some u → (∀ o, α o ≠ some b) → (∀ ps, u ≠ .tbl ps) → H2 b = some u
  of : ∀ b u, H b = none → H1 b = some u → (∀ o, α o ≠ some b) → (∀ ps, u ≠ .tbl ps) → H' b = none
  nw : ∀ o b, α' o = some b → (∃ o', α o' = some b) ∨ H1 b = none ∨ ∃ ps, H1 b = some (.tbl ps)
  ob : ∀ i a, α (.ob i) = some a → α' (.ob i) = some a
abbrev Fun := List Rv → List Ob → Option (Except Str Rv × List Ob)
section
variable {K : PySem.W.Frag} {FL : Fl} {T : TbS} {F : Fr} {α α' : Al} {H H1 H' H2 : Hp} {σ : L2.St} {g : Sg}
theorem stoA_sub {o : Owner} {a : Addr} (h : stoA α o = some a) : α o = some a := by
  cases o <;> first | exact h | cases h
theorem stoA_ne {j : Nat} {a : Addr} (inj : ∀ o o' a, α o = some a → α o' = some a → o = o') (h : α (.slot j) = some a) : ∀ o, stoA α o ≠ some a := fun o ho => by
  have e := inj _ _ _ h (stoA_sub ho)
  subst e
  cases ho
theorem RelS.sto_only {st : List Ob} (r : RelS K FL T α H H1 st) : RelS K FL T (stoA α) H H1 st where
  ex := r.ex
  nt := r.nt
  tb := r.tb
  inj := fun o o' a h h' => r.inj o o' a (stoA_sub h) (stoA_sub h')
  off := fun o a h => r.off o a (stoA_sub h)
  pl := fun o a h => r.pl o a (stoA_sub h)
  sto := fun i o h => by
    obtain ⟨a, h1, h2⟩ := r.sto i o h
    exact ⟨a, h1, h2.ex (Ex.refl _) (fun _ _ z => z) (fun f b z => ⟨z, fun _ z => z⟩) fun _ z => z⟩
  dom := r.dom
theorem plain_nt {u : HO} (h : PlainO u) : ∀ ps, u ≠ .tbl ps := h.tbl
/-- behind a call -/
theorem Rel.call {st' : List Ob} (R : Rel K FL T F α H H1 σ g) (hT : T.fl = true) (R' : RelS K FL T α' H' H2 st') (f : Frm (stoA α) H H1 α' H' H2) : Rel K FL T F (merge α α') H' H2 σ ⟨g.sl, st'⟩ ∧ Stp α H (merge α α') H' := by
  have slk : ∀ j a, α (.slot j) = some a → (∃ u, H1 a = some u ∧ H2 a = some u ∧ PlainO u) ∧ H' a = none ∧ ∀ o, α' o ≠ some a := fun j a h => by
    obtain ⟨u, hu, pu⟩ := R.pl _ a h
    have ne := stoA_ne R.inj h
    refine ⟨⟨u, hu, f.fr a u hu ne pu.tbl, pu⟩, f.of a u (R.off _ a h) hu ne pu.tbl, fun o ho => ?_⟩
    rcases f.nw o a ho with ⟨o', z⟩ | z | ⟨qs, z⟩
    · exact ne o' z
    · rw [hu] at z; cases z
    · rw [hu] at z; cases z; exact pu
  have mg : ∀ {o a}, merge α α' o = some a → (∃ j, o = .slot j ∧ α (.slot j) = some a) ∨ ((∀ j, o ≠ .slot j) ∧ α' o = some a) := fun {o a} h => by
    cases o with
    | slot j => exact .inl ⟨j, rfl, h⟩
    | ob i => exact .inr ⟨(fun j z => nomatch z), h⟩
    | fld i f => exact .inr ⟨(fun j z => nomatch z), h⟩
  refine ⟨⟨⟨R'.ex, R'.nt, R'.tb, fun o o' a h h' => ?_, fun o a h => ?_, fun o a h => ?_, fun i o h => ?_, R'.dom⟩, ?_, ?_, R.ntB, fun o a h => ?_, fun i a h => ?_, R.len, fun j v h => ?_⟩, f.ex, fun i a h => f.ob i a h, fun _ => rfl⟩
  · rcases mg h with ⟨j, rfl, k⟩ | ⟨k0, k⟩
    · rcases mg h' with ⟨j', rfl, k'⟩ | ⟨_, k'⟩
      · exact R.inj _ _ a k k'
      · exact absurd k' ((slk j a k).2.2 o')
    · rcases mg h' with ⟨j', rfl, k'⟩ | ⟨_, k'⟩
      · exact absurd k ((slk j' a k').2.2 o)
      · exact R'.inj _ _ a k k'
  · rcases mg h with ⟨j, rfl, k⟩ | ⟨k0, k⟩
    · exact (slk j a k).2.1
    · exact R'.off o a k
  · rcases mg h with ⟨j, rfl, k⟩ | ⟨k0, k⟩
    · obtain ⟨u, _, h2, p⟩ := (slk j a k).1
      exact ⟨u, h2, p⟩
    · exact R'.pl o a k
  · obtain ⟨a, h1, h2⟩ := R'.sto i o h
    exact ⟨a, h1, h2.ex (Ex.refl _) (fun _ _ z => z) (fun f b z => ⟨z, fun _ z => z⟩) fun _ z => z⟩
  · refine ⟨R.ext.ex.trans f.ex, fun b o hb => ?_⟩
    cases hH : H b with
    | some u =>
      have e := f.ex b u hH
      rw [hb] at e
      cases e
      exact R.ext.fresh b o hH
    | none =>
      refine .inr ⟨?_, fun ps z => R'.nt hT b ps (z ▸ hb)⟩
      cases hB : F.B b with
      | none => rfl
      | some u =>
        exfalso
        have h1 := R.gro b u hB
        have ne : ∀ o, stoA α o ≠ some b := fun o ho => by
          have := R.offB o b (stoA_sub ho)
          rw [hB] at this
          cases this
        rw [f.of b u hH h1 ne fun ps z => R.ntB hT b ps (z ▸ hB)] at hb
        cases hb
  · intro b u hB
    have h1 := R.gro b u hB
    refine f.fr b u h1 (fun o ho => ?_) fun ps z => R.ntB hT b ps (z ▸ hB)
    have := R.offB o b (stoA_sub ho)
    rw [hB] at this
    cases this
  · rcases mg h with ⟨j, rfl, k⟩ | ⟨k0, k⟩
    · exact R.offB _ a k
    · rcases f.nw o a k with ⟨o', z⟩ | z | ⟨qs, z⟩
      · exact R.offB o' a (stoA_sub z)
      · exact fresh_back R.gro z
      · cases hB : F.B a with
        | none => rfl
        | some u =>
          have h1 := R.gro a u hB
          rw [z] at h1
          cases h1
          exact absurd hB (R.ntB hT a qs)
  · exact f.ob i a (R.old i a h)
  · obtain ⟨u, h1, h2⟩ := R.slt j v h
    refine ⟨u, h1, h2.ex f.ex (fun i a h => f.ob i a h) fun a h => ⟨h, fun u hu => ?_⟩⟩
    obtain ⟨u', k1, k2, _⟩ := (slk j a h).1
    rw [hu] at k1
    cases k1
    exact k2
end
/-! ### promises -/
section
variable (K : PySem.W.Frag) (FL : Fl) (T : TbS)
def KF (E : XK) (α : Al) (H H1 : Hp) (st' : List Ob) (Q : VK) : Except Str Rv → Prop
  | .ok v => ∀ u H2 H' α', RelS K FL T α' H' H2 st' → Frm α H H1 α' H' H2 → RR K α' H' u v → Q u H2
  | .error x => ∀ H2 H' α', RelS K FL T α' H' H2 st' → Frm α H H1 α' H' H2 → E (.ref (gaE K x)) none H2
def spF (n : Nat) (f : Fun) : Sp := fun vs H1 Q E => ∃ H α st as r st', RelS K FL T α H H1 st ∧ (∀ j, α (.slot j) = none) ∧ Paired (RR K α H) vs as ∧ as.length = n ∧ f as st = some (r, st') ∧ KF K FL T E α H H1 st' Q r
end
/-- an argument, an answer: data, or an object -/
def argV (v : Rv) : Option Val := match v with
  | .dat d => some (.dat d)
  | .at_ (.ob i) => some (.obj i)
  | _ => none
def argVs : List Rv → Option (List Val)
  | [] => some []
  | v :: r => (argV v).bind fun x => (argVs r).bind fun xs => some (x :: xs)
section
variable {K : PySem.W.Frag} {FL : Fl} {T : TbS} {W : WX} {tA : TA} {ms : AM} {te : TE} {ma : EM}
theorem RR.sto {α : Al} {H : Hp} {u : V} {v : Rv} {x : Val} (h : RR K α H u v) (hv : argV v = some x) : RR K (stoA α) H u v := by
  cases v with
  | dat d => exact h
  | at_ o =>
    cases o with
    | ob i => exact h
    | slot j => cases hv
    | fld i f => cases hv
theorem args_sto {α : Al} {H : Hp} : ∀ {us : List V} {vs : List Rv} {xs : List Val}, Paired (RR K α H) us vs → argVs vs = some xs → Paired (RR K (stoA α) H) us vs
  | _, _, _, .nil, _ => .nil
  | _, _, _, .cons a b, h => by
    obtain ⟨x, h1, h2⟩ := bind_some h
    obtain ⟨xs, h3, h4⟩ := bind_some h2
    exact .cons (a.sto h1) (args_sto b h3)
theorem RR.merge {α α' : Al} {H : Hp} {u : V} {v : Rv} {x : Val} (h : RR K α' H u v) (hv : argV v = some x) : RR K (merge α α') H u v := by
  cases v with
  | dat d => exact h
  | at_ o =>
    cases o with
    | ob i => exact h
    | slot j => cases hv
    | fld i f => cases hv
/-- f(..) -/
def callF (f : Fun) (n : Nat) (vs : List Rv) : EM := fun g => (argVs vs).bind fun _ => if vs.length = n then (f vs g.st).bind fun p => match p.1 with
  | .ok v => (argV v).bind fun _ => some (.ok v, ⟨g.sl, p.2⟩)
  | .error x => some (.error x, ⟨g.sl, p.2⟩) else none
theorem call_core {n : Nat} {f : Fun} (hT : T.fl = true) {F : Fr} {α : Al} {H H1 : Hp} {σ : L2.St} {g g' : Sg} {r : Except Str Rv} {us : List V} {vs : List Rv} (R : Rel K FL T F α H H1 σ g) (ra : Paired (RR K α H) us vs) (h : callF f n vs g = some (r, g')) {Q : VK} (q : KE K FL T W F α H σ g' Q r) : spF K FL T n f us H1 Q (WE W σ) := by
  obtain ⟨xs, h1, h2⟩ := bind_some h
  split at h2
  · rename_i hn
    obtain ⟨⟨r', st'⟩, h3, h4⟩ := bind_some h2
    refine ⟨H, stoA α, g.st, vs, r', st', R.toRelS.sto_only, fun _ => rfl, args_sto ra h1, hn, h3, ?_⟩
    cases r' with
    | ok v =>
      obtain ⟨x, h5, h6⟩ := bind_some (show (argV v).bind _ = _ from h4)
      cases h6
      intro u H2 H' α' R' f' ru
      obtain ⟨a, b⟩ := R.call hT R' f'
      exact q _ H' H2 u a b (ru.merge h5)
    | error x =>
      cases h4
      intro H2 H' α' R' f'
      obtain ⟨a, b⟩ := R.call hT R' f'
      exact q _ H' H2 a b
  · cases h2
def mCall (f : Fun) (n : Nat) (a : AM) : EM := eBind a fun vs => callF f n vs
theorem se_call {n : Nat} {f : Fun} (hT : T.fl = true) (ha : SimA K FL T W tA ms) : SimE K FL T W (tCallS (spF K FL T n f) (WE W) tA) (mCall f n ms) := fun F α H H1 σ g r g' R hm Q q => by
  rcases eBind_some hm with ⟨vs, g1, h1, h2⟩ | ⟨x, h1, rfl⟩
  · exact ha F α H H1 σ g _ g1 R h1 _ fun α1 Ha H2 us R1 s1 ru => call_core hT R1 ru h2 (q.step s1)
  · exact ha F α H H1 σ g _ _ R h1 _ q
/-- the class of the object at o; that m is none of its own -/
def clsAt (g : Sg) (o : Owner) (C m : Str) : Bool := match o with
  | .ob i => match g.st[i]? with
    | some (.ins C' fs) => decide (C' = C) && (fs.lookup m).isNone
    | _ => false
  | _ => false
def tMethW (C : Addr) (m : Str) (sp : Sp) (E : L2.St → XK) (ta : TE) (t : TA) : TE := fun σ H Q => ta σ H fun x H1 => ∃ a dx fs, x = .ref a ∧ H1 a = some (.ins C dx fs) ∧ fs.lookup m = none ∧ t σ H1 fun vs H2 => sp (x :: vs) H2 Q (E σ)
def mMeth (C m : Str) (f : Fun) (n : Nat) (o : EM) (a : AM) : EM := eBind o fun v => fun g => match v with
  | .at_ ow => if clsAt g ow C m = true ∧ noFld v = true then eBind a (fun vs => callF f n (v :: vs)) g else none
  | _ => none
theorem lookup_none_of {us : List (Str × V)} {fs : List (Str × Val)} (e : us.map (·.1) = fs.map (·.1)) (m : Str) (h : fs.lookup m = none) : us.lookup m = none := by
  induction us generalizing fs with
  | nil => rfl
  | cons p r ih =>
    cases fs with
    | nil => cases e
    | cons q s =>
      obtain ⟨k, v⟩ := p
      obtain ⟨k', v'⟩ := q
      simp only [List.map_cons, List.cons.injEq] at e
      obtain ⟨e1, e2⟩ := e
      subst e1
      rw [List.lookup_cons] at h ⊢
      cases c : (m == k) with
      | true => rw [c] at h; cases h
      | false => rw [c] at h; exact ih e2 h
theorem Rel.clsAt {F : Fr} {α : Al} {H H1 : Hp} {σ : L2.St} {g : Sg} {o : Owner} {C m : Str} {a : Addr} (R : Rel K FL T F α H H1 σ g) (h : EV.clsAt g o C m = true) (ha : α o = some a) : ∃ dx us, H1 a = some (.ins (gaE K C) dx us) ∧ us.lookup m = none := by
  unfold EV.clsAt at h
  split at h
  · split at h
    · rename_i hs
      rw [Bool.and_eq_true] at h
      obtain ⟨e, hn⟩ := h
      have e := of_decide_eq_true e
      subst e
      obtain ⟨a', k1, _, dx, us, k2, k3⟩ := R.sto _ _ hs
      rw [ha] at k1
      cases k1
      exact ⟨dx, us, k2, lookup_none_of k3.1 m (Option.isNone_iff_eq_none.mp hn)⟩
    · cases h
  · cases h
theorem se_meth {C m : Str} {n : Nat} {f : Fun} (hT : T.fl = true) (ho : SimE K FL T W te ma) (ha : SimA K FL T W tA ms) : SimE K FL T W (tMethW (gaE K C) m (spF K FL T n f) (WE W) te tA) (mMeth C m f n ma ms) := fun F α H H1 σ g r g' R hm Q q => by
  rcases eBind_some hm with ⟨v, g1, h1, h2⟩ | ⟨x, h1, rfl⟩
  · refine ho F α H H1 σ g _ g1 R h1 _ fun α1 Ha H2 u R1 s1 ru => ?_
    cases v with
    | dat d => cases h2
    | at_ ow =>
      have h2 : (if clsAt g1 ow C m = true ∧ noFld (.at_ ow) = true then eBind ms (fun vs => callF f n (.at_ ow :: vs)) g1 else none) = some (r, g') := h2
      split at h2
      · rename_i hc
        obtain ⟨a, rfl, k1⟩ := ru
        obtain ⟨dx, us, k2, k3⟩ := R1.clsAt hc.1 k1
        refine ⟨a, dx, us, rfl, k2, k3, ?_⟩
        rcases eBind_some h2 with ⟨vs, g2, h3, h4⟩ | ⟨x, h3, rfl⟩
        · exact ha F α1 Ha H2 σ g1 _ g2 R1 h3 _ fun α2 Hb H3 ws R2 s2 rw => call_core (us := .ref a :: ws) hT R2 (.cons ((show RR K α1 Ha (.ref a) (.at_ ow) from ⟨a, rfl, k1⟩).step s2 (noFld_ne hc.2)) rw) h4 (q.step (s1.trans s2))
        · exact ha F α1 Ha H2 σ g1 _ _ R1 h3 _ fun α' H' H2 R s' => q α' H' H2 R (s1.trans s')
      · cases h2
  · exact ho F α H H1 σ g _ _ R h1 _ q
end
end EV

/-! ### EV: changes, statements, defs (own work) -/
namespace EV
open PySem PySem.Spec PyProof.Rows L2 Evl L2H LamX LR
def putA {β : Type} (f : Str) (v : β) : List (Str × β) → List (Str × β)
  | [] => [(f, v)]
  | (g, x) :: r => if g = f then (g, v) :: r else (g, x) :: putA f v r
theorem lookup_putA {β : Type} (f g : Str) (v : β) : ∀ fs : List (Str × β), (putA f v fs).lookup g = if g = f then some v else fs.lookup g
  | [] => by
    show List.lookup g [(f, v)] = _
    rw [List.lookup_cons]
    by_cases h : g = f
    · simp [h]
    · have : (g == f) = false := by simp [h]
      rw [this, if_neg h]
  | (k, x) :: r => by
    unfold putA
    by_cases c : k = f
    · rw [if_pos c]
      subst c
      rw [List.lookup_cons, List.lookup_cons]
      by_cases h : g = k
      · simp [h]
      · have : (g == k) = false := by simp [h]
        rw [this, if_neg h]
    · rw [if_neg c, List.lookup_cons, List.lookup_cons, lookup_putA f g v r]
      by_cases h : g = k
      · subst h
        simp [c]
      · have : (g == k) = false := by simp [h]
        rw [this]
theorem put_names (f : Str) (u : V) (v : Val) : ∀ {us : List (Str × V)} {fs : List (Str × Val)}, us.map (·.1) = fs.map (·.1) → (putF f u us).map (·.1) = (putA f v fs).map (·.1)
  | [], [], _ => rfl
  | [], _ :: _, h => by cases h
  | _ :: _, [], h => by cases h
  | (k, x) :: r, (k', y) :: q, h => by
    simp only [List.map_cons, List.cons.injEq] at h
    obtain ⟨h1, h2⟩ := h
    subst h1
    unfold putF putA
    by_cases c : k = f
    · rw [if_pos c, if_pos c]
      simp only [List.map_cons, h2]
    · rw [if_neg c, if_neg c]
      simp only [List.map_cons, put_names f u v h2]
/-- a place's content is another -/
def Sg.put (g : Sg) (o : Owner) (v : Val) : Sg := match o with
  | .ob i => ⟨g.sl, g.st.set i (.box v)⟩
  | .slot j => ⟨g.sl.set j (some v), g.st⟩
  | .fld i f => match g.st[i]? with
    | some (.ins C fs) => ⟨g.sl, g.st.set i (.ins C (putA f v fs))⟩
    | _ => g
theorem put_fld_sl {g : Sg} {k : Nat} {f : Str} {v : Val} : (g.put (.fld k f) v).sl = g.sl := by
  show (match g.st[k]? with | some (.ins C fs) => (⟨g.sl, g.st.set k (.ins C (putA f v fs))⟩ : Sg) | _ => g).sl = g.sl
  split <;> rfl
theorem put_len {g : Sg} {o : Owner} {v : Val} : (g.put o v).st.length = g.st.length := by
  cases o with
  | ob i => simp [Sg.put]
  | slot j => rfl
  | fld k f =>
    show (match g.st[k]? with | some (.ins C fs) => (⟨g.sl, g.st.set k (.ins C (putA f v fs))⟩ : Sg) | _ => g).st.length = _
    split
    · simp
    · rfl
def isOwn (v : Val) : Prop := (∃ ds, v = .ownL ds) ∨ ∃ ds, v = .ownD ds
def COk (K : PySem.W.Frag) (H : Hp) (ho : HO) : Val → Prop
  | .ownL ds => ∃ vs, ho = .lst vs ∧ DtAll K H vs ds
  | .ownD kvs => ∃ ws, ho = .dK ws ∧ KvR K H ws kvs
  | _ => False
section
variable {K : PySem.W.Frag} {FL : Fl} {T : TbS} {F : Fr} {α α' : Al} {H H1 H' H2 : Hp} {σ : L2.St} {g : Sg}
theorem COk.plain {ho : HO} {v : Val} (h : COk K H ho v) : PlainO ho := by
  cases v with
  | dat d => exact h.elim
  | obj i => exact h.elim
  | ownL ds => obtain ⟨vs, rfl, _⟩ := h; trivial
  | ownD ds => obtain ⟨vs, rfl, _⟩ := h; trivial
theorem COk.own {ho : HO} {v : Val} (h : COk K H ho v) : isOwn v := by
  cases v with
  | dat d => exact h.elim
  | obj i => exact h.elim
  | ownL ds => exact .inl ⟨_, rfl⟩
  | ownD ds => exact .inr ⟨_, rfl⟩
theorem COk.co {ho : HO} {v : Val} {a : Addr} (h : COk K H ho v) (ha : H1 a = some ho) : CoR K H H1 a v := by
  cases v with
  | dat d => exact h.elim
  | obj i => exact h.elim
  | ownL ds => obtain ⟨vs, rfl, k⟩ := h; exact ⟨vs, ha, k⟩
  | ownD ds => obtain ⟨vs, rfl, k⟩ := h; exact ⟨vs, ha, k⟩
theorem vr_own {o : Owner} {a : Addr} {v : Val} (hv : isOwn v) (ha : α o = some a) (h : CoR K H H1 a v) : VR K α H H1 o (.ref a) v := by
  rcases hv with ⟨ds, rfl⟩ | ⟨ds, rfl⟩
  · exact ⟨a, rfl, ha, h⟩
  · exact ⟨a, rfl, ha, h⟩
theorem vr_ref {o : Owner} {a : Addr} {u : V} {v : Val} (hv : isOwn v) (ha : α o = some a) (h : VR K α H H1 o u v) : u = .ref a := by
  rcases hv with ⟨ds, rfl⟩ | ⟨ds, rfl⟩
  · obtain ⟨b, rfl, h1, _⟩ := h; rw [ha] at h1; cases h1; rfl
  · obtain ⟨b, rfl, h1, _⟩ := h; rw [ha] at h1; cases h1; rfl
theorem upd_keep {a : Addr} {ho u : HO} {b : Addr} (hne : b ≠ a) (h : H1 b = some u) : upd H1 a ho b = some u := by rw [upd_ne hne]; exact h
/-- what stands at a place is changed -/
theorem Rel.put {o : Owner} {a : Addr} {v0 v : Val} {ho : HO} (R : Rel K FL T F α H H1 σ g) (ha : α o = some a) (hc : contAt g o = some v0) (h0 : isOwn v0) (hv : COk K H ho v) : Rel K FL T F α H (upd H1 a ho) σ (g.put o v) := by
  obtain ⟨u0, hu0, pu0⟩ := R.pl o a ha
  have hH := R.off o a ha
  have hB := R.offB o a ha
  have new : CoR K H (upd H1 a ho) a v := hv.co upd_same
  have oth : ∀ {o' b}, o' ≠ o → α o' = some b → ∀ u, H1 b = some u → upd H1 a ho b = some u := fun {o' b} hne hb u hu => upd_keep (fun e => hne (R.inj o' o a (e ▸ hb) ha)) hu
  have obj_ne : ∀ {i C fs}, g.st[i]? = some (.ins C fs) → o ≠ .ob i := fun {i C fs} hs e => by
    subst e
    unfold contAt at hc
    simp only [hs] at hc
    cases hc
  have base : RelS K FL T α H (upd H1 a ho) (g.put o v).st := by
    refine ⟨ex_off R.ex hH, R.nt, EV.tabs_keep R.tb fun b u hb hp => upd_keep (fun e => by subst e; rw [hu0] at hb; cases hb; exact hp pu0) hb, R.inj, R.off, fun o' b hb => ?_, fun i ob hs => ?_, fun i hi => R.dom i (by rw [put_len] at hi; exact hi)⟩
    · by_cases c : o' = o
      · subst c
        rw [ha] at hb
        cases hb
        exact ⟨ho, upd_same, hv.plain⟩
      · obtain ⟨u, hu, pu⟩ := R.pl o' b hb
        exact ⟨u, oth c hb u hu, pu⟩
    · have keep : ∀ {ob}, g.st[i]? = some ob → (∀ f, o ≠ .fld i f) → o ≠ .ob i → ∃ b, α (.ob i) = some b ∧ ObR K FL α H (upd H1 a ho) i b ob := fun {ob} hs hf ho' => by
        obtain ⟨b, h1, h2⟩ := R.sto i ob hs
        exact ⟨b, h1, h2.ex (Ex.refl _) (fun _ _ z => z) (fun f c z => ⟨z, oth (Ne.symm (hf f)) z⟩) (oth (Ne.symm ho') h1)⟩
      cases o with
      | slot j => exact keep hs (fun f => by intro e; cases e) (by intro e; cases e)
      | ob k =>
        rcases set_get (show (g.st.set k (.box v))[i]? = some ob from hs) with ⟨rfl, rfl⟩ | ⟨c, h⟩
        · exact ⟨a, ha, new⟩
        · exact keep h (fun f => by intro e; cases e) (by intro e; cases e; exact c rfl)
      | fld k f =>
        cases hk : g.st[k]? with
        | none =>
          have e : g.put (.fld k f) v = g := by unfold Sg.put; simp only [hk]
          rw [e] at hs
          have : contAt g (.fld k f) = none := by unfold contAt; simp only [hk]
          rw [this] at hc
          cases hc
        | some obk =>
          cases obk with
          | box w =>
            have : contAt g (.fld k f) = none := by unfold contAt; simp only [hk]
            rw [this] at hc
            cases hc
          | ins C fs =>
            have e : (g.put (.fld k f) v).st = g.st.set k (.ins C (putA f v fs)) := by unfold Sg.put; simp only [hk]
            rw [e] at hs
            have hl : fs.lookup f = some v0 := by unfold contAt at hc; simp only [hk] at hc; exact hc
            rcases set_get hs with ⟨rfl, rfl⟩ | ⟨c, h⟩
            · obtain ⟨b, h1, cl, dx, us, h2, h3⟩ := R.sto i _ hk
              obtain ⟨u, k1, k2⟩ := h3.2 f v0 hl
              have eu := vr_ref h0 ha k2
              subst eu
              refine ⟨b, h1, cl, dx, us, oth (by intro e; cases e) h1 _ h2, ?_, fun f' v' hv' => ?_⟩
              · rw [h3.1]
                have : ∀ fs : List (Str × Val), fs.lookup f = some v0 → fs.map (·.1) = (putA f v fs).map (·.1) := by
                  intro fs
                  induction fs with
                  | nil => intro h; cases h
                  | cons p r ih =>
                    intro h
                    obtain ⟨k, x⟩ := p
                    unfold putA
                    by_cases c : k = f
                    · rw [if_pos c]; rfl
                    · rw [if_neg c, List.map_cons, List.map_cons]
                      rw [List.lookup_cons] at h
                      have : (f == k) = false := by simp [Ne.symm c]
                      rw [this] at h
                      rw [ih h]
                exact this fs hl
              · rw [lookup_putA] at hv'
                by_cases c : f' = f
                · subst c
                  rw [if_pos rfl] at hv'
                  cases hv'
                  exact ⟨_, k1, vr_own hv.own ha new⟩
                · rw [if_neg c] at hv'
                  obtain ⟨u', l1, l2⟩ := h3.2 f' v' hv'
                  exact ⟨u', l1, l2.ex (Ex.refl _) (fun _ _ z => z) fun b z => ⟨z, oth (by intro e; cases e; exact c rfl) z⟩⟩
            · exact keep h (fun f' => by intro e; cases e; exact c rfl) (by intro e; cases e)
  refine ⟨base, R.ext, ex_off R.gro hB, R.ntB, R.offB, R.old, ?_, fun j w hj => ?_⟩
  · cases o with
    | slot k => simp [Sg.put, R.len]
    | ob k => exact R.len
    | fld k f => rw [put_fld_sl]; exact R.len
  · have keep : g.sl[j]? = some (some w) → o ≠ .slot j → ∃ u, σ[j]? = some (some u) ∧ VR K α H (upd H1 a ho) (.slot j) u w := fun hj hne => by
      obtain ⟨u, h1, h2⟩ := R.slt j w hj
      exact ⟨u, h1, h2.ex (Ex.refl _) (fun _ _ z => z) fun b z => ⟨z, oth (Ne.symm hne) z⟩⟩
    cases o with
    | slot k =>
      rcases set_get (show (g.sl.set k (some v))[j]? = some (some w) from hj) with ⟨rfl, e⟩ | ⟨c, h⟩
      · cases e
        have hs : g.sl[j]? = some (some v0) := by
          unfold contAt at hc
          cases hk : g.sl[j]? with
          | none => simp only [hk] at hc; cases hc
          | some x =>
            cases x with
            | none => simp only [hk] at hc; cases hc
            | some y => simp only [hk] at hc; cases hc; rfl
        obtain ⟨u, h1, h2⟩ := R.slt j v0 hs
        have eu := vr_ref h0 ha h2
        subst eu
        exact ⟨_, h1, vr_own hv.own ha new⟩
      · exact keep h (by intro e; cases e; exact c rfl)
    | ob k => exact keep hj (by intro e; cases e)
    | fld k f =>
      rw [put_fld_sl] at hj
      exact keep hj (by intro e; cases e)
/-- a field is stored; what it owns may be new -/
theorem Rel.setF {i : Nat} {C f : Str} {fs : List (Str × Val)} {v : Val} {u : V} {a dx : Addr} {us : List (Str × V)} (R : Rel K FL T F α H H1 σ g) (hs : g.st[i]? = some (.ins C fs)) (ha : α (.ob i) = some a) (h1 : H1 a = some (.ins (gaE K C) dx us)) (hf : FsR K α H H1 i us fs) (hcl : ClsOk K FL C)
    (hα : ∀ o, o ≠ .fld i f → α' o = α o) (hn : ∀ p, α' (.fld i f) = some p → α (.fld i f) = some p ∨ (H p = none ∧ F.B p = none ∧ (∀ o, α o ≠ some p) ∧ ∃ ho, H1 p = some ho ∧ PlainO ho)) (hv : VR K α' H (upd H1 a (.ins (gaE K C) dx (putF f u us))) (.fld i f) u v) :
    Rel K FL T F α' H (upd H1 a (.ins (gaE K C) dx (putF f u us))) σ ⟨g.sl, g.st.set i (.ins C (putA f v fs))⟩ := by
  have hH := R.off _ a ha
  have hB := R.offB _ a ha
  have of' : ∀ {o b}, o ≠ .fld i f → α' o = some b → α o = some b := fun ne h => by rw [hα _ ne] at h; exact h
  have oth : ∀ {o b}, o ≠ .ob i → o ≠ .fld i f → α o = some b → ∀ w, H1 b = some w → upd H1 a (.ins (gaE K C) dx (putF f u us)) b = some w := fun {o b} hne _ hb w hw => upd_keep (fun e => hne (R.inj o _ a (e ▸ hb) ha)) hw
  have fne : ∀ p, α' (.fld i f) = some p → p ≠ a := fun p hp e => by
    subst e
    rcases hn p hp with z | ⟨_, _, z, _⟩
    · have := R.inj _ _ _ z ha
      cases this
    · exact z _ ha
  have inj' : ∀ o o' b, α' o = some b → α' o' = some b → o = o' := fun o o' b h h' => by
    by_cases c : o = .fld i f
    · by_cases c' : o' = .fld i f
      · rw [c, c']
      · subst c
        have k' := of' c' h'
        rcases hn b h with z | ⟨_, _, z, _⟩
        · exact R.inj _ _ b z k'
        · exact absurd k' (z o')
    · by_cases c' : o' = .fld i f
      · subst c'
        have k := of' c h
        rcases hn b h' with z | ⟨_, _, z, _⟩
        · exact R.inj _ _ b k z
        · exact absurd k (z o)
      · exact R.inj _ _ b (of' c h) (of' c' h')
  refine ⟨⟨ex_off R.ex hH, R.nt, EV.tabs_keep R.tb fun b w hb hp => upd_keep (fun e => by subst e; rw [h1] at hb; cases hb; exact hp trivial) hb, inj', fun o b h => ?_, fun o b h => ?_, fun k ob hk => ?_, fun k hk => (hα _ (by intro e; cases e)).trans (R.dom k (by simpa using hk))⟩, R.ext, ex_off R.gro hB, R.ntB, fun o b h => ?_, fun k b h => ?_, R.len, fun j w hj => ?_⟩
  · by_cases c : o = .fld i f
    · subst c
      rcases hn b h with z | ⟨z, _⟩
      · exact R.off _ b z
      · exact z
    · exact R.off _ b (of' c h)
  · by_cases c : o = .fld i f
    · subst c
      rcases hn b h with z | ⟨_, _, _, ho, z, p⟩
      · obtain ⟨w, hw, pw⟩ := R.pl _ b z
        exact ⟨w, upd_keep (fne b h) hw, pw⟩
      · exact ⟨ho, upd_keep (fne b h) z, p⟩
    · obtain ⟨w, hw, pw⟩ := R.pl _ b (of' c h)
      by_cases c2 : o = .ob i
      · subst c2
        have := of' c h
        rw [ha] at this
        cases this
        exact ⟨_, upd_same, trivial⟩
      · exact ⟨w, oth c2 c (of' c h) w hw, pw⟩
  · rcases set_get hk with ⟨rfl, rfl⟩ | ⟨c, h⟩
    · refine ⟨a, by rw [hα _ (by intro e; cases e)]; exact ha, hcl, dx, _, upd_same, put_names f u v hf.1, fun f' v' hv' => ?_⟩
      rw [lookup_putA] at hv'
      by_cases c : f' = f
      · subst c
        rw [if_pos rfl] at hv'
        cases hv'
        exact ⟨u, by rw [lookup_putF, if_pos rfl], hv⟩
      · rw [if_neg c] at hv'
        obtain ⟨u', l1, l2⟩ := hf.2 f' v' hv'
        have ne : Owner.fld k f' ≠ .fld k f := by intro e; cases e; exact c rfl
        exact ⟨u', by rw [lookup_putF, if_neg c]; exact l1, l2.ex (Ex.refl _) (fun j b z => by rw [hα _ (by intro e; cases e)]; exact z) fun b z => ⟨by rw [hα _ ne]; exact z, oth (by intro e; cases e) ne z⟩⟩
    · obtain ⟨b, h2, h3⟩ := R.sto k ob h
      refine ⟨b, by rw [hα _ (by intro e; cases e)]; exact h2, h3.ex (Ex.refl _) (fun j b z => by rw [hα _ (by intro e; cases e)]; exact z) (fun f' b z => ?_) (oth (by intro e; cases e; exact c rfl) (by intro e; cases e) h2)⟩
      have ne : Owner.fld k f' ≠ .fld i f := by intro e; cases e; exact c rfl
      exact ⟨by rw [hα _ ne]; exact z, oth (by intro e; cases e) ne z⟩
  · by_cases c : o = .fld i f
    · subst c
      rcases hn b h with z | ⟨_, z, _⟩
      · exact R.offB _ b z
      · exact z
    · exact R.offB _ b (of' c h)
  · rw [hα _ (by intro e; cases e)]
    exact R.old k b h
  · obtain ⟨u', k1, k2⟩ := R.slt j w hj
    exact ⟨u', k1, k2.ex (Ex.refl _) (fun j b z => by rw [hα _ (by intro e; cases e)]; exact z) fun b z => ⟨by rw [hα _ (by intro e; cases e)]; exact z, oth (by intro e; cases e) (by intro e; cases e) z⟩⟩
/-- a slot gets what is new -/
theorem Rel.own (R : Rel K FL T F α H H1 σ g) (j : Nat) {p : Addr} {v : Val} {ho : HO} (hp : H1 p = some ho) (hH : H p = none) (hB : F.B p = none) (hn : ∀ o, α o ≠ some p) (hv : COk K H ho v) : Rel K FL T F (fun o => if o = .slot j then some p else α o) H H1 (σ.set j (some (.ref p))) (g.set j v) := by
  have e : ∀ {o}, o ≠ .slot j → (if o = .slot j then some p else α o) = α o := fun h => if_neg h
  have eo : ∀ {k b}, α (.ob k) = some b → (if Owner.ob k = .slot j then some p else α (.ob k)) = some b := fun h => by rw [if_neg (by intro e; cases e)]; exact h
  refine ⟨⟨R.ex, R.nt, R.tb, fun o o' a h h' => ?_, fun o a h => ?_, fun o a h => ?_, fun i ob hs => ?_, fun i hi => (if_neg (by intro e; cases e)).trans (R.dom i hi)⟩, R.ext, R.gro, R.ntB, fun o a h => ?_, fun i a h => eo (R.old i a h), by simp [Sg.set, R.len], fun k w hk => ?_⟩
  · by_cases c : o = .slot j
    · by_cases c' : o' = .slot j
      · rw [c, c']
      · subst c
        rw [if_pos rfl] at h
        rw [e c'] at h'
        cases h
        exact absurd h' (hn o')
    · by_cases c' : o' = .slot j
      · subst c'
        rw [if_pos rfl] at h'
        rw [e c] at h
        cases h'
        exact absurd h (hn o)
      · rw [e c] at h
        rw [e c'] at h'
        exact R.inj _ _ a h h'
  · by_cases c : o = .slot j
    · subst c; rw [if_pos rfl] at h; cases h; exact hH
    · rw [e c] at h; exact R.off _ a h
  · by_cases c : o = .slot j
    · subst c; rw [if_pos rfl] at h; cases h; exact ⟨ho, hp, hv.plain⟩
    · rw [e c] at h; exact R.pl _ a h
  · obtain ⟨a, h1, h2⟩ := R.sto i ob hs
    exact ⟨a, eo h1, h2.ex (Ex.refl _) (fun k b z => eo z) (fun f b z => ⟨by rw [if_neg (by intro e; cases e)]; exact z, fun _ z => z⟩) fun _ z => z⟩
  · by_cases c : o = .slot j
    · subst c; rw [if_pos rfl] at h; cases h; exact hB
    · rw [e c] at h; exact R.offB _ a h
  · rcases set_get hk with ⟨rfl, ek⟩ | ⟨c, h⟩
    · cases ek
      have hlt : k < σ.length := by
        rw [R.len]
        have := (List.getElem?_eq_some_iff.mp hk).1
        simpa [Sg.set] using this
      exact ⟨.ref p, by rw [List.getElem?_set_self hlt], vr_own hv.own (by rw [if_pos rfl]) (hv.co hp)⟩
    · obtain ⟨u, h1, h2⟩ := R.slt k w h
      exact ⟨u, by rw [List.getElem?_set_ne (Ne.symm c)]; exact h1, h2.ex (Ex.refl _) (fun i b z => eo z) fun b z => ⟨by rw [if_neg (by intro e; cases e; exact c rfl)]; exact z, fun _ z => z⟩⟩
end
end EV

/-! ### EV: statements (own work) -/
namespace EV
open PySem PySem.Spec PyProof.Rows L2 Evl L2H LamX LR
inductive Flo where
  | nx
  | rt (v : Rv)
  | er (x : Str)
  | bk
  | ct
abbrev SM := Sg → Option (Flo × Sg)
section
variable (K : PySem.W.Frag) (FL : Fl) (T : TbS) (W : WX)
def KS (F : Fr) (a0 : Nat → Option Addr) (g' : Sg) (D : Ends) : Flo → Prop
  | .nx => ∀ α' H' H2 σ', Rel K FL T F α' H' H2 σ' g' → D.nx σ' H2
  | .rt v => ∀ α' H' H2 σ' u, Rel K FL T F α' H' H2 σ' g' → RR K α' H' u v → D.rt u H2
  | .er x => ∀ α' H' H2 σ', Rel K FL T F α' H' H2 σ' g' → W (.ref (gaE K x)) none σ' H2
  | .bk => ∀ α' H' H2 σ', Rel K FL T F α' H' H2 σ' g' → D.bk σ' H2
  | .ct => ∀ α' H' H2 σ', Rel K FL T F α' H' H2 σ' g' → D.ct σ' H2
def SimS (ts : TS) (m : SM) : Prop := ∀ (F : Fr) (α : Al) (H H1 : Hp) (σ : L2.St) (g : Sg) (fl : Flo) (g' : Sg), Rel K FL T F α H H1 σ g → m g = some (fl, g') → ∀ D : Ends, KS K FL T W F (fun _ => none) g' D fl → ts D σ H1
end
/-- an expression, then a statement -/
def sBind {β : Type} (m : Sg → Option (Except Str β × Sg)) (k : β → SM) : SM := fun g => (m g).bind fun p => match p.1 with
  | .ok v => k v p.2
  | .error x => some (.er x, p.2)
theorem sBind_some {β : Type} {m : Sg → Option (Except Str β × Sg)} {k : β → SM} {g : Sg} {fl : Flo} {g' : Sg} (h : sBind m k g = some (fl, g')) : (∃ v g1, m g = some (.ok v, g1) ∧ k v g1 = some (fl, g')) ∨ ∃ x, m g = some (.error x, g') ∧ fl = .er x := by
  obtain ⟨⟨r1, g1⟩, h1, h2⟩ := bind_some h
  cases r1 with
  | ok v => exact .inl ⟨v, g1, h1, h2⟩
  | error x => cases h2; exact .inr ⟨x, h1, rfl⟩
section
variable {K : PySem.W.Frag} {FL : Fl} {T : TbS} {W : WX} {ta tb tc te : TE} {tt tu : TT} {pa pb pc : PM} {qa qb : PB} {tA tr : TA} {ps pr : PMs} {ma mb : EM} {ms mr : AM} {ba bb : BM} {t1 t2 : TS} {s1 s2 : SM} {i j : Nat}
def sNext : SM := fun g => some (.nx, g)
theorem ss_next : SimS K FL T W tNext sNext := fun F α H H1 σ g fl g' R h D k => by
  cases h
  exact k α H H1 σ R
def sSeq (a b : SM) : SM := fun g => (a g).bind fun p => match p.1 with
  | .nx => b p.2
  | fl => some (fl, p.2)
theorem ss_seq (h1 : SimS K FL T W t1 s1) (h2 : SimS K FL T W t2 s2) : SimS K FL T W (tSeq t1 t2) (sSeq s1 s2) := fun F α H H1 σ g fl g' R h D k => by
  obtain ⟨⟨f1, g1⟩, k1, k2⟩ := bind_some h
  refine h1 F α H H1 σ g f1 g1 R k1 _ ?_
  cases f1 with
  | nx => exact fun α' H' H2 σ' R' => h2 F α' H' H2 σ' g1 fl g' R' k2 D k
  | rt v => cases k2; exact k
  | er x => cases k2; exact k
  | bk => cases k2; exact k
  | ct => cases k2; exact k
def sIf (c : BM) (a b : SM) : SM := sBind c fun x => if x = true then a else b
theorem ss_if (hc : SimB K FL T W tt ba) (h1 : SimS K FL T W t1 s1) (h2 : SimS K FL T W t2 s2) : SimS K FL T W (tIfS tt t1 t2) (sIf ba s1 s2) := fun F α H H1 σ g fl g' R h D k => by
  rcases sBind_some h with ⟨v, g1, k1, k2⟩ | ⟨x, k1, rfl⟩
  · refine hc F α H H1 σ g _ g1 R k1 _ fun α1 Ha H2 R1 s1' => ?_
    cases v with
    | true => exact h1 F α1 Ha H2 σ g1 fl g' R1 k2 D k
    | false => exact h2 F α1 Ha H2 σ g1 fl g' R1 k2 D k
  · exact hc F α H H1 σ g _ _ R k1 _ fun α' H' H2 R' s' => k α' H' H2 σ R'
def sRet (m : EM) : SM := sBind m fun v => fun g => some (.rt v, g)
theorem ss_ret (h1 : SimE K FL T W te ma) : SimS K FL T W (tRet te) (sRet ma) := fun F α H H1 σ g fl g' R h D k => by
  rcases sBind_some h with ⟨v, g1, k1, k2⟩ | ⟨x, k1, rfl⟩
  · cases k2
    exact h1 F α H H1 σ g _ _ R k1 _ fun α1 Ha H2 u R1 s1 ru => k α1 Ha H2 σ u R1 ru
  · exact h1 F α H H1 σ g _ _ R k1 _ fun α' H' H2 R' s' => k α' H' H2 σ R'
def sRetN : SM := fun g => some (.rt (.dat .none), g)
theorem ss_retN : SimS K FL T W tRetN sRetN := fun F α H H1 σ g fl g' R h D k => by
  cases h
  exact k α H H1 σ _ R .non
def sExpr (m : EM) : SM := sBind m fun _ => fun g => some (.nx, g)
theorem ss_expr (h1 : SimE K FL T W te ma) : SimS K FL T W (tDrop te) (sExpr ma) := fun F α H H1 σ g fl g' R h D k => by
  rcases sBind_some h with ⟨v, g1, k1, k2⟩ | ⟨x, k1, rfl⟩
  · cases k2
    exact h1 F α H H1 σ g _ _ R k1 _ fun α1 Ha H2 u R1 s1 ru => k α1 Ha H2 σ R1
  · exact h1 F α H H1 σ g _ _ R k1 _ fun α' H' H2 R' s' => k α' H' H2 σ R'
/-- x = e -/
def sAsg (j : Nat) (m : EM) : SM := sBind m fun v => fun g => (argV v).bind fun x => some (.nx, g.set j x)
theorem RR.vr {α : Al} {H H1 : Hp} {u : V} {v : Rv} {x : Val} {o : Owner} (h : RR K α H u v) (hv : argV v = some x) : VR K α H H1 o u x := by
  cases v with
  | dat d => cases hv; exact h
  | at_ ow =>
    cases ow with
    | ob i => cases hv; exact h
    | slot j => cases hv
    | fld i f => cases hv
theorem ss_asg (h1 : SimE K FL T W te ma) : SimS K FL T W (tAsg te (gName j)) (sAsg j ma) := fun F α H H1 σ g fl g' R h D k => by
  rcases sBind_some h with ⟨v, g1, k1, k2⟩ | ⟨x, k1, rfl⟩
  · obtain ⟨x, k3, k4⟩ := bind_some k2
    cases k4
    exact h1 F α H H1 σ g _ _ R k1 _ fun α1 Ha H2 u R1 s1 ru => k α1 Ha H2 _ (R1.set j (ru.vr k3))
  · exact h1 F α H H1 σ g _ _ R k1 _ fun α' H' H2 R' s' => k α' H' H2 σ R'
/-- a, (b, c) = e -/
def sAsgG (m : EM) (gm : GM) : SM := sBind m fun v => fun g => (okV v).bind fun d => (gm d g).bind fun g1 => some (.nx, g1)
theorem ss_asgG {tg : TG} {gm : GM} {vs : List Nat} (h1 : SimE K FL T W te ma) (hg : SimG K FL T tg gm vs) : SimS K FL T W (tAsg te tg) (sAsgG ma gm) := fun F α H H1 σ g fl g' R h D k => by
  rcases sBind_some h with ⟨v, g1, k1, k2⟩ | ⟨x, k1, rfl⟩
  · obtain ⟨d, k3, k4⟩ := bind_some k2
    obtain ⟨g2, k5, k6⟩ := bind_some k4
    cases k6
    refine h1 F α H H1 σ g _ _ R k1 _ fun α1 Ha H2 u R1 s1 ru => ?_
    obtain ⟨σ', R2, _, q⟩ := hg F α1 Ha H2 σ _ _ u d R1 (ru.dat (okV_some k3)) k5
    exact q _ (k α1 Ha H2 σ' R2)
  · exact h1 F α H H1 σ g _ _ R k1 _ fun α' H' H2 R' s' => k α' H' H2 σ R'
/-- a, b = x, y -/
def sPar (i j : Nat) (a : AM) : SM := sBind a fun vs => fun g => match vs with
  | [v, w] => (argV v).bind fun x => (argV w).bind fun y => some (.nx, (g.set i x).set j y)
  | _ => none
theorem ss_par (h1 : SimA K FL T W tA ms) : SimS K FL T W (tPar i j tA) (sPar i j ms) := fun F α H H1 σ g fl g' R h D k => by
  rcases sBind_some h with ⟨vs, g1, k1, k2⟩ | ⟨x, k1, rfl⟩
  · refine h1 F α H H1 σ g _ _ R k1 _ fun α1 Ha H2 us R1 s1 ru => ?_
    cases ru with
    | nil => cases k2
    | @cons u v us vs r1 r2 =>
      cases r2 with
      | nil => cases k2
      | @cons u2 v2 us2 vs2 r3 r4 =>
        cases r4 with
        | cons _ _ => cases k2
        | nil =>
          obtain ⟨x, k3, k4⟩ := bind_some (show (argV v).bind _ = _ from k2)
          obtain ⟨y, k5, k6⟩ := bind_some k4
          cases k6
          exact ⟨u, u2, rfl, k α1 Ha H2 _ ((R1.set i (r1.vr k3)).set j (r3.vr k5))⟩
  · exact h1 F α H H1 σ g _ _ R k1 _ fun α' H' H2 R' s' => k α' H' H2 σ R'
/-! ### what is new and one's own -/
/-- an expression that makes a list or a dict: its content -/
abbrev NM := Sg → Option (Except Str Val × Sg)
def KN (K : PySem.W.Frag) (FL : Fl) (T : TbS) (W : WX) (F : Fr) (α : Al) (H : Hp) (σ : L2.St) (g' : Sg) (Q : VK) : Except Str Val → Prop
  | .ok v => ∀ α' H' H2 p ho, Rel K FL T F α' H' H2 σ g' → Stp α H α' H' → H2 p = some ho → H' p = none → F.B p = none → (∀ o, α' o ≠ some p) → COk K H' ho v → Q (.ref p) H2
  | .error x => ∀ α' H' H2, Rel K FL T F α' H' H2 σ g' → Stp α H α' H' → W (.ref (gaE K x)) none σ H2
def SimN (K : PySem.W.Frag) (FL : Fl) (T : TbS) (W : WX) (te : TE) (m : NM) : Prop := ∀ (F : Fr) (α : Al) (H H1 : Hp) (σ : L2.St) (g : Sg) (r : Except Str Val) (g' : Sg), Rel K FL T F α H H1 σ g → m g = some (r, g') → ∀ Q : VK, KN K FL T W F α H σ g' Q r → te σ H1 Q
def sAsgN (j : Nat) (m : NM) : SM := sBind m fun v => fun g => some (.nx, g.set j v)
theorem ss_asgN {m : NM} (h1 : SimN K FL T W te m) : SimS K FL T W (tAsg te (gName j)) (sAsgN j m) := fun F α H H1 σ g fl g' R h D k => by
  rcases sBind_some h with ⟨v, g1, k1, k2⟩ | ⟨x, k1, rfl⟩
  · cases k2
    exact h1 F α H H1 σ g _ _ R k1 _ fun α1 Ha H2 p ho R1 s1 hp hH hB hn hc => k _ Ha H2 _ (R1.own j hp hH hB hn hc)
  · exact h1 F α H H1 σ g _ _ R k1 _ fun α' H' H2 R' s' => k α' H' H2 σ R'
def nLst (a : AM) : NM := eBind a fun xs => fun g => (okVs xs).bind fun ds => if ds.length ≤ 100000 then some (.ok (.ownL ds), g) else none
theorem Rel.fresh {F : Fr} {α : Al} {H H1 : Hp} {σ : L2.St} {g : Sg} {p : Addr} (R : Rel K FL T F α H H1 σ g) (hp : H1 p = none) : H p = none ∧ F.B p = none ∧ ∀ o, α o ≠ some p := ⟨fresh_back R.ex hp, fresh_back R.gro hp, fun o ho => by
  obtain ⟨u, hu, _⟩ := R.pl o p ho
  rw [hp] at hu
  cases hu⟩
theorem sn_lst (ha : SimA K FL T W tA ms) : SimN K FL T W (tLst tA) (nLst ms) := fun F α H H1 σ g r g' R hm Q q => by
  rcases eBind_some hm with ⟨v, g1, h1, h2⟩ | ⟨x, h1, rfl⟩
  · refine ha F α H H1 σ g _ _ R h1 _ fun α1 Ha H2 xs R1 s1 rx => ?_
    obtain ⟨ds, k1, h5⟩ := bind_some h2
    obtain ⟨hl, h7⟩ := ite_some h5
    cases h7
    have da := okVs_all rx k1
    refine ⟨by rw [da.length]; exact sz_of hl, fun p hp => ?_⟩
    obtain ⟨f1, f2, f3⟩ := R1.fresh hp
    exact q α1 Ha (upd H2 p (.lst xs)) p _ (R1.same (Ex.new hp)) s1 upd_same f1 f2 f3 ⟨xs, rfl, da⟩
  · exact ha F α H H1 σ g _ _ R h1 _ q
def nDic : NM := fun g => some (.ok (.ownD []), g)
theorem sn_dic : SimN K FL T W tDNewK nDic := fun F α H H1 σ g r g' R hm Q q => by
  cases hm
  intro p hp
  obtain ⟨f1, f2, f3⟩ := R.fresh hp
  exact q α H (upd H1 p (.dK [])) p _ (R.same (Ex.new hp)) (Stp.refl _ _) upd_same f1 f2 f3 ⟨[], rfl, rfl, .nil⟩
/-- a comprehension as a list of one's own -/
def nLc (it : IM) (gm : GM) (t : PB) (el : PM) (vs : List Nat) : NM := fun g => (it g).bind fun ds => if ds.length ≤ 50000 then (lcAll gm t el (g.wipe vs) ds).map fun out => (.ok (.ownL out), g) else none
theorem sn_lc {wi : TI} {tg : TG} {gm : GM} {it : IM} {vs ws : List Nat} (hi : SimIo K FL T wi it) (hg : SimG K FL T tg gm vs) (ht : SimPB K FL T tt qa) (he : SimP K FL T te pa) (hv : ws = vs := by rfl) : SimN K FL T W (tLc wi tg tt te ws) (nLc it gm qa pa vs) := fun F α H H1 σ g r g' R h Q q => by
  subst hv
  obtain ⟨ds, h1, h2⟩ := bind_some h
  have h2 : (if ds.length ≤ 50000 then (lcAll gm qa pa (g.wipe ws) ds).map (fun out => (Except.ok (Val.ownL out), g)) else none) = some (r, g') := h2
  split at h2
  · rename_i hl
    obtain ⟨out, h3, h4⟩ := Option.map_eq_some_iff.mp h2
    cases h4
    refine lc_new hi hg ht he R h1 hl h3 Q fun p H2 H' xs e2 e x n1 n2 h4 h5 => ?_
    obtain ⟨f1, f2, f3⟩ := R.fresh n1
    exact q α H' H2 p _ (R.grow e2 e x) (Stp.of x.ex) h4 n2 f2 f3 ⟨xs, rfl, h5⟩
  · cases h2
/-! ### fields -/
/-- the object at o: its number, its class, its fields -/
def insAt (g : Sg) (o : Owner) : Option (Nat × Str × List (Str × Val)) := match o with
  | .ob i => match g.st[i]? with
    | some (.ins C fs) => some (i, C, fs)
    | _ => none
  | _ => none
theorem Rel.insAt {F : Fr} {α : Al} {H H1 : Hp} {σ : L2.St} {g : Sg} {o : Owner} {i : Nat} {C : Str} {fs : List (Str × Val)} {a : Addr} (R : Rel K FL T F α H H1 σ g) (h : EV.insAt g o = some (i, C, fs)) (ha : α o = some a) : o = .ob i ∧ g.st[i]? = some (.ins C fs) ∧ ClsOk K FL C ∧ ∃ dx us, H1 a = some (.ins (gaE K C) dx us) ∧ FsR K α H H1 i us fs := by
  unfold EV.insAt at h
  split at h
  · split at h
    · rename_i hs
      cases h
      obtain ⟨a', k1, c, dx, us, k2, k3⟩ := R.sto _ _ hs
      rw [ha] at k1
      cases k1
      exact ⟨rfl, hs, c, dx, us, k2, k3⟩
    · cases h
  · cases h
theorem FsR.len {α : Al} {H H1 : Hp} {i : Nat} {us : List (Str × V)} {fs : List (Str × Val)} (h : FsR K α H H1 i us fs) : us.length = fs.length := by
  have := congrArg List.length h.1
  simpa using this
/-- o.f = e -/
def sSetF (FL : Fl) (w : WM) (f : Str) (m : EM) : SM := sBind m fun v => fun g => (argV v).bind fun x => (w g).bind fun o => (EV.insAt g o).bind fun p => if f ∈ FL p.2.1 ∧ p.2.2.length < 1000 then some (.nx, ⟨g.sl, g.st.set p.1 (.ins p.2.1 (putA f x p.2.2))⟩) else none
theorem ss_setF {w : WM} {f : Str} (hw : SimW K FL T ta w) (h1 : SimE K FL T W te ma) : SimS K FL T W (sFld K ta te f) (sSetF FL w f ma) := fun F α H H1 σ g fl g' R h D k => by
  rcases sBind_some h with ⟨v, g1, k1, k2⟩ | ⟨x, k1, rfl⟩
  · refine h1 F α H H1 σ g _ _ R k1 _ fun α1 Ha H2 u R1 s1 ru => ?_
    obtain ⟨x, k3, k4⟩ := bind_some k2
    obtain ⟨o, k5, k6⟩ := bind_some k4
    obtain ⟨⟨n, C, fs⟩, k7, k8⟩ := bind_some k6
    obtain ⟨⟨hf, hl⟩, e⟩ := ite_some k8
    cases e
    obtain ⟨a, l1, l2⟩ := hw F α1 Ha H2 σ _ o R1 k5
    obtain ⟨rfl, hs, hc, dx, us, l3, l4⟩ := R1.insAt k7 l1
    refine l2 _ ⟨a, _, dx, us, rfl, l3, hc.cls, hc.no f hf, by rw [l4.len]; exact hl, ?_⟩
    refine k α1 Ha _ σ (R1.setF hs l1 l3 l4 hc (fun _ _ => rfl) (fun p hp => .inl hp) ?_)
    exact ru.vr k3
  · exact h1 F α H H1 σ g _ _ R k1 _ fun α' H' H2 R' s' => k α' H' H2 σ R'
/-- o.f = what is new -/
def sSetFN (FL : Fl) (w : WM) (f : Str) (m : NM) : SM := sBind m fun x => fun g => (w g).bind fun o => (EV.insAt g o).bind fun p => if f ∈ FL p.2.1 ∧ p.2.2.length < 1000 then some (.nx, ⟨g.sl, g.st.set p.1 (.ins p.2.1 (putA f x p.2.2))⟩) else none
theorem ss_setFN {w : WM} {f : Str} {m : NM} (hw : SimW K FL T ta w) (h1 : SimN K FL T W te m) : SimS K FL T W (sFld K ta te f) (sSetFN FL w f m) := fun F α H H1 σ g fl g' R h D k => by
  rcases sBind_some h with ⟨v, g1, k1, k2⟩ | ⟨x, k1, rfl⟩
  · refine h1 F α H H1 σ g _ _ R k1 _ fun α1 Ha H2 q ho R1 s1 hp hH hB hn hco => ?_
    obtain ⟨o, k5, k6⟩ := bind_some k2
    obtain ⟨⟨n, C, fs⟩, k7, k8⟩ := bind_some k6
    obtain ⟨⟨hf, hl⟩, e⟩ := ite_some k8
    cases e
    obtain ⟨a, l1, l2⟩ := hw F α1 Ha H2 σ _ o R1 k5
    obtain ⟨rfl, hs, hc, dx, us, l3, l4⟩ := R1.insAt k7 l1
    have hqa : q ≠ a := fun e => by subst e; exact hn _ l1
    refine l2 _ ⟨a, _, dx, us, rfl, l3, hc.cls, hc.no f hf, by rw [l4.len]; exact hl, ?_⟩
    refine k _ Ha _ σ (R1.setF (α' := fun o => if o = .fld n f then some q else α1 o) hs l1 l3 l4 hc (fun o ne => if_neg ne) (fun p hp' => .inr ?_) ?_)
    · rw [if_pos rfl] at hp'
      cases hp'
      exact ⟨hH, hB, hn, ho, hp, hco.plain⟩
    · exact vr_own hco.own (by rw [if_pos rfl]) (hco.co (upd_keep hqa hp))
  · exact h1 F α H H1 σ g _ _ R k1 _ fun α' H' H2 R' s' => k α' H' H2 σ R'
/-- o.f op= e, e pure -/
def sAugF (FL : Fl) (w : WM) (f : Str) (op : PyData → PyData → Option PyData) (p : PM) : SM := fun g => (w g).bind fun o => (EV.insAt g o).bind fun q => if f ∈ FL q.2.1 ∧ q.2.2.length < 1000 then (q.2.2.lookup f).bind fun v => (match v with | .dat d => some d | _ => none).bind fun d => (p g).bind fun e => (op d e).bind fun z => some (.nx, ⟨g.sl, g.st.set q.1 (.ins q.2.1 (putA f (.dat z) q.2.2))⟩) else none
theorem ss_augF {w : WM} {f : Str} {op : PyData → PyData → Option PyData} {rd : V → V → Hp → VK → Prop} (hw : SimW K FL T ta w) (hop : OpD K rd op) (h1 : SimP K FL T te pa) : SimS K FL T W (sFldAug K ta te rd f) (sAugF FL w f op pa) := fun F α H H1 σ g fl g' R h D k => by
  obtain ⟨o, k5, k6⟩ := bind_some h
  obtain ⟨⟨n, C, fs⟩, k7, k8⟩ := bind_some k6
  have k8 : (if f ∈ FL C ∧ fs.length < 1000 then _ else _) = some (fl, g') := k8
  split at k8
  · rename_i hf
    obtain ⟨v, m1, k8⟩ := bind_some k8
    obtain ⟨d, m2, k8⟩ := bind_some k8
    obtain ⟨e, m3, k8⟩ := bind_some k8
    obtain ⟨z, m4, k8⟩ := bind_some k8
    cases k8
    cases v with
    | dat d' =>
      cases m2
      obtain ⟨a, l1, l2⟩ := hw F α H H1 σ _ o R k5
      obtain ⟨rfl, hs, hc, dx, us, l3, l4⟩ := R.insAt k7 l1
      obtain ⟨u, l5, l6⟩ := l4.2 f _ m1
      refine l2 _ ⟨a, _, dx, us, u, rfl, l3, hc.cls, hc.no f hf.1, l5, ?_⟩
      refine h1 F α H H1 σ g e R m3 _ fun y H2 Ha e2 ea xa da => ?_
      refine hop d e z m4 Ha Ha u y (Ex.refl _) (Dt.ex xa.ex l6) da H2 ea _ fun w H3 Hb e3 eb xb db => ?_
      have R2 : Rel K FL T F α Hb H3 σ g := (R.grow e2 ea xa).grow e3 eb xb
      obtain ⟨_, _, _, dx', us', l7, l8⟩ := R2.insAt k7 l1
      refine ⟨dx', us', l7, by rw [l8.len]; exact hf.2, ?_⟩
      exact k α Hb _ σ (R2.setF hs l1 l7 l8 hc (fun _ _ => rfl) (fun p hp => .inl hp) db)
    | obj i => cases m2
    | ownL ds => cases m2
    | ownD ds => cases m2
  · cases k8
end
end EV

/-! ### EV: dicts and lists in their places; loops; raise (own work) -/
namespace EV
open PySem PySem.Spec PyProof.Rows L2 Evl L2H LamX LR
def valD (kvs : List (Key × PyData)) (k : Key) : Option PyData := (kvs.find? fun kv => decide (kv.1 = k)).map (·.2)
def putD (kvs : List (Key × PyData)) (k : Key) (v : PyData) : List (Key × PyData) := if (kvs.any fun kv => decide (kv.1 = k)) = true then kvs.map (fun kv => if kv.1 = k then (kv.1, v) else kv) else kvs ++ [(k, v)]
def dropD (kvs : List (Key × PyData)) (k : Key) : List (Key × PyData) := kvs.filter fun kv => decide (kv.1 ≠ k)
def keyD (d : PyData) : Option Key := match d with
  | .int i => some (.inl i)
  | .str x => some (.inr x)
  | _ => none
def keyV (k : Key) : PyData := match k with
  | .inl i => .int i
  | .inr x => .str x
section
variable {K : PySem.W.Frag} {H : Hp}
theorem keyD_eq {d : PyData} {k : Key} {v : V} (h : keyD d = some k) (hd : Dt K H v d) : v = kV k := by
  cases d <;> simp [keyD] at h
  · subst h; exact hd.int_eq
  · subst h; exact hd.str_eq
inductive KvI (K : PySem.W.Frag) (H : Hp) : List (Key × V) → List (Key × PyData) → Prop
  | nil : KvI K H [] []
  | cons {k : Key} {u : V} {d : PyData} {ws : List (Key × V)} {kvs : List (Key × PyData)} : Dt K H u d → KvI K H ws kvs → KvI K H ((k, u) :: ws) ((k, d) :: kvs)
theorem KvR.i {ws : List (Key × V)} {kvs : List (Key × PyData)} (h : KvR K H ws kvs) : KvI K H ws kvs := by
  induction ws generalizing kvs with
  | nil =>
    cases kvs with
    | nil => exact .nil
    | cons p r => cases h.1
  | cons p r ih =>
    cases kvs with
    | nil => cases h.1
    | cons q s =>
      obtain ⟨k, u⟩ := p
      obtain ⟨k', d⟩ := q
      obtain ⟨h1, h2⟩ := h
      simp only [List.map_cons, List.cons.injEq] at h1
      obtain ⟨e1, e2⟩ := h1
      subst e1
      cases h2 with
      | cons a b => exact .cons a (ih ⟨e2, b⟩)
theorem KvI.r {ws : List (Key × V)} {kvs : List (Key × PyData)} (h : KvI K H ws kvs) : KvR K H ws kvs := by
  induction h with
  | nil => exact ⟨rfl, .nil⟩
  | cons a _ ih => exact ⟨by rw [List.map_cons, List.map_cons, ih.1], .cons a ih.2⟩
theorem KvI.val {ws : List (Key × V)} {kvs : List (Key × PyData)} (h : KvI K H ws kvs) (k : Key) : (valV ws k = none ∧ valD kvs k = none) ∨ ∃ u d, valV ws k = some u ∧ valD kvs k = some d ∧ Dt K H u d := by
  induction h with
  | nil => exact .inl ⟨rfl, rfl⟩
  | @cons k' u d ws kvs a _ ih =>
    by_cases c : k' = k
    · exact .inr ⟨u, d, by simp [valV, c], by simp [valD, c], a⟩
    · have e1 : valV ((k', u) :: ws) k = valV ws k := valV_neg c
      have e2 : valD ((k', d) :: kvs) k = valD kvs k := by simp [valD, List.find?_cons, c]
      rw [e1, e2]
      exact ih
theorem KvI.any {ws : List (Key × V)} {kvs : List (Key × PyData)} (h : KvI K H ws kvs) (k : Key) : (ws.any fun kv => decide (kv.1 = k)) = (kvs.any fun kv => decide (kv.1 = k)) := by
  induction h with
  | nil => rfl
  | cons a _ ih => rw [List.any_cons, List.any_cons, ih]
theorem KvI.put {ws : List (Key × V)} {kvs : List (Key × PyData)} (h : KvI K H ws kvs) (k : Key) {u : V} {d : PyData} (hd : Dt K H u d) : KvI K H (putK ws k u) (putD kvs k d) := by
  unfold putK putD
  rw [h.any k]
  split
  · induction h with
    | nil => exact .nil
    | @cons k' u' d' ws kvs a b ih =>
      rename_i c
      rw [List.map_cons, List.map_cons]
      have rest : KvI K H (ws.map fun kv => if kv.1 = k then (kv.1, u) else kv) (kvs.map fun kv => if kv.1 = k then (kv.1, d) else kv) := by
        clear ih c
        induction b with
        | nil => exact .nil
        | @cons k2 u2 d2 ws kvs a2 b2 ih2 =>
          rw [List.map_cons, List.map_cons]
          by_cases c : k2 = k
          · rw [if_pos c, if_pos c]; exact .cons hd ih2
          · rw [if_neg c, if_neg c]; exact .cons a2 ih2
      by_cases c : k' = k
      · rw [if_pos c, if_pos c]; exact .cons hd rest
      · rw [if_neg c, if_neg c]; exact .cons a rest
  · induction h with
    | nil => exact .cons hd .nil
    | @cons k' u' d' ws kvs a b ih =>
      rename_i c
      refine .cons a (ih fun z => c ?_)
      rw [List.any_cons, z, Bool.or_true]
theorem KvI.drop {ws : List (Key × V)} {kvs : List (Key × PyData)} (h : KvI K H ws kvs) (k : Key) : KvI K H (dropK ws k) (dropD kvs k) := by
  unfold dropK dropD
  induction h with
  | nil => exact .nil
  | @cons k' u d ws kvs a _ ih =>
    by_cases c : k' = k
    · have e : decide (k' ≠ k) = false := decide_eq_false (fun z => z c)
      rw [List.filter_cons, List.filter_cons]
      simp only [e]
      exact ih
    · have e : decide (k' ≠ k) = true := decide_eq_true c
      rw [List.filter_cons, List.filter_cons]
      simp only [e]
      exact .cons a ih
theorem KvI.len {ws : List (Key × V)} {kvs : List (Key × PyData)} (h : KvI K H ws kvs) : ws.length = kvs.length := by
  induction h with
  | nil => rfl
  | cons _ _ ih => rw [List.length_cons, List.length_cons, ih]
theorem KvI.keys {ws : List (Key × V)} {kvs : List (Key × PyData)} (h : KvI K H ws kvs) : ws.map (·.1) = kvs.map (·.1) := h.r.1
end
section
variable {K : PySem.W.Frag} {FL : Fl} {T : TbS} {W : WX} {ta tb tc te td ty tx : TE} {tt tu : TT} {pa pb pc : PM} {qa qb : PB} {tA tr : TA} {ps pr : PMs} {ma mb : EM} {ms mr : AM} {ba bb : BM} {t1 t2 : TS} {s1 s2 : SM} {i j : Nat} {w : WM}
theorem Rel.dicI {F : Fr} {α : Al} {H H1 : Hp} {σ : L2.St} {g : Sg} {o : Owner} {ds : List (Key × PyData)} {a : Addr} (R : Rel K FL T F α H H1 σ g) (h : dicAt g o = some ds) (ha : α o = some a) : ∃ ws, H1 a = some (.dK ws) ∧ KvI K H ws ds := by
  obtain ⟨ws, h1, h2⟩ := R.dic h ha
  exact ⟨ws, h1, h2.i⟩
/-- d[k], d.get(k, x), k in d -/
def pDGet (w : WM) (p : PM) : PM := fun g => (w g).bind fun o => (p g).bind fun y => (keyD y).bind fun k => (dicAt g o).bind fun kvs => valD kvs k
theorem sp_dget (hw : SimW K FL T td w) (hp : SimP K FL T ty pa) : SimP K FL T (tDGet td ty) (pDGet w pa) := fun F α H H1 σ g d R h Q q => by
  obtain ⟨o, h1, h⟩ := bind_some h
  obtain ⟨y, h2, h⟩ := bind_some h
  obtain ⟨k, h3, h⟩ := bind_some h
  obtain ⟨kvs, h4, h5⟩ := bind_some h
  obtain ⟨a, k1, k2⟩ := hw F α H H1 σ g o R h1
  refine k2 _ (hp F α H H1 σ g y R h2 _ fun u H2 Ha e2 ea xa da => ?_)
  have R2 := R.grow e2 ea xa
  obtain ⟨ws, k3, k4⟩ := R2.dicI h4 k1
  rcases k4.val k with ⟨_, z⟩ | ⟨v, d', z1, z2, z3⟩
  · rw [h5] at z; cases z
  · rw [h5] at z2
    cases z2
    refine ⟨a, v, rfl, ?_, q v H2 Ha e2 ea xa z3⟩
    rw [keyD_eq h3 da, ← z1]
    exact DGet.k k3
def pDGet2 (w : WM) (p x : PM) : PM := fun g => (w g).bind fun o => (p g).bind fun y => (x g).bind fun z => (keyD y).bind fun k => (dicAt g o).bind fun kvs => some ((valD kvs k).getD z)
theorem sp_dget2 (hw : SimW K FL T td w) (hp : SimP K FL T ty pa) (hx : SimP K FL T tx pb) : SimP K FL T (tDGet2 td ty tx) (pDGet2 w pa pb) := fun F α H H1 σ g d R h Q q => by
  obtain ⟨o, h1, h⟩ := bind_some h
  obtain ⟨y, h2, h⟩ := bind_some h
  obtain ⟨x, h6, h⟩ := bind_some h
  obtain ⟨k, h3, h⟩ := bind_some h
  obtain ⟨kvs, h4, h5⟩ := bind_some h
  cases h5
  obtain ⟨a, k1, k2⟩ := hw F α H H1 σ g o R h1
  obtain ⟨ws0, k0, _⟩ := R.dicI h4 k1
  refine k2 _ ⟨a, rfl, .inl ⟨ws0, .inl k0⟩, hp F α H H1 σ g y R h2 _ fun u H2 Ha e2 ea xa da => hx F α Ha H2 σ g x (R.grow e2 ea xa) h6 _ fun z H3 Hb e3 eb xb db => ?_⟩
  have R3 := (R.grow e2 ea xa).grow e3 eb xb
  obtain ⟨ws, k3, k4⟩ := R3.dicI h4 k1
  refine ⟨valV ws k, ?_, ?_⟩
  · rw [keyD_eq h3 da]
    exact DGet.k k3
  · rcases k4.val k with ⟨z1, z2⟩ | ⟨v, d', z1, z2, z3⟩
    · rw [z1]; rw [z2] at q
      exact q z H3 Hb (e2.trans e3) eb (xa.trans e2 xb) db
    · rw [z1]; rw [z2] at q
      exact q v H3 Hb (e2.trans e3) eb (xa.trans e2 xb) z3
def pDIn (p : PM) (w : WM) : PM := fun g => (w g).bind fun o => (p g).bind fun y => (keyD y).bind fun k => (dicAt g o).bind fun kvs => some (.bool (valD kvs k).isSome)
theorem sp_din (hw : SimW K FL T td w) (hp : SimP K FL T ty pa) : SimP K FL T (tDIn ty td) (pDIn pa w) := fun F α H H1 σ g d R h Q q => by
  obtain ⟨o, h1, h⟩ := bind_some h
  obtain ⟨y, h2, h⟩ := bind_some h
  obtain ⟨k, h3, h⟩ := bind_some h
  obtain ⟨kvs, h4, h5⟩ := bind_some h
  cases h5
  refine hp F α H H1 σ g y R h2 _ fun u H2 Ha e2 ea xa da => ?_
  have R2 := R.grow e2 ea xa
  obtain ⟨a, k1, k2⟩ := hw F α Ha H2 σ g o R2 h1
  obtain ⟨ws, k3, k4⟩ := R2.dicI h4 k1
  refine k2 _ ⟨a, valV ws k, rfl, by rw [keyD_eq h3 da]; exact DGet.k k3, ?_⟩
  have e : (valV ws k).isSome = (valD kvs k).isSome := by
    rcases k4.val k with ⟨z1, z2⟩ | ⟨v, d', z1, z2, z3⟩
    · rw [z1, z2]; rfl
    · rw [z1, z2]; rfl
  rw [e]
  exact q _ H2 Ha e2 ea xa (.bl _)
def pDNotIn (p : PM) (w : WM) : PM := fun g => (w g).bind fun o => (p g).bind fun y => (keyD y).bind fun k => (dicAt g o).bind fun kvs => some (.bool (!(valD kvs k).isSome))
theorem sp_dnotin (hw : SimW K FL T td w) (hp : SimP K FL T ty pa) : SimP K FL T (tDNotIn ty td) (pDNotIn pa w) := fun F α H H1 σ g d R h Q q => by
  obtain ⟨o, h1, h⟩ := bind_some h
  obtain ⟨y, h2, h⟩ := bind_some h
  obtain ⟨k, h3, h⟩ := bind_some h
  obtain ⟨kvs, h4, h5⟩ := bind_some h
  cases h5
  refine hp F α H H1 σ g y R h2 _ fun u H2 Ha e2 ea xa da => ?_
  have R2 := R.grow e2 ea xa
  obtain ⟨a, k1, k2⟩ := hw F α Ha H2 σ g o R2 h1
  obtain ⟨ws, k3, k4⟩ := R2.dicI h4 k1
  refine k2 _ ⟨a, valV ws k, rfl, by rw [keyD_eq h3 da]; exact DGet.k k3, ?_⟩
  have e : (valV ws k).isSome = (valD kvs k).isSome := by
    rcases k4.val k with ⟨z1, z2⟩ | ⟨v, d', z1, z2, z3⟩
    · rw [z1, z2]; rfl
    · rw [z1, z2]; rfl
  rw [e]
  exact q _ H2 Ha e2 ea xa (.bl _)
/-- d[k] = v -/
def sDPutP (w : WM) (pk pv : PM) : SM := fun g => (pv g).bind fun v => (w g).bind fun o => (pk g).bind fun y => (keyD y).bind fun k => (dicAt g o).bind fun kvs => if kvs.length < 100000 then some (.nx, g.put o (.ownD (putD kvs k v))) else none
theorem ss_dput (hw : SimW K FL T td w) (hk : SimP K FL T ty pa) (hv : SimP K FL T te pb) : SimS K FL T W (sDPut td ty te) (sDPutP w pa pb) := fun F α H H1 σ g fl g' R h D kk => by
  obtain ⟨v, h1, h⟩ := bind_some h
  obtain ⟨o, h2, h⟩ := bind_some h
  obtain ⟨y, h3, h⟩ := bind_some h
  obtain ⟨k, h4, h⟩ := bind_some h
  obtain ⟨kvs, h5, h6⟩ := bind_some h
  obtain ⟨hl, e⟩ := ite_some h6
  cases e
  refine hv F α H H1 σ g v R h1 _ fun u H2 Ha e2 ea xa da => ?_
  have R2 := R.grow e2 ea xa
  obtain ⟨a, k1, k2⟩ := hw F α Ha H2 σ g o R2 h2
  refine k2 _ (hk F α Ha H2 σ g y R2 h3 _ fun yv H3 Hb e3 eb xb db => ?_)
  have R3 := R2.grow e3 eb xb
  obtain ⟨ws, k3, k4⟩ := R3.dicI h5 k1
  refine ⟨a, _, rfl, .inl ⟨ws, k, k3, keyD_eq h4 db, ?_, rfl⟩, ?_⟩
  · rw [k4.len]; exact sz_lt hl
  · exact kk α Hb _ σ (R3.put k1 (dicAt_cont h5) (.inr ⟨_, rfl⟩) ⟨_, rfl, (k4.put k (Dt.ex xb.ex da)).r⟩)
/-- d.pop(k), d.pop(k, x) -/
def mDPop1 (w : WM) (p : PM) : EM := fun g => (w g).bind fun o => (p g).bind fun y => (keyD y).bind fun k => (dicAt g o).bind fun kvs => (valD kvs k).bind fun v => some (.ok (.dat v), g.put o (.ownD (dropD kvs k)))
theorem slot_put {α : Al} {H : Hp} : Stp α H α H := Stp.refl _ _
theorem se_dpop1 (hw : SimW K FL T td w) (hp : SimP K FL T ty pa) : SimE K FL T W (tDPop1 td ty) (mDPop1 w pa) := fun F α H H1 σ g r g' R h Q q => by
  obtain ⟨o, h1, h⟩ := bind_some h
  obtain ⟨y, h2, h⟩ := bind_some h
  obtain ⟨k, h3, h⟩ := bind_some h
  obtain ⟨kvs, h4, h⟩ := bind_some h
  obtain ⟨v, h5, h6⟩ := bind_some h
  cases h6
  obtain ⟨a, k1, k2⟩ := hw F α H H1 σ g o R h1
  obtain ⟨ws0, k0, _⟩ := R.dicI h4 k1
  refine k2 _ ⟨a, rfl, .inl ⟨ws0, .inl k0⟩, hp F α H H1 σ g y R h2 _ fun u H2 Ha e2 ea xa da => ?_⟩
  have R2 := R.grow e2 ea xa
  obtain ⟨ws, k3, k4⟩ := R2.dicI h4 k1
  rcases k4.val k with ⟨_, z⟩ | ⟨v', d', z1, z2, z3⟩
  · rw [h5] at z; cases z
  · rw [h5] at z2
    cases z2
    exact ⟨ws, k, v', k3, keyD_eq h3 da, z1, q α Ha _ v' (R2.put k1 (dicAt_cont h4) (.inr ⟨_, rfl⟩) ⟨_, rfl, (k4.drop k).r⟩) (Stp.of xa.ex) z3⟩
def mDPop2 (w : WM) (p x : PM) : EM := fun g => (w g).bind fun o => (p g).bind fun y => (x g).bind fun z => (keyD y).bind fun k => (dicAt g o).bind fun kvs => match valD kvs k with
  | some v => some (.ok (.dat v), g.put o (.ownD (dropD kvs k)))
  | none => some (.ok (.dat z), g)
theorem se_dpop2 (hw : SimW K FL T td w) (hp : SimP K FL T ty pa) (hx : SimP K FL T tx pb) : SimE K FL T W (tDPop2 td ty tx) (mDPop2 w pa pb) := fun F α H H1 σ g r g' R h Q q => by
  obtain ⟨o, h1, h⟩ := bind_some h
  obtain ⟨y, h2, h⟩ := bind_some h
  obtain ⟨x, h6, h⟩ := bind_some h
  obtain ⟨k, h3, h⟩ := bind_some h
  obtain ⟨kvs, h4, h5⟩ := bind_some h
  obtain ⟨a, k1, k2⟩ := hw F α H H1 σ g o R h1
  obtain ⟨ws0, k0, _⟩ := R.dicI h4 k1
  refine k2 _ ⟨a, rfl, .inl ⟨ws0, .inl k0⟩, hp F α H H1 σ g y R h2 _ fun u H2 Ha e2 ea xa da => hx F α Ha H2 σ g x (R.grow e2 ea xa) h6 _ fun z H3 Hb e3 eb xb db => ?_⟩
  have R3 := (R.grow e2 ea xa).grow e3 eb xb
  obtain ⟨ws, k3, k4⟩ := R3.dicI h4 k1
  refine ⟨ws, k, k3, keyD_eq h3 da, fun v hv => ?_, fun hv => ?_⟩
  · rcases k4.val k with ⟨z1, z2⟩ | ⟨v', d', z1, z2, z3⟩
    · rw [hv] at z1; cases z1
    · rw [hv] at z1
      cases z1
      have h5 : (match valD kvs k with | some v => some (Except.ok (Rv.dat v), g.put o (.ownD (dropD kvs k))) | none => some (Except.ok (Rv.dat x), g)) = some (r, g') := h5
      rw [z2] at h5
      cases h5
      exact q α Hb _ v (R3.put k1 (dicAt_cont h4) (.inr ⟨_, rfl⟩) ⟨_, rfl, (k4.drop k).r⟩) (Stp.of (xa.ex.trans xb.ex)) z3
  · rcases k4.val k with ⟨z1, z2⟩ | ⟨v', d', z1, z2, z3⟩
    · have h5 : (match valD kvs k with | some v => some (Except.ok (Rv.dat v), g.put o (.ownD (dropD kvs k))) | none => some (Except.ok (Rv.dat x), g)) = some (r, g') := h5
      rw [z2] at h5
      cases h5
      exact q α Hb _ z R3 (Stp.of (xa.ex.trans xb.ex)) db
    · rw [hv] at z1; cases z1
/-! ### lists -/
/-- l.append(e), e pure -/
def mAppP (w : WM) (p : PM) : EM := fun g => (w g).bind fun o => (p g).bind fun d => (lstAt g o).bind fun ds => if ds.length < 100000 then some (.ok (.dat .none), g.put o (.ownL (ds ++ [d]))) else none
theorem se_appP (hw : SimW K FL T td w) (hp : SimP K FL T te pa) : SimE K FL T W (tBM K "list" rAppend td (tCons te tNil)) (mAppP w pa) := fun F α H H1 σ g r g' R h Q q => by
  obtain ⟨o, h1, h⟩ := bind_some h
  obtain ⟨d, h2, h⟩ := bind_some h
  obtain ⟨ds, h3, h4⟩ := bind_some h
  obtain ⟨hl, e⟩ := ite_some h4
  cases e
  obtain ⟨a, k1, k2⟩ := hw F α H H1 σ g o R h1
  obtain ⟨vs0, k0, _⟩ := R.lst h3 k1
  refine k2 _ ⟨.inl ⟨rfl, vs0, sq_of k0⟩, hp F α H H1 σ g d R h2 _ fun u H2 Ha e2 ea xa da => ?_⟩
  have R2 := R.grow e2 ea xa
  obtain ⟨vs, k3, k4⟩ := R2.lst h3 k1
  refine ⟨a, vs, u, rfl, rfl, k3, sz_lt (by rw [k4.length]; exact hl), ?_⟩
  exact q α Ha _ _ (R2.put k1 (lstAt_cont h3) (.inl ⟨_, rfl⟩) ⟨_, rfl, k4.append (.cons da .nil)⟩) (Stp.of xa.ex) .non
def notFld (o : Owner) : Bool := match o with
  | .fld _ _ => false
  | _ => true
theorem Stp.at_ {α α' : Al} {H H' : Hp} {o : Owner} {a : Addr} (s : Stp α H α' H') (ho : notFld o = true) (h : α o = some a) : α' o = some a := by
  cases o with
  | ob i => exact s.ob i a h
  | slot j => rw [s.sl j]; exact h
  | fld i f => cases ho
/-- l.append(e), e does something; l a name's -/
def mApp (w : WM) (m : EM) : EM := fun g => (w g).bind fun o => if notFld o = true then (lstAt g o).bind fun _ => eBind m (fun v => fun g1 => (okV v).bind fun d => (lstAt g1 o).bind fun ds => if ds.length < 100000 then some (.ok (.dat .none), g1.put o (.ownL (ds ++ [d]))) else none) g else none
theorem se_app (hw : SimW K FL T td w) (hm : SimE K FL T W te ma) : SimE K FL T W (tBM K "list" rAppend td (tCons te tNil)) (mApp w ma) := fun F α H H1 σ g r g' R h Q q => by
  obtain ⟨o, h1, h⟩ := bind_some h
  split at h
  · rename_i hf
    obtain ⟨ds0, h0, h⟩ := bind_some h
    obtain ⟨a, k1, k2⟩ := hw F α H H1 σ g o R h1
    obtain ⟨vs0, k0, _⟩ := R.lst h0 k1
    refine k2 _ ⟨.inl ⟨rfl, vs0, sq_of k0⟩, ?_⟩
    rcases eBind_some h with ⟨v, g1, h2, h3⟩ | ⟨x, h2, rfl⟩
    · refine hm F α H H1 σ g _ g1 R h2 _ fun α1 Ha H2 u R2 s2 ru => ?_
      obtain ⟨d, h4, h3⟩ := bind_some h3
      obtain ⟨ds, h5, h6⟩ := bind_some h3
      obtain ⟨hl, e⟩ := ite_some h6
      cases e
      have k1' := s2.at_ hf k1
      obtain ⟨vs, k3, k4⟩ := R2.lst h5 k1'
      refine ⟨a, vs, u, rfl, rfl, k3, sz_lt (by rw [k4.length]; exact hl), ?_⟩
      exact q α1 Ha _ _ (R2.put k1' (lstAt_cont h5) (.inl ⟨_, rfl⟩) ⟨_, rfl, k4.append (.cons (ru.dat (okV_some h4)) .nil)⟩) s2 .non
    · exact hm F α H H1 σ g _ _ R h2 _ q
  · cases h
/-- l.extend(e), e tells a list of data -/
def mExt (w : WM) (m : EM) : EM := fun g => (w g).bind fun o => if notFld o = true then (lstAt g o).bind fun _ => eBind m (fun v => fun g1 => (match v with | .dat (.list es) => some es | _ => none).bind fun es => (lstAt g1 o).bind fun ds => if ds.length + es.length ≤ 100000 then some (.ok (.dat .none), g1.put o (.ownL (ds ++ es))) else none) g else none
theorem se_ext (hw : SimW K FL T td w) (hm : SimE K FL T W te ma) : SimE K FL T W (tBM K "list" rExtend td (tCons te tNil)) (mExt w ma) := fun F α H H1 σ g r g' R h Q q => by
  obtain ⟨o, h1, h⟩ := bind_some h
  split at h
  · rename_i hf
    obtain ⟨ds0, h0, h⟩ := bind_some h
    obtain ⟨a, k1, k2⟩ := hw F α H H1 σ g o R h1
    obtain ⟨vs0, k0, _⟩ := R.lst h0 k1
    refine k2 _ ⟨.inl ⟨rfl, vs0, sq_of k0⟩, ?_⟩
    rcases eBind_some h with ⟨v, g1, h2, h3⟩ | ⟨x, h2, rfl⟩
    · refine hm F α H H1 σ g _ g1 R h2 _ fun α1 Ha H2 u R2 s2 ru => ?_
      obtain ⟨es, h4, h3⟩ := bind_some h3
      obtain ⟨ds, h5, h6⟩ := bind_some h3
      obtain ⟨hl, e⟩ := ite_some h6
      cases e
      cases v with
      | at_ o => cases h4
      | dat dd =>
        cases dd <;> cases h4
        obtain ⟨b, xs, rfl, hb, rb⟩ := Dt.lst_eq ru
        have k1' := s2.at_ hf k1
        obtain ⟨vs, k3, k4⟩ := R2.lst h5 k1'
        refine ⟨a, b, vs, xs, rfl, rfl, k3, R2.ex b _ hb, by rw [k4.length, rb.length]; exact sz_of hl, ?_⟩
        exact q α1 Ha _ _ (R2.put k1' (lstAt_cont h5) (.inl ⟨_, rfl⟩) ⟨_, rfl, k4.append rb⟩) s2 .non
    · exact hm F α H H1 σ g _ _ R h2 _ q
  · cases h
/-- the same, e pure; l any place -/
def mExtP (w : WM) (p : PM) : EM := fun g => (w g).bind fun o => (p g).bind fun d => (match d with | .list es => some es | _ => none).bind fun es => (lstAt g o).bind fun ds => if ds.length + es.length ≤ 100000 then some (.ok (.dat .none), g.put o (.ownL (ds ++ es))) else none
theorem se_extP (hw : SimW K FL T td w) (hp : SimP K FL T te pa) : SimE K FL T W (tBM K "list" rExtend td (tCons te tNil)) (mExtP w pa) := fun F α H H1 σ g r g' R h Q q => by
  obtain ⟨o, h1, h⟩ := bind_some h
  obtain ⟨d, h2, h⟩ := bind_some h
  obtain ⟨es, h4, h⟩ := bind_some h
  obtain ⟨ds, h3, h6⟩ := bind_some h
  obtain ⟨hl, e⟩ := ite_some h6
  cases e
  obtain ⟨a, k1, k2⟩ := hw F α H H1 σ g o R h1
  obtain ⟨vs0, k0, _⟩ := R.lst h3 k1
  refine k2 _ ⟨.inl ⟨rfl, vs0, sq_of k0⟩, hp F α H H1 σ g d R h2 _ fun u H2 Ha e2 ea xa da => ?_⟩
  have R2 := R.grow e2 ea xa
  cases d <;> cases h4
  obtain ⟨b, xs, rfl, hb, rb⟩ := Dt.lst_eq da
  obtain ⟨vs, k3, k4⟩ := R2.lst h3 k1
  refine ⟨a, b, vs, xs, rfl, rfl, k3, ea b _ hb, by rw [k4.length, rb.length]; exact sz_of hl, ?_⟩
  exact q α Ha _ _ (R2.put k1 (lstAt_cont h3) (.inl ⟨_, rfl⟩) ⟨_, rfl, k4.append rb⟩) (Stp.of xa.ex) .non
/-- l.extend(m), m a list of one's own -/
def mExtW (w w2 : WM) : EM := fun g => (w g).bind fun o => (w2 g).bind fun o2 => (lstAt g o).bind fun ds => (lstAt g o2).bind fun es => if ds.length + es.length ≤ 100000 then some (.ok (.dat .none), g.put o (.ownL (ds ++ es))) else none
theorem se_extW {w2 : WM} (hw : SimW K FL T td w) (hw2 : SimW K FL T te w2) : SimE K FL T W (tBM K "list" rExtend td (tCons te tNil)) (mExtW w w2) := fun F α H H1 σ g r g' R h Q q => by
  obtain ⟨o, h1, h⟩ := bind_some h
  obtain ⟨o2, h2, h⟩ := bind_some h
  obtain ⟨ds, h3, h⟩ := bind_some h
  obtain ⟨es, h4, h6⟩ := bind_some h
  obtain ⟨hl, e⟩ := ite_some h6
  cases e
  obtain ⟨a, k1, k2⟩ := hw F α H H1 σ g o R h1
  obtain ⟨b, m1, m2⟩ := hw2 F α H H1 σ g o2 R h2
  obtain ⟨vs, k3, k4⟩ := R.lst h3 k1
  obtain ⟨xs, m3, m4⟩ := R.lst h4 m1
  refine k2 _ ⟨.inl ⟨rfl, vs, sq_of k3⟩, m2 _ ⟨a, b, vs, xs, rfl, rfl, k3, m3, by rw [k4.length, m4.length]; exact sz_of hl, ?_⟩⟩
  exact q α H _ _ (R.put k1 (lstAt_cont h3) (.inl ⟨_, rfl⟩) ⟨_, rfl, k4.append m4⟩) (Stp.refl _ _) .non
/-- l.pop() -/
def mLPop (w : WM) : EM := fun g => (w g).bind fun o => (lstAt g o).bind fun ds => (ds[ds.length - 1]?).bind fun d => some (.ok (.dat d), g.put o (.ownL ds.dropLast))
theorem DtAll.dropLast {H : Hp} : ∀ {vs : List V} {ds : List PyData}, DtAll K H vs ds → DtAll K H vs.dropLast ds.dropLast := fun {vs ds} h => by
  rw [List.dropLast_eq_take, List.dropLast_eq_take, h.length]
  exact h.take _
theorem se_lpop (hw : SimW K FL T td w) : SimE K FL T W (tBM0 K "list" rPop td) (mLPop w) := fun F α H H1 σ g r g' R h Q q => by
  obtain ⟨o, h1, h⟩ := bind_some h
  obtain ⟨ds, h3, h⟩ := bind_some h
  obtain ⟨d, h4, h6⟩ := bind_some h
  cases h6
  obtain ⟨a, k1, k2⟩ := hw F α H H1 σ g o R h1
  obtain ⟨vs, k3, k4⟩ := R.lst h3 k1
  obtain ⟨v, k5, k6⟩ := k4.get h4
  refine k2 _ ⟨.inl ⟨rfl, vs, sq_of k3⟩, a, vs, v, rfl, rfl, k3, by rw [k4.length]; exact k5, ?_⟩
  exact q α H _ v (R.put k1 (lstAt_cont h3) (.inl ⟨_, rfl⟩) ⟨_, rfl, EV.DtAll.dropLast k4⟩) (Stp.refl _ _) k6
/-! ### loops -/
def sWhile (c : BM) (b : SM) : Nat → SM
  | 0 => fun _ => none
  | n + 1 => sBind c fun x => if x = true then (fun g => (b g).bind fun p => match p.1 with
    | .nx => sWhile c b n p.2
    | .ct => sWhile c b n p.2
    | .bk => some (.nx, p.2)
    | fl => some (fl, p.2)) else fun g => some (.nx, g)
theorem ss_while {n : Nat} (hc : SimB K FL T W tt ba) (hb : SimS K FL T W t1 s1) : SimS K FL T W (tWhile tt t1) (sWhile ba s1 n) := fun F α H H1 σ g fl g' R h D k => by
  refine ⟨fun m σ' H' => ∃ α' Hk gi, Rel K FL T F α' Hk H' σ' gi ∧ sWhile ba s1 m gi = some (fl, g'), ⟨n, α, H, g, R, h⟩, ?_⟩
  rintro m σ' H' ⟨α', Hk, gi, Ri, hi⟩
  cases m with
  | zero => cases hi
  | succ m =>
    rcases sBind_some hi with ⟨v, g1, k1, k2⟩ | ⟨x, k1, rfl⟩
    · refine hc F α' Hk H' σ' gi _ g1 Ri k1 _ fun α1 Ha H2 R1 s1' => ?_
      cases v with
      | true =>
        have k2 : ((s1 g1).bind fun p => match p.1 with | .nx => sWhile ba s1 m p.2 | .ct => sWhile ba s1 m p.2 | .bk => some (.nx, p.2) | fl => some (fl, p.2)) = some (fl, g') := k2
        obtain ⟨⟨f1, g2⟩, k3, k4⟩ := bind_some k2
        refine ⟨fun σ2 H3 => ∃ α' Hk gi, Rel K FL T F α' Hk H3 σ2 gi ∧ sWhile ba s1 m gi = some (fl, g'), fun σ2 H3 z => ⟨m, Nat.lt_succ_self _, z⟩, ?_⟩
        refine hb F α1 Ha H2 σ' g1 f1 g2 R1 k3 _ ?_
        cases f1 with
        | nx => exact fun α2 H2' H3 σ2 R2 => ⟨α2, H2', g2, R2, k4⟩
        | ct => exact fun α2 H2' H3 σ2 R2 => ⟨α2, H2', g2, R2, k4⟩
        | bk => cases k4; exact k
        | rt v => cases k4; exact k
        | er x => cases k4; exact k
      | false =>
        cases k2
        exact k α1 Ha H2 σ' R1
    · exact hc F α' Hk H' σ' gi _ _ Ri k1 _ fun α2 H2' H3 R2 s' => k α2 H2' H3 σ' R2
def forL (gm : GM) (b : SM) : List PyData → SM
  | [] => fun g => some (.nx, g)
  | d :: ds => fun g => (gm d g).bind fun g1 => (b g1).bind fun p => match p.1 with
    | .nx => forL gm b ds p.2
    | .ct => forL gm b ds p.2
    | .bk => some (.nx, p.2)
    | fl => some (fl, p.2)
def sFor (it : IM) (gm : GM) (b : SM) : SM := fun g => (it g).bind fun ds => forL gm b ds g
theorem Rel.sub {F : Fr} {α : Al} {H H1 : Hp} {σ : L2.St} {g : Sg} (R : Rel K FL T F α H H1 σ g) : Rel K FL T ⟨H, F.B, F.a0⟩ α H H1 σ g := ⟨R.toRelS, Ext.refl _ _, R.gro, R.ntB, R.offB, R.old, R.len, R.slt⟩
theorem Rel.unsub {F : Fr} {α : Al} {Hb H H1 : Hp} {σ : L2.St} {g : Sg} (R : Rel K FL T ⟨Hb, F.B, F.a0⟩ α H H1 σ g) (x : Ext F.H0 F.B Hb) : Rel K FL T F α H H1 σ g := ⟨R.toRelS, x.trans (Ex.refl _) R.ext, R.gro, R.ntB, R.offB, R.old, R.len, R.slt⟩
theorem ss_for {wi : TI} {it : IM} {tg : TG} {gm : GM} {vs : List Nat} (hi : SimI K FL T wi it) (hg : SimG K FL T tg gm vs) (hb : SimS K FL T W t1 s1) : SimS K FL T W (tFor wi tg t1) (sFor it gm s1) := fun F α H H1 σ g fl g' R h D k => by
  obtain ⟨ds, h1, h2⟩ := bind_some h
  refine hi F α H H1 σ g ds R h1 _ fun J G H2 Hb e2 eb xb hG w => ?_
  have R0 := R.grow e2 eb xb
  refine for_it (w.mono (G' := fun H3 => Ex Hb H3) (fun H3 e3 => hG H3 e3) fun _ _ _ _ _ _ y => y)
    (fun i σ' H3 => (∃ α' Hk gi, Rel K FL T ⟨Hb, F.B, F.a0⟩ α' Hk H3 σ' gi ∧ forL gm s1 (ds.drop i) gi = some (fl, g'))) ?_ ?_ ?_ ?_
  · exact ⟨α, Hb, g, R0.sub, h2⟩
  · rintro i σ' H3 hi ⟨α', Hk, gi, Ri, _⟩
    exact Ri.ext.ex.trans Ri.ex
  · rintro i x σ' H3 H4 hi ⟨α', Hk, gi, Ri, hf⟩ ⟨y1, d, y2, y3⟩
    obtain ⟨Hc, c1, c2, c3⟩ := y3 Hk Ri.ext.ex Ri.ex
    have hd : ds.drop i = d :: ds.drop (i + 1) := by
      rw [List.drop_eq_getElem_cons hi]
      obtain ⟨_, e⟩ := List.getElem?_eq_some_iff.mp y2
      rw [e]
    rw [hd] at hf
    obtain ⟨g1, k1, k2⟩ := bind_some hf
    obtain ⟨⟨f1, g2⟩, k3, k4⟩ := bind_some k2
    have Rc := Ri.grow y1 c2 c1
    obtain ⟨σ2, R2, _, q2⟩ := hg _ α' Hc H4 σ' gi g1 x d Rc c3 k1
    refine q2 _ ?_
    refine hb _ α' Hc H4 σ2 g1 f1 g2 R2 k3 _ ?_
    cases f1 with
    | nx => exact fun α2 H2' H3 σ2 R2 => ⟨α2, H2', g2, R2, k4⟩
    | ct => exact fun α2 H2' H3 σ2 R2 => ⟨α2, H2', g2, R2, k4⟩
    | bk => cases k4; exact fun α2 H2' H3 σ2 R2 => k α2 H2' H3 σ2 (R2.unsub R0.ext)
    | rt v => cases k4; exact fun α2 H2' H3 σ2 u R2 ru => k α2 H2' H3 σ2 u (R2.unsub R0.ext) ru
    | er x => cases k4; exact fun α2 H2' H3 σ2 R2 => k α2 H2' H3 σ2 (R2.unsub R0.ext)
  · rintro σ' H3 ⟨α', Hk, gi, Ri, hf⟩
    rw [List.drop_length] at hf
    cases hf
    exact k α' Hk H3 σ' (Ri.unsub R0.ext)
/-! ### raise; a list that changes no more -/
def sRaise (x : Str) : SM := fun g => some (.er x, g)
theorem ss_raise {x : Str} : SimS K FL T W (fun _ σ H => W (.ref (gaE K x)) none σ H) (sRaise x) := fun F α H H1 σ g fl g' R h D k => by
  cases h
  exact k α H H1 σ R
/-- a name's list is data from now on -/
def Sg.frz (g : Sg) (o : Owner) : Option Sg := (lstAt g o).bind fun ds => match o with
  | .slot j => some (g.set j (.dat (.list ds)))
  | .fld i f => match g.st[i]? with
    | some (.ins C fs) => some ⟨g.sl, g.st.set i (.ins C (putA f (.dat (.list ds)) fs))⟩
    | _ => none
  | _ => none
theorem Rel.frzS {F : Fr} {α : Al} {H H1 : Hp} {σ : L2.St} {g g' : Sg} {j : Nat} (R : Rel K FL T F α H H1 σ g) (h : g.frz (.slot j) = some g') : ∃ α' H', Rel K FL T F α' H' H1 σ g' := by
  obtain ⟨ds, h1, h2⟩ := bind_some h
  cases h2
  have hc := lstAt_cont h1
  have hs : g.sl[j]? = some (some (.ownL ds)) := by
    unfold contAt at hc
    cases hk : g.sl[j]? with
    | none => simp only [hk] at hc; cases hc
    | some x =>
      cases x with
      | none => simp only [hk] at hc; cases hc
      | some y => simp only [hk] at hc; cases hc; rfl
  obtain ⟨u, k1, a, rfl, k2, vs, k3, k4⟩ := R.slt j _ hs
  have hH := R.off _ a k2
  have hx : Ex H (upd H a (.lst vs)) := Ex.new hH
  have sl : ∀ {o b}, o ≠ .slot j → α o = some b → b ≠ a := fun {o b} ne hb e => ne (R.inj _ _ a (e ▸ hb) k2)
  have e : ∀ {o : Owner}, o ≠ .slot j → (if o = .slot j then none else α o) = α o := fun ne => if_neg ne
  have eo : ∀ {k b}, α (.ob k) = some b → (if Owner.ob k = .slot j then none else α (.ob k)) = some b := fun h => by rw [if_neg (by intro e; cases e)]; exact h
  have sub : ∀ {o b}, (if o = .slot j then none else α o) = some b → o ≠ .slot j ∧ α o = some b := fun {o b} h => by
    by_cases c : o = .slot j
    · rw [if_pos c] at h; cases h
    · rw [if_neg c] at h; exact ⟨c, h⟩
  refine ⟨fun o => if o = .slot j then none else α o, upd H a (.lst vs), ⟨fun b o hb => ?_, fun hT b qs hb => ?_, R.tb, fun o o' b h h' => R.inj _ _ b (sub h).2 (sub h').2, fun o b h => ?_, fun o b h => R.pl _ b (sub h).2, fun i ob hi => ?_, fun i hi => (if_neg (by intro e; cases e)).trans (R.dom i hi)⟩, ⟨R.ext.ex.trans hx, fun b o hb => ?_⟩, R.gro, R.ntB, fun o b h => R.offB _ b (sub h).2, fun i b h => eo (R.old i b h), by simp [Sg.set, R.len], fun k w hk => ?_⟩
  · by_cases c : b = a
    · subst c; rw [upd_same] at hb; cases hb; exact k3
    · rw [upd_ne c] at hb; exact R.ex b o hb
  · by_cases c : b = a
    · subst c; rw [upd_same] at hb; cases hb
    · rw [upd_ne c] at hb; exact R.nt hT b qs hb
  · rw [upd_ne (sl (sub h).1 (sub h).2)]
    exact R.off _ b (sub h).2
  · obtain ⟨b, m1, m2⟩ := R.sto i ob hi
    exact ⟨b, eo m1, m2.ex hx (fun _ _ z => eo z) (fun f c z => ⟨by rw [if_neg (by intro e; cases e)]; exact z, fun _ z => z⟩) fun _ z => z⟩
  · by_cases c : b = a
    · subst c; rw [upd_same] at hb; cases hb; exact .inr ⟨R.offB _ b k2, fun ps z => by cases z⟩
    · rw [upd_ne c] at hb; exact R.ext.fresh b o hb
  · rcases set_get hk with ⟨rfl, ek⟩ | ⟨c, h⟩
    · cases ek
      exact ⟨_, k1, .lst upd_same (DtAll.ex hx k4)⟩
    · obtain ⟨u, m1, m2⟩ := R.slt k w h
      exact ⟨u, m1, m2.ex hx (fun _ _ z => eo z) fun b z => ⟨by rw [if_neg (by intro e; cases e; exact c rfl)]; exact z, fun _ z => z⟩⟩
theorem Rel.frzF {F : Fr} {α : Al} {H H1 : Hp} {σ : L2.St} {g g' : Sg} {i : Nat} {f : Str} (R : Rel K FL T F α H H1 σ g) (h : g.frz (.fld i f) = some g') : ∃ α' H', Rel K FL T F α' H' H1 σ g' := by
  obtain ⟨ds, h1, h2⟩ := bind_some h
  have hc := lstAt_cont h1
  cases hk : g.st[i]? with
  | none => simp only [hk] at h2; cases h2
  | some ob =>
    cases ob with
    | box v => simp only [hk] at h2; cases h2
    | ins C fs =>
      simp only [hk] at h2
      cases h2
      have hl : fs.lookup f = some (.ownL ds) := by unfold contAt at hc; simp only [hk] at hc; exact hc
      obtain ⟨p, m1, cl, dx, us, m2, m3⟩ := R.sto i _ hk
      obtain ⟨u, k1, a, rfl, k2, vs, k3, k4⟩ := m3.2 f _ hl
      have hH := R.off _ a k2
      have hx : Ex H (upd H a (.lst vs)) := Ex.new hH
      have sl : ∀ {o b}, o ≠ .fld i f → α o = some b → b ≠ a := fun {o b} ne hb e => ne (R.inj _ _ a (e ▸ hb) k2)
      have eo : ∀ {k b}, α (.ob k) = some b → (if Owner.ob k = .fld i f then none else α (.ob k)) = some b := fun h => by rw [if_neg (by intro e; cases e)]; exact h
      have sub : ∀ {o b}, (if o = .fld i f then none else α o) = some b → o ≠ .fld i f ∧ α o = some b := fun {o b} h => by
        by_cases c : o = .fld i f
        · rw [if_pos c] at h; cases h
        · rw [if_neg c] at h; exact ⟨c, h⟩
      refine ⟨fun o => if o = .fld i f then none else α o, upd H a (.lst vs), ⟨fun b o hb => ?_, fun hT b qs hb => ?_, R.tb, fun o o' b h h' => R.inj _ _ b (sub h).2 (sub h').2, fun o b h => ?_, fun o b h => R.pl _ b (sub h).2, fun k ob hi => ?_, fun k hi => (if_neg (by intro e; cases e)).trans (R.dom k (by simpa using hi))⟩, ⟨R.ext.ex.trans hx, fun b o hb => ?_⟩, R.gro, R.ntB, fun o b h => R.offB _ b (sub h).2, fun i b h => eo (R.old i b h), R.len, fun k w hk => ?_⟩
      · by_cases c : b = a
        · subst c; rw [upd_same] at hb; cases hb; exact k3
        · rw [upd_ne c] at hb; exact R.ex b o hb
      · by_cases c : b = a
        · subst c; rw [upd_same] at hb; cases hb
        · rw [upd_ne c] at hb; exact R.nt hT b qs hb
      · rw [upd_ne (sl (sub h).1 (sub h).2)]
        exact R.off _ b (sub h).2
      · rcases set_get hi with ⟨rfl, rfl⟩ | ⟨c, hh⟩
        · refine ⟨p, eo m1, cl, dx, us, m2, ?_, fun f' v' hv' => ?_⟩
          · rw [m3.1]
            have : ∀ fs : List (Str × Val), fs.lookup f = some (.ownL ds) → fs.map (·.1) = (putA f (Val.dat (.list ds)) fs).map (·.1) := by
              intro fs
              induction fs with
              | nil => intro h; cases h
              | cons p r ih =>
                intro h
                obtain ⟨k, x⟩ := p
                unfold putA
                by_cases c : k = f
                · rw [if_pos c]; rfl
                · rw [if_neg c, List.map_cons, List.map_cons]
                  rw [List.lookup_cons] at h
                  have : (f == k) = false := by simp [Ne.symm c]
                  rw [this] at h
                  rw [ih h]
            exact this fs hl
          · rw [lookup_putA] at hv'
            by_cases c : f' = f
            · subst c
              rw [if_pos rfl] at hv'
              cases hv'
              exact ⟨_, k1, .lst upd_same (DtAll.ex hx k4)⟩
            · rw [if_neg c] at hv'
              obtain ⟨u', l1, l2⟩ := m3.2 f' v' hv'
              exact ⟨u', l1, l2.ex hx (fun _ _ z => eo z) fun b z => ⟨by rw [if_neg (by intro e; cases e; exact c rfl)]; exact z, fun _ z => z⟩⟩
        · obtain ⟨b, q1, q2⟩ := R.sto k ob hh
          exact ⟨b, eo q1, q2.ex hx (fun _ _ z => eo z) (fun f' c' z => ⟨by rw [if_neg (by intro e; cases e; exact c rfl)]; exact z, fun _ z => z⟩) fun _ z => z⟩
      · by_cases c : b = a
        · subst c; rw [upd_same] at hb; cases hb; exact .inr ⟨R.offB _ b k2, fun ps z => by cases z⟩
        · rw [upd_ne c] at hb; exact R.ext.fresh b o hb
      · obtain ⟨u, q1, q2⟩ := R.slt k w hk
        exact ⟨u, q1, q2.ex hx (fun _ _ z => eo z) fun b z => ⟨by rw [if_neg (by intro e; cases e)]; exact z, fun _ z => z⟩⟩
/-- a list becomes data ahead of a statement -/
def sFrz (w : WM) (m : SM) : SM := fun g => (w g).bind fun o => (g.frz o).bind fun g1 => m g1
theorem ss_frz (hw : SimW K FL T td w) (h1 : SimS K FL T W t1 s1) : SimS K FL T W t1 (sFrz w s1) := fun F α H H1 σ g fl g' R h D k => by
  obtain ⟨o, k1, h⟩ := bind_some h
  obtain ⟨g1, k2, k3⟩ := bind_some h
  cases o with
  | ob i =>
    obtain ⟨ds, _, z⟩ := bind_some k2
    cases z
  | slot j =>
    obtain ⟨α', H', R'⟩ := R.frzS k2
    exact h1 F α' H' H1 σ g1 fl g' R' k3 D k
  | fld i f =>
    obtain ⟨α', H', R'⟩ := R.frzF k2
    exact h1 F α' H' H1 σ g1 fl g' R' k3 D k
end
end EV

/-! ### EV: defs (own work) -/
namespace EV
open PySem PySem.Spec PyProof.Rows L2 Evl L2H LamX LR
open Classical in
/-- what a def's caller has and nobody may change -/
noncomputable def baseOf (α : Al) (H1 : Hp) : Hp := fun b => if (∃ o, α o = some b) ∨ ∃ ps, H1 b = some (.tbl ps) then none else H1 b
theorem base_some {α : Al} {H1 : Hp} {b : Addr} {u : HO} (h : baseOf α H1 b = some u) : (∀ o, α o ≠ some b) ∧ (∀ ps, u ≠ .tbl ps) ∧ H1 b = some u := by
  unfold baseOf at h
  split at h
  · cases h
  · rename_i c
    exact ⟨fun o ho => c (.inl ⟨o, ho⟩), fun ps z => c (.inr ⟨ps, by rw [h, z]⟩), h⟩
theorem base_at {α : Al} {H1 : Hp} {b : Addr} {u : HO} (h1 : ∀ o, α o ≠ some b) (h2 : ∀ ps, u ≠ .tbl ps) (h : H1 b = some u) : baseOf α H1 b = some u := by
  unfold baseOf
  rw [if_neg]
  · exact h
  · rintro (⟨o, z⟩ | ⟨ps, z⟩)
    · exact h1 o z
    · rw [h] at z
      cases z
      exact h2 ps rfl
theorem base_none {α : Al} {H1 : Hp} {b : Addr} (h : baseOf α H1 b = none) : (∃ o, α o = some b) ∨ H1 b = none ∨ ∃ ps, H1 b = some (.tbl ps) := by
  unfold baseOf at h
  split at h
  · rename_i c
    exact c.elim .inl fun z => .inr (.inr z)
  · exact .inr (.inl h)
def argsOf (N n : Nat) (xs : List Val) : List (Option Val) := xs.map some ++ List.replicate (N - n) none
def endOf (p : Flo × Sg) : Option (Except Str Rv × List Ob) := match p.1 with
  | .nx => some (.ok (.dat .none), p.2.st)
  | .rt (.dat d) => some (.ok (.dat d), p.2.st)
  | .rt (.at_ (.ob i)) => some (.ok (.at_ (.ob i)), p.2.st)
  | .rt (.at_ (.slot j)) => (lstAt p.2 (.slot j)).bind fun ds => some (.ok (.dat (.list ds)), p.2.st)
  | .er x => some (.error x, p.2.st)
  | _ => none
/-- a def as a function: N slots, n parameters -/
def funOf (N n : Nat) (m : SM) : Fun := fun as st => (argVs as).bind fun xs => if as.length = n ∧ n ≤ N then (m ⟨argsOf N n xs, st⟩).bind endOf else none
section
variable {K : PySem.W.Frag} {FL : Fl} {T : TbS}
theorem Rel.frm {α α' : Al} {H H1 H' H2 : Hp} {σ : L2.St} {g : Sg} (R : Rel K FL T ⟨H, baseOf α H1, fun i => α (.ob i)⟩ α' H' H2 σ g) : Frm α H H1 (stoA α') H' H2 where
  ex := R.ext.ex
  fr := fun b u h n t => R.gro b u (base_at n t h)
  of := fun b u h h1 n t => R.ext.off h (base_at n t h1)
  nw := fun o b h => base_none (R.offB o b (stoA_sub h))
  ob := fun i a h => R.old i a h
theorem slots_of {α : Al} {H H1 : Hp} (n : Nat) : ∀ {vs : List V} {as : List Rv} {xs : List Val}, Paired (RR K α H) vs as → argVs as = some xs → ∀ (j : Nat) v, (xs.map some ++ List.replicate n none)[j]? = some (some v) → ∃ u, (vs.map some ++ List.replicate n none)[j]? = some (some u) ∧ ∀ o, VR K α H H1 o u v := by
  intro vs as xs h
  induction h generalizing xs with
  | nil =>
    intro hx j v hv
    cases hx
    simp only [List.map_nil, List.nil_append] at hv
    have := List.mem_of_getElem? hv
    have := (List.mem_replicate.mp this).2
    cases this
  | @cons u r us rs a b ih =>
    intro hx j v hv
    obtain ⟨x, h1, h2⟩ := bind_some hx
    obtain ⟨ys, h3, h4⟩ := bind_some h2
    cases h4
    cases j with
    | zero =>
      simp at hv
      subst hv
      exact ⟨u, rfl, fun o => a.vr h1⟩
    | succ j => exact ih h3 j v (by simpa using hv)
theorem argVs_len : ∀ {as : List Rv} {xs : List Val}, argVs as = some xs → xs.length = as.length
  | [], _, h => by cases h; rfl
  | a :: r, _, h => by
    obtain ⟨x, h1, h2⟩ := bind_some h
    obtain ⟨ys, h3, h4⟩ := bind_some h2
    cases h4
    rw [List.length_cons, List.length_cons, argVs_len h3]
theorem paired_len {α : Al} {H : Hp} {vs : List V} {as : List Rv} (h : Paired (RR K α H) vs as) : vs.length = as.length := Paired.length h
/-- at a def's entry -/
theorem rel_start {α : Al} {H H1 : Hp} {st : List Ob} {N : List Str} {vs : List V} {as : List Rv} {xs : List Val} (R : RelS K FL T α H H1 st) (pa : Paired (RR K α H) vs as) (hx : argVs as = some xs) (hn : as.length ≤ N.length) : Rel K FL T ⟨H, baseOf α H1, fun i => α (.ob i)⟩ α H H1 (L2.start N vs) ⟨argsOf N.length as.length xs, st⟩ where
  toRelS := R
  ext := Ext.refl _ _
  gro := fun b u h => (base_some h).2.2
  ntB := fun _ b ps h => (base_some h).2.1 ps rfl
  offB := fun o a h => by
    cases q : baseOf α H1 a with
    | none => exact q
    | some u => exact absurd h ((base_some q).1 o)
  old := fun i a h => h
  len := by
    unfold L2.start argsOf
    have h1 := paired_len pa
    have h2 := argVs_len hx
    simp only [List.length_append, List.length_map, List.length_replicate]
    omega
  slt := fun j v h => by
    unfold L2.start
    rw [paired_len pa]
    obtain ⟨u, h1, h2⟩ := slots_of (H1 := H1) (N.length - as.length) pa hx j v h
    exact ⟨u, h1, h2 _⟩
section
variable {P : Program} {w : World} {mg : Str → Option Value} {base : Heap}
theorem spF_len {n : Nat} {f : Fun} {vs : List V} {H1 : Hp} {Q : VK} {E : XK} (h : spF K FL T n f vs H1 Q E) : vs.length = n := by
  obtain ⟨H, α, st, as, r, st', _, _, pa, hl, _⟩ := h
  rw [paired_len pa, hl]
/-- how a def's end is told -/
theorem end_core {α : Al} {H H1 : Hp} {fl : Flo} {g' : Sg} {r : Except Str Rv} {st' : List Ob} {Q : VK} {E : XK} (he : endOf (fl, g') = some (r, st')) (q : KF K FL T E α H H1 st' Q r) : KS K FL T (fun c d _ H => E c d H) ⟨H, baseOf α H1, fun i => α (.ob i)⟩ (fun _ => none) g' { nx := fun _ H' => Q .non H', rt := Q } fl := by
  cases fl with
  | nx =>
    cases he
    exact fun α' H' H2 σ' R => q .non H2 H' (stoA α') R.toRelS.sto_only R.frm .non
  | rt v =>
    intro α' H' H2 σ' u R ru
    cases v with
    | dat d =>
      cases he
      exact q u H2 H' (stoA α') R.toRelS.sto_only R.frm ru
    | at_ o =>
      cases o with
      | ob i =>
        cases he
        exact q u H2 H' (stoA α') R.toRelS.sto_only R.frm ru
      | slot j =>
        obtain ⟨ds, h1, h2⟩ := bind_some (show (lstAt g' (.slot j)).bind _ = _ from he)
        cases h2
        obtain ⟨a, rfl, ha⟩ := ru
        have hc := lstAt_cont h1
        have hs : g'.sl[j]? = some (some (.ownL ds)) := by
          unfold contAt at hc
          cases hk : g'.sl[j]? with
          | none => simp only [hk] at hc; cases hc
          | some x =>
            cases x with
            | none => simp only [hk] at hc; cases hc
            | some y => simp only [hk] at hc; cases hc; rfl
        obtain ⟨u1, k1, a1, rfl, k2, _⟩ := R.slt j _ hs
        rw [ha] at k2
        cases k2
        obtain ⟨α2, H2', R2⟩ := R.frzS (g' := g'.set j (.dat (.list ds))) (by unfold Sg.frz; rw [h1]; rfl)
        have hlt : j < g'.sl.length := (List.getElem?_eq_some_iff.mp hs).1
        obtain ⟨u2, m1, m2⟩ := R2.slt j (.dat (.list ds)) (by show (g'.sl.set j _)[j]? = _; rw [List.getElem?_set_self hlt])
        rw [k1] at m1
        cases m1
        exact q (.ref a) H2 H2' (stoA α2) R2.toRelS.sto_only R2.frm m2
      | fld i f => cases he
  | er x =>
    cases he
    exact fun α' H' H2 σ' R => q H2 H' (stoA α') R.toRelS.sto_only R.frm
  | bk => cases he
  | ct => cases he
/-- a def keeps the promise that it is what the evaluator tells -/
theorem fn_ev {nm qual : Str} {st : Stmt} {f : Addr} {fd : FuncData} {N ps : List Str} {k n : Nat} {dvs : List V} {kws : List (Str × V)} {m : SM} (F : FunD K nm qual (defArgs st) (defBody st) (defScope st) dvs kws f fd) (S : FnScope N ps (defScope st)) (hn : ps.length = n)
    (body : ∀ (cdv : Value) (A : Around) (outer : List Env) (s : Shared) (Hs : Hp) (E : XK), Room k (A.deeper (envOfC qual (defScope st) s.heap.objs.size f cdv)) →
      ∃ t, PSs (cxOf (CXL P w) P w K mg base N qual (defScope st) f cdv A outer s Hs E) (defBody st) t ∧ SimS K FL T (fun c d _ H => E c d H) t m) :
    FnOk P w K mg base (CXL P w) (k + 1) f fd ps (spF K FL T n (funOf N.length n m)) := by
  refine F.ok S (fun vs H Q E h => by rw [hn]; exact spF_len h) (fun cdv A outer s H1 vs Q E hr h => ?_)
  obtain ⟨H, α, sto, as, r, st', R, hsl, pa, hl, hf, q⟩ := h
  obtain ⟨t, ht, hk⟩ := body cdv A outer s H1 E hr
  obtain ⟨xs, h1, h2⟩ := bind_some hf
  have h2 : (if as.length = n ∧ n ≤ N.length then (m ⟨argsOf N.length n xs, sto⟩).bind endOf else none) = some (r, st') := h2
  split at h2
  · rename_i hc
    obtain ⟨⟨fl, g'⟩, h3, h4⟩ := bind_some h2
    obtain ⟨rfl, hN⟩ := hc
    exact ⟨t, ht, hk _ α H H1 _ _ fl g' (rel_start R pa h1 hN) h3 _ (end_core h4 q)⟩
  · cases h2
theorem fx_ev {x nm qual : Str} {st : Stmt} {f : Addr} {fd : FuncData} {N ps : List Str} {k n : Nat} {m : SM} (F : FunD K nm qual (defArgs st) (defBody st) (defScope st) [] [] f fd) (hm : mg x = some (.ref f)) (S : FnScope N ps (defScope st)) (hn : ps.length = n)
    (hb : ∀ (kV doc pm : Value) (an : Option Addr) (cdv ct : Value) (us : List Value), us.length = ps.length → bindArgs (PySem.W.fnOf nm qual (defArgs st) (defBody st) (defScope st) .none kV doc pm an cdv ct) ⟨us, []⟩ = pure (ps.zip us))
    (body : ∀ (cdv : Value) (A : Around) (outer : List Env) (s : Shared) (Hs : Hp) (E : XK), Room k (A.deeper (envOfC qual (defScope st) s.heap.objs.size f cdv)) →
      ∃ t, PSs (cxOf (CXL P w) P w K mg base N qual (defScope st) f cdv A outer s Hs E) (defBody st) t ∧ SimS K FL T (fun c d _ H => E c d H) t m) :
    Fx P w K mg base (k + 1) x ps (spF K FL T n (funOf N.length n m)) := ⟨f, fd, fn_ev F S hn body, hm, F.kp, F.bindsN hb⟩
theorem mx_ev {mn nm qual : Str} {C : Addr} {st : Stmt} {f : Addr} {fd : FuncData} {N ps : List Str} {k n : Nat} {m : SM} (F : FunD K nm qual (defArgs st) (defBody st) (defScope st) [] [] f fd) (hm : Meth K C mn f) (S : FnScope N ps (defScope st)) (hn : ps.length = n)
    (hb : ∀ (kV doc pm : Value) (an : Option Addr) (cdv ct : Value) (us : List Value), us.length = ps.length → bindArgs (PySem.W.fnOf nm qual (defArgs st) (defBody st) (defScope st) .none kV doc pm an cdv ct) ⟨us, []⟩ = pure (ps.zip us))
    (body : ∀ (cdv : Value) (A : Around) (outer : List Env) (s : Shared) (Hs : Hp) (E : XK), Room k (A.deeper (envOfC qual (defScope st) s.heap.objs.size f cdv)) →
      ∃ t, PSs (cxOf (CXL P w) P w K mg base N qual (defScope st) f cdv A outer s Hs E) (defBody st) t ∧ SimS K FL T (fun c d _ H => E c d H) t m) :
    Mx P w K C mg base (k + 1) mn ps (spF K FL T n (funOf N.length n m)) := ⟨f, fd, fn_ev F S hn body, hm, F.bindsN hb⟩
/-! pure defs -/
abbrev T0 : TbS := ⟨false, []⟩
abbrev F0 : Fl := fun _ => []
abbrev W0 : WX := fun _ _ _ _ => False
def endP (p : Flo × Sg) : Option PyData := match p.1 with
  | .nx => some .none
  | .rt (.dat d) => some d
  | .rt (.at_ (.slot j)) => (lstAt p.2 (.slot j)).map .list
  | _ => none
def pureOf (N n : Nat) (m : SM) (ds : List PyData) : Option PyData := if ds.length = n ∧ n ≤ N then (m ⟨argsOf N n (ds.map .dat), []⟩).bind endP else none
theorem fx_evP {x nm qual : Str} {st : Stmt} {f : Addr} {fd : FuncData} {N ps : List Str} {k n : Nat} {m : SM} (F : FunD K nm qual (defArgs st) (defBody st) (defScope st) [] [] f fd) (hm : mg x = some (.ref f)) (S : FnScope N ps (defScope st)) (hn : ps.length = n)
    (hb : ∀ (kV doc pm : Value) (an : Option Addr) (cdv ct : Value) (us : List Value), us.length = ps.length → bindArgs (PySem.W.fnOf nm qual (defArgs st) (defBody st) (defScope st) .none kV doc pm an cdv ct) ⟨us, []⟩ = pure (ps.zip us))
    (body : ∀ (cdv : Value) (A : Around) (outer : List Env) (s : Shared) (Hs : Hp) (E : XK), Room k (A.deeper (envOfC qual (defScope st) s.heap.objs.size f cdv)) →
      ∃ t, PSs (cxOf (CXL P w) P w K mg base N qual (defScope st) f cdv A outer s Hs E).nox (defBody st) t ∧ SimS K F0 T0 W0 t m) :
    Fx P w K mg base (k + 1) x ps (spR K n fun ds z => pureOf N.length n m ds = some z) := by
  refine ⟨f, fd, F.ok S (fun vs H Q E h => by rw [hn]; exact spR_len h) (fun cdv A outer s H1 vs Q E hr h => ?_), hm, F.kp, F.bindsN hb⟩
  obtain ⟨H, ds, r, e, da, hl, hR, q⟩ := h
  obtain ⟨t, ht, hk⟩ := body cdv A outer s H1 E hr
  unfold pureOf at hR
  split at hR
  · rename_i hc
    obtain ⟨⟨fl, g'⟩, h3, h4⟩ := bind_some hR
    have lv : vs.length = n := da.length.trans hl
    have R : Rel K F0 T0 ⟨H, H1, fun _ => none⟩ (fun _ => none) H H1 (L2.start N vs) ⟨argsOf N.length n (ds.map .dat), []⟩ := by
      refine ⟨⟨e, (fun h => nomatch h), (fun p hp => nomatch hp), (fun _ _ _ h => nomatch h), (fun _ _ h => nomatch h), (fun _ _ h => nomatch h), (fun i o h => by simp at h), fun _ _ => rfl⟩, Ext.refl _ _, Ex.refl _, (fun h => nomatch h), (fun _ _ h => nomatch h), (fun _ _ h => nomatch h), ?_, fun j v h => ?_⟩
      · unfold L2.start argsOf
        simp only [List.length_append, List.length_map, List.length_replicate]
        omega
      · have hj : ∀ {vs : List V} {ds : List PyData} {k : Nat} {j : Nat} {v : Val}, DtAll K H vs ds → ((ds.map Val.dat).map some ++ List.replicate k none)[j]? = some (some v) → ∃ u d, (vs.map some ++ List.replicate k none)[j]? = some (some u) ∧ v = .dat d ∧ Dt K H u d := by
          intro vs ds k j v hd
          induction vs generalizing ds j with
          | nil =>
            cases hd
            intro h
            have := (List.mem_replicate.mp (List.mem_of_getElem? h)).2
            cases this
          | cons u us ih =>
            cases hd with
            | cons a b =>
              intro h
              cases j with
              | zero => simp at h; subst h; exact ⟨u, _, rfl, rfl, a⟩
              | succ j =>
                obtain ⟨u', d', q1, q2, q3⟩ := ih b (j := j) (by simpa using h)
                exact ⟨u', d', by simpa using q1, q2, q3⟩
        unfold L2.start
        rw [lv]
        obtain ⟨u, d, q1, q2, q3⟩ := hj da h
        subst q2
        exact ⟨u, q1, q3⟩
    refine ⟨t, ht.nox, hk _ _ H H1 _ _ fl g' R h3 _ ?_⟩
    cases fl with
    | nx =>
      cases h4
      exact fun α' H' H2 σ' R' => q .non H2 H' R'.gro R'.ex R'.ext .non
    | rt v =>
      intro α' H' H2 σ' u R' ru
      cases v with
      | dat d =>
        cases h4
        exact q u H2 H' R'.gro R'.ex R'.ext ru
      | at_ o =>
        cases o with
        | ob i => cases h4
        | fld i f => cases h4
        | slot j =>
          obtain ⟨es, k1, k2⟩ := Option.map_eq_some_iff.mp (show (lstAt g' (.slot j)).map PyData.list = some r from h4)
          subst k2
          obtain ⟨a, rfl, ha⟩ := ru
          obtain ⟨xs, k3, k4⟩ := R'.lst k1 ha
          have n1 := R'.offB _ a ha
          obtain ⟨x1, e1⟩ := ext_lay R'.ext R'.ex n1 (R'.off _ a ha) k3
          exact q (.ref a) H2 _ R'.gro e1 x1 (.lst upd_same (DtAll.ex (Ex.new (R'.off _ a ha)) k4))
    | er x => cases h4
    | bk => cases h4
    | ct => cases h4
  · cases hR
end
end
/-! ### calls in the derivation -/
section
variable {X : Cx} {W : WX} {k j : Nat} {x : Str} {ps : List Str} {sp : Sp} {p pos apos : Pos} {e o : Expr} {es : List Expr} {t : TA} {ta : TE}
theorem pe_fxW (tk : L2N.Takes X W) (c : Fx X.prog X.w X.K X.mg X.base k x ps sp) (hr : Room j X.A) (hk : k ≤ j) (hg : Gl X x) (ha : PA X (e :: es) t)
    (hdb : (x == ("__debug__" : Str)) = false := by decide) (he : starEach (e :: es) X.env = (false, eval e X.env) :: starEach es X.env := by rfl) (hpl : (backTo pos (starEach es X.env)).any (·.1) = false := by rfl) :
    PE X (.Call (.Name x p) (e :: es) [] pos) (tCallS sp (WE W) t) := by
  obtain ⟨f, fd, F, hm, kp, b⟩ := c.ex
  exact pe_callS F (hr.mono hk) hg hm kp b (fun σ => L2N.passAt tk σ) ha hdb he hpl
theorem takes0 {X : Cx} : ∀ σ, PassesAt (CXL X.prog X.w) X σ (WE W0 σ) := fun σ pins H s e s' I c => by
  obtain ⟨_, _, _, _, _, _, _, _, _, _, _, _, z⟩ := c
  exact z.elim
theorem pe_fx0 (c : Fx X.prog X.w X.K X.mg X.base k x ps sp) (hr : Room j X.A) (hk : k ≤ j) (hg : Gl X x) (ha : PA X (e :: es) t)
    (hdb : (x == ("__debug__" : Str)) = false := by decide) (he : starEach (e :: es) X.env = (false, eval e X.env) :: starEach es X.env := by rfl) (hpl : (backTo pos (starEach es X.env)).any (·.1) = false := by rfl) :
    PE X (.Call (.Name x p) (e :: es) [] pos) (tCallS sp (WE W0) t) := by
  obtain ⟨f, fd, F, hm, kp, b⟩ := c.ex
  exact pe_callS F (hr.mono hk) hg hm kp b takes0 ha hdb he hpl
theorem pe_mxG {C : Addr} {m : Str} {pl : Sem Bool} (hx : ∀ σ, PassesAt (CXL X.prog X.w) X σ (WE W σ)) (c : Mx X.prog X.w X.K C X.mg X.base k m ps sp) (hC : Cls X.K C) (hr : Room j X.A) (hk : k ≤ j) (ho : PE X o ta) (ha : PA X (e :: es) t)
    (hst : starEach (e :: es) X.env = (false, eval e X.env) :: starEach es X.env := by rfl) (hpl : (backTo pos (starEach es X.env)).any (·.1) = false := by rfl)
    (ht : eval (.Call (.Attribute o m apos) (e :: es) [] pos) X.env = (do
      let ov ← eval o X.env
      standAt apos.atName
      let (f, first) ← holding [ov] (getMethod ov m pl)
      callWith pos f first (backTo pos (starEach (e :: es) X.env)) (backToKw pos (keywordEach [] X.env))) := by rfl) :
    PE X (.Call (.Attribute o m apos) (e :: es) [] pos) (tMethW C m sp (WE W) ta t) := by
  obtain ⟨f, fd, F, hm, b⟩ := c.ex
  refine ⟨fun pins s σ H Q I h => ?_⟩
  refine PySem.W.methodCall_KW (pl := pl) (thn (ho.run pins s σ H _ I h) fun u s1 ⟨x, H1, I1, rx, a, dx, fs, ex, ea, l, q⟩ => ?_) ht
  subst ex
  obtain rfl : u = Value.ref a := rx
  refine getmeth_ok I1 ea hC hm l ?_
  refine PySem.W.callWith_K (first := [.ref a]) (h₀ := X.base) I.ok.mod.kin hm.kp (thn (ha.run pos pins s1 σ H1 _ I1 q) fun us s2 ⟨vs, H2, I2, r, q2⟩ => ⟨I2.kIn, ?_⟩) hst hpl
  exact run_fnS (us := .ref a :: us) (vs := .ref a :: vs) F (hr.mono hk) b (hx σ) I2 (.cons rfl r) q2
theorem pe_mxG0 {C : Addr} {m : Str} {pl : Sem Bool} (hx : ∀ σ, PassesAt (CXL X.prog X.w) X σ (WE W σ)) (c : Mx X.prog X.w X.K C X.mg X.base k m ps sp) (hC : Cls X.K C) (hr : Room j X.A) (hk : k ≤ j) (ho : PE X o ta)
    (ht : eval (.Call (.Attribute o m apos) [] [] pos) X.env = (do
      let ov ← eval o X.env
      standAt apos.atName
      let (f, first) ← holding [ov] (getMethod ov m pl)
      callWith pos f first (backTo pos (starEach [] X.env)) (backToKw pos (keywordEach [] X.env))) := by rfl) :
    PE X (.Call (.Attribute o m apos) [] [] pos) (tMethW C m sp (WE W) ta tNil) := by
  obtain ⟨f, fd, F, hm, b⟩ := c.ex
  refine ⟨fun pins s σ H Q I h => ?_⟩
  refine PySem.W.methodCall_KW (pl := pl) (thn (ho.run pins s σ H _ I h) fun u s1 ⟨x, H1, I1, rx, a, dx, fs, ex, ea, l, q⟩ => ?_) ht
  subst ex
  obtain rfl : u = Value.ref a := rx
  refine getmeth_ok I1 ea hC hm l ?_
  exact PySem.W.callWith_K0 (first := [.ref a]) I1.kIn hm.kp (run_fnS (us := [.ref a]) (vs := [.ref a]) F (hr.mono hk) b (hx σ) I1 (.cons rfl .nil) q)
end
end EV

/-! ### EV: operators and built-ins of data (own work) -/
namespace EV
open PySem PySem.Spec PyProof.Rows L2 Evl L2H LamX LR
def fAdd : PyData → PyData → Option PyData
  | .int i, .int j => some (.int (i + j))
  | .str a, .str b => if a.length + b.length ≤ 100000 then some (.str (a ++ b)) else none
  | .list ds, .list es => if ds.length + es.length ≤ 100000 then some (.list (ds ++ es)) else none
  | .tuple ds, .tuple es => if ds.length + es.length ≤ 100000 then some (.tuple (ds ++ es)) else none
  | _, _ => none
def fI (g : Int → Int → Int) : PyData → PyData → Option PyData
  | .int i, .int j => some (.int (g i j))
  | _, _ => none
def fIC (C : Int → Int → Bool) (g : Int → Int → Int) : PyData → PyData → Option PyData
  | .int i, .int j => if C i j = true then some (.int (g i j)) else none
  | _, _ => none
def fIB (g : Int → Int → Bool) : PyData → PyData → Option PyData
  | .int i, .int j => some (.bool (g i j))
  | _, _ => none
def fSub := fI fun i j => i - j
def fAnd := fI Builtin.bitAnd
def fMod := fIC (fun _ j => decide (0 < j)) fun i j => i % j
def fDiv := fIC (fun _ j => decide (0 < j ∧ j < 2 ^ 64)) fun i j => i / j
def fPow := fIC (fun i j => decide (0 ≤ j ∧ j ≤ 1000000 ∧ i.natAbs < 2 ^ 64)) fun i j => i ^ j.toNat
def fShl := fIC (fun i j => decide (0 ≤ j ∧ j ≤ 1000000 ∧ i.natAbs < 2 ^ 64)) fun i j => i * 2 ^ j.toNat
def fShr := fIC (fun _ j => decide (0 ≤ j)) fun i j => i / 2 ^ j.toNat
def repS (z : Str) (k : Nat) : Str := ⟨(List.replicate k z.cps.toList).flatten.toArray⟩
def fMul : PyData → PyData → Option PyData
  | .int i, .int j => if (-(2 ^ 64) < i ∧ i < 2 ^ 64) ∨ (-(2 ^ 64) < j ∧ j < 2 ^ 64) then some (.int (i * j)) else none
  | .str z, .int k => if -(2 ^ 60) ≤ k ∧ k ≤ 1000 ∧ z.length ≤ 1000 then some (.str (repS z k.toNat)) else none
  | .list ds, .int k => if 0 ≤ k ∧ k ≤ 1000 ∧ ds.length ≤ 90 then some (.list (List.replicate k.toNat ds).flatten) else none
  | .tuple ds, .int k => if ds.isEmpty = false ∧ 2 ≤ k ∧ k ≤ 1000 ∧ ds.length ≤ 1000 then some (.tuple (List.replicate k.toNat ds).flatten) else none
  | _, _ => none
def fLt : PyData → PyData → Option PyData
  | .int i, .int j => some (.bool (decide (i < j)))
  | .str a, .str b => some (.bool (decide (a.cps.toList < b.cps.toList)))
  | _, _ => none
def fEqB : PyData → PyData → Option Bool
  | .int i, .int j => some (decide (i = j))
  | .str a, .str b => some (decide (a = b))
  | .bool a, .bool b => some (decide (a = b))
  | d, e => if SeqAt.shaped d = true ∧ SeqAt.shaped e = true then some (PyData.eqv d e) else none
def fEq (d e : PyData) : Option PyData := (fEqB d e).map .bool
def fNe (d e : PyData) : Option PyData := (fEqB d e).map fun b => .bool (!b)
def fIx : PyData → PyData → Option PyData
  | .tuple ds, .int i => atI ds i
  | .list ds, .int i => atI ds i
  | .str z, .int i => if z.length ≤ 100000 then (atI z.cps.toList i).map fun c => .str ⟨#[c]⟩ else none
  | _, _ => none
def fIn : PyData → PyData → Option PyData
  | .str x, .str z => match x.cps.toList with
    | [c] => some (.bool (decide (c ∈ z.cps.toList)))
    | _ => none
  | _, _ => none
def fNotIn (d e : PyData) : Option PyData := (fIn d e).bind fun z => (asB z).map fun b => .bool (!b)
def isNone : PyData → Bool
  | .none => true
  | _ => false
def fIsN (d e : PyData) : Option PyData := if isNone e = true then some (.bool (isNone d)) else none
def fNotN (d e : PyData) : Option PyData := if isNone e = true then some (.bool (!isNone d)) else none
def fIsB : PyData → PyData → Option PyData
  | .bool a, .bool b => some (.bool (decide (a = b)))
  | _, _ => none
section
variable {K : PySem.W.Frag}
theorem od_I {g : Int → Int → Int} : OpD K (rI0 fun i j => .int (g i j)) (fI g) := fun d e z h H => by
  cases d <;> cases e <;> cases h
  exact rd_I0
theorem od_IB {g : Int → Int → Bool} : OpD K (rI0 fun i j => .bl (g i j)) (fIB g) := fun d e z h H => by
  cases d <;> cases e <;> cases h
  exact rd_IB
theorem od_IC {C' : Int → Int → Prop} {C : Int → Int → Bool} {g : Int → Int → Int} (hC : ∀ i j, C i j = true → C' i j) : OpD K (rI C' fun i j => .int (g i j)) (fIC C g) := fun d e z h H => by
  cases d <;> cases e <;> try cases h
  obtain ⟨h1, rfl⟩ := ite_some (show (if C _ _ = true then some _ else none) = some z from h)
  exact rd_I (hC _ _ h1)
theorem od_sub : OpD K (rI0 fun i j => .int (i - j)) fSub := od_I
theorem od_subA : OpD K rSub fSub := od_I
theorem od_addA : OpD K rAdd (fI fun i j => i + j) := od_I
theorem od_and : OpD K (rI0 fun i j => .int (Builtin.bitAnd i j)) fAnd := od_I
theorem od_mod : OpD K (rI (fun _ j => 0 < j) fun i j => .int (i % j)) fMod := od_IC fun i j h => of_decide_eq_true h
theorem od_div : OpD K (rI CDivW fun i j => .int (i / j)) fDiv := od_IC fun i j h => by
  have ⟨h1, h2⟩ := of_decide_eq_true h
  refine ⟨h1, ?_⟩
  have : j.natAbs < 2 ^ 64 := by omega
  exact Nat.lt_of_lt_of_le ((Nat.log2_lt (by omega)).mpr this) (by decide)
theorem od_pow : OpD K (rI CPow fun i j => .int (i ^ j.toNat)) fPow := od_IC fun i j h => by
  have h : decide (0 ≤ j ∧ j ≤ 1000000 ∧ i.natAbs < 2 ^ 64) = true := h
  have h2 : 0 ≤ j ∧ j ≤ 1000000 ∧ i.natAbs < 2 ^ 64 := of_decide_eq_true h
  exact h2
theorem od_shl : OpD K (rI CPow fun i j => .int (i * 2 ^ j.toNat)) fShl := od_IC fun i j h => by
  have h : decide (0 ≤ j ∧ j ≤ 1000000 ∧ i.natAbs < 2 ^ 64) = true := h
  have h2 : 0 ≤ j ∧ j ≤ 1000000 ∧ i.natAbs < 2 ^ 64 := of_decide_eq_true h
  exact h2
theorem od_shr : OpD K (rI (fun _ j => 0 ≤ j) fun i j => .int (i / 2 ^ j.toNat)) fShr := od_IC fun i j h => of_decide_eq_true h
theorem od_le : OpD K (rI0 fun i j => .bl (decide (i ≤ j))) (fIB fun i j => decide (i ≤ j)) := od_IB
theorem od_gt : OpD K (rI0 fun i j => .bl (decide (j < i))) (fIB fun i j => decide (j < i)) := od_IB
theorem od_ge : OpD K (rI0 fun i j => .bl (decide (j ≤ i))) (fIB fun i j => decide (j ≤ i)) := od_IB
theorem od_add : OpD K (rAddU K) fAdd := fun d e z h H => by
  cases d <;> cases e <;> try cases h
  · exact rd_addI
  · obtain ⟨h1, rfl⟩ := ite_some (show (if _ then some (PyData.str _) else none) = some z from h)
    exact rd_addS (Nat.le_trans h1 (by decide))
  · obtain ⟨h1, rfl⟩ := ite_some (show (if _ then some (PyData.list _) else none) = some z from h)
    exact rd_addL h1
  · obtain ⟨h1, rfl⟩ := ite_some (show (if _ then some (PyData.tuple _) else none) = some z from h)
    exact rd_addT h1
theorem rd_mulL' {H : Hp} {ds : List PyData} {k : Int} (h1 : 0 ≤ k) (h2 : k ≤ 1000) (hl : ds.length ≤ 90) : RD2 K (rMulU K) (.list ds) (.int k) H (.list (List.replicate k.toNat ds).flatten) := fun H' x y _ dx dy H1 e1 Q q => by
  obtain ⟨a, xs, rfl, ha, ra⟩ := dx.lst_eq
  refine .inr (.inr (.inl ⟨a, k, xs, rfl, dy.int_eq, e1 a _ ha, by omega, by omega, ?_, fun p hp => ?_⟩))
  · rw [ra.length]
    exact Nat.le_trans (Nat.mul_le_mul hl (show k.toNat ≤ 1000 by omega)) (by decide)
  · exact q.new e1 hp (.lst upd_same (DtAll.ex (Ex.new (fresh_back e1 hp)) (DtAll.rep ra _)))
theorem od_mul : OpD K (rMulU K) fMul := fun d e z h H => by
  cases d <;> cases e <;> try cases h
  · obtain ⟨h1, rfl⟩ := ite_some (show (if _ then some (PyData.int _) else none) = some z from h)
    exact rd_mulI h1
  · obtain ⟨⟨h1, h2, h3⟩, rfl⟩ := ite_some (show (if _ then some (PyData.str _) else none) = some z from h)
    exact rd_mulS h1 h2 h3
  · obtain ⟨⟨h1, h2, h3⟩, rfl⟩ := ite_some (show (if _ then some (PyData.list _) else none) = some z from h)
    exact rd_mulL' h1 h2 h3
  · obtain ⟨⟨h0, h1, h2, h3⟩, rfl⟩ := ite_some (show (if _ then some (PyData.tuple _) else none) = some z from h)
    exact rd_mulT (fun e => by rw [e] at h0; cases h0) h1 h2 h3
theorem od_lt : OpD K rLtU fLt := fun d e z h H => by
  cases d <;> cases e <;> cases h
  · exact rd_ltI
  · exact rd_ltS
theorem od_eq : OpD K (rEqU K) fEq := fun d e z h H => by
  obtain ⟨b, h1, rfl⟩ := Option.map_eq_some_iff.mp h
  unfold fEqB at h1
  split at h1
  · cases h1; exact rd_eqI
  · cases h1; exact rd_eqS
  · cases h1; exact rd_eqB
  · obtain ⟨⟨h2, h3⟩, rfl⟩ := ite_some h1
    exact rd_eqU h2 h3
theorem od_ne : OpD K (rNeU K) fNe := fun d e z h H => by
  obtain ⟨b, h1, rfl⟩ := Option.map_eq_some_iff.mp h
  unfold fEqB at h1
  split at h1
  · cases h1; exact rd_neI
  · cases h1; exact rd_neS
  · cases h1; exact rd_neB
  · obtain ⟨⟨h2, h3⟩, rfl⟩ := ite_some h1
    exact rd_neU h2 h3
theorem od_ix : OpD K (rIx K) fIx := fun d e z h H => by
  cases d <;> cases e <;> try cases h
  · have h : (if _ then (atI _ _).map (fun c => PyData.str ⟨#[c]⟩) else none) = some z := h
    split at h
    · rename_i hl
      obtain ⟨c, h1, rfl⟩ := Option.map_eq_some_iff.mp h
      exact rd_ixS hl h1
    · cases h
  · exact rd_ixL h
  · exact rd_ixT h
theorem od_in : OpD K (fun x y H Q => ∃ (c : Nat) (z : Str), x = .str ⟨#[c]⟩ ∧ y = .str z ∧ Q (.bl (decide (c ∈ z.cps.toList))) H) fIn := fun d e z h H => by
  cases d <;> cases e <;> try cases h
  rename_i x y
  have h : (match x.cps.toList with | [c] => some (PyData.bool (decide (c ∈ y.cps.toList))) | _ => none) = some z := h
  split at h
  · rename_i c hc
    cases h
    have ex : x = ⟨#[c]⟩ := by
      cases x with
      | mk cps =>
        have : cps = #[c] := Array.toList_inj.mp hc
        rw [this]
    subst ex
    exact rd_inS
  · cases h
theorem od_notin : OpD K (fun x y H Q => ∃ (c : Nat) (z : Str), x = .str ⟨#[c]⟩ ∧ y = .str z ∧ Q (.bl (!decide (c ∈ z.cps.toList))) H) fNotIn := fun d e z h H => by
  obtain ⟨y, h1, h2⟩ := bind_some h
  obtain ⟨b, h3, rfl⟩ := Option.map_eq_some_iff.mp h2
  rw [asB_some h3] at h1
  cases d <;> cases e <;> try cases h1
  rename_i x y
  have h1 : (match x.cps.toList with | [c] => some (PyData.bool (decide (c ∈ y.cps.toList))) | _ => none) = some (.bool b) := h1
  split at h1
  · rename_i c hc
    cases h1
    have ex : x = ⟨#[c]⟩ := by
      cases x with
      | mk cps =>
        have : cps = #[c] := Array.toList_inj.mp hc
        rw [this]
    subst ex
    exact fun H' u v _ dx dy H1 e1 Q q => ⟨c, y, dx.str_eq, dy.str_eq, q.val e1 fun _ => .bl _⟩
  · cases h1
theorem isNone_v {H : Hp} {v : V} {d : PyData} (h : Dt K H v d) : decide (v = .non) = isNone d := by
  cases h <;> rfl
theorem isNone_eq {d : PyData} (h : isNone d = true) : d = .none := by
  cases d <;> first | rfl | cases h
theorem od_isN : OpD K rIsN0 fIsN := fun d e z h H => by
  obtain ⟨h1, rfl⟩ := ite_some h
  rw [isNone_eq h1]
  exact fun H' u v _ dx dy H1 e1 Q q => ⟨dy.non_eq, by rw [isNone_v dx]; exact q.val e1 fun _ => .bl _⟩
theorem od_notN : OpD K rNotN0 fNotN := fun d e z h H => by
  obtain ⟨h1, rfl⟩ := ite_some h
  rw [isNone_eq h1]
  exact fun H' u v _ dx dy H1 e1 Q q => ⟨dy.non_eq, by rw [isNone_v dx]; exact q.val e1 fun _ => .bl _⟩
theorem od_isB : OpD K (fun x y H Q => ∃ a b, x = .bl a ∧ y = .bl b ∧ Q (.bl (decide (a = b))) H) fIsB := fun d e z h H => by
  cases d <;> cases e <;> cases h
  exact rd_isB
/-! built-ins -/
def fNeg : PyData → Option PyData
  | .int i => some (.int (-i))
  | _ => none
theorem ud_neg : ∀ d z, fNeg d = some z → ∀ H, RDU K (rU fun i => .int (-i)) d H z := fun d z h H => by
  cases d <;> cases h
  exact rdu_neg
theorem cb_of {r : List V → Hp → VK → Prop} {d z : PyData} (h : ∀ (H : Hp) (v : V), Dt K H v d → EvD K (tCB r (tCons (tC v) tNil)) [] H z) : ∀ H, RDC K r [d] H z := fun H H' vs _ dv H1 e1 Q q => by
  cases dv with
  | cons a b => cases b; exact h H' _ a H1 e1 Q q
def fLen : List PyData → Option PyData
  | [.str z] => if z.length ≤ 100000 then some (.int z.length) else none
  | [.list ds] => some (.int ds.length)
  | [.tuple ds] => some (.int ds.length)
  | _ => none
theorem cd_len : CbD K (lenR K) fLen := fun ds z h => by
  unfold fLen at h
  split at h
  · obtain ⟨h1, rfl⟩ := ite_some h
    exact cb_of fun H v dv => ed_lenS (ed_c dv) (Nat.le_trans h1 (by decide))
  · cases h; exact cb_of fun H v dv => ed_lenL (ed_c dv)
  · cases h; exact cb_of fun H v dv => ed_lenT (ed_c dv)
  · cases h
def bools : List PyData → Option (List Bool)
  | [] => some []
  | d :: r => (asB d).bind fun b => (bools r).map fun bs => b :: bs
theorem bools_eq : ∀ {ds : List PyData} {bs : List Bool}, bools ds = some bs → ds = bs.map .bool
  | [], _, h => by cases h; rfl
  | d :: r, _, h => by
    obtain ⟨b, h1, h2⟩ := bind_some h
    obtain ⟨bs, h3, rfl⟩ := Option.map_eq_some_iff.mp h2
    rw [asB_some h1, bools_eq h3]
    rfl
def fAll : List PyData → Option PyData
  | [.list ds] => (bools ds).map fun bs => .bool (bs.all id)
  | _ => none
def fAny : List PyData → Option PyData
  | [.list ds] => (bools ds).map fun bs => .bool (bs.any id)
  | _ => none
theorem cd_all : CbD K (rAll K) fAll := fun ds z h => by
  unfold fAll at h
  split at h
  · obtain ⟨bs, h1, rfl⟩ := Option.map_eq_some_iff.mp h
    rw [bools_eq h1]
    exact cb_of fun H v dv => ed_all (ed_c dv)
  · cases h
theorem cd_any : CbD K (rAny K) fAny := fun ds z h => by
  unfold fAny at h
  split at h
  · obtain ⟨bs, h1, rfl⟩ := Option.map_eq_some_iff.mp h
    rw [bools_eq h1]
    exact cb_of fun H v dv => ed_any (ed_c dv)
  · cases h
def intsD : List PyData → Option (List Int)
  | [] => some []
  | d :: r => (asI d).bind fun b => (intsD r).map fun bs => b :: bs
theorem intsD_eq : ∀ {ds : List PyData} {bs : List Int}, intsD ds = some bs → ds = bs.map .int
  | [], _, h => by cases h; rfl
  | d :: r, _, h => by
    obtain ⟨b, h1, h2⟩ := bind_some h
    obtain ⟨bs, h3, rfl⟩ := Option.map_eq_some_iff.mp h2
    rw [asI_some h1, intsD_eq h3]
    rfl
def asS (d : PyData) : Option Str := match d with
  | .str i => some i
  | _ => none
theorem asS_some {d : PyData} {i : Str} (h : asS d = some i) : d = .str i := by
  cases d <;> simp [asS] at h
  rw [h]
def strsD : List PyData → Option (List Str)
  | [] => some []
  | d :: r => (asS d).bind fun b => (strsD r).map fun bs => b :: bs
theorem strsD_eq : ∀ {ds : List PyData} {bs : List Str}, strsD ds = some bs → ds = bs.map .str
  | [], _, h => by cases h; rfl
  | d :: r, _, h => by
    obtain ⟨b, h1, h2⟩ := bind_some h
    obtain ⟨bs, h3, rfl⟩ := Option.map_eq_some_iff.mp h2
    rw [asS_some h1, strsD_eq h3]
    rfl
def fSum : List PyData → Option PyData
  | [.list ds] => (intsD ds).map fun bs => .int bs.sum
  | _ => none
theorem cd_sum : CbD K (rSum K) fSum := fun ds z h => by
  unfold fSum at h
  split at h
  · obtain ⟨bs, h1, rfl⟩ := Option.map_eq_some_iff.mp h
    rw [intsD_eq h1]
    exact cb_of fun H v dv => ed_sum (ed_c dv)
  · cases h
def fMax2 : List PyData → Option PyData
  | [.int a, .int b] => some (.int (if b > a then b else a))
  | _ => none
def fMin2 : List PyData → Option PyData
  | [.int a, .int b] => some (.int (if b < a then b else a))
  | _ => none
theorem two_of {H : Hp} {vs : List V} {a b : PyData} (h : DtAll K H vs [a, b]) : ∃ u v, vs = [u, v] ∧ Dt K H u a ∧ Dt K H v b := by
  cases h with
  | cons x y => cases y with
    | cons z w => cases w; exact ⟨_, _, rfl, x, z⟩
theorem cd_max2 : CbD K (fun xs H Q => ∃ i j, xs = [.int i, .int j] ∧ Q (.int (if j > i then j else i)) H) fMax2 := fun ds z h => by
  unfold fMax2 at h
  split at h
  · cases h
    intro H H' vs _ dv H1 e1 Q q
    obtain ⟨u, v, rfl, h1, h2⟩ := two_of dv
    exact ⟨_, _, by rw [h1.int_eq, h2.int_eq], q.val e1 fun _ => .int _⟩
  · cases h
theorem cd_min2 : CbD K (fun xs H Q => ∃ i j, xs = [.int i, .int j] ∧ Q (.int (if j < i then j else i)) H) fMin2 := fun ds z h => by
  unfold fMin2 at h
  split at h
  · cases h
    intro H H' vs _ dv H1 e1 Q q
    obtain ⟨u, v, rfl, h1, h2⟩ := two_of dv
    exact ⟨_, _, by rw [h1.int_eq, h2.int_eq], q.val e1 fun _ => .int _⟩
  · cases h
def fOrd : List PyData → Option PyData
  | [.str x] => match x.cps.toList with
    | [c] => some (.int c)
    | _ => none
  | _ => none
theorem one_of {H : Hp} {vs : List V} {a : PyData} (h : DtAll K H vs [a]) : ∃ u, vs = [u] ∧ Dt K H u a := by
  cases h with
  | cons x y => cases y; exact ⟨_, rfl, x⟩
theorem cd_ord : CbD K (fun xs H Q => ∃ x : Str, xs = [.str x] ∧ x.length = 1 ∧ Q (.int (x.cps.getD 0 0 : Nat)) H) fOrd := fun ds z h => by
  unfold fOrd at h
  split at h
  · split at h
    · rename_i c hc
      rename_i x _
      cases h
      intro H H' vs _ dv H1 e1 Q q
      obtain ⟨u, rfl, h1⟩ := one_of dv
      have ex : x = ⟨#[c]⟩ := by
        cases x with
        | mk cps =>
          have : cps = #[c] := Array.toList_inj.mp hc
          rw [this]
      subst ex
      exact ⟨_, by rw [h1.str_eq], rfl, q.val e1 fun _ => .int _⟩
    · cases h
  · cases h
def fStrI : List PyData → Option PyData
  | [.int i] => if i.natAbs < 2 ^ 64 then some (.str (Str.ofString (toString i))) else none
  | _ => none
theorem cd_strI : CbD K (fun xs H Q => ∃ i : Int, xs = [.int i] ∧ i.natAbs.log2 < 1920 ∧ Q (.str (toString i)) H) fStrI := fun ds z h => by
  unfold fStrI at h
  split at h
  · rename_i i
    obtain ⟨h0, rfl⟩ := ite_some h
    intro H H' vs _ dv H1 e1 Q q
    obtain ⟨u, rfl, h1⟩ := one_of dv
    refine ⟨i, by rw [h1.int_eq], ?_, q.val e1 fun _ => .str _⟩
    by_cases c : i.natAbs = 0
    · rw [c]; decide
    · exact Nat.lt_of_lt_of_le ((Nat.log2_lt c).mpr h0) (by decide)
  · cases h
def fInt : List PyData → Option PyData
  | [.int i] => some (.int i)
  | [.bool b] => some (.int (if b then 1 else 0))
  | _ => none
theorem cd_int : CbD K (fun xs H Q => (∃ i, xs = [.int i] ∧ Q (.int i) H) ∨ ∃ k, xs = [.bl k] ∧ Q (.int (if k then 1 else 0)) H) fInt := fun ds z h => by
  unfold fInt at h
  split at h
  · cases h
    intro H H' vs _ dv H1 e1 Q q
    obtain ⟨u, rfl, h1⟩ := one_of dv
    exact .inl ⟨_, by rw [h1.int_eq], q.val e1 fun _ => .int _⟩
  · cases h
    intro H H' vs _ dv H1 e1 Q q
    obtain ⟨u, rfl, h1⟩ := one_of dv
    exact .inr ⟨_, by rw [h1.bl_eq], q.val e1 fun _ => .int _⟩
  · cases h
def fTuple : List PyData → Option PyData
  | [.list ds] => some (.tuple ds)
  | [.tuple ds] => some (.tuple ds)
  | _ => none
theorem cd_tuple : CbD K (rTupOf K) fTuple := fun ds z h => by
  unfold fTuple at h
  split at h
  · cases h
    intro H H' vs _ dv H1 e1 Q q
    obtain ⟨u, rfl, h1⟩ := one_of dv
    obtain ⟨a, xs, rfl, ha, ra⟩ := h1.lst_eq
    exact ⟨a, xs, rfl, .inl ⟨sq_of (e1 a _ ha), fun l hl => q.new e1 hl (.tup (st_of upd_same) (DtAll.ex (Ex.new (fresh_back e1 hl)) ra))⟩⟩
  · cases h
    intro H H' vs _ dv H1 e1 Q q
    obtain ⟨u, rfl, h1⟩ := one_of dv
    obtain ⟨a, xs, rfl, ha, ra⟩ := h1.tup_eq
    exact ⟨a, xs, rfl, .inr ⟨ex_t e1 ha, KD.now q e1 (.tup ha ra)⟩⟩
  · cases h
def fList : List PyData → Option PyData
  | [.list ds] => some (.list ds)
  | [.tuple ds] => some (.list ds)
  | _ => none
theorem cd_list : CbD K (rLstOf K) fList := fun ds z h => by
  unfold fList at h
  split at h
  · cases h; exact cb_of fun H v dv => ed_listL (ed_c dv)
  · cases h; exact cb_of fun H v dv => ed_listT (ed_c dv)
  · cases h
end
/-! kinds -/
def isTy (n : String) (d : PyData) : Option Bool := if n = "str" then some (match d with | .str _ => true | _ => false)
  else if n = "int" then some (match d with | .int _ => true | .bool _ => true | _ => false)
  else if n = "bool" then some (match d with | .bool _ => true | _ => false)
  else if n = "tuple" then some (match d with | .tuple _ => true | _ => false)
  else if n = "list" then some (match d with | .list _ => true | .dict _ => true | _ => false) else none
theorem isTy_kit {n : String} {d : PyData} {b : Bool} (h : isTy n d = some b) : kitB (tyD d) n = some b := by
  unfold isTy at h
  split at h
  · rename_i e; subst e; cases h; cases d <;> simp only [tyD] <;> decide +kernel
  · split at h
    · rename_i e; subst e; cases h; cases d <;> simp only [tyD] <;> decide +kernel
    · split at h
      · rename_i e; subst e; cases h; cases d <;> simp only [tyD] <;> decide +kernel
      · split at h
        · rename_i e; subst e; cases h; cases d <;> simp only [tyD] <;> decide +kernel
        · split at h
          · rename_i e; subst e; cases h; cases d <;> simp only [tyD] <;> decide +kernel
          · cases h
section
variable {K : PySem.W.Frag} {FL : Fl} {T : TbS} {W : WX} {ta tb te : TE} {pa pb : PM} {ma : EM}
def pIsi (n : String) (p : PM) : PM := fun g => (p g).bind fun d => (isTy n d).map .bool
theorem sp_isi {n : String} (ha : SimP K FL T ta pa) : SimP K FL T (tCB (rIsi K) (tCons ta (tCons (tC (.ty n)) tNil))) (pIsi n pa) := fun F α H H1 σ g z R h Q q => by
  obtain ⟨d, h1, h2⟩ := bind_some h
  obtain ⟨b, h3, rfl⟩ := Option.map_eq_some_iff.mp h2
  refine ha F α H H1 σ g d R h1 _ fun x H2 Ha e2 ea xa da => ?_
  exact rdc_isi (H := Ha) (isTy_kit h3) Ha _ (Ex.refl _) x da rfl H2 ea Q fun v H4 Hc e4 ec xc dc => q v H4 Hc (e2.trans e4) ec (xa.trans e2 xc) dc
def mIsi (n : String) (m : EM) : EM := eBind m fun v => fun g => (okV v).bind fun d => (isTy n d).bind fun b => some (.ok (.dat (.bool b)), g)
theorem se_isi {n : String} (ha : SimE K FL T W ta ma) : SimE K FL T W (tCB (rIsi K) (tCons ta (tCons (tC (.ty n)) tNil))) (mIsi n ma) := fun F α H H1 σ g r g' R hm Q q => by
  rcases eBind_some hm with ⟨v, g1, h1, h2⟩ | ⟨x, h1, rfl⟩
  · refine ha F α H H1 σ g _ g1 R h1 _ fun α1 Ha H2 x R1 s1 rx => ?_
    obtain ⟨d, k1, h5⟩ := bind_some h2
    obtain ⟨b, k3, h7⟩ := bind_some h5
    cases h7
    exact rdc_isi (H := Ha) (isTy_kit k3) Ha _ (Ex.refl _) x (rx.dat (okV_some k1)) rfl H2 R1.ex Q fun v H4 Hc e4 ec xc dc => q α1 Hc H4 v (R1.grow e4 ec xc) (s1.trans (Stp.of xc.ex)) dc
  · exact ha F α H H1 σ g _ _ R h1 _ q
/-! methods of texts, with one argument -/
def pM1 (f : Str → PyData → Option PyData) (a b : PM) : PM := fun g => (a g).bind fun d => (asS d).bind fun x => (b g).bind fun e => f x e
def MtD (K : PySem.W.Frag) (r : V → List V → Hp → VK → Prop) (f : Str → PyData → Option PyData) : Prop := ∀ x e z, f x e = some z → ∀ H y, Dt K H y e → ∀ H1, Ex H H1 → ∀ Q : VK, KD K H H1 z Q → r (.str x) [y] H1 Q
theorem sp_m1 {r : V → List V → Hp → VK → Prop} {f : Str → PyData → Option PyData} (hf : MtD K r f) (ha : SimP K FL T ta pa) (hb : SimP K FL T tb pb) : SimP K FL T (tM1 r ta tb) (pM1 f pa pb) := fun F α H H1 σ g z R h Q q => by
  obtain ⟨d, h1, h⟩ := bind_some h
  obtain ⟨x, h2, h⟩ := bind_some h
  obtain ⟨e, h3, h4⟩ := bind_some h
  rw [asS_some h2] at h1
  refine ha F α H H1 σ g _ R h1 _ fun v H2 Ha e2 ea xa da => ?_
  rw [da.str_eq]
  refine ⟨⟨x, rfl⟩, hb F α Ha H2 σ g e (R.grow e2 ea xa) h3 _ fun y H3 Hb e3 eb xb db => ?_⟩
  exact hf x e z h4 Hb y db H3 eb Q fun v H4 Hc e4 ec xc dc => q v H4 Hc ((e2.trans e3).trans e4) ec ((xa.trans e2 xb).trans (e2.trans e3) xc) dc
def fFind (x : Str) : PyData → Option PyData
  | .str y => some (.int (Txt.find x y))
  | _ => none
theorem md_find : MtD K (fun x xs H Q => ∃ a b, x = .str a ∧ xs = [.str b] ∧ Q (.int (Txt.find a b)) H) fFind := fun x e z h H y dy H1 e1 Q q => by
  cases e <;> cases h
  exact ⟨x, _, rfl, by rw [dy.str_eq], q.val e1 fun _ => .int _⟩
def fJoin (x : Str) : PyData → Option PyData
  | .list ds => (strsD ds).bind fun zs => if (zs.map (·.length)).sum + zs.length * x.length ≤ 100000 then some (.str (Txt.join x zs)) else none
  | _ => none
theorem md_join : MtD K (rJoin K) fJoin := fun x e z h H y dy H1 e1 Q q => by
  unfold fJoin at h
  split at h
  · obtain ⟨zs, h1, h2⟩ := bind_some h
    obtain ⟨h3, rfl⟩ := ite_some h2
    have := strsD_eq h1
    subst this
    obtain ⟨a, xs, rfl, ha, ra⟩ := dy.lst_eq
    have e2 := strs_dp ra
    subst e2
    exact ⟨x, a, zs, rfl, rfl, .inl (sq_of (e1 a _ ha)), Nat.le_trans h3 (by decide), q.val e1 fun _ => .str _⟩
  · cases h
def fSplit (x : Str) : PyData → Option PyData
  | .str y => if (y.length == 0) = false ∧ x.length ≤ 60000 then some (.list ((Txt.split x y).map .str)) else none
  | _ => none
theorem md_split : MtD K (fun x xs H Q => ∃ a b, x = .str a ∧ xs = [.str b] ∧ (b.length == 0) = false ∧ a.length + 2 ≤ sizeLine ∧ rNewStrs (Txt.split a b) H Q) fSplit := fun x e z h H y dy H1 e1 Q q => by
  unfold fSplit at h
  split at h
  · obtain ⟨⟨h1, h2⟩, rfl⟩ := ite_some h
    refine ⟨x, _, rfl, by rw [dy.str_eq], h1, Nat.le_trans (Nat.add_le_add_right h2 2) (by decide), fun p hp => q.new e1 hp (.lst upd_same (dp_strs _))⟩
  · cases h
end
end EV

/-! ### EV: the program's classes -/
namespace EV
open PySem PySem.Spec PyProof.Rows L2 Evl L2H LamX LR
abbrev FLD : Fl := fun C => if C = "Disk" then ["wide", "settled_ones", "loose", "fuse", "has_fallen", "many_reads", "many_writes", "many_settles"]
  else if C = "Room" then ["plate", "most", "held", "peak"]
  else if C = "Store" then ["plate", "room", "used", "new", "gone", "late", "walks"]
  else if C = "Leafmap" then ["made_of", "kind", "store", "held", "walks", "is_dead", "done", "serial", "many", "root"] else []
theorem pure_len {N n : Nat} {m : SM} {ds : List PyData} {z : PyData} (h : pureOf N n m ds = some z) : ds.length = n := by
  unfold pureOf at h
  split at h
  · rename_i c; exact c.1
  · cases h
end EV

/-! ### EV: what is new, guarded; comprehensions that do something; more reads (own work) -/
namespace EV
open PySem PySem.Spec PyProof.Rows L2 Evl L2H LamX LR
section
variable {K : PySem.W.Frag} {FL : Fl} {T : TbS} {W : WX} {ta tb tc te td ty tx : TE} {tt tu : TT} {pa pb pc : PM} {qa qb : PB} {tA tr : TA} {ps pr : PMs} {ma mb : EM} {ms mr : AM} {ba bb : BM} {t1 t2 : TS} {s1 s2 : SM} {i j : Nat} {w : WM}
/-- a thing that nobody owns is kept -/
theorem Rel.prot {F : Fr} {α : Al} {H H1 : Hp} {σ : L2.St} {g : Sg} {p : Addr} {ho : HO} (R : Rel K FL T F α H H1 σ g) (hp : H1 p = some ho) (hn : ∀ o, α o ≠ some p) (nt : ∀ qs, ho ≠ .tbl qs) : Rel K FL T ⟨H, upd F.B p ho, F.a0⟩ α H H1 σ g := by
  refine ⟨R.toRelS, Ext.refl _ _, fun b u hb => ?_, fun hT b qs hb => ?_, fun o a ha => ?_, R.old, R.len, R.slt⟩
  · have hb : upd F.B p ho b = some u := hb
    by_cases c : b = p
    · subst c; rw [upd_same] at hb; cases hb; exact hp
    · rw [upd_ne c] at hb; exact R.gro b u hb
  · have hb : upd F.B p ho b = some (.tbl qs) := hb
    by_cases c : b = p
    · subst c; rw [upd_same] at hb; cases hb; exact nt qs rfl
    · rw [upd_ne c] at hb; exact R.ntB hT b qs hb
  · show upd F.B p ho a = none
    have c : a ≠ p := fun e => hn o (e ▸ ha)
    rw [upd_ne c]
    exact R.offB o a ha
theorem Rel.unprot {F : Fr} {α : Al} {H0 H H1 : Hp} {σ : L2.St} {g : Sg} {p : Addr} {ho : HO} (R : Rel K FL T ⟨H0, upd F.B p ho, F.a0⟩ α H H1 σ g) (x : Ext F.H0 F.B H0) (hB : F.B p = none) (h0 : H0 p = none) (nB : T.fl = true → NT F.B) : Rel K FL T F α H H1 σ g ∧ H1 p = some ho ∧ H p = none ∧ ∀ o, α o ≠ some p := by
  have ex : Ex F.B (upd F.B p ho) := Ex.new hB
  refine ⟨⟨R.toRelS, ⟨x.ex.trans R.ext.ex, fun b o hb => ?_⟩, ex.trans R.gro, nB, fun o a ha => ?_, R.old, R.len, R.slt⟩, R.gro p ho upd_same, R.ext.off h0 (show upd F.B p ho p = some ho from upd_same), fun o ha => ?_⟩
  · rcases R.ext.fresh b o hb with z | ⟨z1, z2⟩
    · exact x.fresh b o z
    · exact .inr ⟨fresh_back ex z1, z2⟩
  · exact fresh_back ex (R.offB o a ha)
  · have : upd F.B p ho p = none := R.offB o p ha
    rw [upd_same] at this
    cases this
/-- x, then y, where x is new -/
theorem new_then {F : Fr} {α : Al} {H H1 : Hp} {σ : L2.St} {g : Sg} {p : Addr} {ho : HO} (R : Rel K FL T F α H H1 σ g) (hp : H1 p = some ho) (hH : H p = none) (hB : F.B p = none) (hn : ∀ o, α o ≠ some p) (nt : ∀ qs, ho ≠ .tbl qs)
    (hm : SimE K FL T W te ma) {r : Except Str Rv} {g' : Sg} (h : ma g = some (r, g')) (Q : VK)
    (q : match r with
      | .ok v => ∀ α' H' H2 u, Rel K FL T F α' H' H2 σ g' → Stp α H α' H' → RR K α' H' u v → H2 p = some ho → H' p = none → (∀ o, α' o ≠ some p) → Q u H2
      | .error x => ∀ α' H' H2, Rel K FL T F α' H' H2 σ g' → Stp α H α' H' → W (.ref (gaE K x)) none σ H2) : te σ H1 Q := by
  refine hm _ α H H1 σ g r g' (R.prot hp hn nt) h Q ?_
  cases r with
  | ok v =>
    intro α' H' H2 u R' s ru
    obtain ⟨R2, a, b, c⟩ := R'.unprot R.ext hB hH R.ntB
    exact q α' H' H2 u R2 s ru a b c
  | error x =>
    intro α' H' H2 R' s
    obtain ⟨R2, _⟩ := R'.unprot R.ext hB hH R.ntB
    exact q α' H' H2 R2 s
/-- a, b = new, e -/
def sParNE (i j : Nat) (m : NM) (e : EM) : SM := sBind m fun c => sBind e fun v => fun g => (argV v).bind fun x => if i ≠ j then some (.nx, (g.set i c).set j x) else none
theorem ss_parNE {m : NM} (h1 : SimN K FL T W ta m) (h2 : SimE K FL T W tb mb) : SimS K FL T W (tPar i j (tCons ta (tCons tb tNil))) (sParNE i j m mb) := fun F α H H1 σ g fl g' R h D k => by
  rcases sBind_some h with ⟨c, g1, k1, k2⟩ | ⟨x, k1, rfl⟩
  · refine h1 F α H H1 σ g _ _ R k1 _ fun α1 Ha H2 p ho R1 s1 hp hH hB hn hc => ?_
    rcases sBind_some k2 with ⟨v, g2, k3, k4⟩ | ⟨x, k3, rfl⟩
    · obtain ⟨x, k5, k6⟩ := bind_some k4
      obtain ⟨hij, e⟩ := ite_some k6
      cases e
      refine new_then R1 hp hH hB hn hc.plain.tbl h2 k3 _ fun α2 Hb H3 u R2 s2 ru q1 q2 q3 => ⟨.ref p, u, rfl, ?_⟩
      have hc2 : COk K Hb ho c := by
        cases c with
        | dat d => exact hc.elim
        | obj i => exact hc.elim
        | ownL ds => obtain ⟨vs, e1, e2⟩ := hc; exact ⟨vs, e1, DtAll.ex s2.ex e2⟩
        | ownD ds => obtain ⟨vs, e1, e2⟩ := hc; exact ⟨vs, e1, e2.ex s2.ex⟩
      exact k _ Hb H3 _ ((R2.own i q1 q2 hB q3 hc2).set j (by
        cases v with
        | dat d => cases k5; exact ru
        | at_ o =>
          cases o with
          | ob n =>
            cases k5
            obtain ⟨a, e, h⟩ := ru
            exact ⟨a, e, (if_neg (by intro e; cases e)).trans h⟩
          | slot n => cases k5
          | fld n f => cases k5))
    · exact new_then R1 hp hH hB hn hc.plain.tbl h2 k3 _ fun α2 Hb H3 R2 s2 => k α2 Hb H3 σ R2
  · exact h1 F α H H1 σ g _ _ R k1 _ fun α' H' H2 R' s' => k α' H' H2 σ R'
/-- a, b = e, new -/
def sParEN (i j : Nat) (e : EM) (m : NM) : SM := sBind e fun v => sBind m fun c => fun g => (argV v).bind fun x => some (.nx, (g.set i x).set j c)
theorem ss_parEN {m : NM} (h1 : SimE K FL T W ta ma) (h2 : SimN K FL T W tb m) : SimS K FL T W (tPar i j (tCons ta (tCons tb tNil))) (sParEN i j ma m) := fun F α H H1 σ g fl g' R h D k => by
  rcases sBind_some h with ⟨v, g1, k1, k2⟩ | ⟨x, k1, rfl⟩
  · refine h1 F α H H1 σ g _ _ R k1 _ fun α1 Ha H2 u R1 s1 ru => ?_
    rcases sBind_some k2 with ⟨c, g2, k3, k4⟩ | ⟨x, k3, rfl⟩
    · obtain ⟨x, k5, k6⟩ := bind_some k4
      cases k6
      refine h2 F α1 Ha H2 σ g1 _ _ R1 k3 _ fun α2 Hb H3 p ho R2 s2 hp hH hB hn hc => ⟨u, .ref p, rfl, ?_⟩
      have hv : ∀ o, VR K α2 Hb H3 o u x := fun o => by
        cases v with
        | dat d => cases k5; exact Dt.ex s2.ex ru
        | at_ ow =>
          cases ow with
          | ob n => cases k5; obtain ⟨a, e, h⟩ := ru; exact ⟨a, e, s2.ob n a h⟩
          | slot n => cases k5
          | fld n f => cases k5
      exact k _ Hb H3 _ ((R2.set i (hv _)).own j hp hH hB hn hc)
    · exact h2 F α1 Ha H2 σ g1 _ _ R1 k3 _ fun α2 Hb H3 R2 s2 => k α2 Hb H3 σ R2
  · exact h1 F α H H1 σ g _ _ R k1 _ fun α' H' H2 R' s' => k α' H' H2 σ R'
/-- an unowned thing is changed -/
theorem Rel.upd0 {F : Fr} {α : Al} {H H1 : Hp} {σ : L2.St} {g : Sg} {p : Addr} {o o' : HO} (R : Rel K FL T F α H H1 σ g) (hp : H1 p = some o) (po : PlainO o) (hH : H p = none) (hB : F.B p = none) (hn : ∀ o, α o ≠ some p) : Rel K FL T F α H (upd H1 p o') σ g := by
  have oth : ∀ {ow b}, α ow = some b → ∀ u, H1 b = some u → upd H1 p o' b = some u := fun {ow b} hb u hu => upd_keep (fun e => hn ow (e ▸ hb)) hu
  refine ⟨⟨ex_off R.ex hH, R.nt, EV.tabs_keep R.tb fun b u hb hp' => upd_keep (fun e => by subst e; rw [hp] at hb; cases hb; exact hp' po) hb, R.inj, R.off, fun ow b hb => ?_, fun i ob hs => ?_, R.dom⟩, R.ext, ex_off R.gro hB, R.ntB, R.offB, R.old, R.len, fun j v hj => ?_⟩
  · obtain ⟨u, hu, pu⟩ := R.pl ow b hb
    exact ⟨u, oth hb u hu, pu⟩
  · obtain ⟨b, h1, h2⟩ := R.sto i ob hs
    exact ⟨b, h1, h2.ex (Ex.refl _) (fun _ _ z => z) (fun f c z => ⟨z, oth z⟩) (oth h1)⟩
  · obtain ⟨u, h1, h2⟩ := R.slt j v hj
    exact ⟨u, h1, h2.ex (Ex.refl _) (fun _ _ z => z) fun b z => ⟨z, oth z⟩⟩
/-! ### comprehensions whose parts do something; nothing is raised out of them -/
def keepV : Option Val → Option Val
  | some (.dat d) => some (.dat d)
  | some (.obj i) => some (.obj i)
  | _ => none
def Sg.inner (g : Sg) (vs : List Nat) : Sg := ⟨(g.wipe vs).sl.map keepV, g.st⟩
theorem keepV_some {o : Option Val} {v : Val} (h : keepV o = some v) : o = some v ∧ ∀ (K : PySem.W.Frag) (α : Al) (H H1 : Hp) (o1 o2 : Owner) (u : V), VR K α H H1 o1 u v → VR K (stoA α) H H1 o2 u v := by
  cases o with
  | none => cases h
  | some x =>
    cases x with
    | dat d => cases h; exact ⟨rfl, fun _ _ _ _ _ _ _ h => h⟩
    | obj i => cases h; exact ⟨rfl, fun _ _ _ _ _ _ _ h => h⟩
    | ownL ds => cases h
    | ownD ds => cases h
theorem wipe_st (g : Sg) : ∀ vs : List Nat, (g.wipe vs).st = g.st
  | [] => rfl
  | _ :: vs => wipe_st g vs
theorem Rel.inner {F : Fr} {α : Al} {H H1 : Hp} {σ : L2.St} {g : Sg} (R : Rel K FL T F α H H1 σ g) (vs : List Nat) : Rel K FL T ⟨H, baseOf (stoA α) H1, fun i => stoA α (.ob i)⟩ (stoA α) H H1 (L2.wipe σ vs) (g.inner vs) := by
  have Rw := R.wipe vs
  refine ⟨R.toRelS.sto_only, Ext.refl _ _, fun b u h => (base_some h).2.2, fun _ b ps h => (base_some h).2.1 ps rfl, fun o a h => ?_, fun i a h => h, ?_, fun j v h => ?_⟩
  · cases q : baseOf (stoA α) H1 a with
    | none => exact q
    | some u => exact absurd h ((base_some q).1 o)
  · have := Rw.len
    simpa [Sg.inner] using this
  · have h : ((g.wipe vs).sl.map keepV)[j]? = some (some v) := h
    rw [List.getElem?_map] at h
    obtain ⟨o, h1, h2⟩ := Option.map_eq_some_iff.mp h
    obtain ⟨e, k⟩ := keepV_some h2
    subst e
    obtain ⟨u, q1, q2⟩ := Rw.slt j v h1
    exact ⟨u, q1, k _ _ _ _ _ _ _ q2⟩
def lcOneE (gm : GM) (t : BM) (el : EM) (vs : List Nat) (g : Sg) (d : PyData) : Option (Option PyData × Sg) := (gm d (g.inner vs)).bind fun g1 => (t g1).bind fun p => match p.1 with
  | .error _ => none
  | .ok b => if b = true then (el p.2).bind fun q => match q.1 with
    | .ok (.dat z) => some (some z, ⟨g.sl, q.2.st⟩)
    | _ => none else some (none, ⟨g.sl, p.2.st⟩)
def lcAllE (gm : GM) (t : BM) (el : EM) (vs : List Nat) : List PyData → List PyData → Sg → Option (List PyData × Sg)
  | [], acc, g => some (acc, g)
  | d :: ds, acc, g => (lcOneE gm t el vs g d).bind fun p => lcAllE gm t el vs ds (match p.1 with | some z => acc ++ [z] | none => acc) p.2
theorem stoA_idem {α : Al} : stoA (stoA α) = stoA α := by
  funext o
  cases o <;> rfl
theorem lce_new {wi : TI} {tg : TG} {gm : GM} {it : IM} {vs : List Nat} (hT : T.fl = true) (hi : SimI K FL T wi it) (hg : SimG K FL T tg gm vs) (ht : SimB K FL T W0 tt ba) (he : SimE K FL T W0 te ma)
    {F : Fr} {α : Al} {H H1 : Hp} {σ : L2.St} {g g' : Sg} {out ds : List PyData} (R : Rel K FL T F α H H1 σ g) (h1 : it g = some ds) (hl : ds.length ≤ 50000) (h3 : lcAllE gm ba ma vs ds [] g = some (out, g')) (Q : VK)
    (q : ∀ p α' H' H2 xs, Rel K FL T F α' H' H2 σ g' → Stp α H α' H' → F.B p = none → H' p = none → H2 p = some (.lst xs) → (∀ o, α' o ≠ some p) → DtAll K H' xs out → Q (.ref p) H2) : tLc wi tg tt te vs σ H1 Q := by
  refine hi F α H H1 σ g ds R h1 _ fun J G H2 Hb e2 eb xb hG w Dl hD => ?_
  have R0 := R.grow e2 eb xb
  obtain ⟨f1, f2, f3⟩ := R0.fresh hD
  refine lc_it (w.mono (G' := fun H3 => Ex Hb H3) (fun H3 e3 => hG H3 e3) fun _ _ _ _ _ _ y => y)
    (fun i Hr => ∃ α' H' acc dn gi, Rel K FL T F α' H' Hr σ gi ∧ Stp α Hb α' H' ∧ H' Dl = none ∧ Hr Dl = some (.lst acc) ∧ (∀ o, α' o ≠ some Dl) ∧ DtAll K H' acc dn ∧ acc.length ≤ i ∧ lcAllE gm ba ma vs (ds.drop i) dn gi = some (out, g')) ?_ ?_ ?_ ?_
  · exact ⟨α, Hb, [], [], g, R0.same (Ex.new hD), Stp.refl _ _, f1, upd_same, f3, .nil, Nat.le_refl _, h3⟩
  · rintro i Hr hi ⟨α', H', acc, dn, gi, a1, a2, _⟩
    exact a2.ex.trans a1.ex
  · rintro i x Hr H3 hi ⟨α', H', acc, dn, gi, a1, a2, a3, a4, a5, a6, a7, a8⟩ ⟨y1, d, y2, y3⟩
    obtain ⟨Hc, c1, c2, c3⟩ := y3 H' a2.ex a1.ex
    have Rc := a1.grow y1 c2 c1
    have hd : ds.drop i = d :: ds.drop (i + 1) := by
      rw [List.drop_eq_getElem_cons hi]
      obtain ⟨_, e⟩ := List.getElem?_eq_some_iff.mp y2
      rw [e]
    rw [hd] at a8
    obtain ⟨⟨o, gn⟩, k1, k2⟩ := bind_some a8
    obtain ⟨g1, k3, k4⟩ := bind_some k1
    obtain ⟨⟨rb, g2⟩, k5, k6⟩ := bind_some k4
    have nD : Hc Dl = none := c1.off a3 a4
    obtain ⟨σ2, R2, w2, q2⟩ := hg _ _ Hc H3 (L2.wipe σ vs) (gi.inner vs) g1 x d (Rc.inner vs) c3 k3
    refine q2 _ ⟨?_, ?_⟩
    · rw [w2 vs fun _ h => h]
      have idem : ∀ (ws : List Nat) (τ : L2.St), (∀ v ∈ ws, v ∈ vs) → L2.wipe (L2.wipe τ ws) vs = L2.wipe τ vs := by
        intro ws
        induction ws with
        | nil => intro τ _; rfl
        | cons v r ih => intro τ hv; show L2.wipe ((L2.wipe τ r).set v none) vs = _; rw [wipe_set (hv v List.mem_cons_self), ih τ fun x hx => hv x (List.mem_cons_of_mem _ hx)]
      exact idem vs σ fun _ h => h
    · cases rb with
      | error e => cases k6
      | ok b =>
        refine ht _ _ Hc H3 σ2 g1 _ g2 R2 k5 _ fun α3 Hd H4 R3 s3 => ?_
        have ne : ∀ ow, stoA α' ow ≠ some Dl := fun ow h => a5 ow (stoA_sub h)
        have back : ∀ {α5 : Al} {Hf H5 : Hp} {g5 : Sg}, Rel K FL T ⟨Hc, baseOf (stoA α') H3, fun i => stoA α' (.ob i)⟩ α5 Hf H5 σ2 g5 → ∃ α6, Rel K FL T F α6 Hf H5 σ ⟨gi.sl, g5.st⟩ ∧ Stp α Hb α6 Hf ∧ Hf Dl = none ∧ H5 Dl = some (.lst acc) ∧ (∀ ow, α6 ow ≠ some Dl) ∧ DtAll K Hf acc dn := fun {α5 Hf H5 g5} R5 => by
          have fm := R5.frm
          obtain ⟨z1, z2⟩ := Rc.call hT R5.toRelS.sto_only fm
          have h3D : H3 Dl = some (.lst acc) := y1 Dl _ a4
          refine ⟨merge α' (stoA α5), z1, (a2.trans (Stp.of c1.ex)).trans z2, fm.of Dl _ nD h3D ne (fun ps z => by cases z), fm.fr Dl _ h3D ne (fun ps z => by cases z), fun ow h => ?_, DtAll.ex (c1.ex.trans z2.ex) a6⟩
          cases ow with
          | slot j => exact a5 _ h
          | ob n =>
            rcases fm.nw (.ob n) Dl h with ⟨o', z⟩ | z | ⟨qs, z⟩
            · exact ne o' z
            · rw [h3D] at z; cases z
            · rw [h3D] at z; cases z
          | fld n f =>
            rcases fm.nw (.fld n f) Dl h with ⟨o', z⟩ | z | ⟨qs, z⟩
            · exact ne o' z
            · rw [h3D] at z; cases z
            · rw [h3D] at z; cases z
        cases b with
        | false =>
          cases k6
          obtain ⟨α6, z1, z2, z3, z4, z5, z6⟩ := back R3
          exact ⟨α6, Hd, acc, dn, _, z1, z2, z3, z4, z5, z6, Nat.le_succ_of_le a7, k2⟩
        | true =>
          obtain ⟨⟨rv, g5⟩, k7, k8⟩ := bind_some (show (ma g2).bind _ = some (o, gn) from k6)
          cases rv with
          | error e => cases k8
          | ok v =>
            cases v with
            | at_ ow => cases k8
            | dat z =>
              cases k8
              refine he _ _ Hd H4 σ2 g2 _ g5 R3 k7 _ fun α5 Hf H5 u R5 s5 ru => ?_
              obtain ⟨α6, z1, z2, z3, z4, z5, z6⟩ := back R5
              refine ⟨acc, z4, sz_lt (by omega), α6, Hf, acc ++ [u], dn ++ [z], _, z1.upd0 z4 trivial z3 f2 z5, z2, z3, upd_same, z5, z6.append (.cons ru .nil), ?_, k2⟩
              rw [List.length_append]
              exact Nat.succ_le_succ a7
  · rintro Hr ⟨α', H', acc, dn, gi, a1, a2, a3, a4, a5, a6, a7, a8⟩
    rw [List.drop_length] at a8
    cases a8
    exact q Dl α' H' Hr acc a1 ((Stp.of xb.ex).trans a2) f2 a3 a4 a5 a6
/-- a new list as data -/
theorem Rel.lay {F : Fr} {α : Al} {H H1 : Hp} {σ : L2.St} {g : Sg} {p : Addr} {xs : List V} (R : Rel K FL T F α H H1 σ g) (hB : F.B p = none) (hH : H p = none) (hp : H1 p = some (.lst xs)) (hn : ∀ o, α o ≠ some p) : Rel K FL T F α (upd H p (.lst xs)) H1 σ g ∧ Ex H (upd H p (.lst xs)) := by
  have hx : Ex H (upd H p (.lst xs)) := Ex.new hH
  refine ⟨⟨⟨fun b o hb => ?_, fun hT b qs hb => ?_, R.tb, R.inj, fun o b h => ?_, R.pl, fun i ob hi => ?_, R.dom⟩, ⟨R.ext.ex.trans hx, fun b o hb => ?_⟩, R.gro, R.ntB, R.offB, R.old, R.len, fun k w hk => ?_⟩, hx⟩
  · by_cases c : b = p
    · subst c; rw [upd_same] at hb; cases hb; exact hp
    · rw [upd_ne c] at hb; exact R.ex b o hb
  · by_cases c : b = p
    · subst c; rw [upd_same] at hb; cases hb
    · rw [upd_ne c] at hb; exact R.nt hT b qs hb
  · have c : b ≠ p := fun e => hn o (by rw [← e]; exact h)
    rw [upd_ne c]
    exact R.off _ b h
  · obtain ⟨b, m1, m2⟩ := R.sto i ob hi
    exact ⟨b, m1, m2.ex hx (fun _ _ z => z) (fun f c z => ⟨z, fun _ z => z⟩) fun _ z => z⟩
  · by_cases c : b = p
    · subst c; rw [upd_same] at hb; cases hb; exact .inr ⟨hB, fun ps z => by cases z⟩
    · rw [upd_ne c] at hb; exact R.ext.fresh b o hb
  · obtain ⟨u, m1, m2⟩ := R.slt k w hk
    exact ⟨u, m1, m2.ex hx (fun _ _ z => z) fun b z => ⟨z, fun _ z => z⟩⟩
def mLc (it : IM) (gm : GM) (t : BM) (el : EM) (vs : List Nat) : EM := fun g => (it g).bind fun ds => if ds.length ≤ 50000 then (lcAllE gm t el vs ds [] g).map fun p => (.ok (.dat (.list p.1)), p.2) else none
theorem se_lc {wi : TI} {tg : TG} {gm : GM} {it : IM} {vs ws : List Nat} (hT : T.fl = true) (hi : SimI K FL T wi it) (hg : SimG K FL T tg gm vs) (ht : SimB K FL T W0 tt ba) (he : SimE K FL T W0 te ma) (hv : ws = vs := by rfl) : SimE K FL T W (tLc wi tg tt te ws) (mLc it gm ba ma vs) := fun F α H H1 σ g r g' R h Q q => by
  subst hv
  obtain ⟨ds, h1, h2⟩ := bind_some h
  have h2 : (if ds.length ≤ 50000 then (lcAllE gm ba ma ws ds [] g).map (fun p => (Except.ok (Rv.dat (.list p.1)), p.2)) else none) = some (r, g') := h2
  split at h2
  · rename_i hl
    obtain ⟨⟨out, g2⟩, h3, h4⟩ := Option.map_eq_some_iff.mp h2
    cases h4
    refine lce_new hT hi hg ht he R h1 hl h3 Q fun p α' H' H2 xs R' s hB hH hp hn dt => ?_
    obtain ⟨R2, hx⟩ := R'.lay hB hH hp hn
    exact q α' _ H2 _ R2 (s.trans (Stp.of hx)) (.lst upd_same (DtAll.ex hx dt))
  · cases h2
/-- calls of pure defs with arguments that do something -/
theorem se_callP {n : Nat} {R' : List PyData → PyData → Prop} {E : XK} {f : List PyData → Option PyData} (hf : ∀ ds z, f ds = some z → R' ds z ∧ ds.length = n) (ha : SimA K FL T W tA ms) : SimE K FL T W (tCall (spR K n R') [] E tA) (mCB f ms) := fun F α H H1 σ g r g' R hm Q q => by
  rcases eBind_some hm with ⟨v, g1, h1, h2⟩ | ⟨x, h1, rfl⟩
  · refine ha F α H H1 σ g _ g1 R h1 _ fun α1 Ha H2 vs R1 s1 rx => ?_
    obtain ⟨ds, k1, h5⟩ := bind_some h2
    obtain ⟨z, k3, h7⟩ := bind_some h5
    cases h7
    show spR K n R' (vs ++ []) H2 Q E
    rw [List.append_nil]
    exact ⟨Ha, ds, z, R1.ex, okVs_all rx k1, (hf ds z k3).2, (hf ds z k3).1, fun v H4 Hc e4 ec xc dc => q α1 Hc H4 v (R1.grow e4 ec xc) (s1.trans (Stp.of xc.ex)) dc⟩
  · exact ha F α H H1 σ g _ _ R h1 _ q
def mM1 (f : Str → PyData → Option PyData) (a b : EM) : EM := eBind a fun v => fun g => (okV v).bind fun d => (asS d).bind fun x => eBind b (fun u => fun g1 => (okV u).bind fun e => (f x e).bind fun z => some (.ok (.dat z), g1)) g
theorem se_m1 {r : V → List V → Hp → VK → Prop} {f : Str → PyData → Option PyData} (hf : MtD K r f) (ha : SimE K FL T W ta ma) (hb : SimE K FL T W tb mb) : SimE K FL T W (tM1 r ta tb) (mM1 f ma mb) := fun F α H H1 σ g r' g' R hm Q q => by
  rcases eBind_some hm with ⟨v, g1, h1, h2⟩ | ⟨x, h1, rfl⟩
  · refine ha F α H H1 σ g _ g1 R h1 _ fun α1 Ha H2 u R1 s1 ru => ?_
    obtain ⟨d, k1, h2⟩ := bind_some h2
    obtain ⟨x, k2, h2⟩ := bind_some h2
    have e := ru.dat (okV_some k1)
    rw [asS_some k2] at e
    rw [e.str_eq]
    refine ⟨⟨x, rfl⟩, ?_⟩
    rcases eBind_some h2 with ⟨w, g2, h3, h4⟩ | ⟨y, h3, rfl⟩
    · refine hb F α1 Ha H2 σ g1 _ g2 R1 h3 _ fun α2 Hb H3 y R2 s2 ry => ?_
      obtain ⟨e, k3, h5⟩ := bind_some h4
      obtain ⟨z, k4, h6⟩ := bind_some h5
      cases h6
      exact hf x e z k4 Hb y (ry.dat (okV_some k3)) H3 R2.ex Q fun v H4 Hc e4 ec xc dc => q α2 Hc H4 v (R2.grow e4 ec xc) ((s1.trans s2).trans (Stp.of xc.ex)) dc
    · exact hb F α1 Ha H2 σ g1 _ _ R1 h3 _ (q.err s1)
  · exact ha F α H H1 σ g _ _ R h1 _ q
end
end EV

/-! ### EV: objects made; lambdas; more reads and walks (own work) -/
namespace EV
open PySem PySem.Spec PyProof.Rows L2 Evl L2H LamX LR
section
variable {K : PySem.W.Frag} {FL : Fl} {T : TbS} {W : WX} {ta tb tc te td ty tx : TE} {tt tu : TT} {pa pb pc : PM} {qa qb : PB} {tA tr tK : TA} {ps pr : PMs} {ma mb : EM} {ms mr mk : AM} {ba bb : BM} {t1 t2 : TS} {s1 s2 : SM} {i j : Nat} {w : WM}
/-- a new instance, without fields -/
theorem Rel.made {F : Fr} {α : Al} {H H1 : Hp} {σ : L2.St} {g : Sg} {C : Str} {x dx : Addr} (R : Rel K FL T F α H H1 σ g) (hc : ClsOk K FL C) (hx : H1 x = none) (hdx : H1 dx = none) (hne : dx ≠ x) :
    Rel K FL T F (fun o => if o = .ob g.st.length then some x else α o) H (upd (upd H1 dx (.own x)) x (.ins (gaE K C) dx [])) σ ⟨g.sl, g.st ++ [.ins C []]⟩ ∧ Stp α H (fun o => if o = .ob g.st.length then some x else α o) H := by
  have hx' : upd H1 dx (.own x) x = none := by rw [upd_ne (Ne.symm hne)]; exact hx
  have e3 : Ex H1 (upd (upd H1 dx (.own x)) x (.ins (gaE K C) dx [])) := (Ex.new hdx).trans (Ex.new hx')
  obtain ⟨f1, f2, f3⟩ := R.fresh hx
  have Rg := R.same e3
  have e : ∀ {o}, o ≠ .ob g.st.length → (if o = .ob g.st.length then some x else α o) = α o := fun h => if_neg h
  have eo : ∀ {k b}, α (.ob k) = some b → (if Owner.ob k = .ob g.st.length then some x else α (.ob k)) = some b := fun {k b} h => by
    have c : k ≠ g.st.length := fun z => by
      rw [z, R.dom _ (Nat.le_refl _)] at h
      cases h
    exact (if_neg (by intro e; cases e; exact c rfl)).trans h
  refine ⟨⟨⟨Rg.ex, R.nt, Rg.tb, fun o o' a h h' => ?_, fun o a h => ?_, fun o a h => ?_, fun k ob hk => ?_, fun k hk => ?_⟩, R.ext, Rg.gro, R.ntB, fun o a h => ?_, fun k a h => eo (R.old k a h), R.len, fun k v hk => ?_⟩, Ex.refl _, fun k a h => eo h, fun k => if_neg (by intro e; cases e)⟩
  · by_cases c : o = .ob g.st.length
    · by_cases c' : o' = .ob g.st.length
      · rw [c, c']
      · subst c
        rw [if_pos rfl] at h
        rw [e c'] at h'
        cases h
        exact absurd h' (f3 o')
    · by_cases c' : o' = .ob g.st.length
      · subst c'
        rw [if_pos rfl] at h'
        rw [e c] at h
        cases h'
        exact absurd h (f3 o)
      · rw [e c] at h
        rw [e c'] at h'
        exact R.inj _ _ a h h'
  · by_cases c : o = .ob g.st.length
    · subst c; rw [if_pos rfl] at h; cases h; exact f1
    · rw [e c] at h; exact R.off _ a h
  · by_cases c : o = .ob g.st.length
    · subst c; rw [if_pos rfl] at h; cases h; exact ⟨_, upd_same, trivial⟩
    · rw [e c] at h; exact Rg.pl _ a h
  · by_cases c : k < g.st.length
    · rw [List.getElem?_append_left c] at hk
      obtain ⟨b, h1, h2⟩ := Rg.sto k ob hk
      exact ⟨b, eo h1, h2.ex (Ex.refl _) (fun _ _ z => eo z) (fun f b z => ⟨(if_neg (by intro e; cases e)).trans z, fun _ z => z⟩) fun _ z => z⟩
    · rw [List.getElem?_append_right (Nat.le_of_not_lt c)] at hk
      have hk0 : k - g.st.length = 0 := by
        cases hq : k - g.st.length with
        | zero => rfl
        | succ n => rw [hq] at hk; simp at hk
      rw [hk0] at hk
      simp at hk
      subst hk
      have ek : k = g.st.length := by omega
      subst ek
      exact ⟨x, if_pos rfl, hc, dx, [], upd_same, rfl, fun f v h => by cases h⟩
  · have hk : g.st.length + 1 ≤ k := by simpa using hk
    exact (if_neg (by intro e; cases e; omega)).trans (R.dom k (by omega))
  · by_cases c : o = .ob g.st.length
    · subst c; rw [if_pos rfl] at h; cases h; exact f2
    · rw [e c] at h; exact R.offB _ a h
  · obtain ⟨u, h1, h2⟩ := Rg.slt k v hk
    exact ⟨u, h1, h2.ex (Ex.refl _) (fun _ _ z => eo z) fun b z => ⟨(if_neg (by intro e; cases e)).trans z, fun _ z => z⟩⟩
/-- C(..): the new object, then __init__ -/
def makeF (C : Str) (f : Fun) (n : Nat) (vs : List Rv) : EM := fun g => (argVs vs).bind fun _ => if vs.length + 1 = n then (f (.at_ (.ob g.st.length) :: vs) (g.st ++ [.ins C []])).bind fun p => match p.1 with
  | .ok (.dat .none) => some (.ok (.at_ (.ob g.st.length)), ⟨g.sl, p.2⟩)
  | .error x => some (.error x, ⟨g.sl, p.2⟩)
  | _ => none else none
theorem args_step {α α' : Al} {H H' : Hp} (s : Stp α H α' H') : ∀ {us : List V} {vs : List Rv} {xs : List Val}, Paired (RR K α H) us vs → argVs vs = some xs → Paired (RR K α' H') us vs
  | _, _, _, .nil, _ => .nil
  | _, _, _, .cons (b := v) a b, h => by
    obtain ⟨x, h1, h2⟩ := bind_some h
    obtain ⟨xs, h3, h4⟩ := bind_some h2
    refine .cons (a.step s fun i f e => ?_) (args_step s b h3)
    subst e
    cases h1
theorem make_core {C : Str} {n : Nat} {f : Fun} (hT : T.fl = true) (hc : ClsOk K FL C) {E : XK} (hW : ∀ c d σ H, W c d σ H → E c d H) {F : Fr} {α : Al} {H H1 : Hp} {σ : L2.St} {g g' : Sg} {r : Except Str Rv} {us : List V} {vs : List Rv} (R : Rel K FL T F α H H1 σ g) (ra : Paired (RR K α H) us vs) (h : makeF C f n vs g = some (r, g')) {Q : VK} (q : KE K FL T W F α H σ g' Q r) :
    ∀ x dx, H1 x = none → H1 dx = none → dx ≠ x → spF K FL T n f (.ref x :: us) (upd (upd H1 dx (.own x)) x (.ins (gaE K C) dx [])) (fun v H2 => v = .non ∧ Q (.ref x) H2) E := fun x dx hx hdx hne => by
  obtain ⟨R2, s2⟩ := R.made hc hx hdx hne
  obtain ⟨xs, h1, h2⟩ := bind_some h
  have h2 : (if vs.length + 1 = n then (f (.at_ (.ob g.st.length) :: vs) (g.st ++ [.ins C []])).bind _ else none) = some (r, g') := h2
  split at h2
  · rename_i hn
    obtain ⟨⟨r', st'⟩, h3, h4⟩ := bind_some h2
    have hob : stoA (fun o => if o = .ob g.st.length then some x else α o) (.ob g.st.length) = some x := if_pos rfl
    refine ⟨H, stoA (fun o => if o = .ob g.st.length then some x else α o), g.st ++ [.ins C []], .at_ (.ob g.st.length) :: vs, r', st', R2.toRelS.sto_only, fun _ => rfl, .cons ⟨x, rfl, hob⟩ (args_sto (args_step s2 ra h1) h1), hn, h3, ?_⟩
    cases r' with
    | ok v =>
      intro u H2 H' α' R' f' ru
      obtain ⟨a, b⟩ := R2.call hT R' f'
      cases v with
      | at_ o => cases h4
      | dat d =>
        cases d <;> cases h4
        refine ⟨Dt.non_eq ru, q _ H' H2 _ a (s2.trans b) ⟨x, rfl, ?_⟩⟩
        exact b.ob _ x (if_pos rfl)
    | error y =>
      cases h4
      intro H2 H' α' R' f'
      obtain ⟨a, b⟩ := R2.call hT R' f'
      exact hW _ _ σ _ (q _ H' H2 a (s2.trans b))
  · cases h2
/-- C(e, ..), the rest defaults -/
def mMake (C : Str) (f : Fun) (n : Nat) (dv : List PyData) (a : AM) : EM := eBind a fun vs => makeF C f n (vs ++ dv.map .dat)
theorem se_make {C : Str} {n : Nat} {f : Fun} {dvs : List V} {dv : List PyData} {E : XK} (hT : T.fl = true) (hc : ClsOk K FL C) (hW : ∀ c d σ H, W c d σ H → E c d H) (hd : ∀ H, DtAll K H dvs dv) (ha : SimA K FL T W tA ms) : SimE K FL T W (tMake (gaE K C) (spF K FL T n f) dvs E tA) (mMake C f n dv ms) := fun F α H H1 σ g r g' R hm Q q => by
  rcases eBind_some hm with ⟨vs, g1, h1, h2⟩ | ⟨x, h1, rfl⟩
  · refine ha F α H H1 σ g _ g1 R h1 _ fun α1 Ha H2 us R1 s1 ru => ?_
    have rd : ∀ {us vs}, Paired (RR K α1 Ha) us vs → Paired (RR K α1 Ha) (us ++ dvs) (vs ++ dv.map .dat) := fun {us vs} h => by
      induction h with
      | nil =>
        have : ∀ {dvs : List V} {dv : List PyData}, DtAll K Ha dvs dv → Paired (RR K α1 Ha) dvs (dv.map .dat) := by
          intro dvs dv h
          induction dvs generalizing dv with
          | nil => cases h; exact .nil
          | cons u us ih => cases h with | cons a b => exact .cons a (ih b)
        exact this (hd Ha)
      | cons a b ih => exact .cons a ih
    exact make_core hT hc hW R1 (rd ru) h2 (q.step s1)
  · exact ha F α H H1 σ g _ _ R h1 _ q
/-- C(e, .., k = e, ..) -/
def mMakeK (C : Str) (f : Fun) (n nv nk : Nat) (a k : AM) : EM := eBind a fun vs => eBind k fun zs => fun g => if vs.length = nv ∧ zs.length = nk ∧ vs.all noFld = true then makeF C f n (vs ++ zs) g else none
theorem paired_app {α : Al} {H : Hp} : ∀ {us : List V} {vs : List Rv} {ws : List V} {zs : List Rv}, Paired (RR K α H) us vs → Paired (RR K α H) ws zs → Paired (RR K α H) (us ++ ws) (vs ++ zs)
  | _, _, _, _, .nil, b => b
  | _, _, _, _, .cons a r, b => .cons a (paired_app r b)
theorem paired_step {α α' : Al} {H H' : Hp} (s : Stp α H α' H') : ∀ {us : List V} {vs : List Rv}, Paired (RR K α H) us vs → vs.all noFld = true → Paired (RR K α' H') us vs
  | _, _, .nil, _ => .nil
  | _, _, .cons a b, h => by
    rw [List.all_cons, Bool.and_eq_true] at h
    exact .cons (a.step s (noFld_ne h.1)) (paired_step s b h.2)
theorem se_makeK {C : Str} {n nv nk : Nat} {f : Fun} {E : XK} (hT : T.fl = true) (hc : ClsOk K FL C) (hW : ∀ c d σ H, W c d σ H → E c d H) (ha : SimA K FL T W tA ms) (hk : SimA K FL T W tK mk) : SimE K FL T W (tMakeK (gaE K C) nv nk (spF K FL T n f) (fun vs zs => vs ++ zs) E tA tK) (mMakeK C f n nv nk ms mk) := fun F α H H1 σ g r g' R hm Q q => by
  rcases eBind_some hm with ⟨vs, g1, h1, h2⟩ | ⟨x, h1, rfl⟩
  · refine ha F α H H1 σ g _ g1 R h1 _ fun α1 Ha H2 us R1 s1 ru => ?_
    rcases eBind_some h2 with ⟨zs, g2, h3, h4⟩ | ⟨x, h3, rfl⟩
    · refine hk F α1 Ha H2 σ g1 _ g2 R1 h3 _ fun α2 Hb H3 ws R2 s2 rw => ?_
      have h4 : (if vs.length = nv ∧ zs.length = nk ∧ vs.all noFld = true then makeF C f n (vs ++ zs) g2 else none) = some (r, g') := h4
      split at h4
      · rename_i hc'
        refine ⟨(paired_len ru).trans hc'.1, (paired_len rw).trans hc'.2.1, ?_⟩
        exact make_core (us := us ++ ws) hT hc hW R2 (paired_app (paired_step s2 ru hc'.2.2) rw) h4 (q.step (s1.trans s2))
      · cases h4
    · exact hk F α1 Ha H2 σ g1 _ _ R1 h3 _ fun α' H' H2 R s' => q α' H' H2 R (s1.trans s')
  · exact ha F α H H1 σ g _ _ R h1 _ q
/-! ### lambdas handed to a def that calls them and tells what is refused -/
theorem Rel.tabs {F : Fr} {α : Al} {H H1 H2 : Hp} {σ : L2.St} {g : Sg} (R : Rel K FL T F α H H1 σ g) (hT : T.fl = true) (e : ExtN H1 H2) (tb : Tabs T.l H2) : Rel K FL T F α H H2 σ g := by
  have pl : ∀ {o b}, α o = some b → ∀ u, H1 b = some u → H2 b = some u := fun {o b} h u hu => by
    obtain ⟨u', hu', pu⟩ := R.pl o b h
    rw [hu] at hu'
    cases hu'
    exact e b u hu pu.tbl
  refine ⟨⟨ex_nt (R.nt hT) R.ex e, R.nt, tb, R.inj, R.off, fun o a h => ?_, fun i o h => ?_, R.dom⟩, R.ext, ex_nt (R.ntB hT) R.gro e, R.ntB, R.offB, R.old, R.len, fun j v h => ?_⟩
  · obtain ⟨u, hu, p⟩ := R.pl o a h
    exact ⟨u, pl h u hu, p⟩
  · obtain ⟨a, h1, h2⟩ := R.sto i o h
    exact ⟨a, h1, h2.ex (Ex.refl _) (fun _ _ z => z) (fun f b z => ⟨z, pl z⟩) (pl h1)⟩
  · obtain ⟨u, h1, h2⟩ := R.slt j v h
    exact ⟨u, h1, h2.ex (Ex.refl _) (fun _ _ z => z) fun b z => ⟨z, pl z⟩⟩
def toldV (x : Str) : PyData := .tuple [.str (Str.ofString "refused"), .str x]
def mTold (ex : List Str) (m : EM) : EM := fun g => (m g).bind fun p => match p.1 with
  | .ok v => some (.ok v, p.2)
  | .error x => if x ∈ ex then some (.ok (.dat (toldV x)), p.2) else none
/-- what the def makes of the lambda -/
def TTx (K : PySem.W.Frag) (ex : List Str) : (XK → Hp → VK → Prop) → Hp → VK → Prop := fun tl H Q =>
  tl (fun cls d H' => ∃ x ∈ ex, cls = .ref (gaE K x) ∧ d = none ∧ ∀ H2 p, Ex H' H2 → H2 p = none → Q (.ref p) (upd H2 p (.tup [.str "refused", .str x]))) H Q
theorem se_told {ex : List Str} {t : XK → TE} (hT : T.fl = true) (hm : ∀ E : XK, SimE K FL T (fun c d _ H => E c d H) (t E) ma) : SimE K FL T W (tLam T.l (TTx K ex) t) (mTold ex ma) := fun F α H H1 σ g r g' R h Q q => by
  refine ⟨R.tb, fun H1' eN tb2 => ?_⟩
  have R1 := R.tabs hT eN tb2
  obtain ⟨⟨r1, g1⟩, h1, h2⟩ := bind_some h
  refine hm _ F α H H1' σ g r1 g1 R1 h1 Q ?_
  cases r1 with
  | ok v => cases h2; exact q
  | error x =>
    obtain ⟨hx, h3⟩ := ite_some (show (if x ∈ ex then some (Except.ok (Rv.dat (toldV x)), g1) else none) = some (r, g') from h2)
    cases h3
    intro α' H' H2 R' s'
    refine ⟨x, hx, rfl, rfl, fun H3 p e3 hp => ?_⟩
    have h2p : H2 p = none := fresh_back e3 hp
    refine q α' (upd H' p (.tup [.str "refused", .str x])) _ _ (R'.grow (e3.trans (Ex.new hp)) (ex_upd (R'.ex.trans e3)) (Ext.new R'.ex h2p)) (s'.trans (Stp.of (Ex.new (fresh_back R'.ex h2p)))) ?_
    exact .tup (st_of upd_same) (.cons (.str _) (.cons (.str _) .nil))
/-! ### more reads -/
def cr_lenD_r : List V → Hp → VK → Prop := fun xs H Q => ∃ (a : Addr) (kvs : List (Key × V)), xs = [.ref a] ∧ Rd H a (.dK kvs) ∧ Q (.int kvs.length) H
theorem cr_lenD {X : Cx} : CallR X (.builtin "len") cr_lenD_r := by
  rintro pins s σ H xs us Q I r ⟨a, kvs, rfl, ha, q⟩
  obtain ⟨u, rfl, ru⟩ := r.one
  cases ru
  exact d_len I ha fun t s' I' => ⟨.int kvs.length, H, I', ⟨t, rfl⟩, q⟩
def pLenD (w : WM) : PM := fun g => (w g).bind fun o => (dicAt g o).bind fun ds => some (.int ds.length)
theorem sp_lenD (h : SimW K FL T te w) : SimP K FL T (tCB cr_lenD_r (tCons te tNil)) (pLenD w) := fun F α H H1 σ g d R hw Q q => by
  obtain ⟨o, h1, h2⟩ := bind_some hw
  obtain ⟨ds, h3, h4⟩ := bind_some h2
  cases h4
  obtain ⟨a, k1, k2⟩ := h F α H H1 σ g o R h1
  obtain ⟨ws, k3, k4⟩ := R.dicI h3 k1
  refine k2 _ ⟨a, ws, rfl, .inl k3, ?_⟩
  rw [k4.len]
  exact KD.now q R.ex (.int _)
def pKeys (w : WM) : PM := fun g => (w g).bind fun o => (dicAt g o).bind fun ds => some (.list (ds.map fun kv => keyV kv.1))
def rListD : List V → Hp → VK → Prop := fun xs H Q => ∃ (a : Addr) (kvs : List (Key × V)), xs = [.ref a] ∧ Rd H a (.dK kvs) ∧ ∀ p, H p = none → Q (.ref p) (upd H p (.lst (kvs.map fun kv => kV kv.1)))
theorem cr_listD {X : Cx} (hc : X.calm = true) : CallR X (.type "list") rListD := call_listD hc
theorem keys_dt {H : Hp} : ∀ {ks : List Key}, DtAll K H (ks.map kV) (ks.map keyV)
  | [] => .nil
  | .inl i :: r => .cons (.int i) keys_dt
  | .inr x :: r => .cons (.str x) keys_dt
theorem sp_keys (h : SimW K FL T te w) : SimP K FL T (tCB rListD (tCons te tNil)) (pKeys w) := fun F α H H1 σ g d R hw Q q => by
  obtain ⟨o, h1, h2⟩ := bind_some hw
  obtain ⟨ds, h3, h4⟩ := bind_some h2
  cases h4
  obtain ⟨a, k1, k2⟩ := h F α H H1 σ g o R h1
  obtain ⟨ws, k3, k4⟩ := R.dicI h3 k1
  refine k2 _ ⟨a, ws, rfl, .inl k3, fun p hp => q.new R.ex hp (.lst upd_same ?_)⟩
  have e : ws.map (fun kv => kV kv.1) = (ds.map (·.1)).map kV := by rw [← k4.keys, List.map_map]; rfl
  have e2 : ds.map (fun kv => keyV kv.1) = (ds.map (·.1)).map keyV := by rw [List.map_map]; rfl
  rw [e, e2]
  exact keys_dt
/-- list(l), tuple(l), l[i] of a list of one's own -/
def pLstW (w : WM) : PM := fun g => (w g).bind fun o => (lstAt g o).bind fun ds => some (.list ds)
theorem sp_lstW (h : SimW K FL T te w) : SimP K FL T (tCB (rLstOf K) (tCons te tNil)) (pLstW w) := fun F α H H1 σ g d R hw Q q => by
  obtain ⟨o, h1, h2⟩ := bind_some hw
  obtain ⟨ds, h3, h4⟩ := bind_some h2
  cases h4
  obtain ⟨a, k1, k2⟩ := h F α H H1 σ g o R h1
  obtain ⟨vs, k3, k4⟩ := R.lst h3 k1
  exact k2 _ ⟨a, vs, rfl, .inl (sq_of k3), fun p hp => q.new R.ex hp (.lst upd_same (DtAll.ex (Ex.new (fresh_back R.ex hp)) k4))⟩
def pTupW (w : WM) : PM := fun g => (w g).bind fun o => (lstAt g o).bind fun ds => some (.tuple ds)
theorem sp_tupW (h : SimW K FL T te w) : SimP K FL T (tCB (rTupOf K) (tCons te tNil)) (pTupW w) := fun F α H H1 σ g d R hw Q q => by
  obtain ⟨o, h1, h2⟩ := bind_some hw
  obtain ⟨ds, h3, h4⟩ := bind_some h2
  cases h4
  obtain ⟨a, k1, k2⟩ := h F α H H1 σ g o R h1
  obtain ⟨vs, k3, k4⟩ := R.lst h3 k1
  exact k2 _ ⟨a, vs, rfl, .inl ⟨sq_of k3, fun p hp => q.new R.ex hp (.tup (st_of upd_same) (DtAll.ex (Ex.new (fresh_back R.ex hp)) k4))⟩⟩
def pIxL (w : WM) (p : PM) : PM := fun g => (w g).bind fun o => (p g).bind fun e => (asI e).bind fun i => (lstAt g o).bind fun ds => atI ds i
theorem sp_ixL (h : SimW K FL T te w) (hp : SimP K FL T ty pa) : SimP K FL T (tOp (rIx K) te ty) (pIxL w pa) := fun F α H H1 σ g d R hw Q q => by
  obtain ⟨o, h1, h2⟩ := bind_some hw
  obtain ⟨e, h3, h2⟩ := bind_some h2
  obtain ⟨i, h4, h2⟩ := bind_some h2
  obtain ⟨ds, h5, h6⟩ := bind_some h2
  rw [asI_some h4] at h3
  obtain ⟨a, k1, k2⟩ := h F α H H1 σ g o R h1
  refine k2 _ (hp F α H H1 σ g _ R h3 _ fun y H2 Ha e2 ea xa da => ?_)
  have R2 := R.grow e2 ea xa
  obtain ⟨vs, k3, k4⟩ := R2.lst h5 k1
  have h6 : atI ds i = some d := h6
  unfold atI at h6
  rw [← k4.length] at h6
  obtain ⟨j, hj, hd⟩ := Option.bind_eq_some_iff.mp h6
  obtain ⟨v, hv, dv⟩ := k4.get hd
  refine .inl ⟨a, vs, i, v, rfl, da.int_eq, sq_of k3, ?_, q v H2 Ha e2 ea xa dv⟩
  unfold atI
  rw [hj]
  exact hv
/-! ### walks: zip, enumerate -/
def zipD (ds es : List PyData) : List PyData := (ds.zip es).map fun p => .tuple [p.1, p.2]
def seqD : PyData → Option (List PyData)
  | .list ds => some ds
  | .tuple ds => some ds
  | _ => none
def iZip2 (a b : PM) : IM := fun g => (a g).bind fun d => (b g).bind fun e => match d, e with
  | .list ds, .list es => some (zipD ds es)
  | .tuple ds, .tuple es => some (zipD ds es)
  | .list ds, .tuple es => some (zipD ds es)
  | _, _ => none
theorem zip_len (ds es : List PyData) : (zipD ds es).length = min ds.length es.length := by simp [zipD]
theorem zip_yi {ds es : List PyData} {Hi : Hp} {i : Nat} {H3 H4 : Hp} {v : V} {Tt : Addr} {x y : V} {d d' : PyData} (h1 : v = .ref Tt) (h2 : H3 Tt = none) (h3 : H4 = upd H3 Tt (.tup [x, y])) (q1 : ds[i]? = some d) (q3 : es[i]? = some d') (q2 : Dt K Hi x d) (q4 : Dt K Hi y d') : YI K (zipD ds es) Hi i H3 v H4 := by
  subst h1 h3
  refine ⟨Ex.new h2, .tuple [d, d'], ?_, fun Hb e1 e2 => ⟨upd Hb Tt (.tup [x, y]), Ext.new e2 h2, ex_upd e2, ?_⟩⟩
  · unfold zipD
    rw [List.getElem?_map, show (ds.zip es)[i]? = some (d, d') from List.getElem?_zip_eq_some.mpr ⟨q1, q3⟩]
    rfl
  · have hx : Ex Hb (upd Hb Tt (.tup [x, y])) := Ex.new (fresh_back e2 h2)
    exact .tup (st_of upd_same) (.cons (Dt.ex (e1.trans hx) q2) (.cons (Dt.ex (e1.trans hx) q4) .nil))
theorem si_zip (ha : SimP K FL T ta pa) (hb : SimP K FL T tb pb) : SimI K FL T (iZipU K (tCons ta (tCons tb tNil))) (iZip2 pa pb) := fun F α H H1 σ g out R h Rk k => by
  obtain ⟨d, h1, h⟩ := bind_some h
  obtain ⟨e, h2, h3⟩ := bind_some h
  refine ha F α H H1 σ g d R h1 _ fun u H2 Ha e2 ea xa da => hb F α Ha H2 σ g e (R.grow e2 ea xa) h2 _ fun v H3 Hb e3 eb xb db => ?_
  have da' := Dt.ex xb.ex da
  have fin : ∀ {J G}, (∀ H4, Ex Hb H4 → G H4) → Walk J out.length G (YI K out Hb) → Rk J H3 := fun hG w => k _ _ H3 Hb (e2.trans e3) eb (xa.trans e2 xb) hG w
  split at h3
  · rename_i ds es
    cases h3
    obtain ⟨a, xs, rfl, ha, ra⟩ := da'.lst_eq
    obtain ⟨b, ys, rfl, hb, rb⟩ := db.lst_eq
    refine ⟨a, b, xs, ys, rfl, .inl ⟨sq_of (eb a _ ha), sq_of (eb b _ hb), fin (G := fun H3 => Ex Hb H3) (fun H3 e3 => e3) ?_⟩⟩
    rw [zip_len]
    refine (walk_zip (K := K) (a := a) (b := b) (xs := xs) (ys := ys) (by rw [ra.length, rb.length])).mono (fun H3 e3 => ⟨sq_of (e3 a _ ha), sq_of (e3 b _ hb)⟩) fun i H3 v H4 hi e3 z => ?_
    obtain ⟨Tt, x, y, h1, h2, h3, h4, h5⟩ := z
    obtain ⟨d, q1, q2⟩ := ra.get' h4
    obtain ⟨d', q3, q4⟩ := rb.get' h5
    exact zip_yi h1 h2 h3 q1 q3 q2 q4
  · rename_i ds es
    cases h3
    obtain ⟨a, xs, rfl, ha, ra⟩ := da'.tup_eq
    obtain ⟨b, ys, rfl, hb, rb⟩ := db.tup_eq
    refine ⟨a, b, xs, ys, rfl, .inr (.inl ⟨ex_t eb ha, ex_t eb hb, fin (G := fun H3 => Ex Hb H3) (fun H3 e3 => e3) ?_⟩)⟩
    rw [zip_len]
    refine (walk_zipTT (K := K) (a := a) (b := b) (xs := xs) (ys := ys) (by rw [ra.length, rb.length])).mono (fun H3 e3 => ⟨ex_t e3 ha, ex_t e3 hb⟩) fun i H3 v H4 hi e3 z => ?_
    obtain ⟨Tt, x, y, h1, h2, h3, h4, h5⟩ := z
    obtain ⟨d, q1, q2⟩ := ra.get' h4
    obtain ⟨d', q3, q4⟩ := rb.get' h5
    exact zip_yi h1 h2 h3 q1 q3 q2 q4
  · rename_i ds es
    cases h3
    obtain ⟨a, xs, rfl, ha, ra⟩ := da'.lst_eq
    obtain ⟨b, ys, rfl, hb, rb⟩ := db.tup_eq
    refine ⟨a, b, xs, ys, rfl, .inr (.inr ⟨sq_of (eb a _ ha), ex_t eb hb, fin (G := fun H3 => Ex Hb H3) (fun H3 e3 => e3) ?_⟩)⟩
    rw [zip_len]
    refine (walk_zipM (K := K) (a := a) (b := b) (xs := xs) (ys := ys) (by rw [ra.length, rb.length])).mono (fun H3 e3 => ⟨sq_of (e3 a _ ha), ex_t e3 hb⟩) fun i H3 v H4 hi e3 z => ?_
    obtain ⟨Tt, x, y, h1, h2, h3, h4, h5⟩ := z
    obtain ⟨d, q1, q2⟩ := ra.get' h4
    obtain ⟨d', q3, q4⟩ := rb.get' h5
    exact zip_yi h1 h2 h3 q1 q3 q2 q4
  · cases h3
/-! ### sets of whole numbers, sorted at once -/
def fSortSet : List PyData → Option PyData
  | [.list ds] => (intsD ds).bind fun ns => if ns.length < 4000 then some (.list ((usort ltI ns).map .int)) else none
  | _ => none
theorem sp_sortSetI {P : Program} {w' : World} (ha : SimP K FL T te pa) : SimP K FL T (tCB (rSortKI P w') (tCons (tCB (rSetK K P w') (tCons te tNil)) tNil)) (pCB fSortSet (pCons pa pNil)) := fun F α H H1 σ g z R h Q q => by
  obtain ⟨ds, h1, h2⟩ := bind_some h
  obtain ⟨d, h3, h4⟩ := bind_some h1
  obtain ⟨es, h5, h6⟩ := bind_some h4
  cases h5
  cases h6
  cases d with
  | list es =>
    obtain ⟨ns, k1, k2⟩ := bind_some (show (intsD es).bind _ = some z from h2)
    obtain ⟨k3, rfl⟩ := ite_some k2
    have := intsD_eq k1
    subst this
    refine ha F α H H1 σ g _ R h3 _ fun v H2 Ha e2 ea xa da => ?_
    obtain ⟨a, xs, rfl, ha, ra⟩ := da.lst_eq
    have e1 := ints_dp ra
    subst e1
    refine ⟨a, ns.map .inl, rfl, by rw [← ints_keyV]; exact sq_of (ea a _ ha), by rw [List.length_map]; exact k3, fun p c hp hc => ?_⟩
    refine ⟨p, ns, c, rfl, upd_same, fun p2 hp2 => ?_⟩
    exact q _ _ (upd Ha p2 _) ((e2.trans (Ex.new hp)).trans (Ex.new hp2)) (ex_upd (ea.trans (Ex.new hp))) (xa.trans (e2.trans (Ex.new hp)) (Ext.new (ea.trans (Ex.new hp)) hp2)) (.lst upd_same (dp_ints _))
  | none => cases h2
  | bool b => cases h2
  | int i => cases h2
  | str i => cases h2
  | tuple i => cases h2
  | dict kv => cases h2
end
end EV

/-! ### EV: several names at once; lists of one's own compared; defs with lambdas (own work) -/
namespace EV
open PySem PySem.Spec PyProof.Rows L2 Evl L2H LamX LR
/-- what is assigned: a value, or something new -/
inductive Nv where
  | v (x : Rv)
  | n (c : Val)
abbrev AN := Sg → Option (Except Str (List Nv) × Sg)
inductive NR (K : PySem.W.Frag) (F : Fr) (α : Al) (H H2 : Hp) : List V → List Nv → List Addr → Prop
  | nil : NR K F α H H2 [] [] []
  | v {u : V} {x : Rv} {y : Val} {us : List V} {xs : List Nv} {qs : List Addr} : argV x = some y → RR K α H u x → NR K F α H H2 us xs qs → NR K F α H H2 (u :: us) (.v x :: xs) qs
  | n {p : Addr} {ho : HO} {c : Val} {us : List V} {xs : List Nv} {qs : List Addr} : H2 p = some ho → H p = none → F.B p = none → (∀ o, α o ≠ some p) → COk K H ho c → p ∉ qs → NR K F α H H2 us xs qs → NR K F α H H2 (.ref p :: us) (.n c :: xs) (p :: qs)
def KNs (K : PySem.W.Frag) (FL : Fl) (T : TbS) (W : WX) (F : Fr) (α : Al) (H : Hp) (σ : L2.St) (g' : Sg) (Q : List V → Hp → Prop) : Except Str (List Nv) → Prop
  | .ok xs => ∀ α' H' H2 us qs, Rel K FL T F α' H' H2 σ g' → Stp α H α' H' → NR K F α' H' H2 us xs qs → Q us H2
  | .error x => ∀ α' H' H2, Rel K FL T F α' H' H2 σ g' → Stp α H α' H' → W (.ref (gaE K x)) none σ H2
def SimAN (K : PySem.W.Frag) (FL : Fl) (T : TbS) (W : WX) (ta : TA) (m : AN) : Prop := ∀ (F : Fr) (α : Al) (H H1 : Hp) (σ : L2.St) (g : Sg) (r : Except Str (List Nv)) (g' : Sg), Rel K FL T F α H H1 σ g → m g = some (r, g') → ∀ Q : List V → Hp → Prop, KNs K FL T W F α H σ g' Q r → ta σ H1 Q
section
variable {K : PySem.W.Frag} {FL : Fl} {T : TbS} {W : WX} {ta tb tc te td ty tx : TE} {tA tr : TA} {pa pb : PM} {ma mb : EM} {ms mr : AN} {i j : Nat} {w : WM}
theorem COk.ex {H H' : Hp} {ho : HO} {c : Val} (h : COk K H ho c) (e : Ex H H') : COk K H' ho c := by
  cases c with
  | dat d => exact h.elim
  | obj i => exact h.elim
  | ownL ds => obtain ⟨vs, e1, e2⟩ := h; exact ⟨vs, e1, DtAll.ex e e2⟩
  | ownD ds => obtain ⟨vs, e1, e2⟩ := h; exact ⟨vs, e1, e2.ex e⟩
def anNil : AN := fun g => some (.ok [], g)
theorem san_nil : SimAN K FL T W tNil anNil := fun F α H H1 σ g r g' R h Q q => by
  cases h
  exact q α H H1 [] [] R (Stp.refl _ _) .nil
def anV (m : EM) (r : AN) : AN := eBind m fun x => eBind r fun xs => fun g => (argV x).bind fun _ => some (.ok (.v x :: xs), g)
theorem san_v (ha : SimE K FL T W ta ma) (hr : SimAN K FL T W tr mr) : SimAN K FL T W (tCons ta tr) (anV ma mr) := fun F α H H1 σ g r g' R hm Q q => by
  rcases eBind_some hm with ⟨v, g1, h1, h2⟩ | ⟨x, h1, rfl⟩
  · refine ha F α H H1 σ g _ g1 R h1 _ fun α1 Ha H2 u R1 s1 ru => ?_
    rcases eBind_some h2 with ⟨xs, g2, h3, h4⟩ | ⟨y, h3, rfl⟩
    · obtain ⟨y, h5, h6⟩ := bind_some h4
      cases h6
      exact hr F α1 Ha H2 σ g1 _ _ R1 h3 _ fun α2 Hb H3 us qs R2 s2 rn => q α2 Hb H3 (u :: us) qs R2 (s1.trans s2) (.v h5 (ru.step s2 fun i f e => by subst e; cases h5) rn)
    · exact hr F α1 Ha H2 σ g1 _ _ R1 h3 _ fun α' H' H2 R s' => q α' H' H2 R (s1.trans s')
  · exact ha F α H H1 σ g _ _ R h1 _ q
def anN (m : NM) (r : AN) : AN := eBind m fun c => eBind r fun xs => fun g => some (.ok (.n c :: xs), g)
theorem NR.lift {F : Fr} {α : Al} {H H2 : Hp} {p : Addr} {ho : HO} {us : List V} {xs : List Nv} {qs : List Addr} {H0 : Hp} (h : NR K ⟨H0, upd F.B p ho, F.a0⟩ α H H2 us xs qs) (hB : F.B p = none) : NR K F α H H2 us xs qs ∧ p ∉ qs := by
  induction h with
  | nil => exact ⟨.nil, by simp⟩
  | v a0 a _ ih => exact ⟨.v a0 a ih.1, ih.2⟩
  | @n p' ho' c us xs qs h1 h2 h3 h4 h5 h6 _ ih =>
    have h3 : upd F.B p ho p' = none := h3
    have c : p' ≠ p := fun e => by subst e; rw [upd_same] at h3; cases h3
    rw [upd_ne c] at h3
    refine ⟨.n h1 h2 h3 h4 h5 h6 ih.1, fun hm => ?_⟩
    rcases List.mem_cons.mp hm with e | e
    · exact c e.symm
    · exact ih.2 e
theorem san_n {m : NM} (ha : SimN K FL T W ta m) (hr : SimAN K FL T W tr mr) : SimAN K FL T W (tCons ta tr) (anN m mr) := fun F α H H1 σ g r g' R hm Q q => by
  rcases eBind_some hm with ⟨c, g1, h1, h2⟩ | ⟨x, h1, rfl⟩
  · refine ha F α H H1 σ g _ g1 R h1 _ fun α1 Ha H2 p ho R1 s1 hp hH hB hn hc => ?_
    rcases eBind_some h2 with ⟨xs, g2, h3, h4⟩ | ⟨y, h3, rfl⟩
    · cases h4
      refine hr _ α1 Ha H2 σ g1 _ _ (R1.prot hp hn hc.plain.tbl) h3 _ fun α2 Hb H3 us qs R2 s2 rn => ?_
      obtain ⟨R3, k1, k2, k3⟩ := R2.unprot R1.ext hB hH R1.ntB
      obtain ⟨rn', k4⟩ := rn.lift hB
      exact q α2 Hb H3 (.ref p :: us) (p :: qs) R3 (s1.trans s2) (.n k1 k2 hB k3 (COk.ex hc s2.ex) k4 rn')
    · refine hr _ α1 Ha H2 σ g1 _ _ (R1.prot hp hn hc.plain.tbl) h3 _ fun α2 Hb H3 R2 s2 => ?_
      obtain ⟨R3, _⟩ := R2.unprot R1.ext hB hH R1.ntB
      exact q α2 Hb H3 R3 (s1.trans s2)
  · exact ha F α H H1 σ g _ _ R h1 _ q
/-! names get them -/
def setNs : List Nat → List Nv → Sg → Option Sg
  | [], [], g => some g
  | i :: is, .v x :: xs, g => (argV x).bind fun y => if is.contains i = true then none else setNs is xs (g.set i y)
  | i :: is, .n c :: xs, g => if is.contains i = true then none else setNs is xs (g.set i c)
  | _, _, _ => none
def setVs (σ : L2.St) : List Nat → List V → L2.St
  | i :: is, u :: us => setVs (σ.set i (some u)) is us
  | _, _ => σ
theorem NR.own {F : Fr} {α : Al} {H H2 : Hp} {us : List V} {xs : List Nv} {qs : List Addr} {p : Addr} {i : Nat} (h : NR K F α H H2 us xs qs) (hp : p ∉ qs) : NR K F (fun o => if o = .slot i then some p else α o) H H2 us xs qs := by
  induction h with
  | nil => exact .nil
  | @v u x y us xs qs a0 a b ih =>
    refine .v a0 ?_ (ih hp)
    cases x with
    | dat d => exact a
    | at_ o =>
      obtain ⟨b', e1, e2⟩ := a
      refine ⟨b', e1, (if_neg fun c => ?_).trans e2⟩
      subst c
      cases a0
  | @n p' ho' c' us xs qs k1 k2 k3 k4 k5 k6 k7 ih =>
    have hpp : p ≠ p' := fun e => hp (by rw [e]; exact List.mem_cons_self)
    refine .n k1 k2 k3 (fun o z => ?_) k5 k6 (ih fun hm => hp (List.mem_cons_of_mem _ hm))
    have z : (if o = .slot i then some p else α o) = some p' := z
    split at z
    · cases z; exact hpp rfl
    · exact k4 o z
theorem setNs_rel {F : Fr} {H H2 : Hp} : ∀ {is : List Nat} {xs : List Nv} {us : List V} {qs : List Addr} {α : Al} {σ : L2.St} {g g' : Sg}, Rel K FL T F α H H2 σ g → NR K F α H H2 us xs qs → setNs is xs g = some g' → ∃ α', Rel K FL T F α' H H2 (setVs σ is us) g'
  | [], [], _, _, α, σ, g, g', R, h, hs => by
    cases hs
    cases h
    exact ⟨α, R⟩
  | [], _ :: _, _, _, _, _, _, _, _, _, hs => by cases hs
  | _ :: _, [], _, _, _, _, _, _, _, _, hs => by cases hs
  | i :: is, .v x :: xs, _, _, α, σ, g, g', R, h, hs => by
    cases h with
    | @v u _ _ us _ qs _ a b =>
      obtain ⟨y, h1, h2⟩ := bind_some (show (argV x).bind _ = some g' from hs)
      have h2 : (if is.contains i = true then none else setNs is xs (g.set i y)) = some g' := h2
      split at h2
      · cases h2
      · show ∃ α', Rel K FL T F α' H H2 (setVs (List.set σ i (some u)) is us) g'
        exact setNs_rel (R.set i (a.vr h1)) b h2
  | i :: is, .n c :: xs, _, _, α, σ, g, g', R, h, hs => by
    cases h with
    | @n p ho _ us _ qs h1 h2 h3 h4 h5 h6 h7 =>
      have hs : (if is.contains i = true then none else setNs is xs (g.set i c)) = some g' := hs
      split at hs
      · cases hs
      · show ∃ α', Rel K FL T F α' H H2 (setVs (List.set σ i (some (.ref p))) is us) g'
        refine setNs_rel (qs := qs) (R.own i h1 h2 h3 h4 h5) (h7.own h6) hs
def gNames : List Nat → TGs
  | [] => gNil
  | i :: is => gCons (gName i) (gNames is)
theorem gNames_run {H : Hp} : ∀ {is : List Nat} {us : List V} {σ : L2.St} {Q : L2.St → Hp → Prop}, is.length = us.length → Q (setVs σ is us) H → gNames is us σ H Q
  | [], [], _, _, _, q => ⟨rfl, q⟩
  | [], _ :: _, _, _, h, _ => by cases h
  | _ :: _, [], _, _, h, _ => by cases h
  | i :: is, u :: us, σ, Q, h, q => ⟨u, us, rfl, gNames_run (is := is) (us := us) (σ := σ.set i (some u)) (by simpa using h) q⟩
theorem NR.len {F : Fr} {α : Al} {H H2 : Hp} {us : List V} {xs : List Nv} {qs : List Addr} (h : NR K F α H H2 us xs qs) : us.length = xs.length := by
  induction h with
  | nil => rfl
  | v _ _ _ ih => rw [List.length_cons, List.length_cons, ih]
  | n _ _ _ _ _ _ _ ih => rw [List.length_cons, List.length_cons, ih]
theorem NR.same {F : Fr} {α : Al} {H H2 H3 : Hp} {us : List V} {xs : List Nv} {qs : List Addr} (h : NR K F α H H2 us xs qs) (e : Ex H2 H3) : NR K F α H H3 us xs qs := by
  induction h with
  | nil => exact .nil
  | v a0 a _ ih => exact .v a0 a ih
  | n h1 h2 h3 h4 h5 h6 _ ih => exact .n (e _ _ h1) h2 h3 h4 h5 h6 ih
/-- a, b, .. = x, y, .. -/
def sNames (is : List Nat) (m : AN) : SM := sBind m fun xs => fun g => if xs.length = is.length ∧ is.length ≤ 100000 then (setNs is xs g).map fun g' => (.nx, g') else none
theorem ss_names {is : List Nat} {n : Nat} (hn : n = is.length) (h1 : SimAN K FL T W tA ms) : SimS K FL T W (tAsg (tTup tA) (gTup K n (gNames is))) (sNames is ms) := fun F α H H1 σ g fl g' R h D k => by
  subst hn
  rcases sBind_some h with ⟨xs, g1, k1, k2⟩ | ⟨x, k1, rfl⟩
  · have k2 : (if xs.length = is.length ∧ is.length ≤ 100000 then (setNs is xs g1).map (fun g' => (Flo.nx, g')) else none) = some (fl, g') := k2
    split at k2
    · rename_i hl
      obtain ⟨g2, k3, k4⟩ := Option.map_eq_some_iff.mp k2
      cases k4
      refine h1 F α H H1 σ g _ _ R k1 _ fun α1 Ha H2 us qs R1 s1 rn => ⟨by rw [rn.len, hl.1]; exact sz_of hl.2, fun p hp => ?_⟩
      obtain ⟨α2, R2⟩ := setNs_rel (R1.same (Ex.new hp)) (rn.same (Ex.new hp)) k3
      exact ⟨p, us, rfl, st_of upd_same, by rw [rn.len, hl.1], gNames_run (by rw [rn.len, hl.1]) (k α2 Ha _ _ R2)⟩
    · cases k2
  · exact h1 F α H H1 σ g _ _ R k1 _ fun α' H' H2 R' s' => k α' H' H2 σ R'
theorem ss_par2 (h1 : SimAN K FL T W tA ms) : SimS K FL T W (tPar i j tA) (sNames [i, j] ms) := fun F α H H1 σ g fl g' R h D k => by
  rcases sBind_some h with ⟨xs, g1, k1, k2⟩ | ⟨x, k1, rfl⟩
  · have k2 : (if xs.length = 2 ∧ 2 ≤ 100000 then (setNs [i, j] xs g1).map (fun g' => (Flo.nx, g')) else none) = some (fl, g') := k2
    split at k2
    · rename_i hl
      obtain ⟨g2, k3, k4⟩ := Option.map_eq_some_iff.mp k2
      cases k4
      refine h1 F α H H1 σ g _ _ R k1 _ fun α1 Ha H2 us qs R1 s1 rn => ?_
      obtain ⟨α2, R2⟩ := setNs_rel R1 rn k3
      have hu : us.length = 2 := rn.len.trans hl.1
      match us, hu, R2 with
      | [u, v], _, R2 => exact ⟨u, v, rfl, k α2 Ha _ _ R2⟩
    · cases k2
  · exact h1 F α H H1 σ g _ _ R k1 _ fun α' H' H2 R' s' => k α' H' H2 σ R'
theorem ss_par3 {l : Nat} (h1 : SimAN K FL T W tA ms) : SimS K FL T W (tPar3 i j l tA) (sNames [i, j, l] ms) := fun F α H H1 σ g fl g' R h D k => by
  rcases sBind_some h with ⟨xs, g1, k1, k2⟩ | ⟨x, k1, rfl⟩
  · have k2 : (if xs.length = 3 ∧ 3 ≤ 100000 then (setNs [i, j, l] xs g1).map (fun g' => (Flo.nx, g')) else none) = some (fl, g') := k2
    split at k2
    · rename_i hl
      obtain ⟨g2, k3, k4⟩ := Option.map_eq_some_iff.mp k2
      cases k4
      refine h1 F α H H1 σ g _ _ R k1 _ fun α1 Ha H2 us qs R1 s1 rn => ?_
      obtain ⟨α2, R2⟩ := setNs_rel R1 rn k3
      have hu : us.length = 3 := rn.len.trans hl.1
      match us, hu, R2 with
      | [u, v, x], _, R2 => exact ⟨u, v, x, rfl, k α2 Ha _ _ R2⟩
    · cases k2
  · exact h1 F α H H1 σ g _ _ R k1 _ fun α' H' H2 R' s' => k α' H' H2 σ R'
/-! ### a list of one's own beside data: a truth is told -/
theorem own_view {F : Fr} {α : Al} {H H1 : Hp} {σ : L2.St} {g : Sg} {o : Owner} {a : Addr} {ds : List PyData} (R : Rel K FL T F α H H1 σ g) (h : lstAt g o = some ds) (ha : α o = some a) : ∃ Hx, Ex H Hx ∧ Ex Hx H1 ∧ Dt K Hx (.ref a) (.list ds) := by
  obtain ⟨vs, k1, k2⟩ := R.lst h ha
  have hH := R.off _ a ha
  have hx : Ex H (upd H a (.lst vs)) := Ex.new hH
  refine ⟨upd H a (.lst vs), hx, fun b o hb => ?_, .lst upd_same (DtAll.ex hx k2)⟩
  by_cases c : b = a
  · subst c; rw [upd_same] at hb; cases hb; exact k1
  · rw [upd_ne c] at hb; exact R.ex b o hb
/-- e op l -/
def mOpW (f : PyData → PyData → Option PyData) (a : EM) (w : WM) : EM := eBind a fun x => fun g => (okV x).bind fun d => (w g).bind fun o => (lstAt g o).bind fun ds => (f d (.list ds)).bind fun z => (asB z).bind fun b => some (.ok (.dat (.bool b)), g)
theorem se_opW {r : R2} {f : PyData → PyData → Option PyData} (hf : OpD K r f) (ha : SimE K FL T W ta ma) (hw : SimW K FL T tb w) : SimE K FL T W (tOp r ta tb) (mOpW f ma w) := fun F α H H1 σ g r' g' R hm Q q => by
  rcases eBind_some hm with ⟨v, g1, h1, h2⟩ | ⟨x, h1, rfl⟩
  · refine ha F α H H1 σ g _ g1 R h1 _ fun α1 Ha H2 x R1 s1 rx => ?_
    obtain ⟨d, k1, h2⟩ := bind_some h2
    obtain ⟨o, k2, h2⟩ := bind_some h2
    obtain ⟨ds, k3, h2⟩ := bind_some h2
    obtain ⟨z, k4, h2⟩ := bind_some h2
    obtain ⟨b, k5, h2⟩ := bind_some h2
    cases h2
    rw [asB_some k5] at k4
    obtain ⟨a, m1, m2⟩ := hw F α1 Ha H2 σ _ o R1 k2
    obtain ⟨Hx, n1, n2, n3⟩ := own_view R1 k3 m1
    refine m2 _ (hf d (.list ds) _ k4 Hx Hx x (.ref a) (Ex.refl _) (Dt.ex n1 (rx.dat (okV_some k1))) n3 H2 n2 Q fun v H4 Hc e4 ec xc dc => ?_)
    rw [dc.bl_eq]
    exact q α1 Ha H4 _ (R1.same e4) s1 (.bl _)
  · exact ha F α H H1 σ g _ _ R h1 _ q
/-- l op e, e pure -/
def pOpWL (f : PyData → PyData → Option PyData) (w : WM) (p : PM) : PM := fun g => (w g).bind fun o => (p g).bind fun d => (lstAt g o).bind fun ds => (f (.list ds) d).bind fun z => (asB z).bind fun b => some (.bool b)
theorem sp_opWL {r : R2} {f : PyData → PyData → Option PyData} (hf : OpD K r f) (hw : SimW K FL T ta w) (hp : SimP K FL T tb pa) : SimP K FL T (tOp r ta tb) (pOpWL f w pa) := fun F α H H1 σ g z0 R h Q q => by
  obtain ⟨o, k2, h2⟩ := bind_some h
  obtain ⟨d, k1, h2⟩ := bind_some h2
  obtain ⟨ds, k3, h2⟩ := bind_some h2
  obtain ⟨z, k4, h2⟩ := bind_some h2
  obtain ⟨b, k5, h2⟩ := bind_some h2
  cases h2
  rw [asB_some k5] at k4
  obtain ⟨a, m1, m2⟩ := hw F α H H1 σ g o R k2
  refine m2 _ (hp F α H H1 σ g d R k1 _ fun y H2 Ha e2 ea xa da => ?_)
  obtain ⟨Hx, n1, n2, n3⟩ := own_view (R.grow e2 ea xa) k3 m1
  refine hf (.list ds) d _ k4 Hx Hx (.ref a) y (Ex.refl _) n3 (Dt.ex n1 da) H2 n2 Q fun v H4 Hc e4 ec xc dc => ?_
  rw [dc.bl_eq]
  exact q _ H4 Ha (e2.trans e4) (ea.trans e4) (xa.trans e2 (Ext.refl _ _)) (.bl _)
/-! ### defs whose code object is known (lambdas) -/
variable {P : Program} {w' : World} {mg : Str → Option Value} {base : Heap}
theorem fn_evL {nm qual : Str} {st : Stmt} {f : Addr} {fd : FuncData} {N ps : List Str} {k n : Nat} {m : SM} {p : He.Defn} (F : FunD K nm qual (defArgs st) (defBody st) (defScope st) [] [] f fd) (hf : f = He.fAd K p) (S : FnScope N ps (defScope st)) (hn : ps.length = n)
    (body : ∀ (cdv : Value), cdv = .ref (He.codeOf K p) → ∀ (A : Around) (outer : List Env) (s : Shared) (Hs : Hp) (E : XK), Room k (A.deeper (envOfC qual (defScope st) s.heap.objs.size f cdv)) →
      ∃ t, PSs (cxOf (CXL P w') P w' K mg base N qual (defScope st) f cdv A outer s Hs E) (defBody st) t ∧ SimS K FL T (fun c d _ H => E c d H) t m) :
    FnOk P w' K mg base (CXL P w') (k + 1) f fd ps (spF K FL T n (funOf N.length n m)) := by
  obtain ⟨oc, od, dV, kV, doc, pm, an, cdv, ct, osl, rfl, lk, hcd, _, _⟩ := F.ex
  have hc : ∃ c, cdv = .ref c := by
    cases cdv with
    | ref c => exact ⟨c, rfl⟩
    | _ => cases hcd
  obtain ⟨c, rfl⟩ := hc
  subst hf
  have e : He.codeOf K p = c := He.codeOf_eq lk rfl
  subst e
  refine fn_of lk hcd S (fun vs H Q E h => by rw [hn]; exact spF_len h) fun A outer s H1 vs Q E hr h => ?_
  obtain ⟨H, α, sto, as, r, st', R, hsl, pa, hl, hf, q⟩ := h
  obtain ⟨t, ht, hk⟩ := body _ rfl A outer s H1 E hr
  obtain ⟨xs, h1, h2⟩ := bind_some hf
  have h2 : (if as.length = n ∧ n ≤ N.length then (m ⟨argsOf N.length n xs, sto⟩).bind endOf else none) = some (r, st') := h2
  split at h2
  · rename_i hc
    obtain ⟨⟨fl, g'⟩, h3, h4⟩ := bind_some h2
    obtain ⟨rfl, hN⟩ := hc
    exact ⟨t, ht, hk _ α H H1 _ _ fl g' (rel_start R pa h1 hN) h3 _ (end_core h4 q)⟩
  · cases h2
end
end EV

/-! ### EV: a law's promise, a def called by its name (own work) -/
namespace EV
open PySem PySem.Spec PyProof.Rows L2 Evl L2H LamX LR
section
variable {K : PySem.W.Frag} {FL : Fl} {T : TbS}
theorem law_spF {f : Fun} {ns : List Int} {st' : List Ob} {H1 : Hp} {a : Addr} (h : f [.dat (scrD ns)] [] = some (.ok (.dat (.bool true)), st')) (hS : SqL K H1 a (ns.map V.int)) (hT : Tabs T.l H1) : spF K FL T 1 f [.ref a] H1 (fun v _ => v = .bl true) fun _ _ _ => False := by
  obtain ⟨H, e, nt, hS0⟩ := script_only hS
  refine ⟨H, fun _ => none, [], [.dat (scrD ns)], _, st', ⟨e, fun _ => nt, hT, (fun _ _ _ z => nomatch z), (fun _ _ z => nomatch z), (fun _ _ z => nomatch z), (fun i o z => by simp at z), fun _ _ => rfl⟩, fun _ => rfl, .cons (.scr ns hS0) .nil, rfl, h, fun u H2 H' α' _ _ r => ?_⟩
  exact (show Dt K H' u (.bool true) from r).bl_eq
end
end EV

/-! ### set comprehensions of whole numbers and texts (own work over the kit's blocks) -/
namespace LR
open PySem PySem.Spec PyProof.Rows L2 Evl PpSet
section
variable {X : Cx}
/-- one key more -/
abbrev addK (S : Key → Bool) (k : Key) : Key → Bool := fun j => S j || decide (j = k)
theorem kset_addc {P : Program} {w : World} {A : Around} {E : Value → Shared → Prop} {s : Shared} {a : Addr} {S : Key → Bool} {n : Nat} {k : Key} {u : Value} {Q : Value → Shared → Prop} (hu : RelV (kV k) u) (R : KSet P w s.heap a S n) (room : n + 1 < scanBound)
    (hQ : ∀ h', Heap.SameBut a s.heap h' → KSet P w h' a (addK S k) (if S k = true then n else n + 1) → Q .none { s with heap := h', toks := s.toks + 1 }) :
    wpAny (model P w) A (call (.builtin "set.add") [.ref a, u]) Q E s := by
  have ty : s.TypeIs (.ref a) "set" := by
    obtain ⟨ob, rows, ep, tb, ho, hex, _⟩ := R
    exact ⟨ob, ho, hex.1⟩
  refine wpAny_call_entry F.slot_set_add ty F.entry_set_add ?_ (F.args_set_add_2 _ _)
  unfold Builtin.«set.add» Builtin.Frozenset.oneOther
  simp only [List.isEmpty_nil, bind_assoc]
  unfold Builtin.Frozenset.addrOf setAdd
  refine wpAny_bind (wpAny_pure ?_)
  try dsimp only
  refine wpAny_bind (wpAny_pure ?_)
  try dsimp only
  refine wpAny_bind (wpAny_holding (wpAny_bind ((mixKind P w).pyHash (k := k) (kV_is hu) ?_)))
  refine kset_add (s := { s with toks := s.toks + 1 }) hu R room fun h' sb r => ?_
  show wpAny _ _ (ret Value.none) _ _ _
  exact wpAny_pure ⟨_, rfl, hQ h' sb r⟩
theorem addK_ok {pins : List (Addr × Obj)} {σ : L2.St} {H : Hp} {s : Shared} {E : Value → Shared → Prop} {D : Addr} {S : Key → Bool} {n : Nat} {k : Key} {u : Value} {Q : Value → Shared → Prop} (I : Inv X pins σ H s) (hD : H D = some (KSO X.prog X.w D S n)) (hu : RelV (kV k) u) (room : n + 1 < scanBound)
    (h : ∀ s', Inv X pins σ (upd H D (KSO X.prog X.w D (addK S k) (if S k = true then n else n + 1))) s' → Q .none s') : wpAny (model X.prog X.w) X.A (call (.builtin "set.add") [.ref D, u]) Q E s := by
  refine kset_addc hu (kso_get I hD) room fun h' sb r => ?_
  have he : ∃ o, h'.get? D = some o := by
    obtain ⟨ob, _, _, _, ho, _⟩ := r
    exact ⟨ob, ho⟩
  exact h _ (I.write (e := D) (t' := s.toks + 1) (by rw [hD]; trivial) (.inl rfl) (fun b o hb ho => (sb.2 b hb).trans ho) he (kso_new r))
/-- {elt for target in iter if ..}, elt a whole number or a text -/
def tSk (P : Program) (w : World) (wi : TI) (g : TG) (tt : TT) (te : TE) (vs : List Nat) : TE := fun σ H Q => wi σ H fun J H1 => ∀ D, H1 D = none → ∃ W : Nat → Nat → Hp → Prop, (∃ m, W 0 m (upd H1 D (KSO P w D (fun _ => false) 0))) ∧ ∀ i m H, W i m H →
  (J.stop i H ∧ Q (.ref D) H) ∨ (J.go i H ∧ ∃ Nx : Hp → Prop, (∀ H', Nx H' → ∃ m', m' < m ∧ W (i + 1) m' H') ∧ ∀ x H', J.yld i H x H' → g x (wipe σ vs) H' fun σ2 H2 => wipe σ2 vs = wipe σ vs ∧ tt σ2 H2 fun b H3 =>
    if b = true then te σ2 H3 fun y H4 => ∃ (k : Key) (S : Key → Bool) (n : Nat), y = kV k ∧ H4 D = some (KSO P w D S n) ∧ n + 1 < scanBound ∧ Nx (upd H4 D (KSO P w D (addK S k) (if S k = true then n else n + 1))) else Nx H3)
theorem pe_sk {elt tg iter : Expr} {ifs : List Expr} {scope : Scope} {own : List (PySem.Str × Nat)} {pos : Pos} {wi : TI} {g : TG} {tt : TT} {te : TE} (hc : X.calm = true) (hN : X.N.Nodup) (hi : PI X tg iter wi) (ok : BlkOk X.N X.env.scope scope own)
    (hg : ∀ (s : Shared) (H : Hp) (C : Addr) (cl : List (PySem.Str × Addr)) (fp : List Addr), PG (X.blk s H scope (compEnvC scope cl C X.env) fp) tg g) (ht : ∀ (s : Shared) (H : Hp) (C : Addr) (cl : List (PySem.Str × Addr)) (fp : List Addr), PTs (X.blk s H scope (compEnvC scope cl C X.env) fp) ifs tt)
    (he : ∀ (s : Shared) (H : Hp) (C : Addr) (cl : List (PySem.Str × Addr)) (fp : List Addr), PE (X.blk s H scope (compEnvC scope cl C X.env) fp) elt te) (hs : ∀ x, foldedSetIterable iter X.env x = pure x := by intro _; rfl) :
    PE X (.SetComp elt [⟨tg, iter, ifs, 0⟩] scope pos) (tSk X.prog X.w wi g tt te (own.map (·.2))) := by
  refine ⟨fun pins s σ H Q I h => ?_⟩
  rw [eval_SetComp]
  have hfree : ∀ y ∈ scope.names, y.2 = .free → ∃ c, X.env.cells.lookup y.1 = some c := fun y hy e => by
    rcases ok.free y hy e with k | k
    · exact I.ok.has _ (.inl k)
    · exact I.ok.has _ (.inr k)
  refine wpAny_comprehension_free rfl hs (closure_ok hfree) ok.kind (fun y hy e => by rw [ok.uniq y hy, e])
    (thn (hi.run pins s σ H _ I h) fun xv s1 hx => thn hx fun itv s2 h2 => ?_)
  obtain ⟨it, fp, tn, J, H2, e, I2, T, st2, f2, q⟩ := h2
  subst e
  refine newSet_ok (newEnv_comp ?_)
  generalize hD : s2.heap.objs.size = D
  have hDn : H2 D = none := I2.hok.fresh (Nat.le_of_eq hD)
  obtain ⟨W, ⟨m0, w0⟩, turn⟩ := q D hDn
  generalize hH3 : upd H2 D (KSO X.prog X.w D (fun _ => false) 0) = H3 at w0
  generalize hs3 : ({ s2 with heap := s2.heap.push { cls := .type "set", dict := none, data := .set #[] 0 (.fresh 0 0 (!X.w.params.followText "set-order")) } } : Shared) = s3
  have h3 : s3.heap = s2.heap.push { cls := .type "set", dict := none, data := .set #[] 0 (.fresh 0 0 (!X.w.params.followText "set-order")) } := by rw [← hs3]
  have I3 : Inv X pins σ H3 s3 := by
    rw [← hs3, ← hH3]
    refine I2.laid (t' := s2.toks) (fun b o e => Heap.get?_push_of_some _ e) (Nat.le_of_eq hD) (kso_new (kset_fresh ?_))
    rw [← hD]
    exact Heap.get?_push_size _ rfl
  have f3 : ∀ b ∈ fp, FpOk X pins H3 b ∧ b < s3.heap.objs.size := fun b hb => by
    obtain ⟨o, e, _⟩ := T.obj _ _ st2 b hb
    have hlt := Heap.lt_size e
    refine ⟨⟨?_, (f2 b hb).2⟩, by rw [h3, Heap.size_push]; exact Nat.lt_succ_of_lt hlt⟩
    rw [← hH3, upd_ne (by rw [← hD]; exact Nat.ne_of_lt hlt)]
    exact (f2 b hb).1
  have st3 : tn 0 s3.heap := T.keep _ _ _ st2 fun b _ o e => by rw [h3]; exact Heap.get?_push_of_some _ e
  have I4 := block_start I3 ok hN f3
  have pg := hg s3 H3 s3.heap.objs.size (cellsFrom (s3.heap.objs.size + 1) scope.names (cloFrom X.env.cells scope.names [])) fp
  have pt := ht s3 H3 s3.heap.objs.size (cellsFrom (s3.heap.objs.size + 1) scope.names (cloFrom X.env.cells scope.names [])) fp
  have pe := he s3 H3 s3.heap.objs.size (cellsFrom (s3.heap.objs.size + 1) scope.names (cloFrom X.env.cells scope.names [])) fp
  generalize hce : compEnvC scope (cellsFrom (s3.heap.objs.size + 1) scope.names (cloFrom X.env.cells scope.names [])) s3.heap.objs.size X.env = ce at I4 pg pt pe
  have cL : ce.locals = s3.heap.objs.size := by subst hce; rfl
  generalize hs4 : ({ s3 with heap := pushCells (s3.heap.push { cls := .type "dict", data := .dict #[] }) scope.names } : Shared) = s4 at I4
  have st4 : tn 0 s4.heap := T.keep _ _ _ st3 fun b _ o e => by rw [← hs4]; exact pushCells_keeps _ _ _ _ (Heap.get?_push_of_some _ e)
  have stat : ∀ {σ' : L2.St} {H' : Hp} {s' : Shared}, Inv (X.blk s3 H3 scope ce fp) [] σ' H' s' → (∀ b ∈ fp, H' b = none) → ∀ b ∈ fp, FpOk (X.blk s3 H3 scope ce fp) [] H' b := fun {σ' H' s'} I' hn b hb =>
    ⟨hn b hb, (I'.ok.exf b hb).1, I'.ok.exfs b hb, .inl hb, fun x c e => (I'.ok.exf b hb).2 x c e, fun p hp => absurd (show p ∈ ([] : List (Addr × Obj)) ++ [] from hp) (by simp)⟩
  have main : ∀ R : Result → Shared → Prop, R = compPost (model X.prog X.w) X.A X.xe none (EP X pins σ Q) (.ref D) s3.heap.objs.size → codeAny (model X.prog X.w) X.A (.compStart (.SetComp elt [⟨tg, iter, ifs, 0⟩] scope pos) 0 (.ref it) (.ref D) ce) R s4 := fun R hR => by
    have back : ∀ s' m H', Inv X pins σ H' s' → Q (.ref D) H' → s'.heap.Ns s3.heap.objs.size m → FpOk X pins H' s3.heap.objs.size → R (.ok .next) s' := fun s' m H' I' q hn f => by
      rw [hR]
      refine ⟨m, hn, fun h'' sb => ?_⟩
      obtain ⟨f0, f1, f2, f3, f4, f5⟩ := f
      exact ⟨.ref D, H', I'.turned (t' := s'.toks) (fun b o hb e => (sb.2 b hb).trans e) f0 f1 f3 f4 f5, rfl, q⟩
    have loop : codeAny (model X.prog X.w) X.A (.compLoop (.SetComp elt [⟨tg, iter, ifs, 0⟩] scope pos) 0 (.ref it) (.ref D) ce) R s4 := by
      refine compLoopS_any (fun n s' => ∃ i H', Inv (X.blk s3 H3 scope ce fp) [] (wipe σ (own.map (·.2))) H' s' ∧ tn i s'.heap ∧ (∀ b ∈ fp, H' b = none) ∧ W i n H') ?_ m0 ⟨0, H3, I4, st4, fun b hb => (f3 b hb).1.1, w0⟩
      rintro n s5 ⟨i, H5, I5, st5, n5, w5⟩
      rcases turn i n H5 w5 with ⟨stop, qq⟩ | ⟨go, Nx, hNx, step⟩
      · refine thnF (T.done (X.blk s3 H3 scope ce fp) rfl rfl rfl hc i [] s5 _ H5 (fun _ _ => False) I5 (stat I5 n5) st5 stop) fun r s6 ⟨hr, I6⟩ => ?_
        subst hr
        have I7 : Inv X pins σ H5 s6 := I3.call' (ch := fp) I6.os I6.base I6.hok I6.bare fun b hb => ⟨(f3 b hb).1.2.2.2.1, (f3 b hb).1.2.1, (f3 b hb).1.2.2.2.2.1, (f3 b hb).1.2.2.2.2.2⟩
        have nC : H5 s3.heap.objs.size = none := by
          have z : H5 ce.locals = none := I6.free
          rwa [cL] at z
        obtain ⟨m, hn, _⟩ := I6.loc
        have hn : s6.heap.Ns ce.locals m := hn
        rw [cL] at hn
        exact back s6 m H5 I7 qq hn (I3.fpOk (Nat.le_refl _) nC)
      · refine thnF (T.item (X.blk s3 H3 scope ce fp) rfl rfl rfl hc i [] s5 _ H5 (fun _ _ => False) I5 (stat I5 n5) st5 go) fun r s6 ⟨u, hr, h6⟩ => ?_
        subst hr
        refine thnF h6 fun _ s7 ⟨x, H7, I7, r7, y7, st7, n7⟩ => ?_
        refine thnF (pg.run _ s7 _ H7 x u _ (I7.pinned (stat I7 n7) (T.obj _ _ st7)) r7 (step x H7 y7)) fun _ s8 ⟨σ8, H8, I8, hw8, q8⟩ => ?_
        refine thnF (pt.run _ s8 σ8 H8 _ I8 q8) fun b s9 ⟨H9, I9, q9⟩ => ?_
        have fin : ∀ {s' : Shared} {H' : Hp}, Inv (X.blk s3 H3 scope ce fp) ([] ++ pinsAt fp s7.heap) σ8 H' s' → Nx H' → ∃ m, m < n ∧ ∃ i H', Inv (X.blk s3 H3 scope ce fp) [] (wipe σ (own.map (·.2))) H' s' ∧ tn i s'.heap ∧ (∀ b ∈ fp, H' b = none) ∧ W i m H' := fun {s' H'} I' nx => by
          obtain ⟨m', hm, w'⟩ := hNx H' nx
          have pin' : ∀ b ∈ fp, ∀ o, s7.heap.get? b = some o → s'.heap.get? b = some o ∧ H' b = none := fun b hb o e =>
            let z := I'.pin (b, o) (List.mem_append_right _ (List.mem_append_right _ (mem_pinsAt hb e)))
            ⟨z.1, z.2.1⟩
          refine ⟨m', hm, i + 1, H', (I'.unpinned (pins := [])).weak (by rw [← hw8, wipe_length]) (fun j v e => ?_), T.keep _ _ _ st7 fun b hb o e => (pin' b hb o e).1, fun b hb => ?_, w'⟩
          · rw [← hw8] at e
            exact (wipe_some e).1
          · obtain ⟨o, e, _⟩ := T.obj _ _ st7 b hb
            exact (pin' b hb o e).2
        cases b with
        | false =>
          simp only [Bool.false_eq_true, if_false] at q9 ⊢
          exact fin I9 q9
        | true =>
          simp only [if_true] at q9 ⊢
          refine thnF (pe.run _ s9 σ8 H9 _ I9 q9) fun z s10 ⟨yv, H10, I10, r10, k, S0, n0, ey, hD10, hz10, nx⟩ => ?_
          subst ey
          exact addK_ok (X := X.blk s3 H3 scope ce fp) I10 hD10 r10 hz10 fun s11 I11 => fin I11 nx
    exact codeAny_compStart_set loop (T.self X.A 0 _ _ _ st4 loop)
  have z := main _ rfl
  rw [← hce] at z
  exact z
end
end LR

/-! ### set tables laid anew, of 8, 16 or 32 slots (own work over the kit's runs) -/
namespace LR
open PySem PySem.Spec PyProof.Rows L2 Evl
def MOk (m : Nat) : Prop := m = 7 ∨ m = 15 ∨ m = 31
theorem lcg15 : ((List.range 16).all fun i => (List.range 16).all fun j => (List.range 16).any fun k => lcgI 15 i k == j) = true := by decide +kernel
theorem mok_all {m : Nat} (hm : MOk m) {i j : Nat} (hi : i ≤ m) (hj : j ≤ m) : ∃ k, k ≤ m ∧ lcgI m i k = j := by
  rcases hm with rfl | rfl | rfl
  · exact lcgI_all (.inl rfl) hi hj
  · have h := List.all_eq_true.mp (List.all_eq_true.mp lcg15 i (List.mem_range.mpr (by omega))) j (List.mem_range.mpr (by omega))
    obtain ⟨k, hk, e⟩ := List.any_eq_true.mp h
    exact ⟨k, by have := List.mem_range.mp hk; omega, beq_iff_eq.mp e⟩
  · exact lcgI_all (.inr (.inl rfl)) hi hj
/-- a free slot is found -/
theorem free_any {m : Nat} (hm : MOk m) (owner : Array (Option Nat)) (h : Int) {j : Nat} (hj : j ≤ m) (hf : oAt owner j = none) :
    ∃ q, SetTable.layClean.free m owner (SetTable.turns m) (SetTable.bits h % (m + 1)) (SetTable.bits h) = some q ∧ q ≤ m ∧ oAt owner q = none := by
  obtain ⟨c, hc, ec⟩ := mok_all hm (runI_le m (SetTable.bits h) 12) hj
  have e : runI m (SetTable.bits h) (12 + c) = j := by
    rw [runI_tail (bits_lt h)]
    exact ec
  have hw : way m h (off m (SetTable.bits h % (m + 1)) (SetTable.bits h) (12 + c)) = j := by
    show (nth m (runAt m (SetTable.bits h % (m + 1)) (SetTable.bits h)) (off m (SetTable.bits h % (m + 1)) (SetTable.bits h) (12 + c))).j = j
    rw [nth_off, itL_run]
    exact e
  obtain ⟨q, k1, k2, k3⟩ := st_least (p := fun k => oAt owner (way m h k) = none) _ (show oAt owner (way m h (off m (SetTable.bits h % (m + 1)) (SetTable.bits h) (12 + c))) = none by rw [hw]; exact hf)
  refine ⟨way m h q, free_spec m owner (SetTable.turns m) (12 + c) _ _ q (by unfold SetTable.turns; omega) k1 (fun k hk => ?_) ?_, ?_, k2⟩
  · have y := k3 k hk
    cases z : oAt owner (nth m (runAt m (SetTable.bits h % (m + 1)) (SetTable.bits h)) k).j with
    | none => exact absurd z y
    | some _ => rfl
  · have y : oAt owner (nth m (runAt m (SetTable.bits h % (m + 1)) (SetTable.bits h)) q).j = none := k2
    rw [y] <;> rfl
  · have hi : SetTable.bits h % (m + 1) ≤ m := Nat.le_of_lt_succ (Nat.mod_lt _ (Nat.succ_pos _))
    have r := runEnd_bd hi
    have y := nth_in (m := m) q (runAt m (SetTable.bits h % (m + 1)) (SetTable.bits h)) (by
      show SetTable.bits h % (m + 1) + (SetTable.runEnd m (SetTable.bits h % (m + 1)) - SetTable.bits h % (m + 1)) ≤ m
      omega)
    show (nth m (runAt m (SetTable.bits h % (m + 1)) (SetTable.bits h)) q).j ≤ m
    omega
/-- n have been laid -/
structure Lay (m n : Nat) (owner : Array (Option Nat)) : Prop where
  sz : owner.size = m + 1
  all : ∀ k, k < n → ∃ j, j ≤ m ∧ oAt owner j = some k
  ps : ∃ ps : List Nat, ps.length = n ∧ ∀ j, j ≤ m → oAt owner j ≠ none → j ∈ ps
theorem Lay.init (m : Nat) : Lay m 0 (Array.replicate (m + 1) none) := ⟨by simp, fun k hk => absurd hk (Nat.not_lt_zero _), [], rfl, fun j hj e => absurd (oAt_init hj) e⟩
theorem Lay.step {m n : Nat} (hm : MOk m) {owner : Array (Option Nat)} (W : Lay m n owner) (hl : n ≤ m) (h : Int) :
    ∃ j, SetTable.layClean.free m owner (SetTable.turns m) (SetTable.bits h % (m + 1)) (SetTable.bits h) = some j ∧ Lay m (n + 1) (owner.setIfInBounds j (some n)) := by
  obtain ⟨ps, hps, hin⟩ := W.ps
  obtain ⟨j0, h0, hn0⟩ := st_missing ps (m + 1) (by omega)
  have hj0 : oAt owner j0 = none := by
    cases z : oAt owner j0 with
    | none => rfl
    | some k => exact absurd (hin j0 (Nat.le_of_lt_succ h0) (by rw [z]; exact fun e => nomatch e)) hn0
  obtain ⟨q, e1, e2, e3⟩ := free_any hm owner h (Nat.le_of_lt_succ h0) hj0
  have hq : q < owner.size := by rw [W.sz]; omega
  refine ⟨q, e1, by rw [Array.size_setIfInBounds]; exact W.sz, fun k hk => ?_, q :: ps, by rw [List.length_cons, hps], fun j hj e => ?_⟩
  · by_cases c : k < n
    · obtain ⟨j, hj, e⟩ := W.all k c
      refine ⟨j, hj, ?_⟩
      rw [oAt_set_ne _ (fun z => by rw [z, e3] at e; cases e)]
      exact e
    · obtain rfl : k = n := by omega
      exact ⟨q, e2, oAt_set_self _ hq⟩
  · by_cases c : j = q
    · rw [c]
      exact List.mem_cons_self
    · rw [oAt_set_ne _ c] at e
      exact List.mem_cons_of_mem _ (hin j hj e)
theorem lay_fold {m : Nat} (hm : MOk m) : ∀ (rest : List Int) (n : Nat) (owner : Array (Option Nat)), Lay m n owner → n + rest.length ≤ m → ∃ owner' n', rest.foldl (stepF m) (some (owner, n)) = some (owner', n') ∧ Lay m (n + rest.length) owner'
  | [], n, owner, W, _ => ⟨owner, n, rfl, W⟩
  | h :: rest, n, owner, W, hl => by
    rw [List.length_cons] at hl
    obtain ⟨j, e, W'⟩ := W.step hm (by omega) h
    obtain ⟨owner', n', f, W2⟩ := lay_fold hm rest (n + 1) _ W' (by omega)
    refine ⟨owner', n', ?_, by rw [List.length_cons, show n + (rest.length + 1) = n + 1 + rest.length by omega]; exact W2⟩
    rw [List.foldl_cons, stepF_some e]
    exact f
theorem lay_clean {m : Nat} (hm : MOk m) {hs : Array Int} (hn : hs.size ≤ m) : ∃ owner, SetTable.layClean m hs = some owner ∧ Lay m hs.size owner := by
  obtain ⟨owner, n', f, W⟩ := lay_fold hm hs.toList 0 _ (Lay.init m) (by rw [Array.length_toList]; omega)
  refine ⟨owner, ?_, by rw [Array.length_toList, Nat.zero_add] at W; exact W⟩
  rw [layClean_eq, f] <;> rfl
/-- a table laid anew -/
theorem laid_any {m finger moves : Nat} {led plain : Bool} {hs : Array Int} (hm : MOk m) (hn : hs.size ≤ m) :
    ∃ t order, SetTable.laid m finger moves led plain hs = some (t, order) ∧ order.toList.Perm (List.range hs.size) ∧ Ris t.place.toList ∧ t.place.size = hs.size ∧ t.mask = m ∧ t.led = led ∧ t.dummies = #[] := by
  obtain ⟨owner, e, W⟩ := lay_clean hm hn
  have ris := ris_live (fun j => owner.getD j none) (List.range (m + 1)) (by
    unfold Ris
    first | exact List.pairwise_lt_range | exact List.pairwise_lt_range _)
  have r1 : Ris ((liveOf m owner).map (·.1)) := ris.1
  have nd : ((liveOf m owner).map (·.1)).Nodup := List.Pairwise.imp (fun h => Nat.ne_of_lt h) r1
  have hlen : (liveOf m owner).length = hs.size := by
    obtain ⟨ps, p1, p2⟩ := W.ps
    have a := nat_nodup_len ((liveOf m owner).map (·.1)) ps nd fun x hx => by
      obtain ⟨⟨y, k⟩, hq, rfl⟩ := List.mem_map.mp hx
      obtain ⟨b1, b2⟩ := (mem_live W.sz).1 hq
      exact p2 y b1 (by rw [b2]; exact fun z => nomatch z)
    have b := nat_nodup_len (List.range hs.size) ((liveOf m owner).map (·.2)) List.nodup_range fun k hk => by
      obtain ⟨j, b1, b2⟩ := W.all k (List.mem_range.mp hk)
      exact List.mem_map.mpr ⟨(j, k), (mem_live W.sz).2 ⟨b1, b2⟩, rfl⟩
    rw [List.length_map, p1] at a
    rw [List.length_map, List.length_range] at b
    omega
  refine ⟨_, ((liveOf m owner).map (·.2)).toArray, by unfold SetTable.laid; rw [e]; rfl, ?_, r1, by rw [List.size_toArray, List.length_map]; exact hlen, rfl, rfl, rfl⟩
  refine perm_range hs.size _ (by rw [List.length_map]; exact hlen) fun k hk => ?_
  obtain ⟨j, b1, b2⟩ := W.all k hk
  exact List.mem_map.mpr ⟨(j, k), (mem_live W.sz).2 ⟨b1, b2⟩, rfl⟩
/-- the rows in a table's order -/
theorem rows_any {α : Type} (es : Array α) (order : Array Nat) (hp : order.toList.Perm (List.range es.size)) : (order.filterMap (es[·]?)).toList.Perm es.toList := by
  have e1 : (order.filterMap (es[·]?)).toList = order.toList.filterMap fun i => es[i]? := by
    first | rw [Array.toList_filterMap] | simp
  rw [e1]
  refine (hp.filterMap _).trans (List.Perm.of_eq ?_)
  have key : ∀ n, n ≤ es.toList.length → (List.range n).filterMap (fun i => es[i]?) = es.toList.take n := by
    intro n
    induction n with
    | zero => intro _; rfl
    | succ n ih =>
      intro hn
      have g : es[n]? = some es.toList[n] := by rw [← Array.getElem?_toList]; exact List.getElem?_eq_getElem hn
      rw [List.range_succ, List.filterMap_append, ih (Nat.le_of_lt hn), List.take_succ, List.getElem?_eq_getElem hn, List.filterMap_cons_some g] <;> rfl
  have z := key es.toList.length (Nat.le_refl _)
  rw [List.take_length] at z
  exact z
theorem size_tab : ((List.range 32).all fun n => (SetTable.sizeAbove n == 8 || (SetTable.sizeAbove n == 16 || SetTable.sizeAbove n == 32)) && decide (n < SetTable.sizeAbove n)) = true := by decide +kernel
theorem size_mok {n : Nat} (h : n < 32) : MOk (SetTable.sizeAbove n - 1) ∧ n ≤ SetTable.sizeAbove n - 1 ∧ SetTable.sizeAbove n ≤ 32 := by
  obtain ⟨a, b⟩ := He.ba (List.all_eq_true.mp size_tab n (List.mem_range.mpr h))
  have b := of_decide_eq_true b
  rw [Bool.or_eq_true, Bool.or_eq_true, beq_iff_eq, beq_iff_eq, beq_iff_eq] at a
  refine ⟨?_, by omega, by omega⟩
  rcases a with a | a | a <;> rw [a]
  · exact .inl rfl
  · exact .inr (.inl rfl)
  · exact .inr (.inr rfl)
end LR

/-! ### a set put into another (own work) -/
namespace LR
open PySem PySem.Spec PyProof.Rows L2 Evl
/-- the set at a, its table as well -/
def KTab (P : Program) (w : World) (h : Heap) (a : Addr) (S : Key → Bool) (n m : Nat) : Prop :=
  ∃ ob rows ep tb, h.get? a = some ob ∧ ob.ExactSet ∧ ob.data = .set rows ep tb ∧ (∀ r ∈ rows.toList, RowOk P w r) ∧ (rows.toList.map keyE).Nodup ∧ (∀ k, S k = true ↔ k ∈ rows.toList.map keyE) ∧
    rows.size < scanBound ∧ tb.fits rows.size = true ∧ rows.size = n ∧ Ris tb.place.toList ∧ (w.params.followText "set-order" = true ∨ tb.led = true) ∧ tb.mask = m ∧ tb.dummies = #[]
section
variable {P : Program} {w : World} {A : Around} {E : Value → Shared → Prop} {s : Shared} {a o : Addr} {S S2 : Key → Bool} {n n2 m : Nat}
theorem KTab.set {h : Heap} (R : KTab P w h a S n m) : KSet P w h a S n := by
  obtain ⟨ob, rows, ep, tb, h1, h2, h3, h4, h5, h6, h7, h8, h9, h10, h11, _⟩ := R
  exact ⟨ob, rows, ep, tb, h1, h2, h3, h4, h5, h6, h7, h8, h9, h10, h11⟩
theorem KTab.at {h h' : Heap} (R : KTab P w h a S n m) (k : ∀ ob, h.get? a = some ob → h'.get? a = some ob) : KTab P w h' a S n m := by
  obtain ⟨ob, rows, ep, tb, ho, r⟩ := R
  exact ⟨ob, rows, ep, tb, k ob ho, r⟩
theorem ktab_fresh {h : Heap} (ho : h.get? a = some { cls := .type "set", dict := none, data := .set #[] 0 (.fresh 0 0 (!w.params.followText "set-order")) }) : KTab P w h a (fun _ => false) 0 7 :=
  ⟨_, #[], 0, _, ho, ⟨rfl, rfl, rfl⟩, rfl, (fun r hr => by simp at hr), by simp, (fun k => by simp), by decide, by rfl, rfl, List.Pairwise.nil, (by
    cases w.params.followText "set-order" with
    | true => exact .inl rfl
    | false => exact .inr rfl), rfl, rfl⟩
theorem fits_tab {t : SetTable} {k : Nat} (h1 : t.place.size = k) (h2 : t.dummies = #[]) (h3 : k ≤ t.mask) : t.fits k = true := by
  unfold SetTable.fits SetTable.fill
  rw [h2, Bool.and_eq_true, beq_iff_eq, decide_eq_true_eq]
  show t.place.size = k ∧ t.place.size + 0 ≤ t.mask
  omega
theorem kt_relay {wanted : Nat} {Q : Unit → Shared → Prop} (R : KTab P w s.heap a S n m) (hw : wanted < 32) (hn : n ≤ wanted)
    (hQ : ∀ h', Heap.SameBut a s.heap h' → KTab P w h' a S n (SetTable.sizeAbove wanted - 1) → Q () { s with heap := h' }) : wpAny (model P w) A (setRelay a wanted) Q E s := by
  obtain ⟨ob, rows, ep, tb, ho, hex, hd, g, nd, hm, hb, hf, rfl, hr, hl, hmk, hdm⟩ := R
  obtain ⟨mk, z1, z2⟩ := size_mok hw
  obtain ⟨t', order, e, hp, t1, t2, t3, t4, t5⟩ := laid_any (finger := tb.finger) (moves := tb.movedTo (SetTable.sizeAbove wanted - 1)) (led := tb.led) (plain := tb.plain) (hs := rows.map (·.1)) mk (by rw [Array.size_map]; omega)
  rw [Array.size_map] at hp t2
  have pm := rows_any rows order hp
  have hs2 : (order.filterMap (rows[·]?)).size = rows.size := by
    have y := pm.length_eq
    rwa [Array.length_toList, Array.length_toList] at y
  rw [setRelay_eq]
  refine wpAny_bind (wpAny_setState_of ho hd hf ?_)
  dsimp only
  refine wp_if_neg (by rw [sizeLine_eq]; omega) ?_
  try refine wpAny_bind (wpAny_pure ?_)
  rw [show tb.relaid (rows.map (·.1)) wanted = some (t', order) from e]
  dsimp only
  refine wpAny_bind ?_
  refine wp_if_neg (by rw [hs2]; simp) ?_
  try refine wpAny_bind (wpAny_pure ?_)
  refine wpAny_pure ?_
  dsimp only
  refine wpAny_storeSet_of ho hd ?_ (by rw [hs2]; exact fits_of_scanBound hb)
  refine hQ _ (Heap.SameBut.update ..) ⟨_, _, _, t', store_at ho hd, hex, rfl, fun r hr => g r (pm.mem_iff.mp hr), (pm.map keyE).nodup_iff.mpr nd, fun k => (hm k).trans (pm.map keyE).mem_iff.symm, by rw [hs2]; exact hb, fits_tab (by rw [t2, hs2]) t5 (by rw [hs2, t3]; omega), hs2, t1, ?_, t3, t5⟩
  rw [t4]
  exact hl
theorem kt_room {more : Nat} {Q : Unit → Shared → Prop} (R : KTab P w s.heap a S n m) (hm : MOk m) (hw : (n + more) * 2 < 32)
    (hQ : ∀ h' m', Heap.SameBut a s.heap h' → MOk m' → n + more ≤ m' → KTab P w h' a S n m' → Q () { s with heap := h' }) : wpAny (model P w) A (setRoomFor a more) Q E s := by
  have R' := R
  obtain ⟨ob, rows, ep, tb, ho, hex, hd, g, nd, hk, hb, hf, rfl, hr, hl, hmk, hdm⟩ := R
  have pl : tb.place.size = rows.size := by
    unfold SetTable.fits at hf
    exact beq_iff_eq.mp (He.ba hf).1
  unfold setRoomFor
  refine wpAny_bind (wpAny_setState_of ho hd hf ?_)
  dsimp only
  unfold SetTable.roomFor SetTable.fill
  rw [pl, hdm, hmk]
  by_cases c : (rows.size + (#[] : Array Nat).size + more) * 5 ≥ m * 3
  · rw [if_pos c]
    dsimp only
    obtain ⟨z0, z1, z2⟩ := size_mok hw
    exact kt_relay R' hw (by omega) fun h' sb r => hQ h' _ sb z0 (by omega) r
  · rw [if_neg c]
    dsimp only
    have c : ¬ (rows.size + 0 + more) * 5 ≥ m * 3 := c
    exact wpAny_pure (hQ s.heap m (Heap.SameBut.refl a s.heap) hm (by omega) R')
theorem setMerge_eq (s o : Addr) (each : Sem Unit) : setMerge s o each = (do
    if s == o then return
    let (eo, epoch, to) ← setState o
    if eo.isEmpty then return
    setRoomFor s eo.size
    let (_, _, ts) ← setState s
    match ts.road to with
    | .slotForSlot => storeSet s eo { to with finger := ts.finger, led := ts.led && to.led, moves := ts.moves, plain := ts.plain && to.plain }
    | .clean =>
      let (es, t) ← (do
        let some (t, order) := SetTable.laid ts.mask ts.finger ts.moves (led := ts.led && to.led) (plain := ts.plain && to.plain) (eo.map (·.1)) | unsupported "internal:set-table-without-room"
        let es' := order.filterMap (eo[·]?)
        if es'.size != eo.size then unsupported "internal:set-table-lost-an-element"
        pure (es', t) : Sem (Array (Int × Value) × SetTable))
      storeSet s es t
    | .oneByOne =>
      for (h, x) in ← setWalkUnseen o [s] (some s) do
        let _ ← holding [x] (setAddHashed s x h)
        each
        if (← setState o).2.1 != epoch then unsupported "set.changed-during-merge") := by rfl
end
end LR

/-! ### a set walked where nobody sees it; a set put into another (own work) -/
namespace LR
open PySem PySem.Spec PyProof.Rows L2 Evl
/-- the set at a with its rows -/
structure KAt (P : Program) (w : World) (h : Heap) (a : Addr) (rows : Array (Int × Value)) (ep : Nat) (tb : SetTable) : Prop where
  at_ : ∃ ob, h.get? a = some ob ∧ ob.ExactSet ∧ ob.data = .set rows ep tb
  g : ∀ r ∈ rows.toList, RowOk P w r
  fits : tb.fits rows.size = true
  led : w.params.followText "set-order" = true ∨ tb.led = true
section
variable {P : Program} {w : World} {A : Around} {E : Value → Shared → Prop} {s : Shared} {a o r : Addr} {S S2 : Key → Bool} {n n2 m : Nat} {rows ro rr : Array (Int × Value)} {ep er : Nat} {tb tr : SetTable}
theorem KAt.keep {h h' : Heap} (O : KAt P w h a rows ep tb) (k : ∀ ob, h.get? a = some ob → h'.get? a = some ob) : KAt P w h' a rows ep tb := by
  obtain ⟨ob, h1, h2⟩ := O.at_
  exact ⟨⟨ob, k _ h1, h2⟩, O.g, O.fits, O.led⟩
theorem row_noref {x : Int × Value} (g : RowOk P w x) : ∀ b, x.2 ≠ .ref b := fun b e => by
  obtain ⟨k, h1, _⟩ := g
  rw [e] at h1
  cases k with
  | inl i =>
    obtain ⟨t, h⟩ := (show ∃ t, Value.ref b = Value.int i t from h1)
    cases h
  | inr i =>
    obtain ⟨t, h⟩ := (show ∃ t, Value.ref b = Value.str i t from h1)
    cases h
theorem quiet_sets {Q : Bool → Shared → Prop} (hQ : Q true s) : ∀ l : List Addr, (∀ a ∈ l, ∃ rows ep tb, KAt P w s.heap a rows ep tb) → wpAny (model P w) A (setsQuiet l) Q E s := fun l hl => by
  unfold setsQuiet
  refine wpAny_bind (wpAny_forIn_list _ (fun rest b s' => b.1 = none ∧ s' = s ∧ ∀ a ∈ rest, a ∈ l) _ ?_ ?_ l _ ⟨rfl, rfl, fun _ h => h⟩)
  · rintro x rest ⟨b1, b2⟩ s' ⟨hb, rfl, hin⟩
    obtain ⟨rows, ep, tb, O⟩ := hl x (hin x List.mem_cons_self)
    obtain ⟨ob, ho, hex, hd⟩ := O.at_
    refine wpAny_bind (wpAny_setEntries_of ho hd O.fits ?_)
    refine wpAny_bind (MeetsSeq2.wpAny_forIn_array _ (fun rest b s'' => b.1 = none ∧ s'' = s' ∧ ∀ y ∈ rest, y ∈ rows.toList) _ ?_ ?_ rows _ ⟨rfl, rfl, fun _ h => h⟩)
    · rintro ⟨hh, y⟩ rest2 ⟨c1, c2⟩ s2 ⟨hc, rfl, hin2⟩
      have nr := row_noref (O.g _ (hin2 _ List.mem_cons_self))
      dsimp only
      cases y <;> first
        | exact wpAny_pure ⟨rfl, rfl, fun y hy => hin2 y (List.mem_cons_of_mem _ hy)⟩
        | exact absurd rfl (nr _)
    · rintro ⟨c1, c2⟩ s2 ⟨hc, rfl, _⟩
      cases hc
      exact wpAny_pure ⟨rfl, rfl, fun a ha => hin a (List.mem_cons_of_mem _ ha)⟩
  · rintro ⟨b1, b2⟩ s' ⟨hb, rfl, _⟩
    cases hb
    exact wpAny_pure hQ
theorem setWalk_eq (a : Addr) : setWalk a = (do
    let (es, epoch, t) ← setState a
    if ← setsByText then return pickOrder ((← ask).params.setOrder a epoch) es
    if !t.plain && es.size > 1 then return (← drawOrder es.size es.toList).toArray
    (do if !t.led && es.size > 1 then unsupported "set:maker-not-led" : Sem Unit)
    return es) := by rfl
theorem walk_set {Q : Array (Int × Value) → Shared → Prop} (O : KAt P w s.heap a rows ep tb) (hQ : ∀ ys d, ys.toList.Perm rows.toList → Q ys { s with drawn := d }) : wpAny (model P w) A (setWalk a) Q E s := by
  obtain ⟨ob, ho, hex, hd⟩ := O.at_
  rw [setWalk_eq]
  refine wpAny_bind (wpAny_setState_of ho hd O.fits ?_)
  dsimp only
  refine wpAny_bind (wpAny_byText ?_)
  by_cases c : w.params.followText "set-order" = true
  · refine wp_if_pos c ?_
    exact wpAny_bind (wpAny_askSetting (wpAny_pure (hQ _ s.drawn (pick_perm _ _))))
  · refine wp_if_neg c ?_
    have hl : tb.led = true := O.led.resolve_left c
    by_cases c2 : (!tb.plain && decide (rows.size > 1)) = true
    · refine wp_if_pos c2 ?_
      exact wpAny_bind (drawOrder_at _ _ _ _ (by rw [Array.length_toList]; exact Nat.le_refl _) fun ys d q => wpAny_pure (hQ _ d q))
    · refine wp_if_neg c2 ?_
      refine wpAny_bind (wp_if_neg (by rw [hl]; simp) (wpAny_pure ?_))
      exact wpAny_pure (hQ _ s.drawn (List.Perm.refl _))
theorem walkUnseen_eq (a : Addr) (others : List Addr) (f : Addr) : setWalkUnseen a others (some f) = (do
    let (es, _, t) ← setState a
    let byText ← setsByText
    if byText || (t.led && t.plain) || es.size ≤ 1 then return ← setWalk a
    if !(← setsQuiet (a :: others)) then return ← setWalk a
    rule "set.walk.of-a-marked-set-that-nobody-sees"
    let (ef, _, tf) ← setState f
    if (tf.led && !t.led) || (tf.plain && !t.plain) then storeSet f ef { tf with led := tf.led && t.led, plain := tf.plain && t.plain }
    return es) := by rfl
theorem walk_unseen {Q : Array (Int × Value) → Shared → Prop} (O : KAt P w s.heap o rows ep tb) (R : KSet P w s.heap r S n)
    (hQ : ∀ ys h' d, ys.toList.Perm rows.toList → Heap.SameBut r s.heap h' → KSet P w h' r S n → Q ys { s with heap := h', drawn := d }) : wpAny (model P w) A (setWalkUnseen o [r] (some r)) Q E s := by
  obtain ⟨ob, ho, hex, hd⟩ := O.at_
  have R' := R
  obtain ⟨ob2, rows2, ep2, tb2, ho2, hex2, hd2, g2, nd2, hm2, hb2, hf2, hn2, hr2, hl2⟩ := R
  rw [walkUnseen_eq]
  refine wpAny_bind (wpAny_setState_of ho hd O.fits ?_)
  dsimp only
  refine wpAny_bind (wpAny_byText ?_)
  by_cases c : (w.params.followText "set-order" || (tb.led && tb.plain) || decide (rows.size ≤ 1)) = true
  · refine wp_if_pos c ?_
    exact walk_set O fun ys d p => hQ ys s.heap d p (Heap.SameBut.refl _ _) R'
  · refine wp_if_neg c ?_
    refine wpAny_bind (quiet_sets ?_ _ ?_)
    · refine wp_if_neg (by simp) ?_
      refine wpAny_bind (wpAny_rule ?_)
      refine wpAny_bind (wpAny_setState_of ho2 hd2 hf2 ?_)
      dsimp only
      by_cases c2 : ((tb2.led && !tb.led) || (tb2.plain && !tb.plain)) = true
      · refine wp_if_pos c2 ?_
        refine wpAny_bind (wpAny_storeSet_of ho2 hd2 ?_ (fits_of_scanBound hb2))
        refine wpAny_pure (hQ _ _ s.drawn (List.Perm.refl _) (Heap.SameBut.update ..) ⟨_, _, _, _, store_at ho2 hd2, hex2, rfl, g2, nd2, hm2, hb2, hf2, hn2, hr2, ?_⟩)
        rcases hl2 with z | z
        · exact .inl z
        · rcases O.led with y | y
          · exact .inl y
          · exact .inr (by show (tb2.led && tb.led) = true; rw [z, y]; rfl)
      · refine wp_if_neg c2 ?_
        exact wpAny_pure (hQ _ s.heap s.drawn (List.Perm.refl _) (Heap.SameBut.refl _ _) R')
    · intro b hb
      rcases List.mem_cons.mp hb with rfl | hb
      · exact ⟨rows, ep, tb, O⟩
      · obtain rfl := List.mem_singleton.mp hb
        exact ⟨rows2, ep2, tb2, ⟨ob2, ho2, hex2, hd2⟩, g2, hf2, hl2⟩
end
end LR

/-! ### a set put into another (own work) -/
namespace LR
open PySem PySem.Spec PyProof.Rows L2 Evl
section
variable {P : Program} {w : World} {A : Around} {E : Value → Shared → Prop} {s : Shared} {o r : Addr} {S S2 : Key → Bool} {n m : Nat} {rows : Array (Int × Value)} {ep : Nat} {tb : SetTable}
/-- both sets' keys -/
abbrev orK (S S2 : Key → Bool) : Key → Bool := fun k => S k || S2 k
theorem kset_merge {each : Sem Unit} {Q : Unit → Shared → Prop} (R : KTab P w s.heap r S n m) (hm : MOk m) (O : KAt P w s.heap o rows ep tb) (nd : (rows.toList.map keyE).Nodup) (hS : ∀ k, S2 k = true ↔ k ∈ rows.toList.map keyE) (hr : Ris tb.place.toList) (hne : r ≠ o) (hn : (n + rows.size) * 2 < 32)
    (he : ∀ (z : Shared) (Q' : Unit → Shared → Prop), KAt P w z.heap o rows ep tb → Q' () z → wpAny (model P w) A each Q' E z)
    (hQ : ∀ h' d n', Heap.SameBut r s.heap h' → n' ≤ n + rows.size → KSet P w h' r (orK S S2) n' → (n = 0 → ∃ m', MOk m' ∧ KTab P w h' r (orK S S2) n' m') → Q () { s with heap := h', drawn := d }) : wpAny (model P w) A (setMerge r o each) Q E s := by
  obtain ⟨ob, ho, hex, hd⟩ := O.at_
  rw [setMerge_eq]
  refine wp_if_neg (by simpa using hne) ?_
  refine wpAny_bind (wpAny_setState_of ho hd O.fits ?_)
  dsimp only
  by_cases c : rows.isEmpty = true
  · refine wp_if_pos c ?_
    have e : rows.toList = [] := by
      rw [Array.isEmpty_iff.mp c]
    have f : ∀ k, orK S S2 k = S k := fun k => by
      have : S2 k = false := by
        cases q : S2 k with
        | false => rfl
        | true =>
          have z := (hS k).mp q
          rw [e] at z
          cases z
      show (S k || S2 k) = S k
      rw [this, Bool.or_false]
    have R2 : KTab P w s.heap r (orK S S2) n m := by rw [show orK S S2 = S from funext f]; exact R
    exact wpAny_pure (hQ s.heap s.drawn n (Heap.SameBut.refl _ _) (by omega) R2.set fun _ => ⟨m, hm, R2⟩)
  · refine wp_if_neg c ?_
    refine wpAny_bind (kt_room R hm hn fun h1 m1 sb1 hm1 hle R1 => ?_)
    have O1 : KAt P w h1 o rows ep tb := O.keep fun ob h => by rw [sb1.2 o (Ne.symm hne)]; exact h
    have R1' := R1
    obtain ⟨ob1, rows1, ep1, tb1, ho1, hex1, hd1, g1, nd1, hk1, hb1, hf1, hn1, hr1, hl1, hmk1, hdm1⟩ := R1
    refine wpAny_bind (wpAny_setState_of (s := { s with heap := h1 }) ho1 hd1 hf1 ?_)
    dsimp only
    have pl1 : tb1.place.size = n := by
      unfold SetTable.fits at hf1
      rw [← hn1]
      exact beq_iff_eq.mp (He.ba hf1).1
    have pl : tb.place.size = rows.size := by
      have := O.fits
      unfold SetTable.fits at this
      exact beq_iff_eq.mp (He.ba this).1
    have led : w.params.followText "set-order" = true ∨ (tb1.led && tb.led) = true := by
      rcases hl1 with z | z
      · exact .inl z
      · rcases O.led with y | y
        · exact .inl y
        · exact .inr (by rw [z, y]; rfl)
    have sz : rows.size < scanBound := by
      have : (32 : Nat) ≤ scanBound := by decide
      omega
    have done : ∀ (rw2 : Array (Int × Value)) (t2 : SetTable), n = 0 → rw2.toList.Perm rows.toList → Ris t2.place.toList → t2.place.size = rows.size → t2.mask = m1 → (w.params.followText "set-order" = true ∨ t2.led = true) → t2.dummies = #[] → wpAny (model P w) A (storeSet r rw2 t2) Q E { s with heap := h1 } := fun rw2 t2 h0 pm a1 a2 a3 a4 a5 => by
      have hs2 : rw2.size = rows.size := by
        have y := pm.length_eq
        rwa [Array.length_toList, Array.length_toList] at y
      have T : KTab P w (h1.update r (Obj.putSet rw2 t2)) r (orK S S2) rows.size m1 := by
        refine ⟨_, _, _, t2, store_at ho1 hd1, hex1, rfl, fun x hx => O.g x (pm.mem_iff.mp hx), (pm.map keyE).nodup_iff.mpr nd, fun k => ?_, by rw [hs2]; exact sz, fits_tab (by rw [a2, hs2]) a5 (by rw [hs2, a3]; omega), hs2, a1, a4, a3, a5⟩
        have e0 : S k = false := by
          cases q : S k with
          | false => rfl
          | true =>
            have z := (hk1 k).mp q
            have : rows1.toList = [] := List.eq_nil_of_length_eq_zero (by rw [Array.length_toList]; omega)
            rw [this] at z
            cases z
        show (S k || S2 k) = true ↔ _
        rw [e0, Bool.false_or, hS k]
        exact (pm.map keyE).mem_iff.symm
      refine wpAny_storeSet_of (s := { s with heap := h1 }) ho1 hd1 ?_ (by rw [hs2]; exact fits_of_scanBound sz)
      exact hQ _ s.drawn _ (sb1.trans (Heap.SameBut.update ..)) (by omega) T.set fun _ => ⟨m1, hm1, T⟩
    unfold SetTable.road SetTable.fill
    rw [pl1, hdm1]
    by_cases c0 : n = 0
    · rw [if_neg (by rw [c0]; decide)]
      by_cases c1 : (tb1.mask == tb.mask && tb.dummies.isEmpty) = true
      · rw [if_pos c1]
        dsimp only
        obtain ⟨q1, q2⟩ := He.ba c1
        refine done rows _ c0 (List.Perm.refl _) hr pl ?_ led (Array.isEmpty_iff.mp q2)
        show tb.mask = m1
        rw [← beq_iff_eq.mp q1]
        exact hmk1
      · rw [if_neg c1]
        dsimp only
        obtain ⟨t', order, e, hp, t1, t2, t3, t4, t5⟩ := laid_any (finger := tb1.finger) (moves := tb1.moves) (led := tb1.led && tb.led) (plain := tb1.plain && tb.plain) (hs := rows.map (·.1)) (m := tb1.mask) (by rw [hmk1]; exact hm1) (by rw [Array.size_map, hmk1]; omega)
        rw [Array.size_map] at hp t2
        have pm := rows_any rows order hp
        have hs2 : (order.filterMap (rows[·]?)).size = rows.size := by
          have y := pm.length_eq
          rwa [Array.length_toList, Array.length_toList] at y
        rw [e]
        dsimp only
        refine wpAny_bind ?_
        refine wp_if_neg (by rw [hs2]; simp) ?_
        try refine wpAny_bind (wpAny_pure ?_)
        refine wpAny_pure ?_
        dsimp only
        exact done _ t' c0 pm t1 t2 (t3.trans hmk1) (by rw [t4]; exact led) t5
    · rw [if_pos (by
        show (n + 0 != 0) = true
        simp [c0])]
      dsimp only
      refine wpAny_bind (walk_unseen (s := { s with heap := h1 }) O1 R1'.set fun ys h2 d pm sb2 R2 => ?_)
      refine wpAny_bind (MeetsSeq2.wpAny_forIn_array _ (fun rest _ z => ∃ h3 dn n3, z = { s with heap := h3, drawn := d } ∧ dn ++ rest = ys.toList ∧ Heap.SameBut r s.heap h3 ∧ n3 ≤ n + dn.length ∧ KSet P w h3 r (orK S (inK (dn.map keyE))) n3) _ ?_ ?_ ys _ ⟨h2, [], n, rfl, rfl, sb1.trans sb2, Nat.le_refl _, R2.congr fun k => by show (S k || false) = S k; rw [Bool.or_false]⟩)
      · rintro ⟨hh, x⟩ rest b z ⟨h3, dn, n3, rfl, e3, sb3, l3, R3⟩
        have mem : (hh, x) ∈ rows.toList := pm.mem_iff.mp (by rw [← e3]; exact List.mem_append_right _ List.mem_cons_self)
        have len : dn.length + rest.length + 1 = rows.size := by
          have y := pm.length_eq
          rw [← e3, List.length_append, List.length_cons, Array.length_toList] at y
          omega
        obtain ⟨k, hk, eh⟩ := O.g _ mem
        have eh : hh = (mixKind P w).hash k := eh
        subst eh
        have hk : RelV (kV k) x := hk
        have room : n3 + 1 < scanBound := by
          have : (32 : Nat) ≤ scanBound := by decide
          omega
        dsimp only
        refine wpAny_bind (wpAny_holding (kset_add (s := { s with heap := h3, drawn := d }) hk R3 room fun h4 sb4 R4 => ?_))
        have sb5 := sb3.trans sb4
        have O4 : KAt P w h4 o rows ep tb := O.keep fun ob h => by rw [sb5.2 o (Ne.symm hne)]; exact h
        refine wpAny_bind (he { s with heap := h4, drawn := d } _ O4 ?_)
        obtain ⟨ob4, ho4, hex4, hd4⟩ := O4.at_
        refine wpAny_bind (wpAny_setState_of (s := { s with heap := h4, drawn := d }) ho4 hd4 O4.fits ?_)
        dsimp only
        refine wp_if_neg (by simp) ?_
        refine wpAny_pure ⟨h4, dn ++ [(_, x)], _, rfl, by rw [List.append_assoc]; exact e3, sb5, ?_, R4.congr fun j => ?_⟩
        · rw [List.length_append, List.length_singleton]
          split <;> omega
        · show (S j || inK ((dn ++ [(_, x)]).map keyE) j) = ((S j || inK (dn.map keyE) j) || decide (j = k))
          unfold inK
          rw [List.map_append, List.any_append, List.map_singleton, keyE_of (r := (_, x)) hk, Bool.or_assoc]
          simp
      · rintro b z ⟨h3, dn, n3, rfl, e3, sb3, l3, R3⟩
        rw [List.append_nil] at e3
        have len : dn.length = rows.size := by
          have y := pm.length_eq
          rw [← e3, Array.length_toList] at y
          exact y
        refine wpAny_pure (hQ h3 d n3 sb3 (by omega) (R3.congr fun k => ?_) fun h => absurd h c0)
        show (S k || S2 k) = (S k || inK (dn.map keyE) k)
        congr 1
        rw [Bool.eq_iff_iff, hS k, inK_iff, e3]
        exact (pm.map keyE).mem_iff.symm
end
end LR

/-! ### a | b of two sets (own work) -/
namespace LR
open PySem PySem.Spec PyProof.Rows L2 Evl PpSet Builtin
theorem entry_set_or : entryFor table "set.__or__" = some Builtin.«frozenset.__or__» :=
  entryFor_alias (id' := "frozenset.__or__") (by kernel_rfl) rfl (by decide +kernel) (by kernel_rfl)
theorem or_eq (a b : Addr) : Builtin.«frozenset.__or__» ⟨[.ref a, .ref b], []⟩ = (do
    let (self, other) ← Frozenset.slot1 "__or__" ⟨[.ref a, .ref b], []⟩
    if !(← Frozenset.isAnySet self <&&> Frozenset.isAnySet other) then
      rule s!"frozenset.__or__.declined"
      return ← ret .notImplemented
    ret (← (do
      let result ← Frozenset.copyOf (← Frozenset.addrOf self)
      if other != .ref (← Frozenset.addrOf self) then holding [result] (Frozenset.updateFrom s!"frozenset.__or__" (← Frozenset.addrOf result) other)
      return result : Sem Value))) := by
  unfold Builtin.«frozenset.__or__»
  rfl
section
variable {P : Program} {w : World} {A : Around} {E : Value → Shared → Prop} {s : Shared} {a b : Addr} {S S2 : Key → Bool} {n n2 : Nat}
theorem KSet.ty {z : Shared} (R : KSet P w z.heap a S n) : z.TypeIs (.ref a) "set" := by
  obtain ⟨ob, rows, ep, tb, ho, hex, _⟩ := R
  exact ⟨ob, ho, hex.1⟩
theorem KSet.parts {h : Heap} (R : KSet P w h a S n) : ∃ rows ep tb, KAt P w h a rows ep tb ∧ (rows.toList.map keyE).Nodup ∧ (∀ k, S k = true ↔ k ∈ rows.toList.map keyE) ∧ Ris tb.place.toList ∧ rows.size = n := by
  obtain ⟨ob, rows, ep, tb, ho, hex, hd, g, nd, hm, hb, hf, hn, hr, hl⟩ := R
  exact ⟨rows, ep, tb, ⟨⟨ob, ho, hex, hd⟩, g, hf, hl⟩, nd, hm, hr, hn⟩
theorem any_set {z : Shared} {Q : Bool → Shared → Prop} (h : z.TypeIs (.ref a) "set") (q : Q true z) : wpAny (model P w) A (Frozenset.isAnySet (.ref a)) Q E z := by
  unfold Frozenset.isAnySet
  exact wpAny_bind (wpAny_isInstance h sub_set_self (wpAny_pure q))
theorem kset_or {Q : Value → Shared → Prop} (R1 : KSet P w s.heap a S n) (R2 : KSet P w s.heap b S2 n2) (hab : a ≠ b) (hn : (n + n2) * 2 < 32)
    (hQ : ∀ h' d n', (∀ c ob, s.heap.get? c = some ob → h'.get? c = some ob) → KSet P w h' s.heap.objs.size (orK S S2) n' → Q (.ref s.heap.objs.size) { s with heap := h', drawn := d }) :
    wpAny (model P w) A (binaryOp .BitOr (.ref a) (.ref b)) Q E s := by
  refine wpAny_binaryOp_same (T := "set") (id := "set.__or__") R1.ty R2.ty F.fills_set_or F.slot_set_or (wpAny_call_entry F.slot_set_or R1.ty entry_set_or ?_ (F.args_set_or_2 _ _))
  rw [or_eq]
  unfold Frozenset.slot1
  refine wpAny_bind (wpAny_pure ?_)
  dsimp only
  refine wpAny_bind (wpAny_bind (any_set R1.ty ?_))
  refine any_set R2.ty ?_
  refine wp_if_neg (by simp) ?_
  refine wpAny_bind ?_
  unfold Frozenset.addrOf Frozenset.copyOf Frozenset.baseOf
  refine wpAny_bind (wpAny_pure ?_)
  refine wpAny_bind (wpAny_bind (wpAny_bind (wpAny_isInstance R1.ty sub_set_self ?_)))
  refine wpAny_pure ?_
  rw [if_pos rfl]
  refine wpAny_bind (newSet_ok ?_)
  generalize hr : s.heap.objs.size = r
  generalize hh0 : (s.heap.push { cls := .type "set", data := .set #[] 0 (.fresh 0 0 (!w.params.followText "set-order")) } : Heap) = h0
  have new : KTab P w h0 r (fun _ => false) 0 7 := ktab_fresh (by rw [← hh0, ← hr]; exact Heap.get?_push_size _ rfl)
  have kp0 : ∀ c ob, s.heap.get? c = some ob → h0.get? c = some ob := fun c ob e => by rw [← hh0]; exact Heap.get?_push_of_some _ e
  have ne : ∀ c ob, s.heap.get? c = some ob → c ≠ r := fun c ob e => by rw [← hr]; exact Nat.ne_of_lt (Heap.lt_size e)
  have na : r ≠ a := by
    obtain ⟨ob, _, _, _, ho, _⟩ := R1
    exact Ne.symm (ne a ob ho)
  have nb : r ≠ b := by
    obtain ⟨ob, _, _, _, ho, _⟩ := R2
    exact Ne.symm (ne b ob ho)
  obtain ⟨rows, ep, tb, O, nd, hm, hri, hsz⟩ := (R1.at (h' := h0) fun ob e => kp0 _ _ e).parts
  refine wpAny_bind (wpAny_pure ?_)
  refine wpAny_bind (kset_merge (s := { s with heap := h0 }) new (.inl rfl) O nd hm hri na (by omega) (fun z Q' _ q => wpAny_pure q) fun h1 d1 n1 sb1 l1 _ tab => ?_)
  obtain ⟨m1, mk1, T1⟩ := tab rfl
  have kp1 : ∀ c ob, s.heap.get? c = some ob → h1.get? c = some ob := fun c ob e => by rw [sb1.2 c (ne c ob e)]; exact kp0 c ob e
  refine wpAny_pure ?_
  refine wpAny_bind (wpAny_pure ?_)
  refine wp_if_pos (by simpa using Ne.symm hab) ?_
  refine wpAny_bind (wpAny_pure ?_)
  have R2' := R2.at (h' := h1) fun ob e => kp1 _ _ e
  obtain ⟨rows2, ep2, tb2, O2, nd2, hm2, hri2, hsz2⟩ := R2'.parts
  refine wpAny_bind (wpAny_holding ?_)
  unfold Frozenset.updateFrom Frozenset.merge
  refine wpAny_bind (any_set (z := { s with heap := h1, drawn := d1 }) R2'.ty ?_)
  refine wp_if_pos rfl ?_
  refine wpAny_bind (wpAny_pure ?_)
  obtain ⟨ob2, ho2, hex2, hd2⟩ := O2.at_
  refine wpAny_bind (wpAny_setEpoch_of (s := { s with heap := h1, drawn := d1 }) ho2 hd2 O2.fits ?_)
  refine kset_merge (s := { s with heap := h1, drawn := d1 }) T1 mk1 O2 nd2 hm2 hri2 nb (by omega) (fun z Q' Oz q => ?_) fun h2 d2 n2' sb2 l2 K2 _ => ?_
  · obtain ⟨obz, hoz, hexz, hdz⟩ := Oz.at_
    unfold Frozenset.unchanged
    refine wpAny_bind (wpAny_setEpoch_of hoz hdz Oz.fits ?_)
    exact wp_if_neg (by simp) (wpAny_pure q)
  · refine wpAny_pure (wpAny_pure ⟨_, rfl, (fun z => nomatch z), ?_⟩)
    have z := hQ h2 d2 n2' (fun c ob e => by rw [sb2.2 c (ne c ob e)]; exact kp1 c ob e)
    rw [hr] at z
    exact z (K2.congr fun k => by show (S k || S2 k) = ((false || S k) || S2 k); rw [Bool.false_or])
end
end LR

/-! ### set(d), d a dict (own work) -/
namespace LR
open PySem PySem.Spec PyProof.Rows L2 Evl PpSet Builtin
section
variable {P : Program} {w : World} {A : Around} {E : Value → Shared → Prop} {s : Shared} {a r : Addr}
theorem mix_rel {k : Key} {v : Value} (h : (mixKind P w).is k v = true) : RelV (kV k) v := keyIs_rel h
theorem pairs_at {knd : PySem.KeyKind P w Key} : ∀ {es : List DictEntry} {kvs : List (Key × Value)}, Pairs knd es kvs → ∀ {i : Nat} {kv : Key × Value}, kvs[i]? = some kv → ∃ e, es[i]? = some e ∧ knd.is kv.1 e.key = true
  | _, _, .nil, i, kv, h => by simp at h
  | _, _, .cons h1 h2 r, 0, kv, h => by
    cases h
    exact ⟨_, rfl, h1⟩
  | _, _, .cons h1 h2 r, i + 1, kv, h => pairs_at r (i := i) (by simpa using h)
theorem upd_dict {id : String} {vs : List (Key × Value)} {Q : Unit → Shared → Prop} (R : KTab P w s.heap r (fun _ => false) 0 7) (dat : s.heap.DictOf (mixKind P w) a vs) (hsys : (a == sysModules) = false) (hne : r ≠ a) (hn : vs.length * 2 < 32)
    (hQ : ∀ h' c, Heap.SameBut r s.heap h' → c ≤ vs.length → KSet P w h' r (inK (vs.map (·.1))) c → Q () { s with heap := h' }) : wpAny (model P w) A (Frozenset.updateFrom id r (.ref a)) Q E s := by
  obtain ⟨ob, es, ep, ho, hex, hd, hko, hpr, hnd⟩ := dat
  have ty : s.TypeIs (.ref a) "dict" := ⟨ob, ho, hex.1⟩
  have sz : es.size = vs.length := by
    have e := hpr.length
    rwa [Array.length_toList] at e
  unfold Frozenset.updateFrom
  refine wpAny_bind ?_
  unfold Frozenset.isAnySet
  refine wpAny_bind (wpAny_isInstance ty F.sub_dict_set ?_)
  refine wpAny_isInstance ty F.sub_dict_frozenset ?_
  refine wp_if_neg (by decide) ?_
  refine wpAny_bind (wpAny_typeOf ty ?_)
  refine wp_if_pos (by decide) ?_
  refine wpAny_bind (wpAny_rule ?_)
  refine wpAny_bind (wpAny_pure ?_)
  refine wp_if_neg (by rw [hsys]; simp) ?_
  refine wpAny_bind (wpAny_dictEpoch ho hd ?_)
  refine wpAny_bind (wpAny_dictEntries ho hd ?_)
  refine wpAny_bind (kt_room R (.inl rfl) (by rw [sz]; omega) fun h1 m1 sb1 hm1 hle R1 => ?_)
  have at1 : ∀ {h : Heap}, Heap.SameBut r s.heap h → h.get? a = some ob := fun {h} sb => by rw [sb.2 a (Ne.symm hne)]; exact ho
  refine wpAny_bind (wpAny_dictEntries (s := { s with heap := h1 }) (at1 sb1) hd ?_)
  refine wpAny_bind (SeqAt.wpAny_forIn_span 0 es.size _ (fun i _ z => ∃ h2 c, z = { s with heap := h2 } ∧ Heap.SameBut r s.heap h2 ∧ c ≤ i ∧ KSet P w h2 r (inK ((vs.map (·.1)).take i)) c) _ ?_ ?_ _ ⟨h1, 0, rfl, sb1, Nat.le_refl _, R1.set.congr fun _ => rfl⟩)
  · rintro i u z _ hi ⟨h2, c, rfl, sb2, hc, T⟩
    refine wpAny_bind (wpAny_dictEntries (s := { s with heap := h2 }) (at1 sb2) hd ?_)
    have hi2 : i < vs.length := by omega
    obtain ⟨e, he, hk⟩ := pairs_at hpr (List.getElem?_eq_getElem hi2)
    have he2 : es[i]? = some e := by rw [← Array.getElem?_toList]; exact he
    obtain ⟨k', hk', hh⟩ := hko e (Array.mem_of_getElem? he2)
    have ek : k' = (vs[i]).1 := (mixKind P w).inj _ _ _ hk' hk
    subst ek
    rw [he2]
    dsimp only
    rw [hh]
    have room : c + 1 < scanBound := by
      have : (32 : Nat) ≤ scanBound := by decide
      omega
    refine wpAny_bind (wpAny_holding (kset_add (s := { s with heap := h2 }) (mix_rel hk') T room fun h3 sb3 T3 => ?_))
    refine wpAny_bind (wpAny_dictEpoch (s := { s with heap := h3 }) (at1 (sb2.trans sb3)) hd ?_)
    refine wp_if_neg (by simp) ?_
    refine wpAny_pure ⟨h3, _, rfl, sb2.trans sb3, ?_, T3.congr fun j => ?_⟩
    · split <;> omega
    · have : (vs.map (·.1))[i]? = some (vs[i]).1 := by rw [List.getElem?_map, List.getElem?_eq_getElem hi2]; rfl
      unfold inK
      rw [List.take_add_one, this, List.any_append]
      simp
  · rintro u z ⟨h2, c, rfl, sb2, hc, T⟩
    have em : max 0 es.size = vs.length := by omega
    rw [em] at hc T
    rw [List.take_of_length_le (by rw [List.length_map]; exact Nat.le_refl _)] at T
    exact wpAny_pure (hQ h2 c sb2 hc T)
set_option maxHeartbeats 3200000 in
theorem kset_dict {vs : List (Key × Value)} {Q : Value → Shared → Prop} (dat : s.heap.DictOf (mixKind P w) a vs) (hsys : (a == sysModules) = false) (hn : vs.length * 2 < 32)
    (hQ : ∀ h' c, (∀ b o, s.heap.get? b = some o → h'.get? b = some o) → c ≤ vs.length → KSet P w h' s.heap.objs.size (inK (vs.map (·.1))) c → Q (.ref s.heap.objs.size) { s with heap := h' }) :
    wpAny (model P w) A (call (.type "set") [.ref a]) Q E s := by
  obtain ⟨ob, es, ep, ho, hex, hd, hko, hpr, hnd⟩ := dat
  obtain ⟨_, _, mro⟩ := F.called_set.mro
  have made := F.called_set.made
  have subT := F.called_set.sub
  have c1 := F.called_set.notType
  have c2 := F.called_set.canCreate
  have c3 := F.typeCall_set_1 (.ref a)
  refine wpAny_call (codeAny_of_tree (show wpAny _ _ (callAny (.type "set") _) _ _ _ from wpAny_pure ⟨Code.quiet_builtin _ (by decide +kernel), codeAny_builtin F.entry_type_call ?_⟩))
  rw [Around.under_plain (weight_type_call_type "set" [.ref a] []) rfl]
  repeat (any_goals (first | assumption | wp_step))
  let ob0 : Obj := { cls := .type "set", dict := none, data := .set #[] 0 (.fresh 0 0 (!w.params.followText "set-order")) }
  refine codeAny_mono (code_set_led1 (.ref a) (E := E) (Q₁ := fun ob z => ob = .ref s.heap.objs.size ∧ z = { s with heap := s.heap.push ob0 }) ⟨rfl, rfl⟩) fun r z hr => ?_
  match r, hr with
  | .error _, hr => exact hr
  | .ok (.ret ob), hr =>
    obtain ⟨rfl, rfl⟩ := hr
    have atT : (s.heap.push ob0).get? s.heap.objs.size = some ob0 := Heap.get?_push_size _ rfl
    have tyT : Shared.TypeIs { s with heap := s.heap.push ob0 } (.ref s.heap.objs.size) "set" := ⟨_, atT, rfl⟩
    have i1 := F.called_set.init.lookup
    have i2 := F.called_set.init.bind (.ref s.heap.objs.size)
    repeat (any_goals (first | assumption | wp_step))
    refine codeAny_mono (codeAny_call_builtin (R := wants (fun r z => r = .none ∧ ∃ h' c, z = { s with heap := h' } ∧ KSet P w h' s.heap.objs.size (inK (vs.map (·.1))) c ∧ c ≤ vs.length ∧ ∀ b o, s.heap.get? b = some o → h'.get? b = some o) E) F.called_set.init.plain F.entry_set_init (check_set_init_1 tyT ?_)) fun r2 z2 hr2 => ?_
    · unfold Builtin.«set.__init__» noKeywords
      have kp : ∀ b o, s.heap.get? b = some o → (s.heap.push ob0).get? b = some o := fun b o e => Heap.get?_push_of_some _ e
      have ne : ∀ b o, s.heap.get? b = some o → b ≠ s.heap.objs.size := fun b o e => Nat.ne_of_lt (Heap.lt_size e)
      generalize hUF : Builtin.Frozenset.updateFrom = UF
      wp_walk
      subst hUF
      refine upd_dict (s := { s with heap := s.heap.push ob0 }) (ktab_fresh atT) ⟨_, es, ep, kp _ _ ho, hex, hd, hko, hpr, hnd⟩ hsys (Ne.symm (ne _ _ ho)) hn fun h' c sb hc T => ?_
      exact (show wpAny _ _ (ret Value.none) _ _ _ from wpAny_pure ⟨rfl, h', c, rfl, T, hc, fun b o e => by rw [sb.2 b (ne b o e)]; exact kp b o e⟩)
    · match r2, hr2 with
      | .error _, hr2 => exact hr2
      | .ok (.ret _), hr2 =>
        obtain ⟨rfl, h', c, rfl, hT, hc, kp⟩ := hr2
        repeat (any_goals (first | assumption | wp_step))
        exact hQ _ _ kp hc hT
end
end LR

/-! ### EV: len({.. for ..} | set(d)); len(obj) (own work) -/
namespace LR
open PySem PySem.Spec PyProof.Rows L2 Evl
section
variable {X : Cx}
/-- set(a dict) -/
def rSetD (P : Program) (w : World) : List V → Hp → VK → Prop := fun xs H Q => ∃ (p : Addr) (kvs : List (Key × V)), xs = [.ref p] ∧ H p = some (.dK kvs) ∧ kvs.length < 16 ∧ ∀ q c, H q = none → c ≤ kvs.length → Q (.ref q) (upd H q (KSO P w q (inK (kvs.map (·.1))) c))
theorem cr_setD : CallR X (.type "set") (rSetD X.prog X.w) := by
  intro pins s σ H vs us Q I r h
  obtain ⟨p, kvs, rfl, hp, hl, q⟩ := h
  rw [Vals.ref1 r]
  obtain ⟨_, hsys, ws, rel, dof⟩ := dk_of I.hok hp
  have hk : ws.map (·.1) = kvs.map (·.1) := (KV.keys rel).symm
  have hln : ws.length = kvs.length := by
    have e := congrArg List.length hk
    rwa [List.length_map, List.length_map] at e
  refine kset_dict dof hsys (by omega) fun h' c kp hc T => ?_
  rw [hk] at T
  exact ⟨.ref _, upd H s.heap.objs.size (KSO X.prog X.w s.heap.objs.size (inK (kvs.map (·.1))) c), I.laid (t' := s.toks) kp (Nat.le_refl _) (kso_new T), rfl, q _ c (I.hok.fresh (Nat.le_refl _)) (by omega)⟩
/-- a | b of sets -/
def rOrK (P : Program) (w : World) : R2 := fun x y H Q => ∃ (a b : Addr) (S S2 : Key → Bool) (n n2 : Nat), x = .ref a ∧ y = .ref b ∧ a ≠ b ∧ H a = some (KSO P w a S n) ∧ H b = some (KSO P w b S2 n2) ∧ n + n2 < 16 ∧ ∀ p c, H p = none → Q (.ref p) (upd H p (KSO P w p (orK S S2) c))
theorem op_orK : OpR X (binaryOp .BitOr) (rOrK X.prog X.w) := by
  intro pins s σ H x y v u Q I rx ry h
  obtain ⟨a, b, S, S2, n, n2, rfl, rfl, hab, ha, hb, hn, q⟩ := h
  obtain rfl : v = Value.ref a := rx
  obtain rfl : u = Value.ref b := ry
  refine kset_or (kso_get I ha) (kso_get I hb) hab (by omega) fun h' d c kp T => ?_
  have I2 : Inv X pins σ H { s with drawn := d } := I.call' (ch := []) rfl (Un.kept fun _ _ e => e) (I.hok.kept fun _ _ e => e) I.bare (fun _ z => nomatch z)
  exact ⟨.ref _, upd H s.heap.objs.size (KSO X.prog X.w s.heap.objs.size (orK S S2) c), I2.laid (t' := s.toks) kp (Nat.le_refl _) (kso_new T), rfl, q _ c (I.hok.fresh (Nat.le_refl _))⟩
end
/-- each once, in their order -/
def dist (l : List Key) : List Key := l.foldl (fun acc k => if inK acc k = true then acc else acc ++ [k]) []
theorem dist_snoc (l : List Key) (k : Key) : dist (l ++ [k]) = if inK (dist l) k = true then dist l else dist l ++ [k] := by
  unfold dist
  rw [List.foldl_append]
  rfl
theorem dist_fold : ∀ (l acc : List Key), acc.Nodup → (l.foldl (fun acc k => if inK acc k = true then acc else acc ++ [k]) acc).Nodup ∧ (∀ j, j ∈ l.foldl (fun acc k => if inK acc k = true then acc else acc ++ [k]) acc ↔ j ∈ acc ∨ j ∈ l) ∧ acc.length ≤ (l.foldl (fun acc k => if inK acc k = true then acc else acc ++ [k]) acc).length
  | [], acc, h => ⟨h, fun j => by simp, Nat.le_refl _⟩
  | k :: l, acc, h => by
    rw [List.foldl_cons]
    by_cases c : k ∈ acc
    · rw [if_pos (inK_iff.mpr c)]
      obtain ⟨h1, h2, h3⟩ := dist_fold l acc h
      refine ⟨h1, fun j => (h2 j).trans ?_, h3⟩
      rw [List.mem_cons]
      constructor
      · rintro (z | z)
        · exact .inl z
        · exact .inr (.inr z)
      · rintro (z | rfl | z)
        · exact .inl z
        · exact .inl c
        · exact .inr z
    · rw [if_neg fun z => c (inK_iff.mp z)]
      obtain ⟨h1, h2, h3⟩ := dist_fold l (acc ++ [k]) (List.nodup_append.mpr ⟨h, by simp, fun a ha b hb e => by
        rw [List.mem_singleton.mp hb] at e
        exact c (e ▸ ha)⟩)
      refine ⟨h1, fun j => (h2 j).trans ?_, Nat.le_trans (by rw [List.length_append]; omega) h3⟩
      rw [List.mem_append, List.mem_singleton, List.mem_cons]
      exact ⟨fun z => z.elim (fun z => z.elim .inl fun z => .inr (.inl z)) fun z => .inr (.inr z), fun z => z.elim (fun z => .inl (.inl z)) fun z => z.elim (fun z => .inl (.inr z)) .inr⟩
theorem dist_nodup (l : List Key) : (dist l).Nodup := (dist_fold l [] List.nodup_nil).1
theorem mem_dist {l : List Key} {j : Key} : j ∈ dist l ↔ j ∈ l := by
  have h := (dist_fold l [] List.nodup_nil).2.1 j
  simp only [List.not_mem_nil, false_or] at h
  exact h
theorem dist_le (l r : List Key) : (dist l).length ≤ (dist (l ++ r)).length := by
  have := (dist_fold r (dist l) (dist_nodup l)).2.2
  unfold dist at this ⊢
  rw [List.foldl_append]
  exact this
/-- any list of the same keys, each once -/
theorem dist_len {l ks : List Key} (h : ks.Nodup) (e : ∀ k, k ∈ ks ↔ k ∈ l) : (dist l).length = ks.length := by
  have : (dist l).Perm ks := (List.perm_ext_iff_of_nodup (dist_nodup l) h).mpr fun k => mem_dist.trans (e k).symm
  exact this.length_eq
theorem inK_snoc (l : List Key) (k : Key) : addK (inK l) k = inK (l ++ [k]) := by
  funext j
  unfold inK
  rw [List.any_append]
  simp
end LR
namespace EV
open PySem PySem.Spec PyProof.Rows L2 Evl L2H LamX LR
section
variable {K : PySem.W.Frag} {FL : Fl} {T : TbS} {P : Program} {w' : World} {te : TE} {pa : PM}
theorem sk_it {J : It} {n : Nat} {G : Hp → Prop} {Y : Nat → Hp → V → Hp → Prop} (w : Walk J n G Y) {g : TG} {tt : TT} {te : TE} {vs : List Nat} {σ : L2.St} {H1 : Hp} {D : Addr} {Qd : Hp → Prop} (Pv : Nat → Hp → Prop) (h0 : Pv 0 (upd H1 D (KSO P w' D (fun _ => false) 0))) (hG : ∀ i H, i ≤ n → Pv i H → G H)
    (hs : ∀ i x H H', i < n → Pv i H → Y i H x H' → g x (L2.wipe σ vs) H' fun σ2 H2 => L2.wipe σ2 vs = L2.wipe σ vs ∧ tt σ2 H2 fun b H3 =>
      if b = true then te σ2 H3 fun y H4 => ∃ (k : Key) (S : Key → Bool) (c : Nat), y = kV k ∧ H4 D = some (KSO P w' D S c) ∧ c + 1 < scanBound ∧ Pv (i + 1) (upd H4 D (KSO P w' D (addK S k) (if S k = true then c else c + 1))) else Pv (i + 1) H3) (hd : ∀ H, Pv n H → Qd H) :
    ∃ W : Nat → Nat → Hp → Prop, (∃ m, W 0 m (upd H1 D (KSO P w' D (fun _ => false) 0))) ∧ ∀ i m H, W i m H →
      (J.stop i H ∧ Qd H) ∨ (J.go i H ∧ ∃ Nx : Hp → Prop, (∀ H', Nx H' → ∃ m', m' < m ∧ W (i + 1) m' H') ∧ ∀ x H', J.yld i H x H' → g x (L2.wipe σ vs) H' fun σ2 H2 => L2.wipe σ2 vs = L2.wipe σ vs ∧ tt σ2 H2 fun b H3 =>
        if b = true then te σ2 H3 fun y H4 => ∃ (k : Key) (S : Key → Bool) (c : Nat), y = kV k ∧ H4 D = some (KSO P w' D S c) ∧ c + 1 < scanBound ∧ Nx (upd H4 D (KSO P w' D (addK S k) (if S k = true then c else c + 1))) else Nx H3) := by
  refine ⟨fun i m H => m = n - i ∧ i ≤ n ∧ Pv i H, ⟨n, by simp, Nat.zero_le _, h0⟩, ?_⟩
  rintro i m H ⟨rfl, hi, p⟩
  have q := hG i H hi p
  by_cases hlt : i < n
  · exact .inr ⟨w.goes i H hlt q, Pv (i + 1), fun H' p' => ⟨n - (i + 1), by omega, rfl, hlt, p'⟩, fun x H' y => hs i x H H' hlt p (w.yields i H x H' hlt q y)⟩
  · obtain rfl : i = n := by omega
    exact .inl ⟨w.stops H q, hd H p⟩
def keysD : List PyData → Option (List Key)
  | [] => some []
  | d :: r => (keyD d).bind fun k => (keysD r).bind fun ks => some (k :: ks)
theorem keysD_get : ∀ {ds : List PyData} {ks : List Key}, keysD ds = some ks → ks.length = ds.length ∧ ∀ (i : Nat) (d : PyData), ds[i]? = some d → ∃ k, keyD d = some k ∧ ks[i]? = some k
  | [], _, h => by
    cases h
    exact ⟨rfl, fun i d h => by simp at h⟩
  | d :: r, _, h => by
    obtain ⟨k, h1, h⟩ := bind_some h
    obtain ⟨ks, h2, h3⟩ := bind_some h
    cases h3
    obtain ⟨l, a⟩ := keysD_get h2
    refine ⟨by rw [List.length_cons, List.length_cons, l], fun i d' hd => ?_⟩
    cases i with
    | zero =>
      simp at hd
      subst hd
      exact ⟨k, h1, rfl⟩
    | succ i => exact a i d' (by simpa using hd)
theorem lcAll_true {gm : GM} {el : PM} {g : Sg} : ∀ {ds out : List PyData}, lcAll gm pTrue el g ds = some out → out.length = ds.length ∧ ∀ (i : Nat) d, ds[i]? = some d → ∃ g1 z, gm d g = some g1 ∧ el g1 = some z ∧ out[i]? = some z
  | [], _, h => by
    cases h
    exact ⟨rfl, fun i d h => by simp at h⟩
  | d :: ds, out, h => by
    obtain ⟨o, h1, h⟩ := bind_some h
    obtain ⟨r, h2, h3⟩ := bind_some h
    obtain ⟨g1, k1, k2⟩ := bind_some h1
    obtain ⟨z, k3, k4⟩ := Option.map_eq_some_iff.mp (show (el g1).map some = some o from k2)
    subst k4
    cases h3
    obtain ⟨l, a⟩ := lcAll_true h2
    refine ⟨by rw [List.length_cons, List.length_cons, l], fun i d' hd => ?_⟩
    cases i with
    | zero =>
      simp at hd
      subst hd
      exact ⟨g1, z, k1, k3, rfl⟩
    | succ i => exact a i d' (by simpa using hd)
/-- {el for .. in ..}, the set new -/
theorem sk_new {wi : TI} {tg : TG} {gm : GM} {it : IM} {vs : List Nat} (hi : SimIo K FL T wi it) (hg : SimG K FL T tg gm vs) (he : SimP K FL T te pa)
    {F : Fr} {α : Al} {H H1 : Hp} {σ : L2.St} {g : Sg} {out ds : List PyData} {ks : List Key} (R : Rel K FL T F α H H1 σ g) (h1 : it g = some ds) (h3 : lcAll gm pTrue pa (g.wipe vs) ds = some out) (h4 : keysD out = some ks) (hb : (dist ks).length < 4000) (Q : VK)
    (q : ∀ p H2 H', Ex H1 H2 → Ex H' H2 → Ext H H1 H' → H1 p = none → H' p = none → H2 p = some (KSO P w' p (inK ks) (dist ks).length) → Q (.ref p) H2) : tSk P w' wi tg tYes te vs σ H1 Q := by
  obtain ⟨l1, all⟩ := lcAll_true h3
  obtain ⟨l2, key⟩ := keysD_get h4
  refine hi F α H H1 σ g ds R h1 _ fun J G H2 Hb e2 eb xb hG w Dl hD => ?_
  have hDb : Hb Dl = none := fresh_back eb hD
  have hD1 : H1 Dl = none := fresh_back e2 hD
  refine sk_it (w.mono (G' := fun H3 => Ex H2 H3) (fun H3 e3 => hG H3 e3) fun _ _ _ _ _ _ y => y)
    (fun i Hr => ∃ Hl, Ex Hb Hl ∧ Ex Hl Hr ∧ Ex H2 Hr ∧ Ext H H1 Hl ∧ Hl Dl = none ∧ Hr Dl = some (KSO P w' Dl (inK (ks.take i)) (dist (ks.take i)).length)) ?_ ?_ ?_ ?_
  · exact ⟨Hb, Ex.refl _, eb.trans (Ex.new hD), Ex.new hD, xb, hDb, upd_same⟩
  · rintro i Hr hi ⟨Hl, a1, a2, a3, _⟩
    exact a3
  · rintro i x Hr H3 hi ⟨Hl, a1, a2, a3, a4, a5, a6⟩ ⟨y1, d, y2, y3⟩
    obtain ⟨Hc, c1, c2, c3⟩ := y3 Hl a1 a2
    obtain ⟨g1, z, k1, k5, k6⟩ := all i d y2
    obtain ⟨k, k7, k8⟩ := key i z k6
    have e13 : Ex H1 H3 := (e2.trans a3).trans y1
    have xc : Ext H H1 Hc := a4.trans (e2.trans a3) c1
    have Rc : Rel K FL T F α Hc H3 σ g := R.grow e13 c2 xc
    obtain ⟨σ2, R2, w2, q2⟩ := hg F α Hc H3 (L2.wipe σ vs) (g.wipe vs) g1 x d (Rc.wipe vs) c3 k1
    refine q2 _ ⟨?_, ?_⟩
    · rw [w2 vs fun _ h => h]
      have idem : ∀ (ws : List Nat) (τ : L2.St), (∀ v ∈ ws, v ∈ vs) → L2.wipe (L2.wipe τ ws) vs = L2.wipe τ vs := by
        intro ws
        induction ws with
        | nil => intro τ _; rfl
        | cons v r ih => intro τ hv; show L2.wipe ((L2.wipe τ r).set v none) vs = _; rw [wipe_set (hv v List.mem_cons_self), ih τ fun x hx => hv x (List.mem_cons_of_mem _ hx)]
      exact idem vs σ fun _ h => h
    · refine sb_yes (K := K) (FL := FL) (T := T) F α Hc H3 σ2 g1 true R2 rfl _ fun H4 e4 => ?_
      rw [if_pos rfl]
      have n1 : Hc Dl = none := c1.off a5 a6
      refine he F α Hc H4 σ2 g1 z (R2.same e4) k5 _ fun v H5 Hd e5 ed xd dv => ?_
      have n2 : Hd Dl = none := xd.off n1 ((y1.trans e4) Dl _ a6)
      have at5 := ((y1.trans e4).trans e5) Dl _ a6
      have tk : ks.take (i + 1) = ks.take i ++ [k] := by rw [List.take_add_one, k8]; rfl
      have ln : (dist (ks.take i)).length ≤ (dist ks).length := by
        have := dist_le (ks.take i) (ks.drop i)
        rwa [List.take_append_drop] at this
      refine ⟨k, _, _, keyD_eq k7 dv, at5, by show _ + 1 < 4096; omega, Hd, (a1.trans c1.ex).trans xd.ex, ex_off ed n2, ex_off (((a3.trans y1).trans e4).trans e5) hD, xc.trans (e13.trans e4) xd, n2, ?_⟩
      have ec : (if inK (ks.take i) k = true then (dist (ks.take i)).length else (dist (ks.take i)).length + 1) = (dist (ks.take (i + 1))).length := by
        rw [tk, dist_snoc]
        by_cases c : k ∈ ks.take i
        · rw [if_pos (inK_iff.mpr c), if_pos (inK_iff.mpr (mem_dist.mpr c))]
        · rw [if_neg fun z => c (inK_iff.mp z), if_neg fun z => c (mem_dist.mp (inK_iff.mp z)), List.length_append]
          rfl
      rw [upd_same, inK_snoc, ← tk, ec]
  · rintro Hr ⟨Hl, a1, a2, a3, a4, a5, a6⟩
    rw [List.take_of_length_le (by omega)] at a6
    exact q Dl Hr Hl (e2.trans a3) a2 a4 hD1 a5 a6
/-- len({el for .. in ..} | set(d)) -/
def pLenOr (it : IM) (gm : GM) (el : PM) (vs : List Nat) (w : WM) : PM := fun g => (it g).bind fun ds => (lcAll gm pTrue el (g.wipe vs) ds).bind fun out => (keysD out).bind fun ks => (w g).bind fun o => (dicAt g o).bind fun kv =>
  if (dist ks).length + kv.length < 16 then some (.int (dist (ks ++ kv.map (·.1))).length) else none
theorem sp_lenOr {wi : TI} {tg : TG} {gm : GM} {it : IM} {vs ws : List Nat} {tw : TE} {w : WM} (hi : SimIo K FL T wi it) (hg : SimG K FL T tg gm vs) (he : SimP K FL T te pa) (hw : SimW K FL T tw w) (hv : ws = vs := by rfl) :
    SimP K FL T (tCB (rLenK P w') (tCons (tOp (rOrK P w') (tSk P w' wi tg tYes te ws) (tCB (rSetD P w') (tCons tw tNil))) tNil)) (pLenOr it gm pa vs w) := fun F α H H1 σ g z R h Q q => by
  subst hv
  obtain ⟨ds, h1, h⟩ := bind_some h
  obtain ⟨out, h2, h⟩ := bind_some h
  obtain ⟨ks, h3, h⟩ := bind_some h
  obtain ⟨o, h4, h⟩ := bind_some h
  obtain ⟨kv, h5, h⟩ := bind_some h
  obtain ⟨h6, rfl⟩ := ite_some h
  have key : ∀ Q' : VK, (∀ p H2 H', Ex H1 H2 → Ex H' H2 → Ext H H1 H' → H1 p = none → H' p = none → H2 p = some (KSO P w' p (inK ks) (dist ks).length) → Q' (.ref p) H2) → tSk P w' wi tg tYes te ws σ H1 Q' := fun Q' q' => sk_new hi hg he R h1 h2 h3 (by omega) Q' q'
  generalize tSk P w' wi tg tYes te ws = tS at key ⊢
  refine key _ fun p H2 H' e2 e x n1 n2 hp => ?_
  have R2 : Rel K FL T F α H' H2 σ g := R.grow e2 e x
  obtain ⟨a, m1, m2⟩ := hw F α H' H2 σ g o R2 h4
  obtain ⟨ws', d1, d2⟩ := R2.dic h5 m1
  have hk : ws'.map (·.1) = kv.map (·.1) := d2.1
  have hln : ws'.length = kv.length := by
    have e := congrArg List.length hk
    rwa [List.length_map, List.length_map] at e
  refine m2 _ ⟨a, ws', rfl, d1, by omega, fun q2 c hq hc => ?_⟩
  have hne : p ≠ q2 := fun e => by rw [← e, hp] at hq; cases hq
  refine ⟨p, q2, _, _, _, _, rfl, rfl, hne, ((upd_ne hne).trans hp), upd_same, by omega, fun r c2 hr => ?_⟩
  refine ⟨r, _, _, rfl, upd_same, fun ls nd hm => ?_⟩
  have hl : (dist (ks ++ kv.map (·.1))).length = ls.length := dist_len nd fun k => by
    rw [hm k]
    show (inK ks k || inK (ws'.map (·.1)) k) = true ↔ _
    rw [Bool.or_eq_true, inK_iff, inK_iff, hk, List.mem_append]
  rw [← hl]
  exact q _ _ H' ((e2.trans (Ex.new hq)).trans (Ex.new hr)) ((e.trans (Ex.new hq)).trans (Ex.new hr)) x (.int _)
end
end EV

/-! ### EV: len(obj), its class has a __len__ of its own (own work) -/
namespace EV
open PySem PySem.Spec PyProof.Rows L2 Evl L2H LamX LR
/-- len(o): the answer of o.__len__(), a whole number of a fit size -/
def tLenO (C : Addr) (sp : Sp) (E : L2.St → XK) (te : TE) : TE := fun σ H Q => tMethW C "__len__" sp E te tNil σ H (fun u H2 => ∃ n : Int, u = .int n ∧ 0 ≤ n ∧ n < 2 ^ 63 ∧ Q u H2)
section
variable {X : Cx} {k j : Nat} {ps : List Str} {sp : Sp} {W : WX} {p pos : Pos} {o : Expr} {ta : TE}
theorem pe_lenO {C : Addr} (hx : ∀ σ, PassesAt (CXL X.prog X.w) X σ (WE W σ)) (c : Mx X.prog X.w X.K C X.mg X.base k "__len__" ps sp) (hr : Room j X.A) (hk : k + 1 ≤ j) (hg : Gl X "len") (hm : X.mg "len" = none) (ho : PE X o ta)
    (he : starEach [o] X.env = (false, eval o X.env) :: starEach [] X.env := by rfl) (hpl : (backTo pos (starEach [] X.env)).any (·.1) = false := by rfl) :
    PE X (.Call (.Name "len" p) [o] [] pos) (tLenO C sp (WE W) ta) := by
  obtain ⟨f, fd, F, hM, b⟩ := c.ex
  refine ⟨fun pins s σ H Q I h => ?_⟩
  refine wpAny_Call_Name_kw (ld_blt I hg hm (by decide +kernel : bootBuiltins "len" = some (.builtin "len")) ?_ (by decide) (by decide))
  let Q1 : List V → Hp → Prop := fun vs H1 => match vs with
    | [x] => ∃ a dx fs, x = .ref a ∧ H1 a = some (.ins C dx fs) ∧ fs.lookup ("__len__" : Str) = none ∧ sp [x] H1 (fun u H2 => ∃ n : Int, u = .int n ∧ 0 ≤ n ∧ n < 2 ^ 63 ∧ Q u H2) (WE W σ)
    | _ => False
  have h1 : tCons ta tNil σ H Q1 := h
  refine PyProof.Rows.callWith_builtin1 (thn ((pa_cons ho pa_nil he).run pos pins s σ H Q1 I h1) fun us s1 ⟨vs, H1, I1, r1, q1⟩ => ?_) he hpl
  have q2 : ∃ a dx fs, vs = [.ref a] ∧ H1 a = some (.ins C dx fs) ∧ sp [.ref a] H1 (fun u H2 => ∃ n : Int, u = .int n ∧ 0 ≤ n ∧ n < 2 ^ 63 ∧ Q u H2) (WE W σ) := by
    cases vs with
    | nil => exact False.elim q1
    | cons x r =>
      cases r with
      | nil =>
        obtain ⟨a, dx, fs, e1, e2, _, e3⟩ := q1
        rw [e1] at e3
        exact ⟨a, dx, fs, by rw [e1], e2, e3⟩
      | cons y r => exact False.elim q1
  obtain ⟨a, dx, fs, rfl, e2, e3⟩ := q2
  rw [Vals.ref1 r1]
  obtain ⟨mA, O, _, _, _, _⟩ := ins_get I1.hok e2
  obtain ⟨od, _, _, hod, _⟩ := O.ns
  refine Calls.call_function_entry kind_len plain_len entry_len (args_len1 _) ?_
  unfold Builtin.«len»
  refine wpAny_bind (m := oneArg "len" _) (wpAny_pure ?_)
  have ia : PySem.W.InstAt s1.heap a (PySem.W.instObj C dx) C (some od) := ⟨O.obj, rfl, rfl, hod⟩
  refine wpAny_bind (m := callSpecial? (.ref a) (Str.ofString "__len__")) (PySem.W.special_fn I1.kIn ia hM.at_ (beq_iff_eq.mp hM.fn) ?_)
  have hl : ([.ref a] : List Value).length = ps.length := F.len _ _ _ _ e3
  have b1 := b s1 [.ref a] I1.kIn (by rw [List.append_nil]; exact hl)
  rw [List.append_nil] at b1
  refine wpAny_call (codeAny_mono (F.run X.A.in1 X.stack s1 H1 ⟨[.ref a], []⟩ [.ref a] [.ref a] _ (WE W σ) (hr.mono hk).in1 I1.env0.in1 b1 (.cons rfl .nil) e3) fun r s' hq => ?_)
  cases r with
  | error e => exact hx σ pins H1 s1 e s' I1 hq
  | ok fl =>
    cases fl with
    | ret u =>
      obtain ⟨v, H2, I2, rv, n, rfl, n0, n1, q⟩ := I1.after hq
      obtain ⟨t, rfl⟩ := (show ∃ t, u = Value.int n t from rv)
      refine wpAny_bind (wpAny_holding (wpAny_pure ?_))
      refine wpAny_bind (wpAny_letGo ?_)
      show wpAny _ _ (if n < 0 then _ else _) _ _ _
      rw [if_neg (by omega)]
      show wpAny _ _ (if n ≥ 2 ^ 63 then _ else _) _ _ _
      rw [if_neg (by omega)]
      exact wpAny_bind (wpAny_mkInt (wpAny_pure ⟨_, rfl, .int n, H2, I2.tok _, ⟨_, rfl⟩, q⟩))
    | next => exact False.elim hq
    | brk => exact False.elim hq
    | cont => exact False.elim hq
end
section
variable {K : PySem.W.Frag} {FL : Fl} {T : TbS} {W : WX} {te : TE} {ma : EM}
def mLenO (C : Str) (f : Fun) (o : EM) : EM := eBind (mMeth C "__len__" f 1 o aNil) fun v => fun g => match v with
  | .dat (.int n) => if 0 ≤ n ∧ n < 2 ^ 63 then some (.ok (.dat (.int n)), g) else none
  | _ => none
theorem se_lenO {C : Str} {f : Fun} (hT : T.fl = true) (ho : SimE K FL T W te ma) : SimE K FL T W (tLenO (gaE K C) (spF K FL T 1 f) (WE W) te) (mLenO C f ma) := fun F α H H1 σ g r g' R hm Q q => by
  rcases eBind_some hm with ⟨v, g1, h1, h2⟩ | ⟨x, h1, rfl⟩
  · refine se_meth hT ho sa_nil F α H H1 σ g _ g1 R h1 _ fun α' H' H2 u R' s' ru => ?_
    cases v with
    | at_ o => cases h2
    | dat d =>
      cases d with
      | int n =>
        obtain ⟨h3, h4⟩ := ite_some (show (if 0 ≤ n ∧ n < 2 ^ 63 then some (Except.ok (Rv.dat (PyData.int n)), g1) else none) = some (r, g') from h2)
        cases h4
        have e := (show Dt K H' u (.int n) from ru).int_eq
        exact ⟨n, e, h3.1, h3.2, q α' H' H2 u R' s' ru⟩
      | none => cases h2
      | bool b => cases h2
      | str i => cases h2
      | list i => cases h2
      | tuple i => cases h2
      | dict kv => cases h2
  · exact se_meth hT ho sa_nil F α H H1 σ g _ g' R h1 _ q
end
end EV

/-! ### EV: sorted(d), dict(d), l[i] = v (own work) -/
namespace EV
open PySem PySem.Spec PyProof.Rows L2 Evl L2H LamX LR
section
variable {K : PySem.W.Frag} {FL : Fl} {T : TbS} {W : WX} {tw ti te : TE} {w : WM} {pa pb : PM}
def intKs : List (Key × PyData) → Option (List Int)
  | [] => some []
  | p :: r => match p.1 with
    | .inl i => (intKs r).map fun is => i :: is
    | .inr _ => none
theorem intKs_eq : ∀ {d : List (Key × PyData)} {is : List Int}, intKs d = some is → d.map (·.1) = is.map Sum.inl
  | [], _, h => by cases h; rfl
  | (k, v) :: r, is, h => by
    cases k with
    | inl i =>
      obtain ⟨js, h1, h2⟩ := Option.map_eq_some_iff.mp (show (intKs r).map (fun is => i :: is) = some is from h)
      subst h2
      rw [List.map_cons, List.map_cons, intKs_eq h1]
    | inr x => cases h
/-- sorted(d), d of one's own, its keys whole numbers -/
def pSortD (w : WM) : PM := fun g => (w g).bind fun o => (dicAt g o).bind fun kv => (intKs kv).bind fun is => if is.Nodup ∧ is.length < 64 then some (.list ((usort ltI is).map .int)) else none
def rSortDI : List V → Hp → VK → Prop := fun xs H Q => ∃ (a : Addr) (kvs : List (Key × V)) (ks : List Int), xs = [.ref a] ∧ Rd H a (.dK kvs) ∧ kvs.map (·.1) = ks.map Sum.inl ∧ ks.length < 64 ∧
    ∀ (ys : List Int) (p : Addr), ys.Perm ks → ys.Pairwise (· ≤ ·) → H p = none → Q (.ref p) (upd H p (.lst (ys.map V.int)))
theorem cr_sortDI {X : Cx} (hc : X.calm = true) : CallR X (.builtin "sorted") rSortDI := call_sortedDI hc
theorem sp_sortD (hw : SimW K FL T tw w) : SimP K FL T (tCB rSortDI (tCons tw tNil)) (pSortD w) := fun F α H H1 σ g z R h Q q => by
  obtain ⟨o, h1, h⟩ := bind_some h
  obtain ⟨kv, h2, h⟩ := bind_some h
  obtain ⟨is, h3, h⟩ := bind_some h
  obtain ⟨⟨h4, h5⟩, rfl⟩ := ite_some h
  obtain ⟨a, m1, m2⟩ := hw F α H H1 σ g o R h1
  obtain ⟨ws, d1, d2⟩ := R.dic h2 m1
  have hk : ws.map (·.1) = is.map Sum.inl := d2.1.trans (intKs_eq h3)
  refine m2 _ ⟨a, ws, is, rfl, .inl d1, hk, h5, fun ys p hp hs hn => ?_⟩
  have same : ys = usort ltI is := by
    refine ris_eq tot_ltI (risI_of hs (hp.nodup_iff.mpr h4)) (ris_usort tot_ltI _) fun z => ?_
    rw [hp.mem_iff, mem_usort tot_ltI]
  rw [same]
  have n0 : H p = none := fresh_back R.ex hn
  refine q _ _ (upd H p (.lst ((usort ltI is).map V.int))) (Ex.new hn) (ex_upd R.ex) (Ext.new R.ex hn) (.lst upd_same (dp_ints _))
/-- dict(d) -/
def nDcp (w : WM) : NM := fun g => (w g).bind fun o => (dicAt g o).bind fun kv => some (.ok (.ownD kv), g)
def rDcp : List V → Hp → VK → Prop := fun xs H Q => ∃ (a : Addr) (kvs : List (Key × V)), xs = [.ref a] ∧ Rd H a (.dK kvs) ∧ ∀ p, H p = none → Q (.ref p) (upd H p (.dK kvs))
theorem cr_dcp {X : Cx} : CallR X (.type "dict") rDcp := call_dictD
theorem sn_dcp (hw : SimW K FL T tw w) : SimN K FL T W (tCB rDcp (tCons tw tNil)) (nDcp w) := fun F α H H1 σ g r g' R h Q q => by
  obtain ⟨o, h1, h⟩ := bind_some h
  obtain ⟨kv, h2, h⟩ := bind_some h
  cases h
  obtain ⟨a, m1, m2⟩ := hw F α H H1 σ g o R h1
  obtain ⟨ws, d1, d2⟩ := R.dic h2 m1
  refine m2 _ ⟨a, ws, rfl, .inl d1, fun p hp => ?_⟩
  obtain ⟨f1, f2, f3⟩ := R.fresh hp
  exact q α H (upd H1 p (.dK ws)) p _ (R.same (Ex.new hp)) (Stp.refl _ _) upd_same f1 f2 f3 ⟨ws, rfl, d2⟩
/-- l[i] = v -/
def sLPutP (w : WM) (pi pv : PM) : SM := fun g => (pv g).bind fun v => (w g).bind fun o => (pi g).bind fun y => (asI y).bind fun k => (lstAt g o).bind fun ds => (ixN ds.length k).bind fun j => some (.nx, g.put o (.ownL (ds.set j v)))
theorem dtAll_set {H : Hp} : ∀ {xs : List V} {ds : List PyData}, DtAll K H xs ds → ∀ {v : V} {d : PyData}, Dt K H v d → ∀ j, DtAll K H (xs.set j v) (ds.set j d)
  | _, _, .nil, _, _, _, _ => .nil
  | _, _, .cons a r, _, _, h, 0 => .cons h r
  | _, _, .cons a r, _, _, h, j + 1 => .cons a (dtAll_set r h j)
theorem ss_lput (hw : SimW K FL T tw w) (hi : SimP K FL T ti pa) (hv : SimP K FL T te pb) : SimS K FL T W (tAsg te (gSub tw ti rSetL)) (sLPutP w pa pb) := fun F α H H1 σ g fl g' R h D kk => by
  obtain ⟨v, h1, h⟩ := bind_some h
  obtain ⟨o, h2, h⟩ := bind_some h
  obtain ⟨y, h3, h⟩ := bind_some h
  obtain ⟨k, h4, h⟩ := bind_some h
  obtain ⟨ds, h5, h⟩ := bind_some h
  obtain ⟨j, h6, h⟩ := bind_some h
  cases h
  refine hv F α H H1 σ g v R h1 _ fun u H2 Ha e2 ea xa da => ?_
  have R2 := R.grow e2 ea xa
  obtain ⟨a, k1, k2⟩ := hw F α Ha H2 σ g o R2 h2
  refine k2 _ (hi F α Ha H2 σ g y R2 h3 _ fun yv H3 Hb e3 eb xb db => ?_)
  have R3 := R2.grow e3 eb xb
  obtain ⟨xs, k3, k4⟩ := R3.lst h5 k1
  have hy : yv = .int k := by
    rw [asI_some h4] at db
    exact db.int_eq
  refine ⟨a, xs, k, j, rfl, hy, k3, by rw [k4.length]; exact h6, ?_⟩
  exact kk α Hb _ σ (R3.put k1 (lstAt_cont h5) (.inl ⟨_, rfl⟩) ⟨_, rfl, dtAll_set k4 (Dt.ex xb.ex da) j⟩)
end
end EV

/-! ### zip of a tuple and a list (own work) -/
namespace LR
open PySem PySem.Spec PyProof.Rows L2 Evl
/-- the tuple at a and the list at b as they stand at each turn, the items in new pairs -/
def ItzN (K : PySem.W.Frag) (a b : Addr) : It :=
  ⟨fun i H => ∃ (xs ys : List V) (x y : V), SqT K H a xs ∧ SqL K H b ys ∧ xs[i]? = some x ∧ ys[i]? = some y,
    fun i H v H' => ∃ T x y, v = .ref T ∧ H T = none ∧ H' = upd H T (.tup [x, y]) ∧ (∀ xs, SqT K H a xs → xs[i]? = some x) ∧ ∀ ys, SqL K H b ys → ys[i]? = some y,
    fun i H => ∃ xs ys : List V, SqT K H a xs ∧ SqL K H b ys ∧ i ≤ xs.length ∧ i ≤ ys.length ∧ (i = xs.length ∨ i = ys.length)⟩
theorem turn_zipN {P : Program} {w : World} {K : PySem.W.Frag} {elts : List Expr} {kk : Nat} {tpos : Pos} {a b z TI TO i1 i2 : Addr} (D : MApart z TI TO i1 i2 a b) :
    Turn P w K (.Tuple elts kk tpos) (ItzN K a b) [z, TI, TO, i1, i2] z (fun i h => IsZip h z TI TO .none ∧ IsTupOf2 h TI (.ref i1) (.ref i2) ∧ (∃ x y, IsTupOf2 h TO x y) ∧ h.IsTupleIter i1 a i ∧ h.IsListIter i2 b i) where
  mem := by simp
  obj := fun i h st c hc => by
    obtain ⟨hz, hTI, ⟨x, y, hTO⟩, ⟨o1, e1, _, d1⟩, ⟨o2, e2, _, d2⟩⟩ := st
    have e' : c = z ∨ c = TI ∨ c = TO ∨ c = i1 ∨ c = i2 := by simpa using hc
    rcases e' with q | q | q | q | q
    · rw [q]; exact ⟨_, hz, fun v q => nomatch q⟩
    · rw [q]; exact ⟨_, hTI, fun v q => nomatch q⟩
    · rw [q]; exact ⟨_, hTO, fun v q => nomatch q⟩
    · rw [q]; exact ⟨o1, e1, fun v q => by rw [d1] at q; cases q⟩
    · rw [q]; exact ⟨o2, e2, fun v q => by rw [d2] at q; cases q⟩
  keep := fun i h h' st k => by
    obtain ⟨hz, hTI, ⟨x, y, hTO⟩, h1, h2⟩ := st
    exact ⟨k z (by simp) _ hz, k TI (by simp) _ hTI, ⟨x, y, k TO (by simp) _ hTO⟩, h1.at fun o q => k i1 (by simp) o q, h2.at fun o q => k i2 (by simp) o q⟩
  item := by
    intro X hP hw hK hc i pins s σ H E I hf st hg
    subst hP hw hK
    obtain ⟨hz, hTI, ⟨x0, y0, hTO⟩, h1, h2⟩ := st
    obtain ⟨xs, ys, x, y, hqx, hqy, hx, hy⟩ := hg
    obtain ⟨its, rv, p, _⟩ := I.tuple hqx
    obtain ⟨its2, rv2, p2, _⟩ := I.list hqy
    obtain ⟨u, hu, ru⟩ := rv.get hx
    obtain ⟨u2, hu2, ru2⟩ := rv2.get hy
    have hzl : z < s.heap.objs.size := Heap.lt_size hz
    have hh : X.A.in1.in1.handled = none := by simpa using I.ok.hd hc
    have D1 := Draws.tuple (prog := X.prog) (w := X.w) (A := X.A.in1) (by simpa using I.ok.hd hc) i1 a D.ai1 its.toArray
    have D2 := Draws.list (prog := X.prog) (w := X.w) (A := X.A.in1) (by simpa using I.ok.hd hc) i2 b D.bi2 its2.toArray
    have lt1 : i < its.toArray.size := by simpa using (List.getElem?_eq_some_iff.mp hu).1
    have lt2 : i < its2.toArray.size := by simpa using (List.getElem?_eq_some_iff.mp hu2).1
    refine wpAny_pyNext_zipD2_item D.sep D1 D2 hz hTI hTO ⟨h1, p⟩ ⟨h2, p2.isList⟩ lt1 lt2 fun v1 v2 h' tk y1 y2 z' TO' st1 st2 hT hsz hk => ?_
    have e1 : v1 = u := by
      have : its[i]? = some v1 := by simpa using y1
      rw [hu] at this
      exact (Option.some.inj this).symm
    have e2 : v2 = u2 := by
      have : its2[i]? = some v2 := by simpa using y2
      rw [hu2] at this
      exact (Option.some.inj this).symm
    subst e1 e2
    refine ⟨_, rfl, wpAny_letOwnedTupleGo_zip (s := { s with heap := h', toks := tk }) z' fun h'' z'' sb => ?_⟩
    have hT2 : h''.get? s.heap.objs.size = some { cls := .type "tuple", data := .seq #[v1, v2] } := (sb.2 _ (Nat.ne_of_gt hzl)).trans hT
    have new : ObjOk X.prog X.w (upd H s.heap.objs.size (.tup [x, y])) h'' s.heap.objs.size (.tup [x, y]) :=
      ⟨by show 2 ≤ sizeLine; decide, [v1, v2], .cons ru (.cons ru2 .nil), ⟨_, hT2, rfl, _, rfl⟩⟩
    have I1 : Inv X pins σ (upd H s.heap.objs.size (.tup [x, y])) { s with heap := h'', toks := tk } :=
      I.turnedNew (t' := tk) (ch := [z, TI, TO, i1, i2]) (fun c o hb q => (sb.2 c (fun q' => hb (by simp [q']))).trans (hk c o (fun q' => hb (by simp [q'])) (fun q' => hb (by simp [q'])) (fun q' => hb (by simp [q'])) (fun q' => hb (by simp [q'])) q)) hf (Nat.le_refl _) new
    refine ⟨.ref s.heap.objs.size, _, I1, rfl, ⟨_, x, y, rfl, I.hok.fresh (Nat.le_refl _), rfl, fun l hl => by rw [I.tuple_inj hl hqx]; exact hx, fun l hl => by rw [I.list_inj hl hqy]; exact hy⟩, ⟨z'', ?_, ⟨v1, v2, ?_⟩, ?_, ?_⟩, fun c hcm => ?_⟩
    · exact (sb.2 _ D.TIz).trans (hk _ _ D.TIz D.TITO D.TIi1 D.TIi2 hTI)
    · exact (sb.2 _ D.TOz).trans TO'
    · exact st1.1.at fun o q => (sb.2 _ D.i1z).trans q
    · exact st2.1.at fun o q => (sb.2 _ D.i2z).trans q
    · have hlt : c < s.heap.objs.size := by
        have e' : c = z ∨ c = TI ∨ c = TO ∨ c = i1 ∨ c = i2 := by simpa using hcm
        rcases e' with q | q | q | q | q
        · rw [q]; exact hzl
        · rw [q]; exact Heap.lt_size hTI
        · rw [q]; exact Heap.lt_size hTO
        · rw [q]; obtain ⟨_, e1, _⟩ := h1; exact Heap.lt_size e1
        · rw [q]; obtain ⟨_, e2, _⟩ := h2; exact Heap.lt_size e2
      rw [upd_ne (Nat.ne_of_lt hlt)]
      exact (hf c hcm).1
  done := by
    intro X hP hw hK hc i pins s σ H E I hf st hg
    subst hP hw hK
    obtain ⟨hz, hTI, ⟨x0, y0, hTO⟩, h1, h2⟩ := st
    obtain ⟨xs, ys, hqx, hqy, le1, le2, hend⟩ := hg
    obtain ⟨its, rv, p, _⟩ := I.tuple hqx
    obtain ⟨its2, rv2, p2, _⟩ := I.list hqy
    have l1 := rv.length
    have l2 := rv2.length
    have D1 := Draws.tuple (prog := X.prog) (w := X.w) (A := X.A.in1) (by simpa using I.ok.hd hc) i1 a D.ai1 its.toArray
    have D2 := Draws.list (prog := X.prog) (w := X.w) (A := X.A.in1) (by simpa using I.ok.hd hc) i2 b D.bi2 its2.toArray
    have s1 : its.toArray.size = its.length := by simp
    have s2 : its2.toArray.size = its2.length := by simp
    refine wpAny_pyNext_zipD2_end D.sep D1 D2 hz hTI hTO ⟨h1, p⟩ ⟨h2, p2.isList⟩ (by omega) (by omega) (by omega) fun h' tk hk => ⟨rfl, I.turnedL (t' := tk) (ch := [z, TI, TO, i1, i2]) (fun c o hb q =>
      hk c o (fun q' => hb (by simp [q'])) (fun q' => hb (by simp [q'])) (fun q' => hb (by simp [q'])) (fun q' => hb (by simp [q'])) q) hf⟩
  self := fun A i s Q E st h => wpAny_pyIter_zip st.1 h
def iZipN (K : PySem.W.Frag) (ta : TA) : TI := fun σ H R => ta σ H fun vs H1 => ∃ a b xs ys, vs = [.ref a, .ref b] ∧ SqT K H1 a xs ∧ SqL K H1 b ys ∧ R (ItzN K a b) H1
theorem pi_zipN {X : Cx} {e e2 : Expr} {ta : TA} {p pos tpos : Pos} {elts : List Expr} {kk : Nat} (hg : Gl X "zip") (hm : X.mg "zip" = none) (ha : PA X [e, e2] ta)
    (hs : starEach [e, e2] X.env = (false, eval e X.env) :: starEach [e2] X.env := by rfl) (hpl : (backTo pos (starEach [e2] X.env)).any (·.1) = false := by rfl) :
    PI X (.Tuple elts kk tpos) (.Call (.Name "zip" p) [e, e2] [] pos) (iZipN X.K ta) := by
  refine ⟨fun pins s σ H R I h => ?_⟩
  refine Call_ (ld_blt I hg hm PyProof.Rows.boot_zip (PyProof.Rows.callWith_type1 (thn (ha.run pos pins s σ H _ I h) fun us s1 ⟨vs, H1, I1, r1, q1⟩ => ?_) hs hpl))
  obtain ⟨a, b, xs, ys, ex, hqx, hqy, q⟩ := q1
  subst ex
  cases r1 with
  | cons r rr =>
    cases rr with
    | cons r' rr =>
      cases rr
      cases r
      cases r'
      have fresh5 : ∀ c, c ∈ [s1.heap.objs.size + 4, s1.heap.objs.size + 2, s1.heap.objs.size + 3, s1.heap.objs.size, s1.heap.objs.size + 1] → FpOk X pins H1 c := fun c hcm => by
        have e' : c = s1.heap.objs.size + 4 ∨ c = s1.heap.objs.size + 2 ∨ c = s1.heap.objs.size + 3 ∨ c = s1.heap.objs.size ∨ c = s1.heap.objs.size + 1 := by simpa using hcm
        have hle : s1.heap.objs.size ≤ c := by omega
        exact I1.fpOk hle (I1.hok.fresh hle)
      obtain ⟨its, rv, p1, _⟩ := I1.tuple hqx
      obtain ⟨its2, rv2, p2, _⟩ := I1.list hqy
      obtain ⟨o1, ho1, _⟩ := id p1
      refine zip_begins2 (begins_tuple a its.toArray) (begins_list b its2.toArray) (show s1.heap.IsTuple a its.toArray from p1) p2.isList fun h' hz hTI hTO h1 h2 hsz hk => wpAny_pyIter_zip hz ?_
      have I2 : Inv X pins σ H1 { s1 with heap := h' } := I1.kept (t' := s1.toks) hk
      exact ⟨s1.heap.objs.size + 4, [s1.heap.objs.size + 4, s1.heap.objs.size + 2, s1.heap.objs.size + 3, s1.heap.objs.size, s1.heap.objs.size + 1], _, _, H1, rfl, I2, turn_zipN (mapart (Heap.lt_size ho1) p2.lt), ⟨hz, hTI, ⟨_, _, hTO⟩, ⟨_, h1, rfl, rfl⟩, ⟨_, h2, rfl, rfl⟩⟩, fresh5, q⟩
theorem pi_zipNK {X : Cx} {K : PySem.W.Frag} {e e2 : Expr} {ta : TA} {p pos tpos : Pos} {elts : List Expr} {kk : Nat} (hK : X.K = K) (hg : Gl X "zip") (hm : X.mg "zip" = none) (ha : PA X [e, e2] ta)
    (hs : starEach [e, e2] X.env = (false, eval e X.env) :: starEach [e2] X.env := by rfl) (hpl : (backTo pos (starEach [e2] X.env)).any (·.1) = false := by rfl) :
    PI X (.Tuple elts kk tpos) (.Call (.Name "zip" p) [e, e2] [] pos) (iZipN K ta) := hK ▸ pi_zipN hg hm ha hs hpl
section
variable {K : PySem.W.Frag} {a b : Addr} {xs ys : List V}
theorem walk_zipN {n : Nat} (hn : n = min xs.length ys.length) : Walk (ItzN K a b) n (fun H => SqT K H a xs ∧ SqL K H b ys) (YPair (fun i => xs[i]?) (fun i => ys[i]?)) := by
  refine ⟨fun i H hi h => ?_, fun H h => ?_, fun i H v H' hi h y => ?_⟩
  · have l1 : i < xs.length := by omega
    have l2 : i < ys.length := by omega
    exact ⟨xs, ys, _, _, h.1, h.2, List.getElem?_eq_getElem l1, List.getElem?_eq_getElem l2⟩
  · exact ⟨xs, ys, h.1, h.2, by omega, by omega, by omega⟩
  · obtain ⟨T, x, y, e1, e2, e3, e4, e5⟩ := y
    exact ⟨T, x, y, e1, e2, e3, e4 xs h.1, e5 ys h.2⟩
end
end LR
namespace EV
open PySem PySem.Spec PyProof.Rows L2 Evl L2H LamX LR
section
variable {K : PySem.W.Frag} {FL : Fl} {T : TbS} {ta tb : TE} {pa pb : PM}
def iZipTL (a b : PM) : IM := fun g => (a g).bind fun d => (b g).bind fun e => match d, e with
  | .tuple ds, .list es => some (zipD ds es)
  | _, _ => none
theorem si_zipTL (ha : SimP K FL T ta pa) (hb : SimP K FL T tb pb) : SimI K FL T (iZipN K (tCons ta (tCons tb tNil))) (iZipTL pa pb) := fun F α H H1 σ g out R h Rk k => by
  obtain ⟨d, h1, h⟩ := bind_some h
  obtain ⟨e, h2, h3⟩ := bind_some h
  refine ha F α H H1 σ g d R h1 _ fun u H2 Ha e2 ea xa da => hb F α Ha H2 σ g e (R.grow e2 ea xa) h2 _ fun v H3 Hb e3 eb xb db => ?_
  have da' := Dt.ex xb.ex da
  have fin : ∀ {J G}, (∀ H4, Ex Hb H4 → G H4) → Walk J out.length G (YI K out Hb) → Rk J H3 := fun hG w => k _ _ H3 Hb (e2.trans e3) eb (xa.trans e2 xb) hG w
  split at h3
  · rename_i ds es
    cases h3
    obtain ⟨a, xs, rfl, ha, ra⟩ := da'.tup_eq
    obtain ⟨b, ys, rfl, hb, rb⟩ := db.lst_eq
    refine ⟨a, b, xs, ys, rfl, ex_t eb ha, sq_of (eb b _ hb), fin (G := fun H3 => Ex Hb H3) (fun H3 e3 => e3) ?_⟩
    rw [zip_len]
    refine (walk_zipN (K := K) (a := a) (b := b) (xs := xs) (ys := ys) (by rw [ra.length, rb.length])).mono (fun H3 e3 => ⟨ex_t e3 ha, sq_of (e3 b _ hb)⟩) fun i H3 v H4 hi e3 z => ?_
    obtain ⟨Tt, x, y, h1, h2, h3, h4, h5⟩ := z
    obtain ⟨d, q1, q2⟩ := ra.get' h4
    obtain ⟨d', q3, q4⟩ := rb.get' h5
    exact zip_yi h1 h2 h3 q1 q3 q2 q4
  · cases h3
end
end EV

/-! ### EV: [e == d[x] for x in d], d a dict of one's own (own work) -/
namespace EV
open PySem PySem.Spec PyProof.Rows L2 Evl L2H LamX LR
theorem tabs_swap {T : List (Addr × Str)} {H : Hp} {a : Addr} {o o' : HO} (t : Tabs T H) (ha : H a = some o) (h1 : ∀ ps, o ≠ .tbl ps) (h2 : ∀ φ, o ≠ .ext φ) : Tabs T (upd H a o') := fun p hp => by
  obtain ⟨ps, k1, k2, k3⟩ := t p hp
  refine ⟨ps, upd_keep (fun e => by rw [e, ha] at k1; cases k1; exact h1 ps rfl) k1, k2, fun pos cv hc => ?_⟩
  obtain ⟨c, e1, e2⟩ := k3 pos cv hc
  exact ⟨c, e1, upd_keep (fun e => by rw [e, ha] at e2; exact h2 _ (Option.some.inj e2)) e2⟩
theorem upd_back {H : Hp} {a : Addr} {o : HO} (h : H a = some o) : upd H a o = H := by
  funext b
  by_cases c : b = a
  · subst c; rw [upd_same, h]
  · rw [upd_ne c]
theorem upd_comm {H : Hp} {a b : Addr} {o u : HO} (h : a ≠ b) : upd (upd H a o) b u = upd (upd H b u) a o := by
  funext c
  by_cases c1 : c = a
  · subst c1; rw [upd_ne h, upd_same, upd_same]
  · by_cases c2 : c = b
    · subst c2; rw [upd_same, upd_ne c1, upd_same]
    · rw [upd_ne c2, upd_ne c1, upd_ne c1, upd_ne c2]
section
variable {K : PySem.W.Frag} {FL : Fl} {T : TbS} {W : WX} {te : TE} {ma : EM}
/-- an unowned thing of the frame is another -/
theorem Rel.swap {F F2 : Fr} {α : Al} {H H1 : Hp} {σ : L2.St} {g : Sg} {a : Addr} {o o' : HO} (R : Rel K FL T F α H H1 σ g) (hp : H1 a = some o) (h1 : ∀ ps, o ≠ .tbl ps) (h2 : ∀ φ, o ≠ .ext φ) (hH : H a = none) (hn : ∀ ow, α ow ≠ some a) (e0 : F2.H0 = F.H0) (e1 : F2.a0 = F.a0) (hB : ∀ b, b ≠ a → F2.B b = F.B b) (hBa : F2.B a = some o') (hBo : F.B a = some o) (ho' : ∀ ps, o' ≠ .tbl ps) : Rel K FL T F2 α H (upd H1 a o') σ g := by
  have oth : ∀ {ow b}, α ow = some b → ∀ u, H1 b = some u → upd H1 a o' b = some u := fun {ow b} hb u hu => upd_keep (fun e => hn ow (e ▸ hb)) hu
  refine ⟨⟨ex_off R.ex hH, R.nt, tabs_swap R.tb hp h1 h2, R.inj, R.off, fun ow b hb => ?_, fun i ob hs => ?_, R.dom⟩, ⟨by rw [e0]; exact R.ext.ex, fun b u h => ?_⟩, fun b u h => ?_, fun hT b ps h => ?_, fun ow b hb => ?_, fun i b h => R.old i b (by rw [← e1]; exact h), R.len, fun j v hj => ?_⟩
  · obtain ⟨u, hu, pu⟩ := R.pl ow b hb
    exact ⟨u, oth hb u hu, pu⟩
  · obtain ⟨b, k1, k2⟩ := R.sto i ob hs
    exact ⟨b, k1, k2.ex (Ex.refl _) (fun _ _ z => z) (fun f c z => ⟨z, oth z⟩) (oth k1)⟩
  · rcases R.ext.fresh b u h with z | ⟨z, y⟩
    · exact .inl (by rw [e0]; exact z)
    · refine .inr ⟨?_, y⟩
      rw [hB b (fun e => by rw [e, hBo] at z; cases z)]
      exact z
  · by_cases c : b = a
    · subst c; rw [hBa] at h; cases h; exact upd_same
    · rw [hB b c] at h; rw [upd_ne c]; exact R.gro b u h
  · by_cases c : b = a
    · subst c; rw [hBa] at h; exact ho' ps (Option.some.inj h)
    · rw [hB b c] at h; exact R.ntB hT b ps h
  · rw [hB b (fun e => hn ow (e ▸ hb))]
    exact R.offB ow b hb
  · obtain ⟨u, k1, k2⟩ := R.slt j v hj
    exact ⟨u, k1, k2.ex (Ex.refl _) (fun _ _ z => z) fun b z => ⟨z, oth z⟩⟩
theorem base_upd {α : Al} {H1 : Hp} {a b : Addr} {o : HO} (h : b ≠ a) : baseOf α (upd H1 a o) b = baseOf α H1 b := by
  unfold baseOf
  rw [upd_ne h]
def lcEq1 (x : Nat) (el : EM) (kv : List (Key × PyData)) (g : Sg) (k : Key) : Option (PyData × Sg) := (gmName x (keyV k) (g.inner [x])).bind fun g1 => (el g1).bind fun q => match q.1 with
  | .ok (.dat z) => (valD kv k).bind fun v => (fEq z v).map fun b => (b, ⟨g.sl, q.2.st⟩)
  | _ => none
def lcEqA (x : Nat) (el : EM) (kv : List (Key × PyData)) : List Key → List PyData → Sg → Option (List PyData × Sg)
  | [], acc, g => some (acc, g)
  | k :: r, acc, g => (lcEq1 x el kv g k).bind fun q => lcEqA x el kv r (acc ++ [q.1]) q.2
def mLcEqD (x j : Nat) (el : EM) : EM := fun g => (wVar j g).bind fun o => match o with
  | .slot i => (dicAt g (.slot i)).bind fun kv => if kv.length ≤ 50000 ∧ x ≠ j ∧ i = j ∧ x < g.sl.length then (lcEqA x el kv (kv.map (·.1)) [] g).map fun p => (.ok (.dat (.list p.1)), p.2) else none
  | _ => none
theorem key_dt {H : Hp} (k : Key) : Dt K H (kV k) (keyV k) := by
  cases k with
  | inl i => exact .int i
  | inr z => exact .str z
theorem se_lcEqD {x j : Nat} (hT : T.fl = true) (he : SimE K FL T W0 te ma) : SimE K FL T W (tLockE (tLc (iKeys (tVar j)) (gName x) tYes (tOp (rEqU K) te (tDGet (tVar j) (tVar x))) [x])) (mLcEqD x j ma) := fun F α H H1 σ g r g' R h Q q => by
  obtain ⟨o, h0, h⟩ := bind_some h
  cases o with
  | ob i => cases h
  | fld i f => cases h
  | slot i =>
    obtain ⟨kv, h2, h⟩ := bind_some (show (dicAt g (.slot i)).bind _ = some (r, g') from h)
    have h : (if kv.length ≤ 50000 ∧ x ≠ j ∧ i = j ∧ x < g.sl.length then (lcEqA x ma kv (kv.map (·.1)) [] g).map (fun p => (Except.ok (Rv.dat (.list p.1)), p.2)) else none) = some (r, g') := h
    by_cases hc : kv.length ≤ 50000 ∧ x ≠ j ∧ i = j ∧ x < g.sl.length
    case neg => rw [if_neg hc] at h; cases h
    rw [if_pos hc] at h
    have h3 := h
    obtain ⟨hl, hxj, rfl, hxg⟩ := hc
    obtain ⟨⟨out, g2⟩, h4, h5⟩ := Option.map_eq_some_iff.mp h3
    cases h5
    have hs : g.sl[i]? = some (some (.ownD kv)) := by
      have hc := dicAt_cont h2
      unfold contAt at hc
      cases hk : g.sl[i]? with
      | none => simp only [hk] at hc; cases hc
      | some y =>
        cases y with
        | none => simp only [hk] at hc; cases hc
        | some z => simp only [hk] at hc; cases hc; rfl
    obtain ⟨u0, k1, a, rfl, k2, ws, k3, k4⟩ := R.slt i _ hs
    have hHa := R.off _ a k2
    have ki : KvI K H ws kv := KvR.i k4
    refine ⟨a, .dK ws, k3, trivial, fun od => ?_⟩
    have ntD : ∀ ps, HO.dK ws ≠ .tbl ps := fun ps z => nomatch z
    have ntF : ∀ ps, HO.frz od (.dK ws) ≠ .tbl ps := fun ps z => nomatch z
    have nxD : ∀ φ, HO.dK ws ≠ .ext φ := fun ps z => nomatch z
    have nxF : ∀ φ, HO.frz od (.dK ws) ≠ .ext φ := fun ps z => nomatch z
    refine ⟨.ref a, k1, a, od, rfl, .inl ⟨ws, upd_same, fun Dl hD => ?_⟩⟩
    have hDa : Dl ≠ a := fun e => by rw [e, upd_same] at hD; cases hD
    have hD1 : H1 Dl = none := by rw [upd_ne hDa] at hD; exact hD
    obtain ⟨f1, f2, f3⟩ := R.fresh hD1
    refine lc_it (walk_keys (d := a) (o := od) (kvs := ws))
      (fun n Hr => ∃ α' H' acc dn gi, Rel K FL T F α' H' (upd Hr a (.dK ws)) σ gi ∧ Stp α H α' H' ∧ Hr a = some (.frz od (.dK ws)) ∧ H' Dl = none ∧ Hr Dl = some (.lst acc) ∧ (∀ o, α' o ≠ some Dl) ∧ DtAll K H' acc dn ∧ acc.length ≤ n ∧ lcEqA x ma kv ((kv.map (·.1)).drop n) dn gi = some (out, g2)) ?_ ?_ ?_ ?_
    · refine ⟨α, H, [], [], g, ?_, Stp.refl _ _, by rw [upd_ne (Ne.symm hDa), upd_same], f1, upd_same, f3, .nil, Nat.le_refl _, h4⟩
      rw [upd_comm hDa, upd_upd, upd_back k3]
      exact R.same (Ex.new hD1)
    · rintro n Hr hn ⟨α', H', acc, dn, gi, a1, a2, a3, _⟩
      exact a3
    · rintro n xv Hr H3 hn ⟨α', H', acc, dn, gi, a1, a2, a3, a4, a5, a6, a7, a8, a9⟩ ⟨rfl, k, v, y1, rfl⟩
      have sa : α' (.slot i) = some a := (a2.sl i).trans k2
      have ne : ∀ ow, stoA α' ow ≠ some a := stoA_ne a1.inj sa
      have hH'a : H' a = none := a1.off _ a sa
      have hU : upd H3 a (.dK ws) a = some (.dK ws) := upd_same
      have lock : upd (upd H3 a (.dK ws)) a (.frz od (.dK ws)) = H3 := by rw [upd_upd, upd_back a3]
      have Ri : Rel K FL T ⟨H', baseOf (stoA α') H3, fun i => stoA α' (.ob i)⟩ (stoA α') H' H3 (L2.wipe σ [x]) (gi.inner [x]) := by
        have := (a1.inner [x]).swap (F2 := ⟨H', baseOf (stoA α') H3, fun i => stoA α' (.ob i)⟩) (o' := .frz od (.dK ws)) hU ntD nxD hH'a ne rfl rfl (fun b hb => by
          show baseOf (stoA α') H3 b = baseOf (stoA α') (upd H3 a (.dK ws)) b
          rw [base_upd hb]) (base_at ne ntF a3) (base_at ne ntD hU) ntF
        rw [lock] at this
        exact this
      have hk : (kv.map (·.1)).drop n = k :: (kv.map (·.1)).drop (n + 1) := by
        rw [← ki.keys]
        have hlen : n < (ws.map (·.1)).length := by rw [List.length_map]; exact hn
        rw [List.drop_eq_getElem_cons hlen]
        have e : (ws.map (·.1))[n]? = some k := by rw [List.getElem?_map, y1]; rfl
        rw [List.getElem?_eq_getElem hlen] at e
        rw [Option.some.inj e]
      rw [hk] at a9
      obtain ⟨⟨b, gn⟩, e1, e2⟩ := bind_some a9
      obtain ⟨g1, e3, e4⟩ := bind_some e1
      obtain ⟨⟨rb, g5⟩, e5, e6⟩ := bind_some e4
      obtain ⟨σ2, R2, w2, q2⟩ := sg_name _ _ H' H3 (L2.wipe σ [x]) (gi.inner [x]) g1 (kV k) (keyV k) Ri (key_dt k) e3
      show (fun σ2 H2 => L2.wipe σ2 [x] = L2.wipe σ [x] ∧ _) ((L2.wipe σ [x]).set x (some (kV k))) H3
      have hσ2 : L2.wipe ((L2.wipe σ [x]).set x (some (kV k))) [x] = L2.wipe σ [x] := by
        rw [wipe_set (by simp)]
        show (L2.wipe (σ.set x none) [x]) = _
        rw [wipe_set (by simp)]
      have R2' : Rel K FL T ⟨H', baseOf (stoA α') H3, fun i => stoA α' (.ob i)⟩ (stoA α') H' H3 ((L2.wipe σ [x]).set x (some (kV k))) g1 := by
        cases e3
        exact Ri.set x (key_dt k)
      refine ⟨hσ2, ?_⟩
      unfold tYes
      dsimp only
      rw [if_pos rfl]
      cases rb with
      | error er => cases e6
      | ok vv =>
        cases vv with
        | at_ ow => cases e6
        | dat z =>
          obtain ⟨v', e7, e8⟩ := bind_some (show (valD kv k).bind _ = some (b, gn) from e6)
          obtain ⟨bb, e9, e10⟩ := Option.map_eq_some_iff.mp e8
          cases e10
          refine he _ _ H' H3 _ g1 _ g5 R2' e5 _ fun α5 Hf H5 u R5 s5 ru => ?_
          have frz5 : H5 a = some (.frz od (.dK ws)) := R5.gro a _ (base_at ne ntF a3)
          have sj : ((L2.wipe σ [x]).set x (some (kV k)))[i]? = some (some (.ref a)) := by
            rw [List.getElem?_set_ne hxj]
            show ((σ.set x none))[i]? = _
            rw [List.getElem?_set_ne hxj]
            exact k1
          have hxl : x < σ.length := by
            rw [R.len]
            exact hxg
          have sx : ((L2.wipe σ [x]).set x (some (kV k)))[x]? = some (some (kV k)) := by
            rw [List.getElem?_set_self]
            show x < (σ.set x none).length
            rw [List.length_set]
            exact hxl
          rcases (ki.val k) with ⟨_, z0⟩ | ⟨v2, d2, z1, z2, z3⟩
          · rw [e7] at z0; cases z0
          · rw [e7] at z2
            cases z2
            refine ⟨.ref a, sj, kV k, sx, a, v2, rfl, .inl ⟨ws, k, .inr ⟨od, frz5⟩, rfl, z1.symm⟩, ?_⟩
            refine od_eq z v' b e9 Hf Hf u v2 (Ex.refl _) ru (Dt.ex (a2.ex.trans s5.ex) z3) H5 R5.ex _ fun w H6 Hg e6' eg xg dw => ?_
            have R6 := R5.grow e6' eg xg
            have frz6 : H6 a = some (.frz od (.dK ws)) := e6' a _ frz5
            have hnb : baseOf (stoA α') H3 a = some (.frz od (.dK ws)) := base_at ne ntF a3
            have n5 : ∀ ow, α5 ow ≠ some a := fun ow hw => by
              have z : baseOf (stoA α') H3 a = none := R6.offB ow a hw
              rw [hnb] at z
              cases z
            have hga : Hg a = none := R6.frm.of a _ hH'a a3 ne ntF
            have R7 : Rel K FL T ⟨H', baseOf (stoA α') (upd H3 a (.dK ws)), fun i => stoA α' (.ob i)⟩ α5 Hg (upd H6 a (.dK ws)) _ g5 := R6.swap frz6 ntF nxF hga n5 rfl rfl (fun b hb => base_upd hb) (base_at ne ntD hU) hnb ntD
            have fm := R7.frm
            obtain ⟨z1', z2'⟩ := a1.call hT R7.toRelS.sto_only fm
            have uD : upd H3 a (.dK ws) Dl = some (.lst acc) := by rw [upd_ne hDa]; exact a5
            have neD : ∀ ow, stoA α' ow ≠ some Dl := fun ow h => a6 ow (stoA_sub h)
            have lD : ∀ ps, HO.lst acc ≠ .tbl ps := fun ps z => nomatch z
            have hD6 := fm.fr Dl _ uD neD lD
            have hgD := fm.of Dl _ a4 uD neD lD
            have h6D : H6 Dl = some (.lst acc) := by rw [upd_ne hDa] at hD6; exact hD6
            have z5 : ∀ ow, merge α' (stoA α5) ow ≠ some Dl := fun ow h => by
              cases ow with
              | slot j => exact a6 _ h
              | ob m =>
                rcases fm.nw (.ob m) Dl h with ⟨o', z⟩ | z | ⟨qs, z⟩
                · exact neD o' z
                · rw [uD] at z; cases z
                · rw [uD] at z; cases z
              | fld m f =>
                rcases fm.nw (.fld m f) Dl h with ⟨o', z⟩ | z | ⟨qs, z⟩
                · exact neD o' z
                · rw [uD] at z; cases z
                · rw [uD] at z; cases z
            refine ⟨acc, h6D, sz_lt (by have := ki.len; omega), merge α' (stoA α5), Hg, acc ++ [w], dn ++ [b], _, ?_, a2.trans z2', ?_, hgD, upd_same, z5, (DtAll.ex z2'.ex a7).append (.cons dw .nil), ?_, e2⟩
            · rw [upd_comm hDa]
              exact z1'.upd0 hD6 trivial hgD f2 z5
            · rw [upd_ne (Ne.symm hDa)]; exact frz6
            · rw [List.length_append]
              exact Nat.succ_le_succ a8
    · rintro Hr ⟨α', H', acc, dn, gi, a1, a2, a3, a4, a5, a6, a7, a8, a9⟩
      have hn : (kv.map (·.1)).drop ws.length = [] := by
        rw [ki.len]
        exact List.drop_eq_nil_of_le (by rw [List.length_map]; exact Nat.le_refl _)
      rw [hn] at a9
      cases a9
      refine ⟨a3, ?_⟩
      obtain ⟨R2, hx⟩ := a1.lay f2 a4 (by rw [upd_ne hDa]; exact a5) a6
      exact q α' _ _ _ R2 (a2.trans (Stp.of hx)) (.lst upd_same (DtAll.ex hx a7))
end
end EV

/-! ### EV: o.m() whose parameter has a default (own work) -/
namespace LR
open PySem PySem.Spec PyProof.Rows L2
/-- an empty tuple of the top -/
def tupE (a : PySem.W.Frag → Addr) (K : PySem.W.Frag) : Bool := match K.lookup (a K) with
  | some o => (match o.cls, o.data with
    | .type n, .seq its _ => decide (n = "tuple") && decide (its.toList = [])
    | _, _ => false)
  | none => false
theorem tupE_ok {a : PySem.W.Frag → Addr} {K : PySem.W.Frag} (h : tupE a K = true) (H : Hp) : SqT K H (a K) [] := by
  unfold tupE at h
  cases e : K.lookup (a K) with
  | none => rw [e] at h; cases h
  | some o =>
    rw [e] at h
    have h : (match o.cls, o.data with
      | .type n, .seq its _ => decide (n = "tuple") && decide (its.toList = [])
      | _, _ => false) = true := h
    split at h
    · rename_i n its m h1 h2
      rw [Bool.and_eq_true] at h
      have e1 := of_decide_eq_true h.1
      have e2 := of_decide_eq_true h.2
      subst e1
      exact .inr ⟨o, its, m, e, h1, h2, by have := congrArg List.length e2; simp at this; simp [this], by rw [e2]; exact .nil⟩
    · cases h
end LR
namespace EV
open PySem PySem.Spec PyProof.Rows L2 Evl L2H LamX LR
structure MxD (P : Program) (w : World) (K : PySem.W.Frag) (C : Addr) (mg : Str → Option Value) (base : Heap) (k : Nat) (m : Str) (ps : List Str) (sp : Sp) (dvs : List V) : Prop where
  ex : ∃ (f : Addr) (fd : FuncData) (ds : List Value), FnOk P w K mg base (CXL P w) k f fd ps sp ∧ Meth K C m f ∧ Binds K fd ps ds ∧ Vals dvs ds
section
variable {X : Cx} {k j : Nat} {ps : List Str} {sp : Sp} {W : WX} {apos pos : Pos} {o : Expr} {ta : TE} {dvs : List V}
theorem pe_mxGD {C : Addr} {m : Str} {pl : Sem Bool} (hx : ∀ σ, PassesAt (CXL X.prog X.w) X σ (WE W σ)) (c : MxD X.prog X.w X.K C X.mg X.base k m ps sp dvs) (hC : Cls X.K C) (hr : Room j X.A) (hk : k ≤ j) (ho : PE X o ta)
    (ht : eval (.Call (.Attribute o m apos) [] [] pos) X.env = (do
      let ov ← eval o X.env
      standAt apos.atName
      let (f, first) ← holding [ov] (getMethod ov m pl)
      callWith pos f first (backTo pos (starEach [] X.env)) (backToKw pos (keywordEach [] X.env))) := by rfl) :
    PE X (.Call (.Attribute o m apos) [] [] pos) (tMethW C m sp (WE W) ta (fun _ H Q => Q dvs H)) := by
  obtain ⟨f, fd, ds, F, hm, b, vd⟩ := c.ex
  refine ⟨fun pins s σ H Q I h => ?_⟩
  refine PySem.W.methodCall_KW (pl := pl) (thn (ho.run pins s σ H _ I h) fun u s1 ⟨x, H1, I1, rx, a, dx, fs, ex, ea, l, q⟩ => ?_) ht
  subst ex
  obtain rfl : u = Value.ref a := rx
  refine getmeth_ok I1 ea hC hm l ?_
  exact PySem.W.callWith_K0 (first := [.ref a]) I1.kIn hm.kp (run_fnSD (us := [.ref a]) (vs := [.ref a]) F (hr.mono hk) b vd (hx σ) I1 (.cons rfl .nil) q)
end
section
variable {K : PySem.W.Frag} {FL : Fl} {T : TbS} {W : WX} {dvs : List V}
def aDfl (ds : List PyData) : AM := fun g => some (.ok (ds.map .dat), g)
theorem paired_dat {α : Al} {H : Hp} : ∀ {vs : List V} {ds : List PyData}, DtAll K H vs ds → Paired (RR K α H) vs (ds.map .dat)
  | _, _, .nil => .nil
  | _, _, .cons a r => .cons a (paired_dat r)
theorem sa_dfl {ds : List PyData} (h : ∀ H, DtAll K H dvs ds) : SimA K FL T W (fun _ H Q => Q dvs H) (aDfl ds) := fun F α H H1 σ g r g' R hm Q q => by
  cases hm
  exact q α H H1 dvs R (Stp.refl _ _) (paired_dat (h H))
end
end EV

/-! ### an exception out of a list comprehension (own work; the block's run follows the kit's lc_core) -/
namespace LcX
open PySem PySem.Spec PyProof.Rows L2
section
variable {M : Model} {A : Around} {E : Value → Shared → Prop} {s : Shared} {env : Env}
def compPostX (M : Model) (A : Around) (E : Value → Shared → Prop) (Q : Value → Shared → Prop) (acc : Value) (C : Addr) (fr : Option Addr) (r : Result) (s' : Shared) : Prop :=
  match r with
  | .ok _ => ∃ m, s'.heap.Ns C m ∧ ∀ h', Heap.SameBut C s'.heap h' → Q acc { s' with heap := h' }
  | .error x => ∃ m, s'.heap.Ns C m ∧ ∀ h', Heap.SameBut C s'.heap h' → ∀ cenv : Env, cenv.locals = C → cenv.frame = fr → wpAny M A (passOn "comprehension.variables-let-go" x cenv : Sem Value) (fun _ _ => False) E { s' with heap := h' }
theorem wpAny_comprehension_freeX {e : Expr} {scope : Scope} {pos : Pos} {newAcc first : Sem Value} {g : Comprehension} {gs : List Comprehension} {cl : List (Str × Addr)} {Q : Value → Shared → Prop}
    (hcl : clausesOf e = g :: gs) (hs : ∀ x, foldedSetIterable g.iter env x = pure x) (hclos : closureFor scope env = pure cl)
    (hkind : scope.kind = .function) (hnames : ∀ x ∈ scope.names, x.2 = .local → scope.names.lookup x.1 = some .local)
    (h : wpAny M A first (fun x s₁ => wpAny M A (pyIter x) (fun it s₂ => wpAny M A newAcc (fun acc s₃ =>
      wpAny M A (newFunctionEnv scope env.globals cl [] env.qual none .none (some env)) (fun cenv s₄ =>
        codeAny M A (.compStart e 0 it acc { cenv with scope := relabel scope env }) (compPostX M A E Q acc cenv.locals cenv.frame) s₄) E s₃) E s₂) E s₁) E s) :
    wpAny M A (comprehension e scope env pos newAcc false first none) Q E s := by
  unfold comprehension
  rw [hclos, hcl]
  refine wpAny_bind (wpAny_mono h (fun x s₁ h₁ => wpAny_bind (wpAny_standAt (wpAny_bind (wpAny_of_eq (hs x) (wpAny_bind (wpAny_holding (wpAny_mono h₁ (fun it s₂ h₂ =>
    wpAny_standIf (wpAny_bind (wpAny_mono h₂ (fun acc s₃ h₃ => wpAny_bind (wpAny_pure (wpAny_bind (wpAny_mono h₃ (fun cenv s₄ h₄ => ?_) fun _ _ h' => h')))) fun _ _ h' => h')))
      fun _ _ h' => h'))))))) fun _ _ h' => h')
  dsimp only
  have hv : ∀ x ∈ (scope.names.filter fun x => (x.2 == .local || x.2 == .cell) && x.1 != (".0" : Str)).reverse, x.2 = .local →
      Env.kindOf { cenv with scope := relabel scope env } x.1 = some .local := fun x hx hl => lookup_relabel_local (hnames x (List.mem_filter.mp (List.mem_reverse.mp hx)).1 hl)
  refine wpAny_holding (wpAny_bind (wpAny_attempt (wpAny_holding (wpAny_run (codeAny_mono h₄ fun r s' hr => ?_)))))
  cases r with
  | ok f =>
    obtain ⟨m, hn, hr⟩ := hr
    exact wpAny_bind (wpAny_holding (wpAny_comp_letGo (cenv := { cenv with scope := relabel scope env }) hkind _ s' m hv hn fun h' m' _ hs' => wpAny_pure (hr h' hs')))
  | error x =>
    obtain ⟨m, hn, hr⟩ := hr
    exact wpAny_bind (wpAny_holding (wpAny_comp_letGo (cenv := { cenv with scope := relabel scope env }) hkind _ s' m hv hn fun h' m' _ hs' => wpAny_mono (hr h' hs' _ rfl rfl) (fun _ _ f => f.elim) fun _ _ y => y))
end
/-- a call's exception, in the air: the state without it -/
theorem of_callF {X : Cx} {pins : List (Addr × Obj)} {σ : L2.St} {H : Hp} {s s' : Shared} {E : XK} {u : Value} (I : Inv X pins σ H s) (c : L2N.CX X.prog X.w X.stack H s E u s') :
    ∃ (a : Addr) (B : Heap) (sI : Shared) (H' : Hp) (cls : Value) (d : Option Addr), u = .ref a ∧ Inv X pins σ H' sI ∧ (∀ b o, sI.heap.get? b = some o → b ∉ frs X.stack → B.get? b = some o) ∧ sI.heap.UpToSlots s'.heap ∧
      HandSPX.FlyingZ B X.stack a (L2N.Zn cls d) s'.heap ∧ H' a = none ∧ s'.os = sI.os ∧ AllBare s'.gens ∧ E cls d H' := by
  obtain ⟨a, B, H', cls, d, rfl, fl, hok, ub, na, os, ag, hE⟩ := c
  obtain ⟨G, g1, g2⟩ := restrict s'.heap fun b => (B.get? b).isSome || decide (b ∈ frs X.stack)
  have st : B.StaysIn s'.heap := fl.1
  have gB : ∀ b o, B.get? b = some o → G.get? b = some o := fun b o e => by
    rw [g1 b (by simp [e])]
    exact st b o e
  have gF : ∀ b, b ∈ frs X.stack → G.get? b = s'.heap.get? b := fun b hb => g1 b (by simp [hb])
  have og : ∀ b o, G.get? b = some o → s'.heap.get? b = some o ∧ ((B.get? b).isSome = true ∨ b ∈ frs X.stack) := fun b o e => by
    cases q : ((B.get? b).isSome || decide (b ∈ frs X.stack)) with
    | false => rw [g2 b q] at e; cases e
    | true =>
      rw [g1 b q] at e
      exact ⟨e, by simpa [Bool.or_eq_true] using q⟩
  refine ⟨a, B, { s with heap := G, gens := s'.gens, drawn := s'.drawn, toks := s'.toks }, H', cls, d, rfl, ?_, fun b o e hb => ?_, Heap.UpToSlots.of_keeps fun b o e => (og b o e).1, fl, na, os, ag, hE⟩
  · refine I.call (ch := []) ⟨fun b o e n hb _ => gB b o (ub.keep b o e n hb), fun b o e n hb _ => ?_, fun b o e n _ => ub.free b o e n, fun b o e _ => ?_, ub.tups, ub.frzs, ub.tbls⟩ (hok.kept gB) ag (fun _ z => nomatch z)
    · obtain ⟨sl, q⟩ := ub.slot b o e hb
      exact ⟨sl, by rw [gF b hb]; exact q⟩
    · by_cases hb : b ∈ frs X.stack
      · obtain ⟨sl, q⟩ := ub.slot b o e hb
        exact ⟨_, by rw [gF b hb]; exact q⟩
      · obtain ⟨o', q⟩ := ub.there b o e hb
        exact ⟨o', gB b o' q⟩
  · obtain ⟨e', h⟩ := og b o e
    rcases h with h | h
    · obtain ⟨o', q⟩ := Option.isSome_iff_exists.mp h
      have z := st b o' q
      rw [e'] at z; cases z
      exact q
    · exact absurd h hb
theorem note_env {e : Value} {env env' : Env} (h : env'.frame = env.frame) : noteFrame e env' = noteFrame e env := by
  unfold noteFrame PySem.frameOf
  rw [h]
/-- held, but for one object: the ground without it -/
theorem held_hide {B : Heap} {l : List Env} {a C L : Addr} {Z : Obj → Prop} {h h' : Heap} (hh : HandSPX.HeldZ B l a Z L h) (sb : Heap.SameBut C h h') (hC : C ∉ frs l) (hCd : ∀ o vs, h.get? C = some o → o.data ≠ .fields vs) : HandSPX.HeldZ (PySem.W.hideAll B [C]) l a Z L h' := by
  obtain ⟨k1, k2, k3, oe, vs, T, oT, ts, he, hz, hd, h1, hnT, hTe, hT, hdT, h3⟩ := hh
  have ne : ∀ b o vs, h.get? b = some o → o.data = .fields vs → b ≠ C := fun b o vs e dd z => by
    subst z
    exact hCd o vs e dd
  have hide : ∀ b, B.get? b = none → (PySem.W.hideAll B [C]).get? b = none := fun b e => by
    cases q : (PySem.W.hideAll B [C]).get? b with
    | none => rfl
    | some o => rw [PySem.W.of_hideAll _ q] at e; cases e
  refine ⟨fun b o e => ?_, hide a k2, ?_, oe, vs, T, oT, ts, ?_, hz, hd, h1, hide T hnT, hTe, ?_, hdT, h3⟩
  · have c : b ≠ C := fun z => by
      subst z
      rw [PySem.W.hideAll_none [b] (by simp)] at e
      cases e
    rw [sb.2 b c]
    exact k1 b o (PySem.W.of_hideAll _ e)
  · have fr : ∀ {l : List Env}, (C ∉ frs l) → h.FunFrames B l → h'.FunFrames (PySem.W.hideAll B [C]) l := by
      intro l
      induction l with
      | nil => intro _ _; trivial
      | cons e r ih =>
        intro hc hf
        obtain ⟨f1, ⟨L', o, f2, f3, f4, f5⟩, f6⟩ := hf
        have cl : L' ≠ C := fun z => hc (List.mem_filterMap.mpr ⟨e, List.mem_cons_self, by rw [f2, z]⟩)
        exact ⟨f1, ⟨L', o, f2, hide L' f3, by rw [sb.2 L' cl]; exact f4, f5⟩, ih (fun z => hc (by
          obtain ⟨q, hq, hq2⟩ := List.mem_filterMap.mp z
          exact List.mem_filterMap.mpr ⟨q, List.mem_cons_of_mem _ hq, hq2⟩)) f6⟩
    exact fr hC k3
  · rw [sb.2 a (ne a oe vs he hd)]; exact he
  · rw [sb.2 T (ne T oT ts hT hdT)]; exact hT
section
variable {X : Cx}
/-- what is raised within the block is in the def's air -/
theorem blk_raise {pins : List (Addr × Obj)} {σ : L2.St} {H3 : Hp} {s3 : Shared} {W : WX} {Q : Value → Shared → Prop} {acc : Value} {scope : Scope} {ce : Env} {fp : List Addr} {pn : List (Addr × Obj)}
    (hs : X.stack = X.env :: X.outer) (hf : X.env.frame = some X.env.locals) (tk : L2N.Takes X W) (hW : ∀ cls d σ σ' H, W cls d σ H → W cls d σ' H)
    (I3 : Inv X pins σ H3 s3) (f3 : ∀ b ∈ fp, FpOk X pins H3 b ∧ b < s3.heap.objs.size) (cL : ce.locals = s3.heap.objs.size) (cF : ce.frame = X.env.frame) (pnE : pn = [] ++ pn)
    (xe : Value → Shared → Prop) (hxe : xe = notedBy (model X.prog X.w) X.A ce fun e s' => compPostX (model X.prog X.w) X.A X.xe Q acc s3.heap.objs.size X.env.frame (.error e) s') (τ : L2.St) :
    PassesAt (L2N.CX X.prog X.w) ((X.blk s3 H3 scope ce fp).tr pn xe) τ (WE W τ) := by
  intro pinsx Hx sx u s' J c
  obtain ⟨a, B, sI, H', cls, d, rfl, JI, nb, up, fl, na, os, ag, w⟩ := of_callF (X := (X.blk s3 H3 scope ce fp).tr pn xe) J c
  show xe (.ref a) s'
  rw [hxe]
  show wpAny _ _ (noteFrame (.ref a) ce) _ _ s'
  rw [note_env cF]
  have hfr : X.A.frames = some (X.env :: X.outer) := by rw [I3.ok.frames, hs]
  have fl' : HandSPX.FlyingZ B (X.env :: X.outer) a (L2N.Zn cls d) s'.heap := by rw [← hs]; exact fl
  refine PXN.looks_onZ L2N.Zn.steady hfr hf fl' fun h1 hh up1 => ?_
  have J3 := JI.landed (s' := { s' with heap := h1 }) nb hh.1 (up.trans up1) os ag
  obtain ⟨m, hn, _⟩ := J3.loc
  have hn : h1.Ns ce.locals m := hn
  rw [cL] at hn
  refine ⟨m, hn, fun h' sb cenv e1 e2 => ?_⟩
  have J7 : Inv X pins σ H' sI := I3.call' (ch := fp) JI.os JI.base JI.hok JI.bare fun b hb => ⟨(f3 b hb).1.2.2.2.1, (f3 b hb).1.2.1, (f3 b hb).1.2.2.2.2.1, (f3 b hb).1.2.2.2.2.2⟩
  have nC : H' s3.heap.objs.size = none := by
    have z : H' ce.locals = none := JI.free
    rw [cL] at z
    exact z
  obtain ⟨p0, p1, p2, p3, p4, p5⟩ := I3.fpOk (Nat.le_refl _) nC
  have Cfr : s3.heap.objs.size ∉ frs (X.env :: X.outer) := fun z => by
    rw [← hs] at z
    rcases List.mem_cons.mp (I3.stkSub _ z) with q | q
    · exact p1 q
    · exact p2 q
  have J8 : Inv X pins σ H' { sI with heap := PySem.W.hideAll sI.heap [s3.heap.objs.size] } := J7.turned (t' := sI.toks) (fun b o hb e => PySem.W.hideAll_get _ e (by simpa using hb)) p0 p1 p3 p4 p5
  have Cd : ∀ o vs, h1.get? s3.heap.objs.size = some o → o.data ≠ .fields vs := fun o vs e dd => by
    obtain ⟨o2, es, ep, e2, k2, _⟩ := hn
    rw [e] at e2
    cases e2
    rw [dd] at k2
    cases k2
  have hh2 := held_hide hh sb Cfr Cd
  obtain ⟨q1, q2, q3, q4⟩ := hh2
  obtain ⟨oe, vs, T, oT, ts, he, hz, hd, hv1, hnT, hTe, hT, hdT, hv3⟩ := id q4
  unfold PySem.passOn
  refine wpAny_bind (wpAny_field he hd hv1 ?_)
  rw [if_neg (show ¬ ((Value.ref T == Value.none) = true) from by simp)]
  have fin : wpAny (model X.prog X.w) X.A (setFlight (.ref a) cenv.frame) (fun _ s4 => wpAny (model X.prog X.w) X.A (throw (.ref a) : Sem Value) (fun _ _ => False) X.xe s4) X.xe { s' with heap := h' } := by
    rw [e2, hf]
    refine HandSPX.setFlight_anyZ q1 q3 q4 fun h4 r1 r2 r3 r4 => wpAny_throw (tk _ _ ?_)
    refine ⟨a, PySem.W.hideAll B [s3.heap.objs.size], { sI with heap := PySem.W.hideAll sI.heap [s3.heap.objs.size] }, pins, σ, H', cls, d, rfl, J8, fun b o e hb => ?_, fun b o e hnf => ?_, .inr (.inr (by rw [hs]; exact ⟨r1, q2, r2, r3⟩)), na, os, ag, hW _ _ _ _ _ w⟩
    · have c : b ≠ s3.heap.objs.size := fun z => by
        subst z
        rw [PySem.W.hideAll_none _ (by simp)] at e
        cases e
      exact PySem.W.hideAll_get _ (nb b o (PySem.W.of_hideAll _ e) hb) (by simpa using c)
    · have c : b ≠ s3.heap.objs.size := fun z => by
        subst z
        rw [PySem.W.hideAll_none _ (by simp)] at e
        cases e
      obtain ⟨sl, z1⟩ := (up.trans up1) b o (PySem.W.of_hideAll _ e) hnf
      have z2 : h'.get? b = some { o with slots := sl } := by rw [sb.2 b c]; exact z1
      obtain ⟨sl2, z3⟩ := r4 b _ z2 hnf
      exact ⟨sl2, z3⟩
  first
    | exact wpAny_bind (wpAny_pure (wpAny_bind fin))
    | exact wpAny_bind fin
end
end LcX

/-! ### [e for .. in ..], e may raise (own work; the run of the block follows the kit's lc_core) -/
namespace LcX
open PySem PySem.Spec PyProof.Rows L2
section
variable {X : Cx}
theorem pe_lcX {elt tg iter : Expr} {ifs : List Expr} {scope : Scope} {own : List (Str × Nat)} {pos : Pos} {wi : TI} {g : TG} {tt : TT} {te : TE} {W : WX} (hst : X.stack = X.env :: X.outer) (hfm : X.env.frame = some X.env.locals) (tk : L2N.Takes X W) (hW : ∀ cls d σ σ' H, W cls d σ H → W cls d σ' H)
    (hc : X.calm = true) (hN : X.N.Nodup) (hi : PI X tg iter wi) (ok : BlkOk X.N X.env.scope scope own)
    (hg : ∀ (s : Shared) (H : Hp) (C : Addr) (cl : List (Str × Addr)) (fp : List Addr), PG (X.blk s H scope (compEnvC scope cl C X.env) fp) tg g) (ht : ∀ (s : Shared) (H : Hp) (C : Addr) (cl : List (Str × Addr)) (fp : List Addr), PTs (X.blk s H scope (compEnvC scope cl C X.env) fp) ifs tt)
    (he : ∀ (s : Shared) (H : Hp) (C : Addr) (cl : List (Str × Addr)) (fp : List Addr) (pn : List (Addr × Obj)) (xe : Value → Shared → Prop), (∀ τ, PassesAt (L2N.CX X.prog X.w) ((X.blk s H scope (compEnvC scope cl C X.env) fp).tr pn xe) τ (WE W τ)) → PE ((X.blk s H scope (compEnvC scope cl C X.env) fp).tr pn xe) elt te)
    (hs : ∀ x, foldedSetIterable iter X.env x = pure x := by intro _; rfl) :
    PE X (.ListComp elt [⟨tg, iter, ifs, 0⟩] scope pos) (tLc wi g tt te (own.map (·.2))) := by
  refine ⟨fun pins s σ H Q I h => ?_⟩
  rw [eval_ListComp]
  have hfree : ∀ y ∈ scope.names, y.2 = .free → ∃ c, X.env.cells.lookup y.1 = some c := fun y hy e => by
    rcases ok.free y hy e with k | k
    · exact I.ok.has _ (.inl k)
    · exact I.ok.has _ (.inr k)
  refine wpAny_comprehension_freeX rfl hs (closure_ok hfree) ok.kind (fun y hy e => by rw [ok.uniq y hy, e])
    (thn (hi.run pins s σ H _ I h) fun xv s1 hx => thn hx fun itv s2 h2 => ?_)
  obtain ⟨it, fp, tn, J, H2, e, I2, T, st2, f2, q⟩ := h2
  subst e
  refine wpAny_newObj_type (newEnv_comp ?_) (by show 0 ≤ sizeLine; decide)
  generalize hD : s2.heap.objs.size = D
  have hDn : H2 D = none := I2.hok.fresh (Nat.le_of_eq hD)
  obtain ⟨Wt, ⟨m0, w0⟩, turn⟩ := q D hDn
  generalize hs3 : ({ s2 with heap := s2.heap.push { cls := .type "list", data := .seq ([] : List Value).toArray } } : Shared) = s3
  have I3 : Inv X pins σ (upd H2 D (.lst [])) s3 := by
    rw [← hs3]
    refine I2.laid (t' := s2.toks) (fun b o e => Heap.get?_push_of_some _ e) (Nat.le_of_eq hD) ⟨Nat.zero_le _, [], 0, .nil, ?_⟩
    rw [← hD]
    exact Heap.get?_push_size _ rfl
  have h3 : s3.heap = s2.heap.push { cls := .type "list", data := .seq ([] : List Value).toArray } := by rw [← hs3]
  have sz : ∀ b ∈ fp, b < s2.heap.objs.size := fun b hb => by
    obtain ⟨o, e, _⟩ := T.obj _ _ st2 b hb
    exact Heap.lt_size e
  have f3 : ∀ b ∈ fp, FpOk X pins (upd H2 D (.lst [])) b ∧ b < s3.heap.objs.size := fun b hb => by
    have hlt := sz b hb
    refine ⟨⟨?_, (f2 b hb).2⟩, by rw [h3, Heap.size_push]; exact Nat.lt_succ_of_lt hlt⟩
    rw [upd_ne (by rw [← hD]; exact Nat.ne_of_lt hlt)]
    exact (f2 b hb).1
  have st3 : tn 0 s3.heap := T.keep _ _ _ st2 fun b _ o e => by rw [h3]; exact Heap.get?_push_of_some _ e
  have I4 := block_start I3 ok hN f3
  have pg := hg s3 (upd H2 D (.lst [])) s3.heap.objs.size (cellsFrom (s3.heap.objs.size + 1) scope.names (cloFrom X.env.cells scope.names [])) fp
  have pt := ht s3 (upd H2 D (.lst [])) s3.heap.objs.size (cellsFrom (s3.heap.objs.size + 1) scope.names (cloFrom X.env.cells scope.names [])) fp
  have pe := he s3 (upd H2 D (.lst [])) s3.heap.objs.size (cellsFrom (s3.heap.objs.size + 1) scope.names (cloFrom X.env.cells scope.names [])) fp
  show codeAny _ _ (.compStart (.ListComp elt [⟨tg, iter, ifs, 0⟩] scope pos) 0 (.ref it) (.ref D) (compEnvC scope (cellsFrom (s3.heap.objs.size + 1) scope.names (cloFrom X.env.cells scope.names [])) s3.heap.objs.size X.env)) (compPostX (model X.prog X.w) X.A X.xe (EP X pins σ Q) (.ref D) s3.heap.objs.size X.env.frame) { s3 with heap := pushCells (s3.heap.push { cls := .type "dict", data := .dict #[] }) scope.names }
  have nfp : ∀ b ∈ fp, (upd H2 D (.lst [])) b = none := fun b hb => (f3 b hb).1.1
  generalize hce : compEnvC scope (cellsFrom (s3.heap.objs.size + 1) scope.names (cloFrom X.env.cells scope.names [])) s3.heap.objs.size X.env = ce at I4 pg pt pe ⊢
  have cL : ce.locals = s3.heap.objs.size := by subst hce; rfl
  have cF : ce.frame = X.env.frame := by subst hce; rfl
  generalize hH3 : upd H2 D (.lst []) = H3 at I3 I4 pg pt pe w0 nfp f3
  generalize hs4 : ({ s3 with heap := pushCells (s3.heap.push { cls := .type "dict", data := .dict #[] }) scope.names } : Shared) = s4 at I4 ⊢
  have st4 : tn 0 s4.heap := T.keep _ _ _ st3 fun b _ o e => by rw [← hs4]; exact pushCells_keeps _ _ _ _ (Heap.get?_push_of_some _ e)
  have stat : ∀ {σ' : L2.St} {H' : Hp} {s' : Shared}, Inv (X.blk s3 H3 scope ce fp) [] σ' H' s' → (∀ b ∈ fp, H' b = none) → ∀ b ∈ fp, FpOk (X.blk s3 H3 scope ce fp) [] H' b := fun {σ' H' s'} I' hn b hb =>
    ⟨hn b hb, (I'.ok.exf b hb).1, I'.ok.exfs b hb, .inl hb, fun x c e => (I'.ok.exf b hb).2 x c e, fun p hp => absurd (show p ∈ ([] : List (Addr × Obj)) ++ [] from hp) (by simp)⟩
  have loop : codeAny (model X.prog X.w) X.A (.compLoop (.ListComp elt [⟨tg, iter, ifs, 0⟩] scope pos) 0 (.ref it) (.ref D) ce) (compPostX (model X.prog X.w) X.A X.xe (EP X pins σ Q) (.ref D) s3.heap.objs.size X.env.frame) s4 := by
    refine compLoop_any (fun n s' => ∃ i H', Inv (X.blk s3 H3 scope ce fp) [] (wipe σ (own.map (·.2))) H' s' ∧ tn i s'.heap ∧ (∀ b ∈ fp, H' b = none) ∧ Wt i n H') ?_ m0 ⟨0, H3, I4, st4, nfp, w0⟩
    rintro n s5 ⟨i, H5, I5, st5, n5, w5⟩
    rcases turn i n H5 w5 with ⟨stop, qq⟩ | ⟨go, Nx, hNx, step⟩
    · have td := T.done (X.blk s3 H3 scope ce fp) rfl rfl rfl hc i [] s5 _ H5 (fun _ _ => False) I5 (stat I5 n5) st5 stop
      refine thnF td fun r s6 ⟨hr, I6⟩ => ?_
      subst hr
      have I7 : Inv X pins σ H5 s6 := I3.call' (ch := fp) I6.os I6.base I6.hok I6.bare fun b hb => ⟨(f3 b hb).1.2.2.2.1, (f3 b hb).1.2.1, (f3 b hb).1.2.2.2.2.1, (f3 b hb).1.2.2.2.2.2⟩
      have nC : H5 s3.heap.objs.size = none := by
        have z : H5 ce.locals = none := I6.free
        rw [cL] at z
        exact z
      obtain ⟨m, hn, _⟩ := I6.loc
      have hn : s6.heap.Ns ce.locals m := hn
      rw [cL] at hn
      refine ⟨m, hn, fun h'' sb => ?_⟩
      obtain ⟨g0, g1, g2, g3, g4, g5⟩ := I3.fpOk (Nat.le_refl _) nC
      exact ⟨.ref D, H5, I7.turned (t' := s6.toks) (fun b o hb e => (sb.2 b hb).trans e) g0 g1 g3 g4 g5, rfl, qq⟩
    · have ti := T.item (X.blk s3 H3 scope ce fp) rfl rfl rfl hc i [] s5 _ H5 (fun _ _ => False) I5 (stat I5 n5) st5 go
      refine thnF ti fun r s6 ⟨u, hr, h6⟩ => ?_
      subst hr
      refine thnF h6 fun _ s7 ⟨x, H7, I7, r7, y7, st7, n7⟩ => ?_
      have I7' := I7.pinned (stat I7 n7) (T.obj _ _ st7)
      refine thnF (pg.run _ s7 _ H7 x u _ I7' r7 (step x H7 y7)) fun _ s8 ⟨σ8, H8, I8, hw8, q8⟩ => ?_
      refine thnF (pt.run _ s8 σ8 H8 _ I8 q8) fun b s9 ⟨H9, I9, q9⟩ => ?_
      have fin : ∀ {s' : Shared} {H' : Hp}, Inv (X.blk s3 H3 scope ce fp) ([] ++ pinsAt fp s7.heap) σ8 H' s' → Nx H' → ∃ m, m < n ∧ ∃ i H', Inv (X.blk s3 H3 scope ce fp) [] (wipe σ (own.map (·.2))) H' s' ∧ tn i s'.heap ∧ (∀ b ∈ fp, H' b = none) ∧ Wt i m H' := fun {s' H'} I' nx => by
        obtain ⟨m', hm, w'⟩ := hNx H' nx
        have pin' : ∀ b ∈ fp, ∀ o, s7.heap.get? b = some o → s'.heap.get? b = some o ∧ H' b = none := fun b hb o e =>
          let z := I'.pin (b, o) (List.mem_append_right _ (List.mem_append_right _ (mem_pinsAt hb e)))
          ⟨z.1, z.2.1⟩
        have hl : (wipe σ (own.map (·.2))).length = σ8.length := by rw [← hw8, wipe_length]
        refine ⟨m', hm, i + 1, H', (I'.unpinned (pins := [])).weak hl (fun j v e => ?_), T.keep _ _ _ st7 fun b hb o e => (pin' b hb o e).1, fun b hb => ?_, w'⟩
        · rw [← hw8] at e
          exact (wipe_some e).1
        · obtain ⟨o, e, _⟩ := T.obj _ _ st7 b hb
          exact (pin' b hb o e).2
      cases b with
      | false =>
        simp only [Bool.false_eq_true, if_false] at q9 ⊢
        exact fin I9 q9
      | true =>
        simp only [if_true] at q9 ⊢
        generalize hxe : (notedBy (model X.prog X.w) X.A ce fun e s' => compPostX (model X.prog X.w) X.A X.xe (EP X pins σ Q) (.ref D) s3.heap.objs.size X.env.frame (.error e) s') = xe
        have pr := pe ((X.blk s3 H3 scope ce fp).pn ++ ([] ++ pinsAt fp s7.heap)) xe fun τ => blk_raise (Q := EP X pins σ Q) (acc := .ref D) hst hfm tk hW I3 f3 cL cF rfl xe hxe.symm τ
        refine wpAny_mono (pr.run [] s9 σ8 H9 _ (I9.toTry xe) q9) (fun z s10 ⟨yv, H10, I10, r10, acc, hD10, hz10, nx⟩ => ?_) fun _ _ hz => hz
        exact app_ok (X := X.blk s3 H3 scope ce fp) (I10.ofTry I9.ok) hD10 hz10 r10 fun s11 I11 => fin I11 nx
  exact codeAny_compStart_list loop (T.self X.A 0 _ _ _ st4 loop)
end
end LcX

/-! ### EV: comprehensions whose parts do something and may raise (own work) -/
namespace EV
open PySem PySem.Spec PyProof.Rows L2 Evl L2H LamX LR
def lcOneX (gm : GM) (t : BM) (el : EM) (vs : List Nat) (g : Sg) (d : PyData) : Option (Except Str (Option PyData) × Sg) := (gm d (g.inner vs)).bind fun g1 => (t g1).bind fun p => match p.1 with
  | .error _ => none
  | .ok b => if b = true then (el p.2).bind fun q => match q.1 with
    | .ok (.dat z) => some (.ok (some z), ⟨g.sl, q.2.st⟩)
    | .ok (.at_ _) => none
    | .error x => some (.error x, ⟨g.sl, q.2.st⟩) else some (.ok none, ⟨g.sl, p.2.st⟩)
def lcAllX (gm : GM) (t : BM) (el : EM) (vs : List Nat) : List PyData → List PyData → Sg → Option (Except Str (List PyData) × Sg)
  | [], acc, g => some (.ok acc, g)
  | d :: ds, acc, g => (lcOneX gm t el vs g d).bind fun p => match p.1 with
    | .ok (some z) => lcAllX gm t el vs ds (acc ++ [z]) p.2
    | .ok none => lcAllX gm t el vs ds acc p.2
    | .error x => some (.error x, p.2)
section
variable {K : PySem.W.Frag} {FL : Fl} {T : TbS} {W : WX} {tt : TT} {te : TE} {ba : BM} {ma : EM}
theorem lcx_new {wi : TI} {tg : TG} {gm : GM} {it : IM} {vs : List Nat} (hT : T.fl = true) (hi : SimI K FL T wi it) (hg : SimG K FL T tg gm vs) (ht : SimB K FL T W0 tt ba) (he : SimE K FL T W te ma) (hW : ∀ cls d σ σ' H, W cls d σ H → W cls d σ' H)
    {F : Fr} {α : Al} {H H1 : Hp} {σ : L2.St} {g g' : Sg} {r : Except Str (List PyData)} {ds : List PyData} (R : Rel K FL T F α H H1 σ g) (h1 : it g = some ds) (hl : ds.length ≤ 50000) (h3 : lcAllX gm ba ma vs ds [] g = some (r, g')) (Q : VK)
    (q : ∀ out, r = .ok out → ∀ p α' H' H2 xs, Rel K FL T F α' H' H2 σ g' → Stp α H α' H' → F.B p = none → H' p = none → H2 p = some (.lst xs) → (∀ o, α' o ≠ some p) → DtAll K H' xs out → Q (.ref p) H2)
    (qe : ∀ x, r = .error x → ∀ α' H' H2, Rel K FL T F α' H' H2 σ g' → Stp α H α' H' → W (.ref (gaE K x)) none σ H2) : tLc wi tg tt te vs σ H1 Q := by
  refine hi F α H H1 σ g ds R h1 _ fun J G H2 Hb e2 eb xb hG w Dl hD => ?_
  have R0 := R.grow e2 eb xb
  obtain ⟨f1, f2, f3⟩ := R0.fresh hD
  refine lc_it (w.mono (G' := fun H3 => Ex Hb H3) (fun H3 e3 => hG H3 e3) fun _ _ _ _ _ _ y => y)
    (fun i Hr => ∃ α' H' acc dn gi, Rel K FL T F α' H' Hr σ gi ∧ Stp α Hb α' H' ∧ H' Dl = none ∧ Hr Dl = some (.lst acc) ∧ (∀ o, α' o ≠ some Dl) ∧ DtAll K H' acc dn ∧ acc.length ≤ i ∧ lcAllX gm ba ma vs (ds.drop i) dn gi = some (r, g')) ?_ ?_ ?_ ?_
  · exact ⟨α, Hb, [], [], g, R0.same (Ex.new hD), Stp.refl _ _, f1, upd_same, f3, .nil, Nat.le_refl _, h3⟩
  · rintro i Hr hi ⟨α', H', acc, dn, gi, a1, a2, _⟩
    exact a2.ex.trans a1.ex
  · rintro i x Hr H3 hi ⟨α', H', acc, dn, gi, a1, a2, a3, a4, a5, a6, a7, a8⟩ ⟨y1, d, y2, y3⟩
    obtain ⟨Hc, c1, c2, c3⟩ := y3 H' a2.ex a1.ex
    have Rc := a1.grow y1 c2 c1
    have hd : ds.drop i = d :: ds.drop (i + 1) := by
      rw [List.drop_eq_getElem_cons hi]
      obtain ⟨_, e⟩ := List.getElem?_eq_some_iff.mp y2
      rw [e]
    rw [hd] at a8
    obtain ⟨⟨o, gn⟩, k1, k2⟩ := bind_some a8
    obtain ⟨g1, k3, k4⟩ := bind_some k1
    obtain ⟨⟨rb, g2⟩, k5, k6⟩ := bind_some k4
    have nD : Hc Dl = none := c1.off a3 a4
    obtain ⟨σ2, R2, w2, q2⟩ := hg _ _ Hc H3 (L2.wipe σ vs) (gi.inner vs) g1 x d (Rc.inner vs) c3 k3
    refine q2 _ ⟨?_, ?_⟩
    · rw [w2 vs fun _ h => h]
      have idem : ∀ (ws : List Nat) (τ : L2.St), (∀ v ∈ ws, v ∈ vs) → L2.wipe (L2.wipe τ ws) vs = L2.wipe τ vs := by
        intro ws
        induction ws with
        | nil => intro τ _; rfl
        | cons v r ih => intro τ hv; show L2.wipe ((L2.wipe τ r).set v none) vs = _; rw [wipe_set (hv v List.mem_cons_self), ih τ fun x hx => hv x (List.mem_cons_of_mem _ hx)]
      exact idem vs σ fun _ h => h
    · cases rb with
      | error e => cases k6
      | ok b =>
        refine ht _ _ Hc H3 σ2 g1 _ g2 R2 k5 _ fun α3 Hd H4 R3 s3 => ?_
        have ne : ∀ ow, stoA α' ow ≠ some Dl := fun ow h => a5 ow (stoA_sub h)
        have back : ∀ {α5 : Al} {Hf H5 : Hp} {g5 : Sg}, Rel K FL T ⟨Hc, baseOf (stoA α') H3, fun i => stoA α' (.ob i)⟩ α5 Hf H5 σ2 g5 → ∃ α6, Rel K FL T F α6 Hf H5 σ ⟨gi.sl, g5.st⟩ ∧ Stp α Hb α6 Hf ∧ Hf Dl = none ∧ H5 Dl = some (.lst acc) ∧ (∀ ow, α6 ow ≠ some Dl) ∧ DtAll K Hf acc dn := fun {α5 Hf H5 g5} R5 => by
          have fm := R5.frm
          obtain ⟨z1, z2⟩ := Rc.call hT R5.toRelS.sto_only fm
          have h3D : H3 Dl = some (.lst acc) := y1 Dl _ a4
          refine ⟨merge α' (stoA α5), z1, (a2.trans (Stp.of c1.ex)).trans z2, fm.of Dl _ nD h3D ne (fun ps z => by cases z), fm.fr Dl _ h3D ne (fun ps z => by cases z), fun ow h => ?_, DtAll.ex (c1.ex.trans z2.ex) a6⟩
          cases ow with
          | slot j => exact a5 _ h
          | ob n =>
            rcases fm.nw (.ob n) Dl h with ⟨o', z⟩ | z | ⟨qs, z⟩
            · exact ne o' z
            · rw [h3D] at z; cases z
            · rw [h3D] at z; cases z
          | fld n f =>
            rcases fm.nw (.fld n f) Dl h with ⟨o', z⟩ | z | ⟨qs, z⟩
            · exact ne o' z
            · rw [h3D] at z; cases z
            · rw [h3D] at z; cases z
        cases b with
        | false =>
          cases k6
          obtain ⟨α6, z1, z2, z3, z4, z5, z6⟩ := back R3
          exact ⟨α6, Hd, acc, dn, _, z1, z2, z3, z4, z5, z6, Nat.le_succ_of_le a7, k2⟩
        | true =>
          obtain ⟨⟨rv, g5⟩, k7, k8⟩ := bind_some (show (ma g2).bind _ = some (o, gn) from k6)
          cases rv with
          | error e =>
            cases k8
            cases k2
            refine he _ _ Hd H4 σ2 g2 _ g5 R3 k7 _ fun α5 Hf H5 R5 s5 => ?_
            obtain ⟨α6, z1, z2, _⟩ := back R5
            exact hW _ _ _ _ _ (qe e rfl α6 Hf H5 z1 ((Stp.of xb.ex).trans z2))
          | ok v =>
            cases v with
            | at_ ow => cases k8
            | dat z =>
              cases k8
              refine he _ _ Hd H4 σ2 g2 _ g5 R3 k7 _ fun α5 Hf H5 u R5 s5 ru => ?_
              obtain ⟨α6, z1, z2, z3, z4, z5, z6⟩ := back R5
              refine ⟨acc, z4, sz_lt (by omega), α6, Hf, acc ++ [u], dn ++ [z], _, z1.upd0 z4 trivial z3 f2 z5, z2, z3, upd_same, z5, z6.append (.cons ru .nil), ?_, k2⟩
              rw [List.length_append]
              exact Nat.succ_le_succ a7
  · rintro Hr ⟨α', H', acc, dn, gi, a1, a2, a3, a4, a5, a6, a7, a8⟩
    rw [List.drop_length] at a8
    cases a8
    exact q _ rfl Dl α' H' Hr acc a1 ((Stp.of xb.ex).trans a2) f2 a3 a4 a5 a6
def mLcX (it : IM) (gm : GM) (t : BM) (el : EM) (vs : List Nat) : EM := fun g => (it g).bind fun ds => if ds.length ≤ 50000 then (lcAllX gm t el vs ds [] g).map fun p => (match p.1 with
  | .ok zs => .ok (.dat (.list zs))
  | .error x => .error x, p.2) else none
theorem se_lcX {wi : TI} {tg : TG} {gm : GM} {it : IM} {vs ws : List Nat} (hT : T.fl = true) (hi : SimI K FL T wi it) (hg : SimG K FL T tg gm vs) (ht : SimB K FL T W0 tt ba) (he : SimE K FL T W te ma) (hW : ∀ cls d σ σ' H, W cls d σ H → W cls d σ' H) (hv : ws = vs := by rfl) : SimE K FL T W (tLc wi tg tt te ws) (mLcX it gm ba ma vs) := fun F α H H1 σ g r g' R h Q q => by
  subst hv
  obtain ⟨ds, h1, h2⟩ := bind_some h
  have h2 : (if ds.length ≤ 50000 then (lcAllX gm ba ma ws ds [] g).map (fun p => ((match p.1 with
    | .ok zs => Except.ok (Rv.dat (.list zs))
    | .error x => .error x), p.2)) else none) = some (r, g') := h2
  split at h2
  · rename_i hl
    obtain ⟨⟨rr, g2⟩, h3, h4⟩ := Option.map_eq_some_iff.mp h2
    cases rr with
    | ok out =>
      cases h4
      refine lcx_new hT hi hg ht he hW R h1 hl h3 Q (fun out' e p α' H' H2 xs R' s hB hH hp hn dt => ?_) fun x e => nomatch e
      cases e
      obtain ⟨R2, hx⟩ := R'.lay hB hH hp hn
      exact q α' _ H2 _ R2 (s.trans (Stp.of hx)) (.lst upd_same (DtAll.ex hx dt))
    | error x =>
      cases h4
      exact lcx_new hT hi hg ht he hW R h1 hl h3 Q (fun out' e => nomatch e) fun x' e α' H' H2 R' s => by
        cases e
        exact q α' H' H2 R' s
  · cases h2
end
end EV

/-! ### x, *y = a list or a tuple (own work) -/
namespace StU
open PySem PySem.Spec PyProof.Rows L2
section
variable {prog : Program} {w : World} {A : Around} {E : Value → Shared → Prop} {s : Shared}
theorem walks_listFrom (hh : A.handled = none) {it l : Addr} {items : Array Value} (hne : l ≠ it) (k : Nat) (hk : k ≤ items.size) : Walks prog w A it [it, l] [it] (items.size - k) (fun i v => items[k + i]? = some v) (fun i h => h.IsListIter it l (k + i) ∧ h.IsList l items) where
  sub := by simp
  frame := fun i h h' st hk => ⟨st.1.at fun o e => hk it (by simp) o e, st.2.at fun o e => hk l (by simp) o e⟩
  item := fun i s Q E hi st hQ => by
    have hlt : k + i < items.size := by omega
    refine wpAny_pyNext_list_item st.1 st.2 (x := items[k + i]) (by simp [hlt]) fun h' hit' hs => ?_
    exact hQ _ h' s.toks (by simp [hlt]) ⟨hit', st.2.extBut hs.extBut hne⟩ fun b o hb e => (hs.2 b (by simpa using hb)).trans e
  done := fun s Q E st hQ => by
    refine wpAny_pyNext_list_end hh st.1 st.2 (by rw [show k + (items.size - k) = items.size by omega]; simp) fun h' he => ?_
    exact hQ h' s.toks fun b o hb e => he b o (by simpa using hb) e
  self := fun _ _ _ _ st hQ => wpAny_pyIter_listiter st.1 hQ
theorem walks_tupFrom (hh : A.handled = none) {it l : Addr} {items : Array Value} (hne : l ≠ it) (k : Nat) (hk : k ≤ items.size) (self : ∀ (i : Nat) (s : Shared) (Q : Value → Shared → Prop) (E : Value → Shared → Prop), IsTupIter s.heap it l i → Q (.ref it) s → wpAny (model prog w) A (pyIter (.ref it)) Q E s) : Walks prog w A it [it, l] [it] (items.size - k) (fun i v => items[k + i]? = some v) (fun i h => IsTupIter h it l (k + i) ∧ IsTup h l items) where
  sub := by simp
  frame := fun i h h' st hk => ⟨let ⟨o, ho, r⟩ := st.1; ⟨o, hk it (by simp) o ho, r⟩, let ⟨o, ho, r⟩ := st.2; ⟨o, hk l (by simp) o ho, r⟩⟩
  item := fun i s Q E hi st hQ => by
    have hlt : k + i < items.size := by omega
    refine next_tuple_item st.1 st.2 (x := items[k + i]) (by simp [hlt]) fun h' hit' hs => ?_
    exact hQ _ h' s.toks (by simp [hlt]) ⟨hit', st.2.extBut hs.extBut hne⟩ fun b o hb e => (hs.2 b (by simpa using hb)).trans e
  done := fun s Q E st hQ => by
    refine next_tuple_end hh st.1 st.2 (by rw [show k + (items.size - k) = items.size by omega]; simp) fun h' he => ?_
    exact hQ h' s.toks fun b o hb e => he b o (by simpa using hb) e
  self := fun i s Q E st hQ => self _ s Q E st.1 hQ
theorem items_tail {items : Array Value} {acc : Array Value} {x : Value} {r : List Value} (hi : items.toList = x :: r) (h : ItemsOf (fun i v => items[1 + i]? = some v) acc (items.size - 1)) : acc.toList = r := by
  have hs : items.size = r.length + 1 := by rw [← Array.length_toList, hi]; rfl
  obtain ⟨h1, h2⟩ := h
  refine List.ext_getElem? fun j => ?_
  by_cases c : j < r.length
  · have hj : j < acc.size := by omega
    have e : acc[j]? = some acc[j] := by simp [hj]
    have := h2 j _ e
    rw [Array.getElem?_toList, e, ← this, ← Array.getElem?_toList, hi, Nat.add_comm, List.getElem?_cons_succ]
  · rw [List.getElem?_eq_none (by rw [Array.length_toList]; omega), List.getElem?_eq_none (by omega)]
theorem unpackL {l : Addr} {items : Array Value} {x : Value} {r : List Value} {Q : List Value → Shared → Prop} (hh : A.handled = none) (hl : s.heap.IsList l items) (hi : items.toList = x :: r) (hz : items.size ≤ sizeLine)
    (hQ : ∀ s' : Shared, (∀ b o, s.heap.get? b = some o → s'.heap.get? b = some o) → s'.gens = s.gens → s'.drawn = s.drawn → s'.os = s.os → Q [x, .ref s'.heap.objs.size] { s' with heap := s'.heap.push { cls := .type "list", data := .seq r.toArray } }) :
    wpAny (model prog w) A (unpackItems (.ref l) 2 (some 1)) Q E s := by
  have hs : items.size = r.length + 1 := by rw [← Array.length_toList, hi]; rfl
  have hx : items[0]? = some x := by rw [← Array.getElem?_toList, hi]; rfl
  have hlt : l ≠ s.heap.objs.size := by obtain ⟨o, ho, _⟩ := hl; exact Nat.ne_of_lt (Heap.lt_size ho)
  unfold unpackItems
  refine wpAny_bind ?_
  unfold notIterableAtAll
  refine wpAny_bind (wpAny_specialOf hl.typeIs slot_list_iter.lookup ?_)
  refine wpAny_pure ?_
  simp only [Bool.false_eq_true, if_false]
  refine wpAny_bind (wpAny_holding (wpAny_pyIter_list hl ?_))
  have keep0 : ∀ b o, s.heap.get? b = some o → (s.heap.push { cls := .type "list_iterator", data := .fields #[.ref l, .int 0 0] }).get? b = some o := fun b o e => Heap.get?_push_of_some _ e
  have hl1 : (s.heap.push { cls := .type "list_iterator", data := .fields #[.ref l, .int 0 0] }).IsList l items := hl.push _
  refine wpAny_bind (wpAny_holding ?_)
  show wpAny _ _ (pyNext (.ref s.heap.objs.size) >>= _) _ _ _
  refine wpAny_bind (wpAny_pyNext_list_item (i := 0) ⟨_, Heap.get?_push_size _ rfl, rfl, rfl⟩ hl1 hx fun h1 hit1 hs1 => ?_)
  refine wpAny_bind (wpAny_holding ?_)
  show wpAny _ _ (pure []) _ _ _
  refine wpAny_pure (wpAny_pure ?_)
  simp only [List.length_cons, List.length_nil, Nat.lt_irrefl, if_false]
  have hl2 : h1.IsList l items := hl1.extBut hs1.extBut hlt
  have lt1 : s.heap.objs.size < h1.objs.size := by rw [hs1.1, Heap.size_push]; exact Nat.lt_succ_self _
  have ll1 : l < h1.objs.size := by obtain ⟨o, ho, _⟩ := hl2; exact Heap.lt_size ho
  refine wpAny_bind (wpAny_holding (wpAny_collect_iter (T := "list_iterator") (by simp) ((walks_listFrom (prog := prog) (w := w) (A := A.in1) (it := s.heap.objs.size) (l := l) (items := items) hh hlt 1 (by omega)).toS) (fun i s' st => st.1.typeIs) ⟨hit1, hl2⟩ (fun b hb => ?_) (by simp) (fun s2 acc mv ia => ?_) (by omega)))
  · rcases List.mem_cons.mp hb with rfl | hb
    · exact lt1
    · rw [List.mem_singleton.mp hb]; exact ll1
  · rw [items_tail hi ia]
    simp only [Nat.not_lt_zero, Nat.sub_self, if_false, Nat.sub_zero, List.take_length, List.drop_length, List.append_nil]
    refine wpAny_bind (wpAny_newObj_type (wpAny_pure (hQ s2 (fun b o e => ?_) mv.gens mv.drawn mv.os)) (by show r.toArray.size ≤ sizeLine; rw [List.size_toArray]; omega))
    have hb : b ≠ s.heap.objs.size := Nat.ne_of_lt (Heap.lt_size e)
    exact mv.heap b o (by simpa using hb) ((hs1.2 b hb).trans (keep0 b o e))
theorem unpackT {l : Addr} {items : Array Value} {x : Value} {r : List Value} {Q : List Value → Shared → Prop} (hh : A.handled = none) (hl : IsTup s.heap l items) (hi : items.toList = x :: r) (hz : items.size ≤ sizeLine)
    (hQ : ∀ s' : Shared, (∀ b o, s.heap.get? b = some o → s'.heap.get? b = some o) → s'.gens = s.gens → s'.drawn = s.drawn → s'.os = s.os → Q [x, .ref s'.heap.objs.size] { s' with heap := s'.heap.push { cls := .type "list", data := .seq r.toArray } }) :
    wpAny (model prog w) A (unpackItems (.ref l) 2 (some 1)) Q E s := by
  have hs : items.size = r.length + 1 := by rw [← Array.length_toList, hi]; rfl
  have hx : items[0]? = some x := by rw [← Array.getElem?_toList, hi]; rfl
  have hlt : l ≠ s.heap.objs.size := by obtain ⟨o, ho, _⟩ := hl; exact Nat.ne_of_lt (Heap.lt_size ho)
  unfold unpackItems
  refine wpAny_bind ?_
  unfold notIterableAtAll
  refine wpAny_bind (wpAny_specialOf hl.typeIs slot_tuple_iter.lookup ?_)
  refine wpAny_pure ?_
  simp only [Bool.false_eq_true, if_false]
  refine wpAny_bind (wpAny_holding (iter_tuple hl ?_))
  have keep0 : ∀ b o, s.heap.get? b = some o → (s.heap.push { cls := .type "tuple_iterator", data := .fields #[.ref l, .int 0 0] }).get? b = some o := fun b o e => Heap.get?_push_of_some _ e
  have hl1 : IsTup (s.heap.push { cls := .type "tuple_iterator", data := .fields #[.ref l, .int 0 0] }) l items := hl.push _
  refine wpAny_bind (wpAny_holding ?_)
  show wpAny _ _ (pyNext (.ref s.heap.objs.size) >>= _) _ _ _
  refine wpAny_bind (next_tuple_item (i := 0) ⟨_, Heap.get?_push_size _ rfl, rfl, rfl⟩ hl1 hx fun h1 hit1 hs1 => ?_)
  refine wpAny_bind (wpAny_holding ?_)
  show wpAny _ _ (pure []) _ _ _
  refine wpAny_pure (wpAny_pure ?_)
  simp only [List.length_cons, List.length_nil, Nat.lt_irrefl, if_false]
  have hl2 : IsTup h1 l items := hl1.extBut hs1.extBut hlt
  have lt1 : s.heap.objs.size < h1.objs.size := by rw [hs1.1, Heap.size_push]; exact Nat.lt_succ_self _
  have ll1 : l < h1.objs.size := by obtain ⟨o, ho, _⟩ := hl2; exact Heap.lt_size ho
  refine wpAny_bind (wpAny_holding (wpAny_collect_iter (T := "tuple_iterator") (by simp) ((walks_tupFrom (prog := prog) (w := w) (A := A.in1) (it := s.heap.objs.size) (l := l) (items := items) hh hlt 1 (by omega) (fun _ _ _ _ st hQ => wpAny_pyIter_tupleiter st hQ)).toS) (fun i s' st => st.1.typeIs) ⟨hit1, hl2⟩ (fun b hb => ?_) (by simp) (fun s2 acc mv ia => ?_) (by omega)))
  · rcases List.mem_cons.mp hb with rfl | hb
    · exact lt1
    · rw [List.mem_singleton.mp hb]; exact ll1
  · rw [items_tail hi ia]
    simp only [Nat.not_lt_zero, Nat.sub_self, if_false, Nat.sub_zero, List.take_length, List.drop_length, List.append_nil]
    refine wpAny_bind (wpAny_newObj_type (wpAny_pure (hQ s2 (fun b o e => ?_) mv.gens mv.drawn mv.os)) (by show r.toArray.size ≤ sizeLine; rw [List.size_toArray]; omega))
    have hb : b ≠ s.heap.objs.size := Nat.ne_of_lt (Heap.lt_size e)
    exact mv.heap b o (by simpa using hb) ((hs1.2 b hb).trans (keep0 b o e))
end
/-! the target -/
section
variable {X : Cx} {g1 g2 : TG}
def gStar (K : PySem.W.Frag) (g1 g2 : TG) : TG := fun v σ H Q => ∃ (a : Addr) (x : V) (xs : List V), v = .ref a ∧ (SqL K H a (x :: xs) ∨ SqT K H a (x :: xs)) ∧ ∀ p, H p = none → g1 x σ (upd H p (.lst xs)) fun σ1 H1 => g2 (.ref p) σ1 H1 Q
theorem pg_star {ex ey : Expr} {k : Nat} {pos p : Pos} (hc : X.calm = true) (h1 : PG X ex g1) (h2 : PG X ey g2)
    (hne : assignEach [ex, .Starred ey p] X.env = [(false, assign ex X.env), (true, assign ey X.env)] := by rfl) : PG X (.Tuple [ex, .Starred ey p] k pos) (gStar X.K g1 g2) := by
  refine ⟨fun pins s σ H v u Q I r hw => ?_⟩
  obtain ⟨a, x, xs, e1, hq, hw⟩ := hw
  subst e1
  cases r
  rw [assign_Tuple]
  refine wpAny_bind (wpAny_standAt ?_)
  unfold unpack
  rw [hne]
  show wpAny _ _ (holding [Value.ref a] (unpackItems (.ref a) 2 (some 1)) >>= _) _ _ s
  have fin : ∀ (s' : Shared) (x0 : Value) (r : List Value), RelV x x0 → Vals xs r → xs.length ≤ sizeLine → (∀ b o, s.heap.get? b = some o → s'.heap.get? b = some o) → s'.gens = s.gens → s'.drawn = s.drawn → s'.os = s.os →
      wpAny (model X.prog X.w) X.A (assignInOrder ([(false, assign ex X.env), (true, assign ey X.env)].map (·.2)) [x0, .ref s'.heap.objs.size]) (fun _ s' => ∃ σ' H', Inv X pins σ' H' s' ∧ Q σ' H') X.xe { s' with heap := s'.heap.push { cls := .type "list", data := .seq r.toArray } } := fun s' x0 r rx rr hl kp eg ed eo => by
    have I0 : Inv X pins σ H s' := I.call' (ch := []) eo (Un.kept kp) (I.hok.kept kp) (by rw [eg]; exact I.bare) (fun _ z => nomatch z)
    have I1 : Inv X pins σ (upd H s'.heap.objs.size (.lst xs)) { s' with heap := s'.heap.push { cls := .type "list", data := .seq r.toArray } } := I0.laid (t' := s'.toks) (fun b o e => Heap.get?_push_of_some _ e) (Nat.le_refl _) ⟨hl, r, 0, rr, Heap.get?_push_size _ rfl⟩
    refine assignInOrder_cons ?_
    refine thn (h1.run pins _ σ _ x x0 _ I1 rx (hw _ (I0.hok.fresh (Nat.le_refl _)))) fun _ s2 ⟨σ2, H2, I2, q2⟩ => ?_
    refine assignInOrder_cons ?_
    refine thn (h2.run pins _ σ2 _ (.ref s'.heap.objs.size) (.ref s'.heap.objs.size) _ I2 rfl q2) fun _ s3 q3 => ?_
    exact assignInOrder_nil q3
  rcases hq with hq | hq
  · obtain ⟨its, rv, ht, hz⟩ := I.list hq
    cases rv with
    | cons rx rr =>
      rename_i x0 r0
      have hl : s.heap.IsList a (x0 :: r0).toArray := let ⟨o, n, e, c, _, d⟩ := ht; ⟨o, e, c, n, d⟩
      have hz2 : xs.length + 1 ≤ sizeLine := hz
      exact wpAny_bind (wpAny_holding (unpackL (I.ok.hd hc) hl rfl (by rw [List.size_toArray, List.length_cons, ← rr.length]; exact hz2) fun s' kp eg ed eo => fin s' x0 r0 rx rr (by omega) kp eg ed eo))
  · obtain ⟨its, rv, ht, hz⟩ := I.tuple hq
    cases rv with
    | cons rx rr =>
      rename_i x0 r0
      have hz2 : xs.length + 1 ≤ sizeLine := hz
      exact wpAny_bind (wpAny_holding (unpackT (I.ok.hd hc) ht rfl (by rw [List.size_toArray, List.length_cons, ← rr.length]; exact hz2) fun s' kp eg ed eo => fin s' x0 r0 rx rr (by omega) kp eg ed eo))
end
end StU

/-! ### EV: x, *y = e; str(e); in a tuple; a display's get; a top's dict of numbers; join of one's own (own work) -/
namespace LR
open PySem PySem.Spec PyProof.Rows L2 Evl
def rStrU : List V → Hp → VK → Prop := fun xs H Q => (∃ i, xs = [.int i] ∧ i.natAbs.log2 < 1920 ∧ Q (.str (toString i)) H) ∨ (∃ a, xs = [.str a] ∧ Q (.str a) H) ∨ ∃ b : Bool, xs = [.bl b] ∧ Q (.str (if b then "True" else "False")) H
theorem cr_strU {X : Cx} : CallR X (.type "str") rStrU := by
  intro pins s σ H xs us Q I r h
  rcases h with h | h | ⟨b, rfl, q⟩
  · exact call_str_int pins s σ H xs us Q I r h
  · exact SkE.call_str_str pins s σ H xs us Q I r h
  · obtain ⟨u, rfl, r1⟩ := vals1 r
    cases r1
    exact PySem.P.str_of_bool ⟨.str _, H, I.tok _, ⟨_, rfl⟩, q⟩
end LR
namespace EV
open PySem PySem.Spec PyProof.Rows L2 Evl L2H LamX LR
section
variable {K : PySem.W.Frag} {FL : Fl} {T : TbS} {W : WX} {ta tb te : TE} {ma : EM} {pa pb : PM} {w : WM}
def sStar (i j : Nat) (m : EM) : SM := sBind m fun v => fun g => (okV v).bind fun d => match d with
  | .list (x :: xs) => some (.nx, (g.set i (.dat x)).set j (.dat (.list xs)))
  | .tuple (x :: xs) => some (.nx, (g.set i (.dat x)).set j (.dat (.list xs)))
  | _ => none
theorem ss_star {i j : Nat} (h1 : SimE K FL T W te ma) : SimS K FL T W (tAsg te (StU.gStar K (gName i) (gName j))) (sStar i j ma) := fun F α H H1 σ g fl g' R h D k => by
  rcases sBind_some h with ⟨v, g1, k1, k2⟩ | ⟨x, k1, rfl⟩
  · obtain ⟨d, k3, k4⟩ := bind_some k2
    refine h1 F α H H1 σ g _ _ R k1 _ fun α1 Ha H2 u R1 s1 ru => ?_
    have dt := ru.dat (okV_some k3)
    split at k4
    · cases k4
      obtain ⟨a, xs, rfl, ha, ra⟩ := dt.lst_eq
      cases ra with
      | @cons v0 vs0 _ _ a0 r0 =>
        refine ⟨a, v0, vs0, rfl, .inl (sq_of (R1.ex a _ ha)), fun p hp => ?_⟩
        have R2 := R1.grow (Ex.new (o := HO.lst vs0) hp) (ex_upd R1.ex) (Ext.new R1.ex hp)
        have n0 := fresh_back R1.ex hp
        have b1 : Dt K (upd Ha p (.lst vs0)) v0 _ := Dt.ex (Ex.new n0) a0
        have b2 : Dt K (upd Ha p (.lst vs0)) (.ref p) (.list _) := .lst upd_same (DtAll.ex (Ex.new n0) r0)
        exact k α1 _ _ _ ((R2.set (v := .dat _) i b1).set (v := .dat _) j b2)
    · cases k4
      obtain ⟨a, xs, rfl, ha, ra⟩ := dt.tup_eq
      cases ra with
      | @cons v0 vs0 _ _ a0 r0 =>
        refine ⟨a, v0, vs0, rfl, .inr (ex_t R1.ex ha), fun p hp => ?_⟩
        have R2 := R1.grow (Ex.new (o := HO.lst vs0) hp) (ex_upd R1.ex) (Ext.new R1.ex hp)
        have n0 := fresh_back R1.ex hp
        have b1 : Dt K (upd Ha p (.lst vs0)) v0 _ := Dt.ex (Ex.new n0) a0
        have b2 : Dt K (upd Ha p (.lst vs0)) (.ref p) (.list _) := .lst upd_same (DtAll.ex (Ex.new n0) r0)
        exact k α1 _ _ _ ((R2.set (v := .dat _) i b1).set (v := .dat _) j b2)
    · cases k4
  · exact h1 F α H H1 σ g _ _ R k1 _ fun α' H' H2 R' s' => k α' H' H2 σ R'
/-! str(e) -/
def fStr : List PyData → Option PyData
  | [.int i] => if i.natAbs < 2 ^ 64 then some (.str (Str.ofString (toString i))) else none
  | [.str z] => some (.str z)
  | [.bool b] => some (.str (Str.ofString (if b then "True" else "False")))
  | _ => none
theorem cd_str : CbD K rStrU fStr := fun ds z h => by
  unfold fStr at h
  split at h
  · rename_i i
    obtain ⟨hi, rfl⟩ := ite_some h
    intro H H' vs ex dv H1 e1 Q q
    obtain ⟨u, rfl, h1⟩ := one_of dv
    refine .inl ⟨i, by rw [h1.int_eq], ?_, q.val e1 fun _ => .str _⟩
    by_cases c : i.natAbs = 0
    · rw [c]; decide
    · have := (Nat.log2_lt c).mpr hi
      omega
  · cases h
    intro H H' vs ex dv H1 e1 Q q
    obtain ⟨u, rfl, h1⟩ := one_of dv
    exact .inr (.inl ⟨_, by rw [h1.str_eq], q.val e1 fun _ => .str _⟩)
  · cases h
    intro H H' vs ex dv H1 e1 Q q
    obtain ⟨u, rfl, h1⟩ := one_of dv
    rename_i b
    refine .inr (.inr ⟨b, by rw [h1.bl_eq], ?_⟩)
    cases b <;> exact q.val e1 fun _ => .str _
  · cases h
/-! x in (.., ..) of texts -/
def fInT (neg : Bool) : PyData → PyData → Option PyData
  | .str x, .tuple ds => (strsD ds).map fun zs => .bool (if neg then !decide (x ∈ zs) else decide (x ∈ zs))
  | _, _ => none
theorem inV_strs (x : Str) : ∀ zs : List Str, inV (.str x) (zs.map V.str) = decide (x ∈ zs)
  | [] => rfl
  | z :: r => by
    have ih := inV_strs x r
    unfold inV at ih ⊢
    rw [List.map_cons, List.any_cons, ih]
    show (z == x || decide (x ∈ r)) = _
    by_cases c : z = x
    · subst c; simp
    · have c2 : ¬ x = z := fun e => c e.symm
      have : (z == x) = false := by simp [c]
      rw [this]
      simp [c2]
theorem od_inT {neg : Bool} : OpD K (rIn K neg) (fInT neg) := fun d e z h H => by
  cases d <;> cases e <;> try cases h
  rename_i x ds
  obtain ⟨zs, h1, rfl⟩ := Option.map_eq_some_iff.mp (show (strsD ds).map _ = some z from h)
  intro H' u v ex dx dy H1 e1 Q q
  rw [strsD_eq h1] at dy
  obtain ⟨a, xs, rfl, ha, ra⟩ := dy.tup_eq
  have e2 := strs_dp ra
  subst e2
  refine ⟨a, _, rfl, .inr (ex_t e1 ha), by rw [dx.str_eq]; rfl, ?_, ?_⟩
  · rw [List.all_eq_true]
    intro y hy
    obtain ⟨q, _, rfl⟩ := List.mem_map.mp hy
    rfl
  · rw [dx.str_eq, inV_strs]
    cases neg <;> exact q.val e1 fun _ => .bl _
/-! {..: ..}.get(e, f), all of it texts -/
def dispK (kvs : List (Str × Str)) : List (Key × V) := mergeK [] (kvs.map fun q => (Sum.inr q.1, V.str q.2))
def pDisp2 (kvs : List (Str × Str)) (p x : PM) : PM := fun g => (p g).bind fun d => (x g).bind fun e => match d with
  | .str z => (match valV (dispK kvs) (.inr z) with
    | none => some e
    | some (.str v) => some (.str v)
    | some _ => none)
  | _ => none
theorem tpairs_const {σ : L2.St} {H : Hp} : ∀ {kvs : List (Str × Str)} {Q : List (V × V) → Hp → Prop}, Q (kvs.map fun q => (V.str q.1, V.str q.2)) H → tPairs (kvs.map fun q => (tC (.str q.1), tC (.str q.2))) σ H Q
  | [], _, h => h
  | p :: r, Q, h => by
    show tPairs (r.map fun q => (tC (.str q.1), tC (.str q.2))) σ H _
    exact tpairs_const h
theorem sp_disp2 {kvs : List (Str × Str)} (hk : kvs.length ≤ 15) (hp : SimP K FL T ta pa) (hx : SimP K FL T tb pb) : SimP K FL T (tDGet2 (tDisp (kvs.map fun q => (tC (.str q.1), tC (.str q.2)))) ta tb) (pDisp2 kvs pa pb) := fun F α H H1 σ g z R h Q q => by
  obtain ⟨d, h1, h⟩ := bind_some h
  obtain ⟨e, h2, h3⟩ := bind_some h
  intro p hp0
  refine tpairs_const ⟨upd_same, kvs.map (fun q => (Sum.inr q.1, V.str q.2)), by rw [List.map_map]; rfl, by rw [List.length_map]; exact hk, p, rfl, .inl ⟨_, .inl upd_same⟩, ?_⟩
  rw [upd_upd]
  have R0 := R.same (Ex.new (o := HO.dK (mergeK [] (kvs.map fun q => (Sum.inr q.1, V.str q.2)))) hp0)
  refine hp F α H _ σ g d R0 h1 _ fun u H2 Ha e2 ea xa da => hx F α Ha H2 σ g e (R0.grow e2 ea xa) h2 _ fun v H3 Hb e3 eb xb db => ?_
  have hd : H3 p = some (.dK (dispK kvs)) := e3 p _ (e2 p _ upd_same)
  have xx := (xa.trans e2 xb)
  have ex3 : Ex H1 H3 := (Ex.new hp0).trans (e2.trans e3)
  have xt : Ext H H1 Hb := ⟨xx.ex, fun b o hb => (xx.fresh b o hb).imp id fun ⟨y1, y2⟩ => ⟨by
    by_cases c : b = p
    · rw [c]; exact hp0
    · rw [upd_ne c] at y1; exact y1, y2⟩⟩
  cases d <;> try cases h3
  rename_i x
  refine ⟨valV (dispK kvs) (.inr x), ?_, ?_⟩
  · rw [da.str_eq]
    exact DGet.k (k := Sum.inr x) hd
  · have h3 : (match valV (dispK kvs) (.inr x) with
      | none => some e
      | some (.str v) => some (PyData.str v)
      | some _ => none) = some z := h3
    cases hv : valV (dispK kvs) (.inr x) with
    | none =>
      rw [hv] at h3
      cases h3
      exact q v H3 Hb ex3 eb xt db
    | some y =>
      rw [hv] at h3
      cases y with
      | str y' => cases h3; exact q _ H3 Hb ex3 eb xt (.str _)
      | _ => cases h3
/-! a dict of the top, texts to numbers -/
structure DcI (w : World) (K : PySem.W.Frag) (mg : Str → Option Value) (x : Str) (kvs : List (Str × Int)) : Prop where
  glo : mg x = some (.ref (gaE K x))
  kd : ∃ es n, KDict K w (gaE K x) es n
  look : ∀ z, ∃ r, PySem.W.nsIn K (gaE K x) z = some r ∧ match kvs.lookup z with
    | some i => ∃ u, r = some u ∧ RelV (.int i) u
    | none => r = none
def fKdIn (kvs : List (Str × Int)) (p : PM) : PM := fun g => (p g).bind fun d => match d with
  | .str z => some (.bool (kvs.lookup z).isSome)
  | _ => none
theorem sp_kdIn {w : World} {mg : Str → Option Value} {x : Str} {kvs : List (Str × Int)} (dk : DcI w K mg x kvs) (hp : SimP K FL T ta pa) : SimP K FL T (tOp (fun x' y H Q => ∃ (z : Str) (r : Option Value), x' = .str z ∧ y = .ref (gaE K x) ∧ PySem.W.nsIn K (gaE K x) z = some r ∧ Q (.bl r.isSome) H) ta (tC (.ref (gaE K x)))) (fKdIn kvs pa) := fun F α H H1 σ g z R h Q q => by
  obtain ⟨d, h1, h2⟩ := bind_some h
  refine hp F α H H1 σ g d R h1 _ fun u H2 Ha e2 ea xa da => ?_
  cases d <;> try cases h2
  rename_i y
  obtain ⟨r, l1, l2⟩ := dk.look y
  refine ⟨y, r, da.str_eq, rfl, l1, ?_⟩
  have e : r.isSome = (kvs.lookup y).isSome := by
    cases hl : kvs.lookup y with
    | none => rw [hl] at l2; rw [l2]; rfl
    | some i => rw [hl] at l2; obtain ⟨u, rfl, _⟩ := l2; rfl
  rw [e]
  exact q _ H2 Ha e2 ea xa (.bl _)
def fKdIx (kvs : List (Str × Int)) (p : PM) : PM := fun g => (p g).bind fun d => match d with
  | .str z => (kvs.lookup z).map .int
  | _ => none
theorem sp_kdIx {w : World} {mg : Str → Option Value} {x : Str} {kvs : List (Str × Int)} (dk : DcI w K mg x kvs) (hp : SimP K FL T ta pa) : SimP K FL T (tOp (rIxD K w) (tC (.ref (gaE K x))) ta) (fKdIx kvs pa) := fun F α H H1 σ g z R h Q q => by
  obtain ⟨d, h1, h2⟩ := bind_some h
  refine hp F α H H1 σ g d R h1 _ fun u H2 Ha e2 ea xa da => ?_
  cases d <;> try cases h2
  rename_i y
  obtain ⟨i, h3, rfl⟩ := Option.map_eq_some_iff.mp (show (kvs.lookup y).map PyData.int = some z from h2)
  obtain ⟨r, l1, l2⟩ := dk.look y
  rw [h3] at l2
  obtain ⟨u0, rfl, ru⟩ := l2
  obtain ⟨es, n, D⟩ := dk.kd
  exact ⟨_, y, .int i, rfl, da.str_eq, ⟨es, n, u0, D.at_, D.lit, l1, ru⟩, q _ H2 Ha e2 ea xa (.int _)⟩
/-! sep.join(words), words of one's own -/
def pJoinW (x : Str) (w : WM) : PM := fun g => (w g).bind fun o => (lstAt g o).bind fun ds => fJoin x (.list ds)
theorem sp_joinW {x : Str} (hw : SimW K FL T te w) : SimP K FL T (tM1 (rJoin K) (tC (.str x)) te) (pJoinW x w) := fun F α H H1 σ g z R h Q q => by
  obtain ⟨o, h1, h⟩ := bind_some h
  obtain ⟨ds, h2, h3⟩ := bind_some h
  obtain ⟨zs, h4, h5⟩ := bind_some (show (strsD ds).bind _ = some z from h3)
  obtain ⟨h6, rfl⟩ := ite_some h5
  have := strsD_eq h4
  subst this
  obtain ⟨a, m1, m2⟩ := hw F α H H1 σ g o R h1
  obtain ⟨vs, k3, k4⟩ := R.lst h2 m1
  have e2 := strs_dp k4
  subst e2
  exact ⟨⟨x, rfl⟩, m2 _ ⟨x, a, zs, rfl, rfl, .inl (sq_of k3), Nat.le_trans h6 (by decide), q _ H1 H (Ex.refl _) R.ex (Ext.refl _ _) (.str _)⟩⟩
end
end EV
namespace EV
open PySem PySem.Spec PyProof.Rows L2 Evl L2H LamX LR
theorem pg_starK {X : Cx} {K : PySem.W.Frag} {g1 g2 : TG} {ex ey : Expr} {k : Nat} {pos p : Pos} (hK : X.K = K) (hc : X.calm = true) (h1 : PG X ex g1) (h2 : PG X ey g2)
    (hne : assignEach [ex, .Starred ey p] X.env = [(false, assign ex X.env), (true, assign ey X.env)] := by rfl) : PG X (.Tuple [ex, .Starred ey p] k pos) (StU.gStar K g1 g2) := hK ▸ StU.pg_star hc h1 h2 hne
theorem op_inT {X : Cx} {K : PySem.W.Frag} (hK : X.K = K) : OpR X (compareOp .In) (rIn K false) := hK ▸ op_in_seq
theorem op_notInT {X : Cx} {K : PySem.W.Frag} (hK : X.K = K) : OpR X (compareOp .NotIn) (rIn K true) := hK ▸ op_notIn_seq
section
variable {X : Cx} {k j : Nat} {ps : List Str} {sp : Sp} {W : WX} {x : Str} {p pos : Pos} {e : Expr} {es : List Expr} {t : TA}
theorem pe_fxX (hx : ∀ σ, PassesAt (CXL X.prog X.w) X σ (WE W σ)) (c : Fx X.prog X.w X.K X.mg X.base k x ps sp) (hr : Room j X.A) (hk : k ≤ j) (hg : Gl X x) (ha : PA X (e :: es) t)
    (hdb : (x == ("__debug__" : Str)) = false := by decide) (he : starEach (e :: es) X.env = (false, eval e X.env) :: starEach es X.env := by rfl) (hpl : (backTo pos (starEach es X.env)).any (·.1) = false := by rfl) :
    PE X (.Call (.Name x p) (e :: es) [] pos) (tCallS sp (WE W) t) := by
  obtain ⟨f, fd, F, hm, kp, b⟩ := c.ex
  exact pe_callS F (hr.mono hk) hg hm kp b hx ha hdb he hpl
end
end EV

/-! ### EV: int(text) (own work) -/
namespace EV
open PySem PySem.Spec PyProof.Rows L2 Evl L2H LamX LR
def rIntT : List V → Hp → VK → Prop := fun xs H Q => ∃ a n, xs = [.str a] ∧ PySem.intText? a = some n ∧ a.length ≤ 640 ∧ Q (.int n) H
theorem cr_intT {X : Cx} : CallR X (.type "int") rIntT := call_int_str
def fIntT : List PyData → Option PyData
  | [.str a] => if a.length ≤ 640 then (PySem.intText? a).map .int else none
  | _ => none
theorem cd_intT {K : PySem.W.Frag} : CbD K rIntT fIntT := fun ds z h => by
  unfold fIntT at h
  split at h
  · split at h
    · rename_i a hl
      obtain ⟨n, h1, rfl⟩ := Option.map_eq_some_iff.mp h
      intro H H' vs _ dv H1 e1 Q q
      obtain ⟨u, rfl, h2⟩ := one_of dv
      exact ⟨a, n, by rw [h2.str_eq], h1, hl, q.val e1 fun _ => .int _⟩
    · cases h
  · cases h
end EV
namespace EV
open PySem PySem.Spec PyProof.Rows L2 Evl L2H LamX LR
theorem keyOf_mem {P : Params} {l : List DictEntry} {ks : List Str} (h : l.map He.keyOf = He.keysIn P ks) {e : DictEntry} (he : e ∈ l) : ∃ k ∈ ks, ∃ t, e.key = .str k t := by
  have m : He.keyOf e ∈ He.keysIn P ks := by rw [← h]; exact List.mem_map_of_mem he
  obtain ⟨k, hk, hq⟩ := List.mem_map.mp m
  unfold He.keyOf at hq
  split at hq
  · rename_i x t q
    have := Option.some.inj hq
    obtain ⟨h1, _⟩ := Prod.mk.inj this
    exact ⟨k, hk, t, by rw [q, h1]⟩
  · cases hq
theorem dicW_miss {K : PySem.W.Frag} {P : Params} {a : Addr} {ks : List Str} {z : Str} (h : He.dicW K a = some (He.keysIn P ks)) (hz : z ∉ ks) : PySem.W.nsIn K a z = some none := by
  unfold He.dicW at h
  split at h
  · rename_i c es n sl hk
    split at h
    · have hm := Option.some.inj h
      unfold PySem.W.nsIn
      rw [hk]
      have f : es.toList.find? (·.key.isStr z) = none := List.find?_eq_none.mpr fun e he => by
        obtain ⟨k, hk, t, q⟩ := keyOf_mem hm he
        rw [q]
        intro e1
        have e2 : k = z := by simpa [Value.isStr] using e1
        exact hz (e2 ▸ hk)
      have r : es.toList.any (·.refKey) = false := by
        rw [List.any_eq_false]
        intro e he
        obtain ⟨k, hk, t, q⟩ := keyOf_mem hm he
        unfold DictEntry.refKey
        rw [q]
        simp
      show (match es.toList.find? (·.key.isStr z) with
        | some e => some (some e.val)
        | none => if es.toList.any (·.refKey) then none else some none) = _
      rw [f, r]
      rfl
    · cases h
  · cases h
theorem lookup_mem {z : Str} {i : Int} : ∀ {l : List (Str × Int)}, l.lookup z = some i → (z, i) ∈ l
  | [], h => by cases h
  | (k, v) :: r, h => by
    rw [List.lookup_cons] at h
    split at h
    · rename_i e
      cases h
      rw [beq_iff_eq.mp e]
      exact List.mem_cons_self
    · exact List.mem_cons_of_mem _ (lookup_mem h)
theorem lookup_miss {z : Str} : ∀ {l : List (Str × Int)}, l.lookup z = none → z ∉ l.map (·.1)
  | [], _ => by simp
  | (k, v) :: r, h => by
    rw [List.lookup_cons] at h
    split at h
    · cases h
    · rename_i e
      intro m
      rcases List.mem_cons.mp m with m | m
      · rw [m] at e
        simp at e
      · exact lookup_miss h m
theorem dcI_mk {w : World} {K : PySem.W.Frag} {mg : Str → Option Value} {x : Str} {kvs : List (Str × Int)} (g : mg x = some (.ref (gaE K x))) (hd : He.dicW K (gaE K x) = some (He.keysIn w.params (kvs.map (·.1)))) (hv : He.valsB K (gaE K x) (kvs.map fun q => (q.1, He.Dv.int q.2)) = true) : DcI w K mg x kvs := by
  refine ⟨g, He.dicW_ok hd, fun z => ?_⟩
  cases hl : kvs.lookup z with
  | none => exact ⟨none, dicW_miss hd (lookup_miss hl), rfl⟩
  | some i =>
    obtain ⟨u, h1, h2⟩ := He.valsB_ok hv (q := (z, .int i)) (List.mem_map.mpr ⟨(z, i), lookup_mem hl, rfl⟩)
    exact ⟨some u, h1, u, rfl, h2⟩
theorem dicTop {as : List Addr} {fa : List He.Fa} {fn : List He.DefD} {tf : List He.Defn} {ex : PySem.W.Frag → Bool} {ts : List He.Tab} {w : World} {h : Heap} {K : PySem.W.Frag} (c : SaysA as fa fn tf ex ts w h K) (i : Nat) {t : He.Tab} (ht : ts[i]? = some t) : He.dicW K (t.1 K) = some (He.keysIn w.params t.2) := by
  have e2 : (ts.map fun t => He.dicW K (t.1 K))[i]? = (ts.map fun t => some (He.keysIn w.params t.2))[i]? := by rw [c.dic]
  rw [List.getElem?_map, List.getElem?_map, ht] at e2
  exact Option.some.inj e2
end EV

/-! ### EV: enumerate(text), a top's dict of plain things (own work) -/
namespace EV
open PySem PySem.Spec PyProof.Rows L2 Evl L2H LamX LR
section
variable {K : PySem.W.Frag} {FL : Fl} {T : TbS} {ta te : TE} {pa : PM}
def numsL (n : Nat) : List PyData := (List.range n).map fun (i : Nat) => .int (i : Int)
def signsL (z : Str) : List PyData := z.cps.toList.map fun c => .str ⟨#[c]⟩
def iEn (p : PM) : IM := fun g => (p g).bind fun d => match d with
  | .str z => some (zipD (numsL z.cps.size) (signsL z))
  | _ => none
theorem en_len (z : Str) : (zipD (numsL z.cps.size) (signsL z)).length = z.cps.size := by
  simp [zipD, numsL, signsL]
theorem si_enum (h : SimP K FL T te pa) : SimI K FL T (iEnumS (tCons te tNil)) (iEn pa) := fun F α H H1 σ g out R hp Rk k => by
  obtain ⟨d, h1, h2⟩ := bind_some hp
  cases d <;> try cases h2
  rename_i z
  refine h F α H H1 σ g _ R h1 _ fun v H2 H' e2 e x dv => ⟨z, by rw [dv.str_eq], k _ (fun _ => True) H2 H' e2 e x (fun _ _ => trivial) ?_⟩
  rw [en_len]
  refine ⟨fun _ _ hi _ => hi, fun _ _ => rfl, fun i H3 v H4 hi _ y => ?_⟩
  obtain ⟨Tt, c, y1, y2, y3, y4⟩ := y
  refine zip_yi y1 y2 y4 (d := .int (i : Nat)) (d' := .str ⟨#[c]⟩) ?_ ?_ (.int _) (.str _)
  · unfold numsL
    rw [List.getElem?_map, List.getElem?_range hi]
    rfl
  · unfold signsL
    rw [List.getElem?_map, Array.getElem?_toList, y3]
    rfl
def dvD : He.Dv → Option PyData
  | .non => some .none
  | .bl b => some (.bool b)
  | .int i => some (.int i)
  | .str z => some (.str z)
  | _ => none
theorem dvD_dt {v : He.Dv} {d : PyData} (h : dvD v = some d) (H : Hp) : Dt K H (v.v K) d := by
  cases v <;> cases h
  · exact .non
  · exact .bl _
  · exact .int _
  · exact .str _
def pKd (kvs : List (Str × He.Dv)) (p : PM) : PM := fun g => (p g).bind fun d => match d with
  | .str z => (kvs.find? fun q => decide (q.1 = z)).bind fun q => dvD q.2
  | _ => none
theorem sp_kd {w : World} {mg : Str → Option Value} {x : Str} {kvs : List (Str × He.Dv)} (dk : DcT w K mg x kvs) (hp : SimP K FL T ta pa) : SimP K FL T (tOp (rIxD K w) (tC (.ref (gaE K x))) ta) (pKd kvs pa) := fun F α H H1 σ g z R h Q q => by
  obtain ⟨d, h1, h2⟩ := bind_some h
  refine hp F α H H1 σ g d R h1 _ fun u H2 Ha e2 ea xa da => ?_
  cases d <;> try cases h2
  rename_i y
  obtain ⟨p, h3, h4⟩ := bind_some (show (kvs.find? fun q => decide (q.1 = y)).bind _ = some z from h2)
  have hm := List.mem_of_find?_eq_some h3
  have hy : p.1 = y := by
    have h5 := List.find?_some h3
    simpa using h5
  refine ⟨_, y, p.2.v K, rfl, da.str_eq, ?_, q _ H2 Ha e2 ea xa (dvD_dt h4 Ha)⟩
  rw [← hy]
  exact dk.at_ p hm
end
end EV

/-! ### EV: text.index(sign); made with arguments; a top's tuple (own work) -/
namespace EV
open PySem PySem.Spec PyProof.Rows L2 Evl L2H LamX LR
section
variable {K : PySem.W.Frag} {FL : Fl} {T : TbS} {ta te : TE} {pa : PM}
def fSIndex (x : Str) : PyData → Option PyData
  | .str y => match Builtin.Str.occurrences x y 0 x.length 1 with
    | i :: _ => some (.int (i : Nat))
    | [] => none
  | _ => none
theorem md_sindex : MtD K (fun x xs H Q => ∃ a b i rest, x = .str a ∧ xs = [.str b] ∧ Builtin.Str.occurrences a b 0 a.length 1 = i :: rest ∧ Q (.int (i : Nat)) H) fSIndex := fun x e z h H y dy H1 e1 Q q => by
  unfold fSIndex at h
  split at h
  · rename_i b
    split at h
    · rename_i i rest ho
      cases h
      exact ⟨x, b, i, rest, rfl, by rw [dy.str_eq], ho, q.val e1 fun _ => .int _⟩
    · cases h
  · cases h
end
end EV

namespace LR
open PySem PySem.Spec PySem.W PySem.Calls PyProof.Rows L2
def top (i : Nat) : Stmt := PySem.Challenge.pw_leafroom_k63_whole_texts.main.body.getD i (.Pass ⟨0, 0, 0, 0⟩)
abbrev s_is_whole : Stmt := (top 21)
abbrev s_is_key : Stmt := (top 22)
abbrev s_is_value : Stmt := (top 23)
abbrev s_is_deed : Stmt := (top 26)
abbrev s_is_good : Stmt := (top 29)
abbrev s_word_of : Stmt := (top 30)
abbrev s_deeds_text : Stmt := (top 31)
abbrev s_part_in : Stmt := (top 32)
abbrev s_read_deeds : Stmt := (top 33)
abbrev s_law_pick : Stmt := (top 35)
abbrev s_law_key : Stmt := (top 36)
abbrev s_law_value : Stmt := (top 37)
abbrev s_law_class : Stmt := (top 38)
abbrev s_law_told : Stmt := (top 39)
abbrev s_law : Stmt := (top 40)
def d_is_whole : He.DefD := ⟨("is_whole", none), "is_whole", "is_whole", defArgs s_is_whole, defBody s_is_whole, defScope s_is_whole, [], []⟩
def d_is_key : He.DefD := ⟨("is_key", none), "is_key", "is_key", defArgs s_is_key, defBody s_is_key, defScope s_is_key, [], []⟩
def d_is_value : He.DefD := ⟨("is_value", none), "is_value", "is_value", defArgs s_is_value, defBody s_is_value, defScope s_is_value, [], []⟩
def d_is_deed : He.DefD := ⟨("is_deed", none), "is_deed", "is_deed", defArgs s_is_deed, defBody s_is_deed, defScope s_is_deed, [], []⟩
def d_is_good : He.DefD := ⟨("is_good", none), "is_good", "is_good", defArgs s_is_good, defBody s_is_good, defScope s_is_good, [], []⟩
def d_word_of : He.DefD := ⟨("word_of", none), "word_of", "word_of", defArgs s_word_of, defBody s_word_of, defScope s_word_of, [], []⟩
def d_deeds_text : He.DefD := ⟨("deeds_text", none), "deeds_text", "deeds_text", defArgs s_deeds_text, defBody s_deeds_text, defScope s_deeds_text, [], []⟩
def d_part_in : He.DefD := ⟨("part_in", none), "part_in", "part_in", defArgs s_part_in, defBody s_part_in, defScope s_part_in, [], []⟩
def d_read_deeds : He.DefD := ⟨("read_deeds", none), "read_deeds", "read_deeds", defArgs s_read_deeds, defBody s_read_deeds, defScope s_read_deeds, [], []⟩
def d_law_pick : He.DefD := ⟨("_law_pick", none), "_law_pick", "_law_pick", defArgs s_law_pick, defBody s_law_pick, defScope s_law_pick, [], []⟩
def d_law_key : He.DefD := ⟨("_law_key", none), "_law_key", "_law_key", defArgs s_law_key, defBody s_law_key, defScope s_law_key, [], []⟩
def d_law_value : He.DefD := ⟨("_law_value", none), "_law_value", "_law_value", defArgs s_law_value, defBody s_law_value, defScope s_law_value, [], []⟩
def d_law_class : He.DefD := ⟨("_law_class", none), "_law_class", "_law_class", defArgs s_law_class, defBody s_law_class, defScope s_law_class, [], []⟩
def d_law_told : He.DefD := ⟨("_law_told", none), "_law_told", "_law_told", defArgs s_law_told, defBody s_law_told, defScope s_law_told, [], []⟩
def d_law : He.DefD := ⟨("law", none), "law", "law", defArgs s_law, defBody s_law, defScope s_law, [], []⟩
def fn0 : List He.DefD := [d_is_whole, d_is_key, d_is_value, d_is_deed, d_is_good, d_word_of, d_deeds_text, d_part_in, d_read_deeds, d_law_pick, d_law_key, d_law_value, d_law_class, d_law_told, d_law]
def fn : List He.DefD := fn0
def fa0 : List He.Fa := [.glo "is_whole", .glo "is_key", .glo "is_value", .glo "is_deed", .glo "is_good", .glo "word_of", .glo "deeds_text", .glo "part_in", .glo "read_deeds", .glo "_law_pick", .glo "_law_key", .glo "_law_value", .glo "_law_class", .glo "_law_told", .glo "law", .free "len", .free "isinstance", .free "str", .free "int", .free "bool", .free "list", .free "tuple", .free "all", .free "max", .free "range", .free "ValueError", .str "SMALL" "abcdefghijklmnopqrstuvwxyz", .str "FIGURES" "0123456789", .int "LONGEST_KEY" (10), .int "LONGEST_VALUE" (12)]
def fa1 : List He.Fa := [.glo "LENGTHS", .str "EMPTY" "-", .glo "LeafError", .glo "NoKey", .glo "NoValue", .glo "NoNumber", .glo "NoKind", .glo "NoEntries", .glo "NoPiece", .glo "NoWalk", .glo "Open", .glo "NoBatch", .glo "NoMap", .glo "NoChoices", .glo "Fallen", .glo "NoDeeds", .glo "NoText"]
def fa : List He.Fa := fa0 ++ fa1
def tf : List He.Defn := [("law", none)]
def ts : List He.Tab := [(fun K => He.ga K "LENGTHS", ["put", "drop", "begin", "commit", "cancel", "walk", "step", "end", "squeeze"])]
def kv_LENGTHS : List (Str × He.Dv) := [("put", .int 3), ("drop", .int 2), ("begin", .int 1), ("commit", .int 1), ("cancel", .int 1), ("walk", .int 2), ("step", .int 2), ("end", .int 2), ("squeeze", .int 1)]
def tabNd (K : PySem.W.Frag) : Bool := decide (tf.map fun p => (He.cT K p).2).Nodup
def ex (K : PySem.W.Frag) : Bool := tabNd K && (exOk ["NoKey", "NoValue", "NoNumber", "NoKind", "NoEntries", "NoPiece", "NoWalk", "Open", "NoBatch", "NoMap", "NoChoices", "Fallen", "NoDeeds", "NoText"] K && (He.valsB K (He.ga K "LENGTHS") kv_LENGTHS))
def as0 : List Addr := [3, 24, 23, 37, 36, 49, 48, 61, 60, 73, 72, 85, 84, 97, 96, 109, 108, 121, 120, 133, 132, 145, 144, 157, 156, 169, 168, 181, 180, 193, 192, 202, 201, 207, 206, 212, 211, 213, 220, 219]
def as1 : List Addr := [225, 224, 232, 231, 237, 236, 244, 243, 249, 248, 256, 255, 261, 260, 268, 267, 275, 274, 282, 281, 289, 288]
def as : List Addr := as0 ++ as1
def nms0 : List PySem.Str := ["LeafError", "NoKey", "NoValue", "NoNumber", "NoKind", "NoEntries", "NoPiece", "NoWalk", "Open", "NoBatch", "NoMap", "NoChoices", "Fallen", "NoDeeds", "NoText", "SMALL", "FIGURES", "LONGEST_KEY", "LONGEST_VALUE", "is_whole", "is_key", "is_value", "LENGTHS", "is_deed", "EMPTY", "is_good", "word_of", "deeds_text", "part_in", "read_deeds"]
def nms1 : List PySem.Str := ["_law_pick", "_law_key", "_law_value", "_law_class", "_law_told"]
def nms : List PySem.Str := nms0 ++ nms1
abbrev R : PySem.W.OpenRow := PySem.W.OpenLaw.row PySem.Challenge.rw_leafroom_k63_whole_texts
abbrev qv : Program := PySem.W.view R.prog [40]
abbrev hk : PySem.W.Hook := hookA as fa fn tf ex ts
def ob (s : PySem.W.SharedT) : ObA := obsA as fa fn tf ex ts (HandSHeadRun.getT s)
theorem ob_eq (s : PySem.W.SharedT) : ob s = hk.obs s.abs := obsA_eq (HandSHeadRun.getT_eq s)
theorem run_looksF (w : World) (os : OsState) : (HandSHeadRun.endF (HandSHeadRun.stepQ (HandSHeadRun.denQ HandSHeadRun.tabQ) R.prog (w.withFollow "special-get-raises" false)) 20000 R.prog (w.withFollow "special-get-raises" false) os).map (fun s => HandSHeadRun.looksF R.prog (boot_heap (w.withFollow "special-get-raises" false).params) s.abs) = some (true) := by
  kernel_rfl
theorem run_seenF (w : World) (os : OsState) : (HandSHeadRun.endF (HandSHeadRun.stepQ (HandSHeadRun.denQ HandSHeadRun.tabQ) R.prog (w.withFollow "special-get-raises" false)) 20000 R.prog (w.withFollow "special-get-raises" false) os).map (fun s => HandSHeadRun.seenQ qv nms (importedModules R.prog.main.body) (fun s => PySem.W.xlAt qv [] s && PySem.W.recOk R.toRowW.records s) s.abs) = some (PySem.W.openGood qv nms) := by
  kernel_rfl
theorem run_okAF (w : World) (os : OsState) : (HandSHeadRun.endF (HandSHeadRun.stepQ (HandSHeadRun.denQ HandSHeadRun.tabQ) R.prog (w.withFollow "special-get-raises" false)) 20000 R.prog (w.withFollow "special-get-raises" false) os).map (fun s => okA as fa (HandSHeadRun.getT s)) = some (true) := by
  kernel_rfl
theorem run_okDF (w : World) (os : OsState) : (HandSHeadRun.endF (HandSHeadRun.stepQ (HandSHeadRun.denQ HandSHeadRun.tabQ) R.prog (w.withFollow "special-get-raises" false)) 20000 R.prog (w.withFollow "special-get-raises" false) os).map (fun s => okD as fn (HandSHeadRun.getT s)) = some (true) := by
  kernel_rfl
theorem run_fnAF (w : World) (os : OsState) : (HandSHeadRun.endF (HandSHeadRun.stepQ (HandSHeadRun.denQ HandSHeadRun.tabQ) R.prog (w.withFollow "special-get-raises" false)) 20000 R.prog (w.withFollow "special-get-raises" false) os).map (fun s => fnA as fn (HandSHeadRun.getT s)) = some (fn.map He.DefD.val) := by
  kernel_rfl
theorem run_exF (w : World) (os : OsState) : (HandSHeadRun.endF (HandSHeadRun.stepQ (HandSHeadRun.denQ HandSHeadRun.tabQ) R.prog (w.withFollow "special-get-raises" false)) 20000 R.prog (w.withFollow "special-get-raises" false) os).map (fun s => ex (He.frG (HandSHeadRun.getT s) as) && tabA as tf (HandSHeadRun.getT s)) = some (true) := by
  kernel_rfl
theorem run_dicF (w : World) (os : OsState) : (HandSHeadRun.endF (HandSHeadRun.stepQ (HandSHeadRun.denQ HandSHeadRun.tabQ) R.prog (w.withFollow "special-get-raises" false)) 20000 R.prog (w.withFollow "special-get-raises" false) os).map (fun s => dicA as ts (HandSHeadRun.getT s)) = some (ts.map fun t => some (He.keysIn (w.withFollow "special-get-raises" false).params t.2)) := by
  kernel_rfl
theorem runF (w : World) : HandSHeadRun.RunEq R qv hk ob 20000 nms (w.withFollow "special-get-raises" false) := fun os => map_pair (run_looksF w os) (map_pair (run_seenF w os) (map_pair (run_okAF w os) (map_pair (run_okDF w os) (map_pair (run_fnAF w os) (map_pair (run_exF w os) (run_dicF w os))))))
theorem run_looksT (w : World) (os : OsState) : (HandSHeadRun.endF (HandSHeadRun.stepQ (HandSHeadRun.denQ HandSHeadRun.tabQ) R.prog (w.withFollow "special-get-raises" true)) 20000 R.prog (w.withFollow "special-get-raises" true) os).map (fun s => HandSHeadRun.looksF R.prog (boot_heap (w.withFollow "special-get-raises" true).params) s.abs) = some (true) := by
  kernel_rfl
theorem run_seenT (w : World) (os : OsState) : (HandSHeadRun.endF (HandSHeadRun.stepQ (HandSHeadRun.denQ HandSHeadRun.tabQ) R.prog (w.withFollow "special-get-raises" true)) 20000 R.prog (w.withFollow "special-get-raises" true) os).map (fun s => HandSHeadRun.seenQ qv nms (importedModules R.prog.main.body) (fun s => PySem.W.xlAt qv [] s && PySem.W.recOk R.toRowW.records s) s.abs) = some (PySem.W.openGood qv nms) := by
  kernel_rfl
theorem run_okAT (w : World) (os : OsState) : (HandSHeadRun.endF (HandSHeadRun.stepQ (HandSHeadRun.denQ HandSHeadRun.tabQ) R.prog (w.withFollow "special-get-raises" true)) 20000 R.prog (w.withFollow "special-get-raises" true) os).map (fun s => okA as fa (HandSHeadRun.getT s)) = some (true) := by
  kernel_rfl
theorem run_okDT (w : World) (os : OsState) : (HandSHeadRun.endF (HandSHeadRun.stepQ (HandSHeadRun.denQ HandSHeadRun.tabQ) R.prog (w.withFollow "special-get-raises" true)) 20000 R.prog (w.withFollow "special-get-raises" true) os).map (fun s => okD as fn (HandSHeadRun.getT s)) = some (true) := by
  kernel_rfl
theorem run_fnAT (w : World) (os : OsState) : (HandSHeadRun.endF (HandSHeadRun.stepQ (HandSHeadRun.denQ HandSHeadRun.tabQ) R.prog (w.withFollow "special-get-raises" true)) 20000 R.prog (w.withFollow "special-get-raises" true) os).map (fun s => fnA as fn (HandSHeadRun.getT s)) = some (fn.map He.DefD.val) := by
  kernel_rfl
theorem run_exT (w : World) (os : OsState) : (HandSHeadRun.endF (HandSHeadRun.stepQ (HandSHeadRun.denQ HandSHeadRun.tabQ) R.prog (w.withFollow "special-get-raises" true)) 20000 R.prog (w.withFollow "special-get-raises" true) os).map (fun s => ex (He.frG (HandSHeadRun.getT s) as) && tabA as tf (HandSHeadRun.getT s)) = some (true) := by
  kernel_rfl
theorem run_dicT (w : World) (os : OsState) : (HandSHeadRun.endF (HandSHeadRun.stepQ (HandSHeadRun.denQ HandSHeadRun.tabQ) R.prog (w.withFollow "special-get-raises" true)) 20000 R.prog (w.withFollow "special-get-raises" true) os).map (fun s => dicA as ts (HandSHeadRun.getT s)) = some (ts.map fun t => some (He.keysIn (w.withFollow "special-get-raises" true).params t.2)) := by
  kernel_rfl
theorem runT (w : World) : HandSHeadRun.RunEq R qv hk ob 20000 nms (w.withFollow "special-get-raises" true) := fun os => map_pair (run_looksT w os) (map_pair (run_seenT w os) (map_pair (run_okAT w os) (map_pair (run_okDT w os) (map_pair (run_fnAT w os) (map_pair (run_exT w os) (run_dicT w os))))))
theorem run (w : World) : HandSHeadRun.RunEq R qv hk ob 20000 nms w := PySem.W.byRow2 "special-get-raises" runF runT w
end LR
namespace LR
open PySem PySem.Spec PyProof.Rows L2 Evl
/-- what the walk asks of the module's names -/
structure Txt (mg : Str → Option Value) : Prop where
  m_len : mg "len" = none
  m_isinstance : mg "isinstance" = none
  m_str : mg "str" = none
  m_int : mg "int" = none
  m_bool : mg "bool" = none
  m_list : mg "list" = none
  m_tuple : mg "tuple" = none
  m_all : mg "all" = none
  m_max : mg "max" = none
  m_range : mg "range" = none
  m_ValueError : mg "ValueError" = none
  c_SMALL : ∃ u, mg "SMALL" = some u ∧ RelV (.str (Str.ofString "abcdefghijklmnopqrstuvwxyz")) u
  c_FIGURES : ∃ u, mg "FIGURES" = some u ∧ RelV (.str (Str.ofString "0123456789")) u
  c_LONGEST_KEY : ∃ u, mg "LONGEST_KEY" = some u ∧ RelV (.int 10) u
  c_LONGEST_VALUE : ∃ u, mg "LONGEST_VALUE" = some u ∧ RelV (.int 12) u
  c_EMPTY : ∃ u, mg "EMPTY" = some u ∧ RelV (.str (Str.ofString "-")) u
abbrev exNs : List Str := ["NoKey", "NoValue", "NoNumber", "NoKind", "NoEntries", "NoPiece", "NoWalk", "Open", "NoBatch", "NoMap", "NoChoices", "Fallen", "NoDeeds", "NoText"]
end LR
/-! ### signs: is_key, is_value -/
namespace LR
open PySem PySem.Spec PyProof.Rows L2 Evl
def strD : PyData → Bool
  | .str _ => true
  | _ => false
theorem kit_str (d : PyData) : kitB (tyD d) "str" = some (strD d) := by
  cases d with
  | none => exact (by decide +kernel : kitB "NoneType" "str" = some false)
  | bool _ => exact (by decide +kernel : kitB "bool" "str" = some false)
  | int _ => exact (by decide +kernel : kitB "int" "str" = some false)
  | str _ => exact (by decide +kernel : kitB "str" "str" = some true)
  | list _ => exact (by decide +kernel : kitB "list" "str" = some false)
  | tuple _ => exact (by decide +kernel : kitB "tuple" "str" = some false)
  | dict _ => exact (by decide +kernel : kitB "list" "str" = some false)
def RisKey (ds : List PyData) (r : PyData) : Prop := ∃ d, ds = [d] ∧ lenOk d ∧ r = .bool (isKeyD d)
def RisVal (ds : List PyData) (r : PyData) : Prop := ∃ d, ds = [d] ∧ lenOk d ∧ r = .bool (isValD d)
theorem all_map_id (l : List Nat) (f : Nat → Bool) : (l.map f).all id = l.all f := by simp
theorem cps_get {z : Str} {i : Nat} {c : Nat} (h : z.cps[i]? = some c) : z.cps.toList[i]? = some c := by simpa using h
theorem small_len {z : Str} (h : z.length ≤ 50000) : z.length ≤ sizeLine := Nat.le_trans h (by decide)
section
variable {P : Program} {w : World} {K : PySem.W.Frag} {mg : Str → Option Value} {base : Heap} {f : Addr} {fd : FuncData}
/-- [c in .. for c in text] -/
theorem ed_signs {σ : L2.St} {H : Hp} {ti te : TE} {z : Str} {j : Nat} {ss : List SD} {vs : List Nat} (p : Nat → Bool) (hz : z.length ≤ 50000) (s : Sl K H σ ss) (hi : EvD K ti σ H (.str z)) (hv : vs = [j])
    (he : ∀ (σ2 : L2.St) (Hc : Hp) (c : Nat), Ex H Hc → Sl K Hc σ2 ((wipeS ss vs).set j (.dat (.str ⟨#[c]⟩))) → EvD K te σ2 Hc (.bool (p c))) :
    EvD K (tLc (iU K ti) (gName j) tYes te vs) σ H (.list ((z.cps.toList.map p).map .bool)) := by
  subst hv
  refine ed_lc (fun i => (z.cps.toList[i]?).bind fun c => some (.bool (p c))) (eiU_str hi) (fun i hi Hi Hb H2 x H3 e0 e1' e2 y => ?_) (by show z.cps.size ≤ 50000; exact hz) ?_
  · have e1 := e0.trans e1'
    obtain ⟨rfl, c, hc, rfl⟩ := y
    refine ⟨Hb, _, Ext.refl _ _, e2, Ex.refl _, eg_name, ?_, true, fun H1 _ Q q => q H1 (Ex.refl _), (fun h => nomatch h), fun _ => ⟨.bool (p c), ?_, ?_⟩⟩
    · show ((L2.wipe σ []).set j none |>.set j _).set j none = (L2.wipe σ []).set j none
      simp
    · rw [cps_get hc]
      rfl
    · exact he _ Hb c e1 (((s.ex e1).wipe [j]).set (s := .dat (.str ⟨#[c]⟩)) (o := some (.str ⟨#[c]⟩)) (.str _) j)
  · have e : z.cps.size = z.cps.toList.length := by simp
    rw [e, filterMap_range, List.map_map]
    clear e hi he hz
    induction z.cps.toList with
    | nil => rfl
    | cons c r ih => rw [List.filterMap_cons, List.map_cons, ← ih]; rfl
theorem sc_is_key : FnScope ["thing", "sign"] ["thing"] (defScope s_is_key) := ⟨rfl, rfl, rfl, by decide +kernel, rfl, by decide +kernel, by decide +kernel⟩
theorem fx_is_key (T : Txt mg) (F : FunD K "is_key" "is_key" (defArgs s_is_key) (defBody s_is_key) (defScope s_is_key) [] [] f fd) (hm : mg "is_key" = some (.ref f)) : Fx P w K mg base 1 "is_key" ["thing"] (spR K 1 RisKey) := by
  refine fx_pure F hm sc_is_key rfl (fun _ _ _ _ _ _ us hl => match us, hl with | [_], _ => rfl) fun cdv A outer s Hs E hr ds r hl hR => ?_
  refine ⟨_, (pss_one (ps_ret (pe_and (pe_callB (call_isK (K := K) rfl) (by rfl) T.m_isinstance (by decide +kernel) (pa_cons (pv 0) (pa_cons (pe_bltn (v := .ty "str") (by rfl) T.m_str (by decide +kernel) rfl) pa_nil))) (pe_and (pe_chain op_le op_le pe_int (pe_callB (call_lenK (K := K) rfl) (by rfl) T.m_len (by decide +kernel) (pa_cons (pv 0) pa_nil)) (C8.pe_gc (by rfl) T.c_LONGEST_KEY)) (pe_one (pe_callB (cr_allK (K := K) rfl rfl) (by rfl) T.m_all (by decide +kernel) (pa_cons (pe_lc (own := [("sign", 1)]) rfl sc_is_key.nd (pi_K (K := K) rfl (pv 0)) (blkOk_by (N := ["thing", "sign"]) (sc := defScope s_is_key) (by decide +kernel)) (fun _ _ _ _ _ => (pg_name (i := 1) sc_is_key.nd rfl (by first | exact Or.inl rfl | exact Or.inr rfl))) (fun _ _ _ _ _ => pts_nil) (fun _ _ _ _ _ => (pe_cmpR op_in_sign (pv 1) (C8.pe_gc (by rfl) T.c_SMALL) (by rfl)))) pa_nil))))))), ?_⟩
  obtain ⟨d, rfl, hd, rfl⟩ := hR
  intro σ H0 H10 Q n s q
  refine st_ret (d := .bool (isKeyD d)) n ?_ q
  refine ed_is (ed_and (b := isKeyD d) (ed_isi (ed_sl s rfl) (kit_str d)) fun h => ?_) ?_
  · cases d with
    | str z =>
      have hz : z.length ≤ 50000 := hd
      refine ed_is (ed_and (b := z.cps.toList.all fun c => decide (c ∈ smallS.cps.toList)) (ed_chain (a := decide ((1 : Int) ≤ z.length)) (b := decide ((z.length : Int) ≤ 10)) (ed_c (.int 1)) (ed_lenS (ed_sl s rfl) (small_len hz)) rd_IB (fun _ => ed_c (.int 10)) fun _ => rd_IB) fun _ => ?_) ?_
      · have z1 := ed_signs (K := K) (H := H0) (ti := tVar 0) (te := tOp rInS (tVar 1) (tC (.str smallS))) (vs := [1]) (fun c => decide (c ∈ smallS.cps.toList)) hz s (ed_sl s rfl) rfl (fun σ2 Hc c e1 s2 => ed_op (ed_sl s2 rfl) (ed_c (.str _)) rd_inS)
        refine ed_is (ed_all z1) ?_
        rw [all_map_id]
      · show PyData.bool _ = PyData.bool _
        unfold isKeyD isKeyS
        congr 1
        have e1 : decide ((1 : Int) ≤ (z.length : Int)) = decide (1 ≤ z.length) := decide_eq_decide.mpr (by omega)
        have e2 : decide ((z.length : Int) ≤ 10) = decide (z.length ≤ 10) := decide_eq_decide.mpr (by omega)
        rw [e1, e2]
    | _ => cases h
  · cases d with
    | str z => rfl
    | _ => rfl
end
end LR

/-! ### is_value -/
namespace LR
open PySem PySem.Spec PyProof.Rows L2 Evl
section
variable {P : Program} {w : World} {K : PySem.W.Frag} {mg : Str → Option Value} {base : Heap} {f : Addr} {fd : FuncData}
theorem sc_is_value : FnScope ["thing", "sign"] ["thing"] (defScope s_is_value) := ⟨rfl, rfl, rfl, by decide +kernel, rfl, by decide +kernel, by decide +kernel⟩
theorem fx_is_value (T : Txt mg) (F : FunD K "is_value" "is_value" (defArgs s_is_value) (defBody s_is_value) (defScope s_is_value) [] [] f fd) (hm : mg "is_value" = some (.ref f)) : Fx P w K mg base 1 "is_value" ["thing"] (spR K 1 RisVal) := by
  refine fx_pure F hm sc_is_value rfl (fun _ _ _ _ _ _ us hl => match us, hl with | [_], _ => rfl) fun cdv A outer s Hs E hr ds r hl hR => ?_
  refine ⟨_, (pss_cons (ps_if (PW.pt (pw_or (pt_not (pt_val (pe_callB (call_isK (K := K) rfl) (by rfl) T.m_isinstance (by decide +kernel) (pa_cons (pv 0) (pa_cons (pe_bltn (v := .ty "str") (by rfl) T.m_str (by decide +kernel) rfl) pa_nil))))) (pw_or1 (pt_cmpR op_gt (pe_callB (call_lenK (K := K) rfl) (by rfl) T.m_len (by decide +kernel) (pa_cons (pv 0) pa_nil)) (C8.pe_gc (by rfl) T.c_LONGEST_VALUE) (nomark _))))) (pss_one (ps_ret pe_bl)) pss_nil) (pss_one (ps_ret (pe_callB (cr_allK (K := K) rfl rfl) (by rfl) T.m_all (by decide +kernel) (pa_cons (pe_lc (own := [("sign", 1)]) rfl sc_is_value.nd (pi_K (K := K) rfl (pv 0)) (blkOk_by (N := ["thing", "sign"]) (sc := defScope s_is_value) (by decide +kernel)) (fun _ _ _ _ _ => (pg_name (i := 1) sc_is_value.nd rfl (by first | exact Or.inl rfl | exact Or.inr rfl))) (fun _ _ _ _ _ => pts_nil) (fun _ _ _ _ _ => (pe_cmpR op_in_sign (pv 1) (pe_op (op_addK (K := K) rfl) (C8.pe_gc (by rfl) T.c_SMALL) (C8.pe_gc (by rfl) T.c_FIGURES)) (by rfl)))) pa_nil))))), ?_⟩
  obtain ⟨d, rfl, hd, rfl⟩ := hR
  intro σ H0 H10 Q n s q
  have key : ∀ z, d = .str z → EvD K (tCB (lenR K) (tCons (tVar 0) tNil)) σ H0 (.int z.length) := fun z e => by
    subst e
    exact ed_lenS (ed_sl s rfl) (small_len hd)
  cases d with
  | str z =>
    have hz : z.length ≤ 50000 := hd
    refine st_if n (eb_or (b := decide (12 < z.length)) (eb_not (eb_B (ed_isi (ed_sl s rfl) (kit_str _)))) fun _ => ?_) (fun h H2 n2 => ?_) (fun h H2 n2 => ?_)
    · refine eb_is (eb_test (ed_op (key z rfl) (ed_c (.int 12)) rd_IB)) ?_
      exact decide_eq_decide.mpr (by omega)
    · refine st_ret (K := K) (d := .bool false) n2 (ed_c (.bl false)) ?_
      have e : isValD (.str z) = false := by
        have h2 : 12 < z.length := by simpa [strD] using h
        show isValS z = false
        unfold isValS
        rw [decide_eq_false (show ¬ z.length ≤ 12 by omega)]
        rfl
      rw [e] at q
      exact q
    · have h2 : ¬ 12 < z.length := by simpa [strD] using h
      have z1 := ed_signs (K := K) (H := H0) (ti := tVar 0) (te := tOp rInS (tVar 1) (tOp (rAddU K) (tC (.str smallS)) (tC (.str figS)))) (vs := [1]) (fun c => decide (c ∈ (smallS ++ figS).cps.toList)) hz s (ed_sl s rfl) rfl (fun σ2 Hc c e1 s2 => ed_op (ed_sl s2 rfl) (ed_op (ed_c (.str _)) (ed_c (.str _)) (rd_addS (by decide))) rd_inS)
      refine st_ret n2 (ed_is (ed_all z1) ?_) q
      rw [all_map_id]
      show _ = PyData.bool (isValS z)
      unfold isValS
      rw [decide_eq_true (show z.length ≤ 12 by omega), Bool.true_and]
  | _ =>
    refine st_if n (eb_or (b := false) (eb_not (eb_B (ed_isi (ed_sl s rfl) (kit_str _)))) fun h => nomatch h) (fun h H2 n2 => ?_) (fun h H2 n2 => nomatch h)
    exact st_ret n2 (ed_c (.bl false)) q
end
end LR

/-! ### the law's draws -/
namespace LR
open PySem PySem.Spec PyProof.Rows L2 Evl
/-- the while of _law_pick -/
def pickLoop : Nat → Int → Int × Int
  | 0, r => (r, 0)
  | t + 1, r => if 0 < r then pickLoop t (r / 840) else (r, (t : Int) + 1)
def pickCell (ns : List Int) (k : Int) : Int := if ns.isEmpty then 0 else ns.getD (k % ns.length).toNat 0
def pickRest (ns : List Int) (k : Int) : Int := (pickLoop (k / (if 1 > (ns.length : Int) then 1 else (ns.length : Int))).toNat (pickCell ns k / 10 ^ 18)).1
def pickDrawn (ns : List Int) (k : Int) : Int := (pickCell ns k * 31 + 6151 * (k + 1)) * 40692 % 2147483399
/-- what _law_pick draws -/
def pick (ns : List Int) (k many : Int) : Int := if 0 < pickRest ns k then pickRest ns k % 840 % many else (pickDrawn ns k * pickDrawn ns k + pickDrawn ns k / 31) % 2147483629 % many
theorem pick_lo (ns : List Int) (k : Int) {many : Int} (h : 0 < many) : 0 ≤ pick ns k many := by
  unfold pick
  split
  · exact Int.emod_nonneg _ (by omega)
  · exact Int.emod_nonneg _ (by omega)
theorem pick_hi (ns : List Int) (k : Int) {many : Int} (h : 0 < many) : pick ns k many < many := by
  unfold pick
  split
  · exact Int.emod_lt_of_pos _ h
  · exact Int.emod_lt_of_pos _ h
theorem pickLoop_snd : ∀ (t : Nat) (r : Int), 0 ≤ (pickLoop t r).2 ∧ (0 < (pickLoop t r).1 → (pickLoop t r).2 = 0)
  | 0, r => ⟨Int.le_refl _, fun _ => rfl⟩
  | t + 1, r => by
    unfold pickLoop
    split
    · exact pickLoop_snd t _
    · exact ⟨by show (0 : Int) ≤ (t : Int) + 1; omega, fun h => absurd h (by assumption)⟩
def Rpick (ds : List PyData) (r : PyData) : Prop := ∃ (ns : List Int) (k many : Int), ds = [scrD ns, .int k, .int many] ∧ ns.length ≤ 63 ∧ 0 ≤ k ∧ k ≤ 1000000 ∧ 0 < many ∧ r = .int (pick ns k many)
theorem max2 (a b : Int) : (if b > a then b else a) = if b > a then b else a := rfl
theorem CMul_r {i j : Int} (h1 : -(2 ^ 64) < j) (h2 : j < 2 ^ 64) : CMul i j := .inr ⟨h1, h2⟩
theorem CMul_l {i j : Int} (h1 : -(2 ^ 64) < i) (h2 : i < 2 ^ 64) : CMul i j := .inl ⟨h1, h2⟩
section
variable {K : PySem.W.Frag} {σ : L2.St} {H H0 H10 H1 : Hp} {ta tb : TE} {ss : List SD} {D : Ends}
/-- a, b = x, y -/
theorem st_par {i j : Nat} {d e : PyData} {tA : TA} (n : Now H0 H10 H H1) (s : Sl K H σ ss) (h : EvDs K tA σ H [d, e]) (k : ∀ σ' H' H2, Ex H H' → Now H0 H10 H' H2 → Sl K H' σ' ((ss.set i (.dat d)).set j (.dat e)) → D.nx σ' H2) : tPar i j tA D σ H1 :=
  h H1 n.ex _ fun vs H2 H' e2 ex x dv => by
    cases dv with
    | cons a b =>
      cases b with
      | cons b c =>
        cases c
        exact ⟨_, _, rfl, k _ H' H2 x.ex (n.on e2 ex x) (((s.ex x.ex).set (s := .dat d) (o := some _) a i).set (s := .dat e) (o := some _) b j)⟩
theorem ed_max2 {a b : Int} {tA : TA} (h : EvDs K tA σ H [.int a, .int b]) : EvD K (tCB (fun xs H Q => ∃ i j, xs = [.int i, .int j] ∧ Q (.int (if j > i then j else i)) H) tA) σ H (.int (if b > a then b else a)) :=
  ed_cb h fun H' vs e dv H1 e1 Q q => by
    cases dv with
    | cons x y =>
      cases y with
      | cons y z =>
        cases z
        rw [x.int_eq, y.int_eq]
        exact ⟨a, b, rfl, q.val e1 fun _ => .int _⟩
end
section
variable {P : Program} {w : World} {K : PySem.W.Frag} {mg : Str → Option Value} {base : Heap} {f : Addr} {fd : FuncData}
theorem sc_law_pick : FnScope ["script", "k", "many", "cell", "drawn", "rest", "turn"] ["script", "k", "many"] (defScope s_law_pick) := ⟨rfl, rfl, rfl, by decide +kernel, rfl, by decide +kernel, by decide +kernel⟩
theorem fx_law_pick (T : Txt mg) (F : FunD K "_law_pick" "_law_pick" (defArgs s_law_pick) (defBody s_law_pick) (defScope s_law_pick) [] [] f fd) (hm : mg "_law_pick" = some (.ref f)) : Fx P w K mg base 1 "_law_pick" ["script", "k", "many"] (spR K 3 Rpick) := by
  refine fx_pure F hm sc_law_pick rfl (fun _ _ _ _ _ _ us hl => match us, hl with | [_, _, _], _ => rfl) fun cdv A outer s Hs E hr ds r hl hR => ?_
  refine ⟨_, (pss_cons (ps_set (i := 3) sc_law_pick.nd rfl (by first | exact Or.inl rfl | exact Or.inr rfl) (pe_ifExp (pt_cmpR (op_neK (K := K) rfl hr.units) (pv 0) (pe_lst pa_nil) (nomark _)) (pe_ix (ix_K (K := K) rfl) (pv 0) (pe_op op_mod (pv 1) (pe_callB (call_lenK (K := K) rfl) (by rfl) T.m_len (by decide +kernel) (pa_cons (pv 0) pa_nil))) (fun _ _ => rfl)) pe_int)) (pss_cons (ps_par (by rfl) sc_law_pick.nd (i := 5) (j := 6) rfl rfl (by decide) rfl rfl (pa_cons (pe_op op_fdivW (pv 3) (pe_op op_pow pe_int pe_int)) (pa_cons (pe_op op_fdivW (pv 1) (pe_callB (call_max2 rfl) (by rfl) T.m_max (by decide +kernel) (pa_cons (pe_callB (call_lenK (K := K) rfl) (by rfl) T.m_len (by decide +kernel) (pa_cons (pv 0) pa_nil)) (pa_cons pe_int pa_nil)))) pa_nil)) (by rfl)) (pss_cons (ps_while PassesOwn.never (PW.pt (pw_and (pt_cmpR op_gt (pv 5) pe_int (nomark _)) (pw_and1 (pt_cmpR op_gt (pv 6) pe_int (nomark _))))) (pss_one (ps_par (by rfl) sc_law_pick.nd (i := 5) (j := 6) rfl rfl (by decide) rfl rfl (pa_cons (pe_op op_fdivW (pv 5) pe_int) (pa_cons (pe_op op_sub (pv 6) pe_int) pa_nil)) (by rfl)))) (pss_cons (ps_if (pt_cmpR op_gt (pv 5) pe_int (nomark _)) (pss_one (ps_ret (pe_op op_mod (pe_op op_mod (pv 5) pe_int) (pv 2)))) pss_nil) (pss_cons (ps_set (i := 4) sc_law_pick.nd rfl (by first | exact Or.inl rfl | exact Or.inr rfl) (pe_op op_mod (pe_op (op_mulK (K := K) rfl) (pe_op (op_addK (K := K) rfl) (pe_op (op_mulK (K := K) rfl) (pv 3) pe_int) (pe_op (op_mulK (K := K) rfl) pe_int (pe_op (op_addK (K := K) rfl) (pv 1) pe_int))) pe_int) pe_int)) (pss_one (ps_ret (pe_op op_mod (pe_op op_mod (pe_op (op_addK (K := K) rfl) (pe_op (op_mulK (K := K) rfl) (pv 4) (pv 4)) (pe_op op_fdivW (pv 4) pe_int)) pe_int) (pv 2))))))))), ?_⟩
  obtain ⟨ns, k, many, rfl, hns, hk0, hk1, hmany, rfl⟩ := hR
  intro σ H0 H10 Q n s q
  have eLen : ∀ {σ' : L2.St} {H' : Hp} {ss : List SD}, Sl K H' σ' ss → ss[0]? = some (.dat (scrD ns)) → EvD K (tCB (lenR K) (tCons (tVar 0) tNil)) σ' H' (.int ns.length) := fun s h => ed_lenScr (ed_sl s h)
  -- cell = ..
  refine st_asg n s (d := .int (pickCell ns k)) (ed_if (eb_test (ed_op (ed_sl s rfl) (ed_lst eds_nil (by decide)) rd_neScr)) (fun h => ?_) (fun h => ?_)) ?_
  · have he : ns.isEmpty = false := by simpa using h
    have hpos : 0 < ns.length := by
      cases ns with
      | nil => cases he
      | cons _ _ => exact Nat.succ_pos _
    refine ed_op (ed_sl s rfl) (ed_op (ed_sl s rfl) (eLen s rfl) (rd_I (C := fun _ j => 0 < j) (g := fun i j => i % j) (by omega))) (rd_ixScr ?_)
    have h1 : 0 ≤ k % (ns.length : Int) := Int.emod_nonneg _ (by omega)
    have h2 : k % (ns.length : Int) < ns.length := Int.emod_lt_of_pos _ (by omega)
    obtain ⟨m, hm⟩ : ∃ m : Nat, k % (ns.length : Int) = m := ⟨(k % (ns.length : Int)).toNat, by omega⟩
    unfold atI pickCell
    rw [if_neg (by rw [he]; decide), hm, ixN_nat (by omega)]
    show ns[m]? = some (ns.getD (m : Int).toNat 0)
    rw [List.getD_eq_getElem?_getD, Int.toNat_natCast, List.getElem?_eq_getElem (by omega)]
    rfl
  · have he : ns.isEmpty = true := by simpa using h
    unfold pickCell
    rw [if_pos he]
    exact ed_c (.int 0)
  · intro σ1 H1 H11 ex1 n1 s1
    -- rest, turn = ..
    refine st_par n1 s1 (eds_cons (d := .int (pickCell ns k / 10 ^ 18)) (ed_op (ed_sl s1 rfl) (ed_op (ed_c (.int 10)) (ed_c (.int 18)) (rd_I (C := CPow) (g := fun i j => i ^ j.toNat) ⟨by decide, by decide, by decide⟩)) (rd_I (C := CDivW) (g := fun i j => i / j) ⟨by decide, by decide +kernel⟩))
      (eds_cons (d := .int (k / (if 1 > (ns.length : Int) then 1 else (ns.length : Int)))) (ed_op (ed_sl s1 rfl) (ed_max2 (eds_cons (eLen s1 rfl) (eds_cons (ed_c (.int 1)) eds_nil))) (rd_I (C := CDivW) (g := fun i j => i / j) ?_)) eds_nil)) ?_
    · have h1 : (0 : Int) < (if 1 > (ns.length : Int) then 1 else (ns.length : Int)) := by split <;> omega
      have h2 : (if 1 > (ns.length : Int) then 1 else (ns.length : Int)) ≤ 63 := by split <;> omega
      exact wide_div (b := 6) h1 (by omega) (by decide) (by decide)
    · intro σ2 H2 H21 ex2 n2 s2
      -- while
      refine st_while (fun m σ' Hr => ∃ (H' : Hp) (rest : Int) (t : Nat), t = m ∧ Now H0 H10 H' Hr ∧ (pickLoop t rest).1 = pickRest ns k ∧ t ≤ 1000000 ∧ Sl K H' σ' [.dat (scrD ns), .dat (.int k), .dat (.int many), .dat (.int (pickCell ns k)), .unk, .dat (.int rest), .dat (.int t)]) (k / (if 1 > (ns.length : Int) then 1 else (ns.length : Int))).toNat ?_ ?_
      · have h0 : 0 ≤ k / (if 1 > (ns.length : Int) then 1 else (ns.length : Int)) := Int.ediv_nonneg hk0 (by split <;> omega)
        have h1 : k / (if 1 > (ns.length : Int) then 1 else (ns.length : Int)) ≤ k := Int.ediv_le_self _ hk0
        refine ⟨H2, pickCell ns k / 10 ^ 18, _, rfl, n2, rfl, by omega, ?_⟩
        rw [Int.toNat_of_nonneg h0]
        exact s2
      · rintro m σ3 Hr ⟨H3, rest, t, rfl, n3, hp, ht, s3⟩
        refine ⟨H3, decide (0 < rest) && decide ((0 : Int) < t), n3.ex, eb_and (eb_test (ed_op (ed_sl s3 rfl) (ed_c (.int 0)) rd_IB)) (fun _ => eb_test (ed_op (ed_sl s3 rfl) (ed_c (.int 0)) rd_IB)), fun hb H4 e4 => ?_, fun hb H4 e4 => ?_⟩
        · simp only [Bool.and_eq_true, decide_eq_true_eq] at hb
          obtain ⟨t', rfl⟩ : ∃ t', t = t' + 1 := ⟨t - 1, by omega⟩
          have n4 : Now H0 H10 H3 H4 := ⟨n3.ex.trans e4, n3.ext, n3.grow.trans e4⟩
          refine st_par n4 s3 (eds_cons (d := .int (rest / 840)) (ed_op (ed_sl s3 rfl) (ed_c (.int 840)) (rd_I (C := CDivW) (g := fun i j => i / j) ⟨by decide, by decide +kernel⟩)) (eds_cons (d := .int (t' : Int)) (ed_is (ed_op (ed_sl s3 rfl) (ed_c (.int 1)) (rd_I0 (g := fun i j => i - j))) (by congr 1; omega)) eds_nil)) ?_
          intro σ5 H5 H51 ex5 n5 s5
          refine ⟨t', Nat.lt_succ_self _, H5, rest / 840, t', rfl, n5, ?_, by omega, s5⟩
          rw [← hp]
          show _ = (if 0 < rest then pickLoop t' (rest / 840) else (rest, (t' : Int) + 1)).1
          rw [if_pos hb.1]
        · have n4 : Now H0 H10 H3 H4 := ⟨n3.ex.trans e4, n3.ext, n3.grow.trans e4⟩
          have hrest : rest = pickRest ns k := by
            rw [← hp]
            cases t with
            | zero => rfl
            | succ t' =>
              have : ¬ 0 < rest := by
                intro h
                have h2 : ((0 : Int) < ((t' + 1 : Nat) : Int)) := by omega
                rw [decide_eq_true h, decide_eq_true h2] at hb
                cases hb
              show rest = (if 0 < rest then pickLoop t' (rest / 840) else (rest, (t' : Int) + 1)).1
              rw [if_neg this]
          subst hrest
          -- if rest > 0
          refine st_if n4 (eb_test (ed_op (ed_sl s3 rfl) (ed_c (.int 0)) rd_IB)) (fun h H5 n5 => ?_) (fun h H5 n5 => ?_)
          · have h0 : 0 < pickRest ns k := by simpa using h
            refine st_ret (K := K) n5 (ed_op (ed_op (ed_sl s3 rfl) (ed_c (.int 840)) (rd_I (C := fun _ j => 0 < j) (g := fun i j => i % j) (by decide))) (ed_sl s3 rfl) (rd_I (C := fun _ j => 0 < j) (g := fun i j => i % j) hmany)) ?_
            unfold pick at q
            rw [if_pos h0] at q
            exact q
          · have h0 : ¬ 0 < pickRest ns k := by simpa using h
            refine st_asg n5 s3 (d := .int (pickDrawn ns k)) (ed_op (ed_op (ed_op (ed_op (ed_sl s3 rfl) (ed_c (.int 31)) (rd_mulI (CMul_r (by decide) (by decide)))) (ed_op (ed_c (.int 6151)) (ed_op (ed_sl s3 rfl) (ed_c (.int 1)) rd_addI) (rd_mulI (CMul_l (by decide) (by decide)))) rd_addI) (ed_c (.int 40692)) (rd_mulI (CMul_r (by decide) (by decide)))) (ed_c (.int 2147483399)) (rd_I (C := fun _ j => 0 < j) (g := fun i j => i % j) (by decide))) ?_
            intro σ6 H6 H61 ex6 n6 s6
            have d0 : 0 ≤ pickDrawn ns k := Int.emod_nonneg _ (by decide)
            have d1 : pickDrawn ns k < 2147483399 := Int.emod_lt_of_pos _ (by decide)
            refine st_ret (K := K) n6 (ed_op (ed_op (ed_op (ed_op (ed_sl s6 rfl) (ed_sl s6 rfl) (rd_mulI (CMul_r (by omega) (by omega)))) (ed_op (ed_sl s6 rfl) (ed_c (.int 31)) (rd_I (C := CDivW) (g := fun i j => i / j) ⟨by decide, by decide +kernel⟩)) rd_addI) (ed_c (.int 2147483629)) (rd_I (C := fun _ j => 0 < j) (g := fun i j => i % j) (by decide))) (ed_sl s6 rfl) (rd_I (C := fun _ j => 0 < j) (g := fun i j => i % j) hmany)) ?_
            unfold pick at q
            rw [if_neg h0] at q
            exact q
end
end LR

/-! ### signs, joined and drawn -/
namespace LR
open PySem PySem.Spec PyProof.Rows L2 Evl
/-- signs joined -/
theorem join_signs (l : List Nat) : Txt.join "" (l.map fun c => (⟨#[c]⟩ : Str)) = mk l := by
  have e : ∀ l : List Nat, TL.joinL [] (l.map fun c => [c]) = l := fun l => by
    induction l with
    | nil => rfl
    | cons a r ih =>
      cases r with
      | nil => rfl
      | cons b r =>
        show [a] ++ ([] ++ TL.joinL [] ((b :: r).map fun c => [c])) = _
        rw [ih] <;> rfl
  apply str_cps_inj
  have h := TL.tl_join "" (l.map fun c => (⟨#[c]⟩ : Str))
  rw [List.map_map] at h
  rw [TL.join_eq]
  exact h.trans (e l)
theorem signs_size (l : List Nat) : ((l.map fun c => (⟨#[c]⟩ : Str)).map (·.length)).sum + (l.map fun c => (⟨#[c]⟩ : Str)).length * Str.length "" = l.length := by
  have e : Str.length "" = 0 := by decide +kernel
  rw [e, Nat.mul_zero, Nat.add_zero]
  induction l with
  | nil => rfl
  | cons a r ih =>
    rw [List.map_cons, List.map_cons, List.sum_cons, ih, List.length_cons]
    show 1 + r.length = r.length + 1
    omega
section
variable {K : PySem.W.Frag} {σ : L2.St} {H : Hp} {ta tb te ti : TE}
/-- the i-th sign of a text that is written -/
theorem rd_sign {z : Str} {i : Int} {c : Nat} (hz : z.length ≤ 100000) (h0 : 0 ≤ i) (h : z.cps.toList[i.toNat]? = some c) : RD2 K (rIx K) (.str z) (.int i) H (.str ⟨#[c]⟩) := rd_ixS hz (by
  unfold atI
  obtain ⟨n, rfl⟩ : ∃ n : Nat, i = n := ⟨i.toNat, by omega⟩
  rw [Int.toNat_natCast] at h
  have hn : n < z.cps.toList.length := (List.getElem?_eq_some_iff.mp h).1
  rw [ixN_nat hn]
  exact h)
theorem small_at {i : Nat} (h : i < 26) : smallS.cps.toList[i]? = some (97 + i) := by
  have : ∀ i : Fin 26, smallS.cps.toList[i.val]? = some (97 + i.val) := by decide +kernel
  exact this ⟨i, h⟩
/-- ''.join([the signs]) -/
theorem ed_joinSigns {l : List Nat} {N : Nat} (hb : EvD K tb σ H (.list (l.map fun c => .str ⟨#[c]⟩))) (hl : l.length ≤ N) (hN : N ≤ 16777216 := by decide) : EvD K (tM1 (rJoin K) (tC (.str "")) tb) σ H (.str (mk l)) := by
  rw [← join_signs]
  refine ed_join (ed_c (.str _)) (ed_is hb ?_) (N := N) (by rw [signs_size]; exact hl) hN
  rw [List.map_map]
  rfl
end
section
variable {P : Program} {w : World} {K : PySem.W.Frag} {mg : Str → Option Value} {base : Heap} {f : Addr} {fd : FuncData}
theorem callPick {σ : L2.St} {H : Hp} {ta tb tc : TE} {ns : List Int} {k m : Int} {E : XK} (hns : ns.length ≤ 63) (h1 : EvD K ta σ H (scrD ns)) (h2 : EvD K tb σ H (.int k)) (h3 : EvD K tc σ H (.int m)) (hk0 : 0 ≤ k) (hk1 : k ≤ 1000000) (hm : 0 < m) : EvD K (tCall (spR K 3 Rpick) [] E (tCons ta (tCons tb (tCons tc tNil)))) σ H (.int (pick ns k m)) :=
  ed_call (eds_cons h1 (eds_cons h2 (eds_cons h3 eds_nil))) ⟨ns, k, m, rfl, hns, hk0, hk1, hm, rfl⟩
end
end LR

/-! ### the law's keys -/
namespace LR
open PySem PySem.Spec PyProof.Rows L2 Evl
/-- what _law_key makes: its signs -/
def keyL (ns : List Int) (k : Int) : List Nat :=
  if pick ns k 4 = 0 then (List.range (1 + pick ns (k + 9) 3).toNat).map fun (i : Nat) => 97 + (pick ns (k + 1 + i) 3).toNat
  else if pick ns k 4 = 1 then [115, 116, 101, 109] ++ (List.range (1 + pick ns (k + 9) 6).toNat).map fun (i : Nat) => 97 + (pick ns (k + 1 + i) 2).toNat
  else (List.range (1 + pick ns (k + 9) 10).toNat).map fun (i : Nat) => 97 + (pick ns (k + 1 + ((i % 8 : Nat) : Int)) 26).toNat
def lawKey (ns : List Int) (k : Int) : Str := mk (keyL ns k)
theorem keyL_len (ns : List Int) (k : Int) : 1 ≤ (keyL ns k).length ∧ (keyL ns k).length ≤ 10 := by
  unfold keyL
  have a1 := pick_lo ns (k + 9) (many := 3) (by decide)
  have a2 := pick_hi ns (k + 9) (many := 3) (by decide)
  have b1 := pick_lo ns (k + 9) (many := 6) (by decide)
  have b2 := pick_hi ns (k + 9) (many := 6) (by decide)
  have c1 := pick_lo ns (k + 9) (many := 10) (by decide)
  have c2 := pick_hi ns (k + 9) (many := 10) (by decide)
  split
  · rw [List.length_map, List.length_range]
    omega
  · split
    · rw [List.length_append, List.length_map, List.length_range]
      show 1 ≤ 4 + _ ∧ 4 + _ ≤ 10
      omega
    · rw [List.length_map, List.length_range]
      omega
theorem keyL_small (ns : List Int) (k : Int) : ∀ c ∈ keyL ns k, 97 ≤ c ∧ c ≤ 122 := by
  intro c hc
  unfold keyL at hc
  split at hc
  · obtain ⟨i, _, rfl⟩ := List.mem_map.mp hc
    have a1 := pick_lo ns (k + 1 + i) (many := 3) (by decide)
    have a2 := pick_hi ns (k + 1 + i) (many := 3) (by decide)
    omega
  · split at hc
    · rcases List.mem_append.mp hc with h | h
      · simp only [List.mem_cons, List.not_mem_nil, or_false] at h
        omega
      · obtain ⟨i, _, rfl⟩ := List.mem_map.mp h
        have a1 := pick_lo ns (k + 1 + i) (many := 2) (by decide)
        have a2 := pick_hi ns (k + 1 + i) (many := 2) (by decide)
        omega
    · obtain ⟨i, _, rfl⟩ := List.mem_map.mp hc
      have a1 := pick_lo ns (k + 1 + ((i % 8 : Nat) : Int)) (many := 26) (by decide)
      have a2 := pick_hi ns (k + 1 + ((i % 8 : Nat) : Int)) (many := 26) (by decide)
      omega
theorem lawKey_len (ns : List Int) (k : Int) : 1 ≤ (lawKey ns k).length ∧ (lawKey ns k).length ≤ 10 := by
  have h := keyL_len ns k
  show 1 ≤ (keyL ns k).toArray.size ∧ (keyL ns k).toArray.size ≤ 10
  simpa using h
def Rkey (ds : List PyData) (r : PyData) : Prop := ∃ (ns : List Int) (k : Int), ds = [scrD ns, .int k] ∧ ns.length ≤ 63 ∧ 0 ≤ k ∧ k ≤ 900000 ∧ r = .str (lawKey ns k)
section
variable {P : Program} {w : World} {K : PySem.W.Frag} {mg : Str → Option Value} {base : Heap} {f : Addr} {fd : FuncData}
theorem sc_law_key : FnScope ["script", "at", "turn", "many", "k"] ["script", "at"] (defScope s_law_key) := ⟨rfl, rfl, rfl, by decide +kernel, rfl, by decide +kernel, by decide +kernel⟩
theorem fx_law_key (T : Txt mg) (F : FunD K "_law_key" "_law_key" (defArgs s_law_key) (defBody s_law_key) (defScope s_law_key) [] [] f fd) (hm : mg "_law_key" = some (.ref f)) (g_law_pick : Fx P w K mg base 1 "_law_pick" ["script", "k", "many"] (spR K 3 Rpick)) : Fx P w K mg base 2 "_law_key" ["script", "at"] (spR K 2 Rkey) := by
  refine fx_pure F hm sc_law_key rfl (fun _ _ _ _ _ _ us hl => match us, hl with | [_, _], _ => rfl) fun cdv A outer s Hs E hr ds r hl hR => ?_
  refine ⟨_, (pss_cons (ps_set (i := 2) sc_law_key.nd rfl (by first | exact Or.inl rfl | exact Or.inr rfl) (pe_fx g_law_pick hr (by decide) (by rfl) passN (pa_cons (pv 0) (pa_cons (pv 1) (pa_cons pe_int pa_nil))))) (pss_cons (ps_if (pt_cmpR (op_eqK (K := K) rfl hr.units) (pv 2) pe_int (nomark _)) (pss_one (ps_ret (pe_m1 PySem.F.slot_str_join PySem.F.type_str_join (mt_joinK (K := K) rfl) pe_str (pe_lc (own := [("k", 4)]) rfl sc_law_key.nd (pi_range1 (by rfl) T.m_range (pa_cons (pe_op (op_addK (K := K) rfl) pe_int (pe_fx g_law_pick hr (by decide) (by rfl) passN (pa_cons (pv 0) (pa_cons (pe_op (op_addK (K := K) rfl) (pv 1) pe_int) (pa_cons pe_int pa_nil))))) pa_nil)) (blkOk_by (N := ["script", "at", "turn", "many", "k"]) (sc := defScope s_law_key) (by decide +kernel)) (fun _ _ _ _ _ => (pg_name (i := 4) sc_law_key.nd rfl (by first | exact Or.inl rfl | exact Or.inr rfl))) (fun _ _ _ _ _ => pts_nil) (fun _ _ _ _ _ => (pe_ix (ix_K (K := K) rfl) pe_str (pe_fx g_law_pick hr (by decide) (by rfl) passN (pa_cons (pv 0) (pa_cons (pe_op (op_addK (K := K) rfl) (pe_op (op_addK (K := K) rfl) (pv 1) pe_int) (pv 4)) (pa_cons pe_int pa_nil)))) (fun _ _ => rfl))))))) pss_nil) (pss_cons (ps_if (pt_cmpR (op_eqK (K := K) rfl hr.units) (pv 2) pe_int (nomark _)) (pss_cons (ps_set (i := 3) sc_law_key.nd rfl (by first | exact Or.inl rfl | exact Or.inr rfl) (pe_op (op_addK (K := K) rfl) pe_int (pe_fx g_law_pick hr (by decide) (by rfl) passN (pa_cons (pv 0) (pa_cons (pe_op (op_addK (K := K) rfl) (pv 1) pe_int) (pa_cons pe_int pa_nil)))))) (pss_one (ps_ret (pe_op (op_addK (K := K) rfl) pe_str (pe_m1 PySem.F.slot_str_join PySem.F.type_str_join (mt_joinK (K := K) rfl) pe_str (pe_lc (own := [("k", 4)]) rfl sc_law_key.nd (pi_range1 (by rfl) T.m_range (pa_cons (pv 3) pa_nil)) (blkOk_by (N := ["script", "at", "turn", "many", "k"]) (sc := defScope s_law_key) (by decide +kernel)) (fun _ _ _ _ _ => (pg_name (i := 4) sc_law_key.nd rfl (by first | exact Or.inl rfl | exact Or.inr rfl))) (fun _ _ _ _ _ => pts_nil) (fun _ _ _ _ _ => (pe_ix (ix_K (K := K) rfl) pe_str (pe_fx g_law_pick hr (by decide) (by rfl) passN (pa_cons (pv 0) (pa_cons (pe_op (op_addK (K := K) rfl) (pe_op (op_addK (K := K) rfl) (pv 1) pe_int) (pv 4)) (pa_cons pe_int pa_nil)))) (fun _ _ => rfl))))))))) pss_nil) (pss_cons (ps_set (i := 3) sc_law_key.nd rfl (by first | exact Or.inl rfl | exact Or.inr rfl) (pe_op (op_addK (K := K) rfl) pe_int (pe_fx g_law_pick hr (by decide) (by rfl) passN (pa_cons (pv 0) (pa_cons (pe_op (op_addK (K := K) rfl) (pv 1) pe_int) (pa_cons pe_int pa_nil)))))) (pss_one (ps_ret (pe_m1 PySem.F.slot_str_join PySem.F.type_str_join (mt_joinK (K := K) rfl) pe_str (pe_lc (own := [("k", 4)]) rfl sc_law_key.nd (pi_range1 (by rfl) T.m_range (pa_cons (pv 3) pa_nil)) (blkOk_by (N := ["script", "at", "turn", "many", "k"]) (sc := defScope s_law_key) (by decide +kernel)) (fun _ _ _ _ _ => (pg_name (i := 4) sc_law_key.nd rfl (by first | exact Or.inl rfl | exact Or.inr rfl))) (fun _ _ _ _ _ => pts_nil) (fun _ _ _ _ _ => (pe_ix (ix_K (K := K) rfl) pe_str (pe_fx g_law_pick hr (by decide) (by rfl) passN (pa_cons (pv 0) (pa_cons (pe_op (op_addK (K := K) rfl) (pe_op (op_addK (K := K) rfl) (pv 1) pe_int) (pe_op op_mod (pv 4) pe_int)) (pa_cons pe_int pa_nil)))) (fun _ _ => rfl))))))))))), ?_⟩
  obtain ⟨ns, k, rfl, hns, hk0, hk1, rfl⟩ := hR
  intro σ H0 H10 Q n s q
  have len := keyL_len ns k
  have t0 := pick_lo ns k (many := 4) (by decide)
  refine st_asg n s (d := .int (pick ns k 4)) (callPick hns (ed_sl s rfl) (ed_sl s rfl) (ed_c (.int 4)) hk0 (by omega) (by decide)) ?_
  intro σ1 H1 H11 ex1 n1 s1
  have big : ∀ (m : Int) (f : Nat → Nat), 0 < m → m ≤ 10 → (List.range (1 + pick ns (k + 9) m).toNat).map f = (List.range (1 + pick ns (k + 9) m).toNat).map f := fun _ _ _ _ => rfl
  refine st_if n1 (eb_test (ed_op (ed_sl s1 rfl) (ed_c (.int 0)) rd_eqI)) (fun h H2 n2 => ?_) (fun h H2 n2 => ?_)
  · have h0 : pick ns k 4 = 0 := of_decide_eq_true h
    have a1 := pick_lo ns (k + 9) (many := 3) (by decide)
    have a2 := pick_hi ns (k + 9) (many := 3) (by decide)
    have e : lawKey ns k = mk ((List.range (1 + pick ns (k + 9) 3).toNat).map fun (i : Nat) => 97 + (pick ns (k + 1 + i) 3).toNat) := by
      unfold lawKey keyL
      rw [if_pos h0]
    rw [e] at q
    refine st_ret (K := K) n2 (ed_joinSigns (N := 10) ?_ (by rw [List.length_map, List.length_range]; omega)) q
    rw [List.map_map]
    refine ed_lcR _ s1 (eds_cons (ed_op (ed_c (.int 1)) (callPick (k := k + 9) hns (ed_sl s1 rfl) (ed_op (ed_sl s1 rfl) (ed_c (.int 9)) rd_addI) (ed_c (.int 3)) (by omega) (by omega) (by decide)) rd_addI) eds_nil) (by omega) rfl (fun i hi σ2 Hc e1 s2 => ?_)
    have b1 := pick_lo ns (k + 1 + i) (many := 3) (by decide)
    have b2 := pick_hi ns (k + 1 + i) (many := 3) (by decide)
    refine ed_op (ed_c (.str _)) (callPick (k := k + 1 + i) hns (ed_sl s2 rfl) (ed_op (ed_op (ed_sl s2 rfl) (ed_c (.int 1)) rd_addI) (ed_sl s2 rfl) rd_addI) (ed_c (.int 3)) (by omega) (by omega) (by decide)) (rd_sign (by decide +kernel) b1 ?_)
    have g : ∀ i : Fin 3, (Str.ofString "abc").cps.toList[i.val]? = some (97 + i.val) := by decide +kernel
    exact g ⟨(pick ns (k + 1 + i) 3).toNat, by omega⟩
  · have h0 : ¬ pick ns k 4 = 0 := of_decide_eq_false h
    refine st_if n2 (eb_test (ed_op (ed_sl s1 rfl) (ed_c (.int 1)) rd_eqI)) (fun h H3 n3 => ?_) (fun h H3 n3 => ?_)
    · have h1 : pick ns k 4 = 1 := of_decide_eq_true h
      have a1 := pick_lo ns (k + 9) (many := 6) (by decide)
      have a2 := pick_hi ns (k + 9) (many := 6) (by decide)
      refine st_asg n3 s1 (d := .int (1 + pick ns (k + 9) 6)) (ed_op (ed_c (.int 1)) (callPick (k := k + 9) hns (ed_sl s1 rfl) (ed_op (ed_sl s1 rfl) (ed_c (.int 9)) rd_addI) (ed_c (.int 6)) (by omega) (by omega) (by decide)) rd_addI) ?_
      intro σ4 H4 H41 ex4 n4 s4
      have e : lawKey ns k = "stem" ++ mk ((List.range (1 + pick ns (k + 9) 6).toNat).map fun (i : Nat) => 97 + (pick ns (k + 1 + i) 2).toNat) := by
        apply str_cps_inj
        unfold lawKey keyL
        rw [if_neg h0, if_pos h1]
        show _ = (("stem" : Str).cps ++ _).toList
        rw [Array.toList_append] <;> rfl
      rw [e] at q
      refine st_ret (K := K) n4 (ed_op (ed_c (.str _)) (ed_joinSigns (N := 10) ?_ (by rw [List.length_map, List.length_range]; omega)) (rd_addS ?_)) q
      · rw [List.map_map]
        refine ed_lcR _ s4 (eds_cons (ed_sl s4 rfl) eds_nil) (by omega) rfl (fun i hi σ2 Hc e1 s2 => ?_)
        have b1 := pick_lo ns (k + 1 + i) (many := 2) (by decide)
        have b2 := pick_hi ns (k + 1 + i) (many := 2) (by decide)
        refine ed_op (ed_c (.str _)) (callPick (k := k + 1 + i) hns (ed_sl s2 rfl) (ed_op (ed_op (ed_sl s2 rfl) (ed_c (.int 1)) rd_addI) (ed_sl s2 rfl) rd_addI) (ed_c (.int 2)) (by omega) (by omega) (by decide)) (rd_sign (by decide +kernel) b1 ?_)
        have g : ∀ i : Fin 2, (Str.ofString "ab").cps.toList[i.val]? = some (97 + i.val) := by decide +kernel
        exact g ⟨(pick ns (k + 1 + i) 2).toNat, by omega⟩
      · have e4 : (Str.ofString "stem").length = 4 := by decide +kernel
        have e5 : (mk ((List.range (1 + pick ns (k + 9) 6).toNat).map fun (i : Nat) => 97 + (pick ns (k + 1 + i) 2).toNat)).length = (1 + pick ns (k + 9) 6).toNat := by
          show (List.toArray _).size = _
          simp
        show (Str.ofString "stem").length + _ ≤ sizeLine
        rw [e4, e5]
        exact Nat.le_trans (show 4 + (1 + pick ns (k + 9) 6).toNat ≤ 10 by omega) (by decide)
    · have h1 : ¬ pick ns k 4 = 1 := of_decide_eq_false h
      have a1 := pick_lo ns (k + 9) (many := 10) (by decide)
      have a2 := pick_hi ns (k + 9) (many := 10) (by decide)
      refine st_asg n3 s1 (d := .int (1 + pick ns (k + 9) 10)) (ed_op (ed_c (.int 1)) (callPick (k := k + 9) hns (ed_sl s1 rfl) (ed_op (ed_sl s1 rfl) (ed_c (.int 9)) rd_addI) (ed_c (.int 10)) (by omega) (by omega) (by decide)) rd_addI) ?_
      intro σ4 H4 H41 ex4 n4 s4
      have e : lawKey ns k = mk ((List.range (1 + pick ns (k + 9) 10).toNat).map fun (i : Nat) => 97 + (pick ns (k + 1 + ((i % 8 : Nat) : Int)) 26).toNat) := by
        unfold lawKey keyL
        rw [if_neg h0, if_neg h1]
      rw [e] at q
      refine st_ret (K := K) n4 (ed_joinSigns (N := 10) ?_ (by rw [List.length_map, List.length_range]; omega)) q
      rw [List.map_map]
      refine ed_lcR _ s4 (eds_cons (ed_sl s4 rfl) eds_nil) (by omega) rfl (fun i hi σ2 Hc e1 s2 => ?_)
      have b1 := pick_lo ns (k + 1 + ((i % 8 : Nat) : Int)) (many := 26) (by decide)
      have b2 := pick_hi ns (k + 1 + ((i % 8 : Nat) : Int)) (many := 26) (by decide)
      refine ed_op (ed_c (.str _)) (callPick (k := k + 1 + ((i % 8 : Nat) : Int)) hns (ed_sl s2 rfl) (ed_op (ed_op (ed_sl s2 rfl) (ed_c (.int 1)) rd_addI) (ed_is (ed_op (ed_sl s2 rfl) (ed_c (.int 8)) (rd_I (C := fun _ j => 0 < j) (g := fun i j => i % j) (by decide))) rfl) rd_addI) (ed_c (.int 26)) (by omega) (by omega) (by decide)) (rd_sign (by decide +kernel) b1 ?_)
      exact small_at (i := (pick ns (k + 1 + ((i % 8 : Nat) : Int)) 26).toNat) (by omega)
end
end LR

/-! ### small facts of texts -/
namespace LR
open PySem PySem.Spec PyProof.Rows L2 Evl
theorem cutS_to {z : Str} {n : Nat} (h : n ≤ z.length) : cutS z none (some (n : Int)) = mk (z.cps.toList.take n) := by
  unfold cutS
  rw [HT.sIx_nat, HT.sIx_none, Nat.min_eq_left h, List.drop_zero, Nat.sub_zero]
section
variable {K : PySem.W.Frag} {σ : L2.St} {H : Hp} {te : TE}
theorem ed_strI {i : Int} (h : EvD K te σ H (.int i)) (hi : i.natAbs.log2 < 1920) : EvD K (tCB (fun xs H Q => ∃ i : Int, xs = [.int i] ∧ i.natAbs.log2 < 1920 ∧ Q (.str (toString i)) H) (tCons te tNil)) σ H (.str (Str.ofString (toString i))) := fun H1 e1 Q q =>
  h H1 e1 _ fun v H2 Ha e2 ea xa da => ⟨i, by rw [da.int_eq], hi, q _ H2 Ha e2 ea xa (.str _)⟩
end
end LR

/-! ### the law's values -/
namespace LR
open PySem PySem.Spec PyProof.Rows L2 Evl
abbrev valW : Str := "v0123456789x"
def lawVal (ns : List Int) (k : Int) : Str := if pick ns (k + 1) 3 = 0 then mk (TL.numL (pick ns (k + 2) 1000000000000).toNat) else mk (valW.cps.toList.take (pick ns k 13).toNat)
def Rvalue (ds : List PyData) (r : PyData) : Prop := ∃ (ns : List Int) (k : Int), ds = [scrD ns, .int k] ∧ ns.length ≤ 63 ∧ 0 ≤ k ∧ k ≤ 900000 ∧ r = .str (lawVal ns k)
theorem numL_ok : ∀ (d n : Nat), n < 10 ^ (d + 1) → (TL.numL n).length ≤ d + 1 ∧ ∀ c ∈ TL.numL n, 48 ≤ c ∧ c ≤ 57
  | 0, n, h => by
    rw [TL.numL_lt (by simpa using h)]
    refine ⟨Nat.le_refl _, fun c hc => ?_⟩
    have := List.mem_singleton.mp hc
    omega
  | d + 1, n, h => by
    rcases Nat.lt_or_ge n 10 with c | c
    · rw [TL.numL_lt c]
      refine ⟨by show 1 ≤ _; omega, fun c hc => ?_⟩
      have := List.mem_singleton.mp hc
      omega
    · have hn : n / 10 < 10 ^ (d + 1) := by
        rw [Nat.div_lt_iff_lt_mul (by decide)]
        rw [Nat.pow_succ] at h
        exact h
      obtain ⟨h1, h2⟩ := numL_ok d (n / 10) hn
      rw [TL.numL_step c]
      refine ⟨by rw [List.length_append, List.length_singleton]; omega, fun x hx => ?_⟩
      rcases List.mem_append.mp hx with m | m
      · exact h2 x m
      · have := List.mem_singleton.mp m
        omega
theorem val_of {l : List Nat} (hl : l.length ≤ 12) (h : ∀ c ∈ l, (97 ≤ c ∧ c ≤ 122) ∨ (48 ≤ c ∧ c ≤ 57)) : isValS (mk l) = true := by
  have e : (smallS ++ figS).cps.toList = (List.range 26).map (97 + ·) ++ (List.range 10).map (48 + ·) := by decide +kernel
  unfold isValS
  rw [Bool.and_eq_true]
  refine ⟨decide_eq_true (by show (List.toArray l).size ≤ 12; rw [List.size_toArray]; exact hl), List.all_eq_true.mpr fun c hc => decide_eq_true ?_⟩
  rw [e]
  rcases h c hc with q | q
  · exact List.mem_append_left _ (List.mem_map.mpr ⟨c - 97, List.mem_range.mpr (by omega), by omega⟩)
  · exact List.mem_append_right _ (List.mem_map.mpr ⟨c - 48, List.mem_range.mpr (by omega), by omega⟩)
theorem lawVal_val (ns : List Int) (k : Int) : isValS (lawVal ns k) = true := by
  unfold lawVal
  have e : valW.cps.toList = [118, 48, 49, 50, 51, 52, 53, 54, 55, 56, 57, 120] := by decide +kernel
  split
  · have h := pick_hi ns (k + 2) (many := 1000000000000) (by decide)
    have h0 := pick_lo ns (k + 2) (many := 1000000000000) (by decide)
    obtain ⟨h1, h2⟩ := numL_ok 11 (pick ns (k + 2) 1000000000000).toNat (by show _ < 1000000000000; omega)
    exact val_of h1 fun c hc => .inr (h2 c hc)
  · refine val_of (by rw [List.length_take, e]; exact Nat.min_le_right _ _) fun c hc => ?_
    have := List.mem_of_mem_take hc
    rw [e] at this
    simp only [List.mem_cons, List.not_mem_nil, or_false] at this
    omega
section
variable {P : Program} {w : World} {K : PySem.W.Frag} {mg : Str → Option Value} {base : Heap} {f : Addr} {fd : FuncData}
theorem sc_law_value : FnScope ["script", "at"] ["script", "at"] (defScope s_law_value) := ⟨rfl, rfl, rfl, by decide +kernel, rfl, by decide +kernel, by decide +kernel⟩
theorem fx_law_value (T : Txt mg) (F : FunD K "_law_value" "_law_value" (defArgs s_law_value) (defBody s_law_value) (defScope s_law_value) [] [] f fd) (hm : mg "_law_value" = some (.ref f)) (g_law_pick : Fx P w K mg base 1 "_law_pick" ["script", "k", "many"] (spR K 3 Rpick)) : Fx P w K mg base 2 "_law_value" ["script", "at"] (spR K 2 Rvalue) := by
  refine fx_pure F hm sc_law_value rfl (fun _ _ _ _ _ _ us hl => match us, hl with | [_, _], _ => rfl) fun cdv A outer s Hs E hr ds r hl hR => ?_
  refine ⟨_, (pss_cons (ps_if (pt_cmpR (op_eqK (K := K) rfl hr.units) (pe_fx g_law_pick hr (by decide) (by rfl) passN (pa_cons (pv 0) (pa_cons (pe_op (op_addK (K := K) rfl) (pv 1) pe_int) (pa_cons pe_int pa_nil)))) pe_int (nomark _)) (pss_one (ps_ret (pe_callTy call_str_int (by rfl) T.m_str (by decide +kernel) (pa_cons (pe_fx g_law_pick hr (by decide) (by rfl) passN (pa_cons (pv 0) (pa_cons (pe_op (op_addK (K := K) rfl) (pv 1) pe_int) (pa_cons (pe_op op_pow pe_int pe_int) pa_nil)))) pa_nil)))) pss_nil) (pss_one (ps_ret (pe_slice (sl_K (K := K) rfl) pe_str po_none (po_some (pe_fx g_law_pick hr (by decide) (by rfl) passN (pa_cons (pv 0) (pa_cons (pv 1) (pa_cons pe_int pa_nil))))))))), ?_⟩
  obtain ⟨ns, k, rfl, hns, hk0, hk1, rfl⟩ := hR
  intro σ H0 H10 Q n s q
  refine st_if n (b := decide (pick ns (k + 1) 3 = 0)) (eb_test (ed_op (callPick hns (ed_sl s rfl) (ed_op (ed_sl s rfl) (ed_c (.int 1)) rd_addI) (ed_c (.int 3)) (by omega) (by omega) (by decide)) (ed_c (.int 0)) rd_eqI)) (fun h H2 n2 => ?_) (fun h H2 n2 => ?_)
  · have h' := of_decide_eq_true h
    have e : lawVal ns k = mk (TL.numL (pick ns (k + 2) 1000000000000).toNat) := by
      unfold lawVal
      rw [if_pos h']
    rw [e] at q
    have hp := pick_hi ns (k + 2) (many := 1000000000000) (by decide)
    have hp0 := pick_lo ns (k + 2) (many := 1000000000000) (by decide)
    have pow12 : EvD K (tOp (rI CPow fun i j => .int (i ^ j.toNat)) (tC (.int 10)) (tC (.int 12))) σ H0 (.int 1000000000000) := ed_is (ed_op (ed_c (.int 10)) (ed_c (.int 12)) (rd_I (C := CPow) (g := fun i j => i ^ j.toNat) ⟨by decide, by decide, by decide⟩)) rfl
    have ePick := callPick (K := K) (E := E0) hns (ed_sl (i := 0) s rfl) (ed_op (ed_sl (i := 1) s rfl) (ed_c (.int 2)) rd_addI) pow12 (k := k + 2) (m := 1000000000000) (by omega) (by omega) (by decide)
    generalize pick ns (k + 2) 1000000000000 = m at ePick q hp hp0
    obtain ⟨m, rfl⟩ : ∃ j : Nat, m = j := ⟨m.toNat, by omega⟩
    refine st_ret (K := K) n2 (ed_is (ed_strI ePick ?_) ?_) q
    · rw [Int.natAbs_natCast]
      rcases Nat.eq_zero_or_pos m with z | z
      · rw [z]; decide
      · exact Nat.lt_of_lt_of_le ((Nat.log2_lt (by omega)).mpr (show m < 2 ^ 40 by omega)) (by decide)
    · congr 1
      rw [Int.toNat_natCast]
      exact str_cps_inj (TL.tl_num m)
  · have h' := of_decide_eq_false h
    have e : lawVal ns k = mk (valW.cps.toList.take (pick ns k 13).toNat) := by
      unfold lawVal
      rw [if_neg h']
    rw [e] at q
    have hp := pick_hi ns k (many := 13) (by decide)
    have hp0 := pick_lo ns k (many := 13) (by decide)
    have ePick := callPick (K := K) (E := E0) hns (ed_sl (i := 0) s rfl) (ed_sl (i := 1) s rfl) (ed_c (.int 13)) (k := k) (m := 13) (σ := σ) (H := H0) (by omega) (by omega) (by decide)
    generalize pick ns k 13 = m at ePick q hp hp0
    obtain ⟨m, rfl⟩ : ∃ j : Nat, m = j := ⟨m.toNat, by omega⟩
    refine st_ret (K := K) n2 (ed_is (ed_slS (ed_c (.str _)) eo_none (eo_some (K := K) ePick) (by decide +kernel)) ?_) q
    have lw : valW.length = 12 := by decide +kernel
    rw [cutS_to (by rw [lw]; omega), Int.toNat_natCast]
end
end LR

/-! ### _law_class: the name of what was refused -/
namespace LR
open PySem PySem.Spec PyProof.Rows L2 Evl L2H
theorem _root_.L2H.RoomH.units {k : Nat} {A : Around} (r : RoomH k A) : A.units + 64 < cLine := by
  have := r.un
  omega
/-- the answers of isinstance for the exception x -/
def isL (x : Str) (ys : List Str) : List Bool := ys.map fun y => decide (x = y)
theorem is_count {x : Str} : x ∈ exNs → (isL x exNs).count true = 1 ∧ ∃ j : Nat, exNs[j]? = some x ∧ (isL x exNs)[j]? = some true ∧ ∀ (m : Nat) (z : Bool), m < j → (isL x exNs)[m]? = some z → z ≠ true := by
  have g : ∀ j : Fin exNs.length, (isL exNs[j] exNs).count true = 1 ∧ (isL exNs[j] exNs)[j.val]? = some true ∧ ∀ m : Fin exNs.length, m.val < j.val → (isL exNs[j] exNs)[m.val]? ≠ some true := by decide +kernel
  intro hx
  obtain ⟨j, hj, rfl⟩ := List.mem_iff_getElem.mp hx
  obtain ⟨g1, g2, g3⟩ := g ⟨j, hj⟩
  refine ⟨g1, j, List.getElem?_eq_getElem hj, g2, fun m z hm hz e => ?_⟩
  subst e
  exact g3 ⟨m, by omega⟩ hm hz
section
variable {P : Program} {w : World} {K : PySem.W.Frag} {mg : Str → Option Value} {base : Heap} {f : Addr} {fd : FuncData}
theorem ref_rel {a : Addr} : ∀ u, RelV (.ref a) u → u = Value.ref a := fun _ h => h
theorem ty_rel {n : String} : ∀ u, RelV (.ty n) u → u = Value.type n := fun _ h => h
theorem sc_law_class : FnScope ["e", "kinds", "some"] ["e"] (defScope s_law_class) := ⟨rfl, rfl, rfl, by decide +kernel, rfl, by decide +kernel, by decide +kernel⟩
theorem class_body (T : Txt mg) (xt : ExT exNs K mg) {x : Str} (hx : x ∈ exNs) {a : Addr} {oe : Obj} (hz : Zc (.ref (gaE K x)) none oe) (hf : ∃ vs, oe.data = .fields vs) {cdv : Value} {A : Around} {outer : List Env} {s : Shared} {H : Hp} (hr : RoomH 0 (A.deeper (envOfC "_law_class" (defScope s_law_class) s.heap.objs.size f cdv))) :
    ∃ t, PSs (cxH (CXL P w) P w K mg base ["e", "kinds", "some"] "_law_class" (defScope s_law_class) f cdv A outer s H E0 (a, oe)) (defBody s_law_class) t ∧ ∀ Q : VK, (∀ H2, Ex H H2 → Q (.str x) H2) → t { nx := fun _ H' => Q .non H', rt := Q } (L2.start ["e", "kinds", "some"] [.ref a]) H := by
  have hC := xt.own x hx
  have hp : (a, oe) ∈ (cxH (CXL P w) P w K mg base ["e", "kinds", "some"] "_law_class" (defScope s_law_class) f cdv A outer s H E0 (a, oe)).pn := List.mem_cons_self
  refine ⟨_, (pss_cons (ps_set (i := 1) sc_law_class.nd rfl (by first | exact Or.inl rfl | exact Or.inr rfl) (pe_lst (pa_cons (pe_callB (call_isPK (K := K) rfl hC hz hf hp) (by rfl) T.m_isinstance (by decide +kernel) (pa_cons (pv 0) (pa_cons (C8.pe_gc (v := .ref (gaE K "NoKey")) (by rfl) ⟨_, xt.glo "NoKey" (by decide), rfl⟩) pa_nil))) (pa_cons (pe_callB (call_isPK (K := K) rfl hC hz hf hp) (by rfl) T.m_isinstance (by decide +kernel) (pa_cons (pv 0) (pa_cons (C8.pe_gc (v := .ref (gaE K "NoValue")) (by rfl) ⟨_, xt.glo "NoValue" (by decide), rfl⟩) pa_nil))) (pa_cons (pe_callB (call_isPK (K := K) rfl hC hz hf hp) (by rfl) T.m_isinstance (by decide +kernel) (pa_cons (pv 0) (pa_cons (C8.pe_gc (v := .ref (gaE K "NoNumber")) (by rfl) ⟨_, xt.glo "NoNumber" (by decide), rfl⟩) pa_nil))) (pa_cons (pe_callB (call_isPK (K := K) rfl hC hz hf hp) (by rfl) T.m_isinstance (by decide +kernel) (pa_cons (pv 0) (pa_cons (C8.pe_gc (v := .ref (gaE K "NoKind")) (by rfl) ⟨_, xt.glo "NoKind" (by decide), rfl⟩) pa_nil))) pa_nil)))))) (pss_cons (ps_expr (pe_bmK (K := K) rfl PySem.F.plainAttrs_list PySem.F.slot_list_extend PySem.F.type_list_extend mt_extend (pv 1) (pa_cons (pe_lst (pa_cons (pe_callB (call_isPK (K := K) rfl hC hz hf hp) (by rfl) T.m_isinstance (by decide +kernel) (pa_cons (pv 0) (pa_cons (C8.pe_gc (v := .ref (gaE K "NoEntries")) (by rfl) ⟨_, xt.glo "NoEntries" (by decide), rfl⟩) pa_nil))) (pa_cons (pe_callB (call_isPK (K := K) rfl hC hz hf hp) (by rfl) T.m_isinstance (by decide +kernel) (pa_cons (pv 0) (pa_cons (C8.pe_gc (v := .ref (gaE K "NoPiece")) (by rfl) ⟨_, xt.glo "NoPiece" (by decide), rfl⟩) pa_nil))) (pa_cons (pe_callB (call_isPK (K := K) rfl hC hz hf hp) (by rfl) T.m_isinstance (by decide +kernel) (pa_cons (pv 0) (pa_cons (C8.pe_gc (v := .ref (gaE K "NoWalk")) (by rfl) ⟨_, xt.glo "NoWalk" (by decide), rfl⟩) pa_nil))) (pa_cons (pe_callB (call_isPK (K := K) rfl hC hz hf hp) (by rfl) T.m_isinstance (by decide +kernel) (pa_cons (pv 0) (pa_cons (C8.pe_gc (v := .ref (gaE K "Open")) (by rfl) ⟨_, xt.glo "Open" (by decide), rfl⟩) pa_nil))) pa_nil))))) pa_nil))) (pss_cons (ps_expr (pe_bmK (K := K) rfl PySem.F.plainAttrs_list PySem.F.slot_list_extend PySem.F.type_list_extend mt_extend (pv 1) (pa_cons (pe_lst (pa_cons (pe_callB (call_isPK (K := K) rfl hC hz hf hp) (by rfl) T.m_isinstance (by decide +kernel) (pa_cons (pv 0) (pa_cons (C8.pe_gc (v := .ref (gaE K "NoBatch")) (by rfl) ⟨_, xt.glo "NoBatch" (by decide), rfl⟩) pa_nil))) (pa_cons (pe_callB (call_isPK (K := K) rfl hC hz hf hp) (by rfl) T.m_isinstance (by decide +kernel) (pa_cons (pv 0) (pa_cons (C8.pe_gc (v := .ref (gaE K "NoMap")) (by rfl) ⟨_, xt.glo "NoMap" (by decide), rfl⟩) pa_nil))) (pa_cons (pe_callB (call_isPK (K := K) rfl hC hz hf hp) (by rfl) T.m_isinstance (by decide +kernel) (pa_cons (pv 0) (pa_cons (C8.pe_gc (v := .ref (gaE K "NoChoices")) (by rfl) ⟨_, xt.glo "NoChoices" (by decide), rfl⟩) pa_nil))) (pa_cons (pe_callB (call_isPK (K := K) rfl hC hz hf hp) (by rfl) T.m_isinstance (by decide +kernel) (pa_cons (pv 0) (pa_cons (C8.pe_gc (v := .ref (gaE K "Fallen")) (by rfl) ⟨_, xt.glo "Fallen" (by decide), rfl⟩) pa_nil))) pa_nil))))) pa_nil))) (pss_cons (ps_expr (pe_bmK (K := K) rfl PySem.F.plainAttrs_list PySem.F.slot_list_extend PySem.F.type_list_extend mt_extend (pv 1) (pa_cons (pe_lst (pa_cons (pe_callB (call_isPK (K := K) rfl hC hz hf hp) (by rfl) T.m_isinstance (by decide +kernel) (pa_cons (pv 0) (pa_cons (C8.pe_gc (v := .ref (gaE K "NoDeeds")) (by rfl) ⟨_, xt.glo "NoDeeds" (by decide), rfl⟩) pa_nil))) (pa_cons (pe_callB (call_isPK (K := K) rfl hC hz hf hp) (by rfl) T.m_isinstance (by decide +kernel) (pa_cons (pv 0) (pa_cons (C8.pe_gc (v := .ref (gaE K "NoText")) (by rfl) ⟨_, xt.glo "NoText" (by decide), rfl⟩) pa_nil))) pa_nil))) pa_nil))) (pss_cons (ps_if (PW.pt (pw_or (pt_cmpR (op_neK (K := K) rfl hr.units) (pe_bmK (K := K) rfl PySem.F.plainAttrs_list PySem.F.slot_list_count PySem.F.type_list_count (mt_lcountK (K := K) rfl) (pv 1) (pa_cons pe_bl pa_nil)) pe_int (nomark _)) (pw_or1 (pt_not (pt_val (pe_callB (call_isPK (K := K) rfl hC hz hf hp) (by rfl) T.m_isinstance (by decide +kernel) (pa_cons (pv 0) (pa_cons (pe_bltn (v := .ty "ValueError") (by rfl) T.m_ValueError (by decide +kernel) rfl) pa_nil)))))))) (pss_one (ps_ret pe_str)) pss_nil) (pss_cons (ps_set (i := 2) sc_law_class.nd rfl (by first | exact Or.inl rfl | exact Or.inr rfl) (pe_lst (pa_cons pe_str (pa_cons pe_str (pa_cons pe_str (pa_cons pe_str (pa_cons pe_str (pa_cons pe_str (pa_cons pe_str (pa_cons pe_str pa_nil)))))))))) (pss_cons (ps_expr (pe_bmK (K := K) rfl PySem.F.plainAttrs_list PySem.F.slot_list_extend PySem.F.type_list_extend mt_extend (pv 2) (pa_cons (pe_lst (pa_cons pe_str (pa_cons pe_str (pa_cons pe_str (pa_cons pe_str (pa_cons pe_str (pa_cons pe_str pa_nil))))))) pa_nil))) (pss_one (ps_ret (pe_ix (ix_K (K := K) rfl) (pv 2) (pe_bmK (K := K) rfl PySem.F.plainAttrs_list PySem.F.slot_list_index PySem.F.type_list_index (mt_idxK (K := K) rfl) (pv 1) (pa_cons pe_bl pa_nil)) (fun _ _ => rfl))))))))))), fun Q q => ?_⟩
  have n : Now H H H H := Now.start (Ex.refl _)
  have s0 : Sl K H (L2.start ["e", "kinds", "some"] [.ref a]) [.val (.ref a), .unk, .unk] := .cons rfl (.cons trivial (.cons trivial .nil))
  have one : ∀ {σ : L2.St} {H' : Hp} {ss : List SD} (y : Str), y ∈ exNs → Sl K H' σ (.val (.ref a) :: ss) → EvD K (tCB (rIsE K (gaE K x) a) (tCons (tVar 0) (tCons (tC (.ref (gaE K y))) tNil))) σ H' (.bool (decide (x = y))) := fun y hy s => ed_isE s rfl ref_rel (xt.kit x hx y hy)
  refine st_newD n s0 (eds_cons (one "NoKey" (by decide) s0) (eds_cons (one "NoValue" (by decide) s0) (eds_cons (one "NoNumber" (by decide) s0) (eds_cons (one "NoKind" (by decide) s0) eds_nil)))) (by show 4 ≤ 100000; decide) ?_
  intro l σ1 H1 H11 x1 _ _ o1 n1 s1
  refine st_extO n1 s1 rfl o1 (by show 4 + 4 ≤ 100000; decide) (ed_lst (eds_cons (one "NoEntries" (by decide) s1) (eds_cons (one "NoPiece" (by decide) s1) (eds_cons (one "NoWalk" (by decide) s1) (eds_cons (one "Open" (by decide) s1) eds_nil)))) (by show 4 ≤ 100000; decide)) ?_
  intro H2 H21 x2 o2 _ n2 s2
  refine st_extO n2 s2 rfl o2 (by show 8 + 4 ≤ 100000; decide) (ed_lst (eds_cons (one "NoBatch" (by decide) s2) (eds_cons (one "NoMap" (by decide) s2) (eds_cons (one "NoChoices" (by decide) s2) (eds_cons (one "Fallen" (by decide) s2) eds_nil)))) (by show 4 ≤ 100000; decide)) ?_
  intro H3 H31 x3 o3 _ n3 s3
  refine st_extO n3 s3 rfl o3 (by show 12 + 2 ≤ 100000; decide) (ed_lst (eds_cons (one "NoDeeds" (by decide) s3) (eds_cons (one "NoText" (by decide) s3) eds_nil)) (by show 2 ≤ 100000; decide)) ?_
  intro H4 H41 x4 o4 _ n4 s4
  obtain ⟨H5, ex5, _, n5, s5⟩ := Own.freeze n4 s4 (i := 1) rfl o4
  obtain ⟨c1, j, j1, j2, j3⟩ := is_count hx
  have kd : EvD K (tVar 1) σ1 H5 (.list ((isL x exNs).map .bool)) := ed_sl s5 rfl
  refine st_if n5 (b := false) (eb_is (eb_or (b := false) (eb_test (ed_op (ed_countB kd (ed_c (.bl true))) (ed_c (.int 1)) rd_neI)) fun _ => eb_is (eb_not (eb_B (ed_isE s5 rfl ty_rel (xt.ve x hx)))) rfl) ?_) (fun h => nomatch h) fun _ H6 n6 => ?_
  · rw [c1]
    rfl
  refine st_newD n6 s5 (eds_cons (d := .str "NoKey") (ed_c (.str _)) (eds_cons (d := .str "NoValue") (ed_c (.str _)) (eds_cons (d := .str "NoNumber") (ed_c (.str _)) (eds_cons (d := .str "NoKind") (ed_c (.str _)) (eds_cons (d := .str "NoEntries") (ed_c (.str _)) (eds_cons (d := .str "NoPiece") (ed_c (.str _)) (eds_cons (d := .str "NoWalk") (ed_c (.str _)) (eds_cons (d := .str "Open") (ed_c (.str _)) eds_nil)))))))) (by show 8 ≤ 100000; decide) ?_
  intro l2 σ7 H7 H71 x7 _ _ o7 n7 s7
  refine st_extO n7 s7 rfl o7 (by show 8 + 6 ≤ 100000; decide) (ed_lst (eds_cons (d := .str "NoBatch") (ed_c (.str _)) (eds_cons (d := .str "NoMap") (ed_c (.str _)) (eds_cons (d := .str "NoChoices") (ed_c (.str _)) (eds_cons (d := .str "Fallen") (ed_c (.str _)) (eds_cons (d := .str "NoDeeds") (ed_c (.str _)) (eds_cons (d := .str "NoText") (ed_c (.str _)) eds_nil)))))) (by show 6 ≤ 100000; decide)) ?_
  intro H8 H81 x8 o8 _ n8 s8
  obtain ⟨H9, ex9, _, n9, s9⟩ := Own.freeze n8 s8 (i := 2) rfl o8
  have kd2 : EvD K (tVar 1) σ7 H9 (.list ((isL x exNs).map .bool)) := ed_sl s9 rfl
  have so : EvD K (tVar 2) σ7 H9 (.list (exNs.map .str)) := ed_sl s9 rfl
  have fin : KD K H H (.str x) Q := fun v H2 H' e _ _ dv => by
    rw [dv.str_eq]
    exact q H2 e
  refine st_ret (K := K) n9 (ed_op so (ed_indexB kd2 (ed_c (.bl true)) j2 j3) (rd_ixL (d := .str x) ?_)) fin
  unfold atI
  have hj : j < exNs.length := (List.getElem?_eq_some_iff.mp j1).1
  rw [List.length_map, ixN_nat hj]
  show (exNs.map PyData.str)[j]? = _
  rw [List.getElem?_map, j1]
  rfl
end
end LR

/-! ### _law_told: what a deed tells, or that it is refused -/
namespace LR
open PySem PySem.Spec PyProof.Rows L2 Evl L2H LamX
/-- what _law_told makes of a lambda -/
def TTn (K : PySem.W.Frag) : (XK → Hp → VK → Prop) → Hp → VK → Prop := fun tl H Q =>
  tl (fun cls d H' => ∃ x ∈ exNs, cls = .ref (gaE K x) ∧ d = none ∧ ∀ H2 p, Ex H' H2 → H2 p = none → Q (.ref p) (upd H2 p (.tup [.str "refused", .str x]))) H Q
section
variable {X : Cx} {fc : Addr} {fdc : FuncData}
theorem sc_law_told : FnScope ["deed", "e"] ["deed"] (defScope s_law_told) := ⟨rfl, rfl, rfl, by decide +kernel, rfl, by decide +kernel, by decide +kernel⟩
theorem told_gives (T : Txt X.mg) (xt : ExT exNs X.K X.mg) (Fc : FunD X.K "_law_class" "_law_class" (defArgs s_law_class) (defBody s_law_class) (defScope s_law_class) [] [] fc fdc) (mc : X.mg "_law_class" = some (.ref fc)) {q : Str} {g : Addr} (cdv : Value) : GivesN X ["deed", "e"] "_law_told" (defScope s_law_told) g cdv (defBody s_law_told) "deed" q (TTn X.K) := by
  intro f c' s H Q tl act hr hc h
  let Y : Cx := (cxOf (CXL X.prog X.w) X.prog X.w X.K X.mg X.base ["deed", "e"] "_law_told" (defScope s_law_told) g cdv X.A X.stack s H E0).nox
  have suite : ∀ (a : Addr) (oe : Obj) (cls : Value) (d : Option Addr) (pn : List (Addr × Obj)), L2N.Zn cls d oe → (∃ vs, oe.data = .fields vs) → ∀ {b₀ : Stmt} {p1 p2 p3 p4 p5 p6 : Pos} {j k : Nat}, b₀ = .Return (some (.Tuple [.Constant (.str "refused") j p1, .Call (.Name "_law_class" p2) [.Name "e" p3] [] p4] k p5)) p6 →
      PSs (Y.suite a ((a, oe) :: pn)) [b₀] (fun D σ H => ∃ x ∈ exNs, cls = .ref (gaE X.K x) ∧ d = none ∧ σ[1]? = some (some (.ref a)) ∧ ∀ H2 p, Ex H H2 → H2 p = none → D.rt (.ref p) (upd H2 p (.tup [.str "refused", .str x]))) := by
    intro a oe cls d pn hz hf b₀ p1 p2 p3 p4 p5 p6 j k hb
    subst hb
    refine ⟨fun pins s' σ H' D I ⟨x, hx, e1, e2, e3, e4⟩ => ?_⟩
    subst e1 e2
    have pc : PE (Y.suite a ((a, oe) :: pn)) (.Call (.Name "_law_class" p2) [.Name "e" p3] [] p4) (fun σ H Q => σ[1]? = some (some (.ref a)) ∧ ∀ H2, Ex H H2 → Q (.str x) H2) :=
      pe_hot (k := 0) (i := 1) (te := fun H Q => ∀ H2, Ex H H2 → Q (.str x) H2) Fc sc_law_class ⟨hr.dp, hr.un⟩ List.mem_cons_self (by rfl) mc (Fc.bindsN (fun _ _ _ _ _ _ us hl => match us, hl with | [_], _ => rfl)) rfl (.inl rfl) fun s2 H2 cdv2 Q2 hr2 hq => by
        obtain ⟨t, w1, w2⟩ := class_body (P := X.prog) (w := X.w) (base := X.base) T xt hx hz.zc hf hr2
        exact ⟨t, w1, w2 Q2 hq⟩
    have ps : PSs (Y.suite a ((a, oe) :: pn)) [.Return (some (.Tuple [.Constant (.str "refused") j p1, .Call (.Name "_law_class" p2) [.Name "e" p3] [] p4] k p5)) p6] _ := pss_one (ps_ret (pos := p6) (pe_tup (pa_cons (pe_str (pos := p1)) (pa_cons pc pa_nil))))
    refine ps.run pins s' σ H' D I ⟨e3, fun H2 e => ⟨by show 2 ≤ sizeLine; decide, fun p hp => e4 H2 p e hp⟩⟩
  refine ⟨_, pss_one (L2N.ps_try_as (X := Y) (i := 1) (c := .ref (gaE X.K "LeafError"))
    (tb := fun W D σ H => ∃ Ech : XK, (∀ cls d H', Ech cls d H' → W cls d σ H') ∧ σ[0]? = some (some (.ref f)) ∧ H c' = some (CodeO c' q) ∧ tl Ech H D.rt)
    (ts := fun a cls d D σ H => ∃ x ∈ exNs, cls = .ref (gaE X.K x) ∧ d = none ∧ σ[1]? = some (some (.ref a)) ∧ ∀ H2 p, Ex H H2 → H2 p = none → D.rt (.ref p) (upd H2 p (.tup [.str "refused", .str x])))
    rfl rfl sc_law_told.nd rfl rfl ⟨by rfl, by decide, .inl xt.leaf⟩ takesN0 (fun W pn xe tk _ => ?_) (fun a oe cls d pn hz hf => suite a oe cls d pn hz hf rfl)), ?_⟩
  · refine ⟨fun pins s' σ H' D I ⟨Ech, hW, h1, h2, h3⟩ => ?_⟩
    exact (pss_one (ps_ret (act W pn xe Ech _ _ tk))).run pins s' σ H' D I ⟨hW, h1, h2, h3⟩
  · refine ⟨_, fun cls d H' z => ?_, rfl, hc, h⟩
    obtain ⟨x, hx, rfl, rfl, z⟩ := z
    refine ⟨true, xt.exl x hx, fun _ a ha => ⟨x, hx, rfl, rfl, rfl, z⟩, fun y => nomatch y⟩
theorem el_told {K : PySem.W.Frag} {T : List (Addr × Str)} {σ : L2.St} {H : Hp} {te : XK → TE} {r : Ans} (hx : ∀ x, r = .error x → x ∈ exNs) (h : ∀ E, EvX K E (te E) σ H r) : EvL K T (tLam T (TTn K) te) σ H (toldD r) := fun H1 e1 nt tb Q q =>
  ⟨tb, fun H2 eN tb2 => by
    have ex2 := ex_nt nt e1 eN
    refine h _ H2 ex2 Q ?_
    have fr : ∀ b o, H2 b = none → H1 b = some o → ∃ ps, o = .tbl ps := fun b o n1 n2 => by
      by_cases z : ∃ ps, o = .tbl ps
      · exact z
      · rw [eN b o n2 fun ps y => z ⟨ps, y⟩] at n1
        cases n1
    cases r with
    | ok d =>
      intro v H3 H' e3 e x dv
      exact q v H3 H' (eN.trans (.of e3)) (tb2.ext e3) e ⟨x.ex, fun b o hb => (x.fresh b o hb).imp id fun z => ⟨fun o' q' => fr b o' z.1 q', z.2⟩⟩ dv
    | error y =>
      refine fun H3 e3 => ⟨y, hx y rfl, rfl, rfl, fun H4 p e4 hp => ?_⟩
      have g : Ex H2 H4 := e3.trans e4
      have hp2 : H2 p = none := fresh_back g hp
      refine q _ _ (upd H p (.tup [.str "refused", .str y])) ((eN.trans (.of g)).trans (.of (Ex.new hp))) ((tb2.ext g).ext (Ex.new hp)) (ex_upd (ex2.trans g)) ⟨Ex.new (fresh_back (ex2.trans g) hp), fun b o hb => ?_⟩ (.tup (st_of upd_same) (.cons (.str _) (.cons (.str _) .nil)))
      by_cases z : b = p
      · subst z
        rw [upd_same] at hb
        cases hb
        exact .inr ⟨fun o' q' => fr b o' hp2 q', fun ps z => by cases z⟩
      · rw [upd_ne z] at hb
        exact .inl hb⟩
end
end LR

/-! ### EV: _law_told -/
namespace EV
open PySem PySem.Spec PyProof.Rows L2 Evl L2H LamX LR
theorem se_toldN {K : PySem.W.Frag} {FL : Fl} {T : TbS} {W : WX} {ma : EM} {t : XK → TE} (hT : T.fl = true) (hm : ∀ E : XK, SimE K FL T (fun c d _ H => E c d H) (t E) ma) : SimE K FL T W (tLam T.l (TTn K) t) (mTold exNs ma) := se_told hT hm
end EV

/-! ### EV: _law_pick as a function -/
namespace EV
open PySem PySem.Spec PyProof.Rows L2 Evl L2H LamX LR
def unscr : List (PyData × PyData) → Option (List Int)
  | [] => some []
  | (.int i, .none) :: r => (unscr r).map fun ns => i :: ns
  | _ => none
theorem unscr_eq : ∀ {kvs : List (PyData × PyData)} {ns : List Int}, unscr kvs = some ns → kvs = ns.map fun i => (.int i, .none)
  | [], _, h => by cases h; rfl
  | (a, b) :: r, ns, h => by
    cases a <;> cases b <;> try cases h
    obtain ⟨ms, h1, rfl⟩ := Option.map_eq_some_iff.mp (show (unscr r).map _ = some ns from h)
    rw [unscr_eq h1]
    rfl
theorem unscr_scr (ns : List Int) : unscr (ns.map fun i => ((.int i, .none) : PyData × PyData)) = some ns := by
  induction ns with
  | nil => rfl
  | cons i r ih => show (unscr (r.map _)).map _ = _; rw [ih]; rfl
def FO_law_pick : List PyData → Option PyData
  | [.dict kvs, .int k, .int many] => (unscr kvs).bind fun ns => if ns.length ≤ 63 ∧ 0 ≤ k ∧ k ≤ 1000000 ∧ 0 < many then some (.int (pick ns k many)) else none
  | _ => none
theorem hfo_law_pick : ∀ ds z, FO_law_pick ds = some z → Rpick ds z ∧ ds.length = 3 := fun ds z h => by
  unfold FO_law_pick at h
  split at h
  · obtain ⟨ns, h1, h2⟩ := bind_some h
    obtain ⟨⟨a, b, c, d⟩, rfl⟩ := ite_some h2
    rw [unscr_eq h1]
    exact ⟨⟨ns, _, _, rfl, a, b, c, d, rfl⟩, rfl⟩
  · cases h
theorem fo_pick {ns : List Int} {k many : Int} (h1 : ns.length ≤ 63) (h2 : 0 ≤ k) (h3 : k ≤ 1000000) (h4 : 0 < many) : FO_law_pick [scrD ns, .int k, .int many] = some (.int (pick ns k many)) := by
  show (unscr (ns.map fun i => ((.int i, .none) : PyData × PyData))).bind _ = _
  rw [unscr_scr]
  exact if_pos ⟨h1, h2, h3, h4⟩
end EV

/-! ### EV: is_key, is_value, _law_key, _law_value as functions -/
namespace EV
open PySem PySem.Spec PyProof.Rows L2 Evl L2H LamX LR
def FO_is_key : List PyData → Option PyData
  | [.str z] => if z.length ≤ 50000 then some (.bool (isKeyS z)) else none
  | _ => none
theorem hfo_is_key : ∀ ds z, FO_is_key ds = some z → RisKey ds z ∧ ds.length = 1 := fun ds z h => by
  unfold FO_is_key at h
  split at h
  · obtain ⟨a, rfl⟩ := ite_some h
    exact ⟨⟨_, rfl, Nat.le_trans a (by decide), rfl⟩, rfl⟩
  · cases h
def FO_is_value : List PyData → Option PyData
  | [.str z] => if z.length ≤ 50000 then some (.bool (isValS z)) else none
  | _ => none
theorem hfo_is_value : ∀ ds z, FO_is_value ds = some z → RisVal ds z ∧ ds.length = 1 := fun ds z h => by
  unfold FO_is_value at h
  split at h
  · obtain ⟨a, rfl⟩ := ite_some h
    exact ⟨⟨_, rfl, Nat.le_trans a (by decide), rfl⟩, rfl⟩
  · cases h
def FO_law_key : List PyData → Option PyData
  | [.dict kvs, .int k] => (unscr kvs).bind fun ns => if ns.length ≤ 63 ∧ 0 ≤ k ∧ k ≤ 900000 then some (.str (lawKey ns k)) else none
  | _ => none
theorem hfo_law_key : ∀ ds z, FO_law_key ds = some z → Rkey ds z ∧ ds.length = 2 := fun ds z h => by
  unfold FO_law_key at h
  split at h
  · obtain ⟨ns, h1, h2⟩ := bind_some h
    obtain ⟨⟨a, b, c⟩, rfl⟩ := ite_some h2
    rw [unscr_eq h1]
    exact ⟨⟨ns, _, rfl, a, b, c, rfl⟩, rfl⟩
  · cases h
theorem fo_key {ns : List Int} {k : Int} (h1 : ns.length ≤ 63) (h2 : 0 ≤ k) (h3 : k ≤ 900000) : FO_law_key [scrD ns, .int k] = some (.str (lawKey ns k)) := by
  show (unscr (ns.map fun i => ((.int i, .none) : PyData × PyData))).bind _ = _
  rw [unscr_scr]
  exact if_pos ⟨h1, h2, h3⟩
def FO_law_value : List PyData → Option PyData
  | [.dict kvs, .int k] => (unscr kvs).bind fun ns => if ns.length ≤ 63 ∧ 0 ≤ k ∧ k ≤ 900000 then some (.str (lawVal ns k)) else none
  | _ => none
theorem hfo_law_value : ∀ ds z, FO_law_value ds = some z → Rvalue ds z ∧ ds.length = 2 := fun ds z h => by
  unfold FO_law_value at h
  split at h
  · obtain ⟨ns, h1, h2⟩ := bind_some h
    obtain ⟨⟨a, b, c⟩, rfl⟩ := ite_some h2
    rw [unscr_eq h1]
    exact ⟨⟨ns, _, rfl, a, b, c, rfl⟩, rfl⟩
  · cases h
theorem fo_value {ns : List Int} {k : Int} (h1 : ns.length ≤ 63) (h2 : 0 ≤ k) (h3 : k ≤ 900000) : FO_law_value [scrD ns, .int k] = some (.str (lawVal ns k)) := by
  show (unscr (ns.map fun i => ((.int i, .none) : PyData × PyData))).bind _ = _
  rw [unscr_scr]
  exact if_pos ⟨h1, h2, h3⟩
end EV

namespace EV
open PySem PySem.Spec PyProof.Rows L2 Evl L2H LamX LR
section
variable {P : Program} {w : World} {K : PySem.W.Frag} {mg : Str → Option Value} {base : Heap} {f : Addr} {fd : FuncData} {TT : TbS}
def ki_LENGTHS : List (Str × Int) := [(Str.ofString "put", 3), (Str.ofString "drop", 2), (Str.ofString "begin", 1), (Str.ofString "commit", 1), (Str.ofString "cancel", 1), (Str.ofString "walk", 2), (Str.ofString "step", 2), (Str.ofString "end", 2), (Str.ofString "squeeze", 1)]
theorem sc_is_whole : FnScope ["thing", "least", "most"] ["thing", "least", "most"] (defScope s_is_whole) := ⟨rfl, rfl, rfl, by decide +kernel, rfl, by decide +kernel, by decide +kernel⟩
def m_is_whole : SM := (sRet (mP (pAnd (pIsi "int" (pVar 0)) (pAnd (pNot (pIsi "bool" (pVar 0))) (pChain (fIB fun i j => decide (i ≤ j)) (fIB fun i j => decide (i ≤ j)) (pVar 1) (pVar 0) (pVar 2))))))
def F_is_whole (ds : List PyData) : Option PyData := pureOf 3 3 m_is_whole ds
theorem fx_is_whole (T : Txt mg) (xt : ExT exNs K mg) (F : FunD K "is_whole" "is_whole" (defArgs s_is_whole) (defBody s_is_whole) (defScope s_is_whole) [] [] f fd) (hm : mg "is_whole" = some (.ref f))  : Fx P w K mg base 1 "is_whole" ["thing", "least", "most"] (spR K 3 fun ds z => F_is_whole ds = some z) := by
  refine fx_evP (N := ["thing", "least", "most"]) F hm sc_is_whole rfl (fun _ _ _ _ _ _ us hl => match us, hl with | [_, _, _], _ => rfl) fun cdv A outer s Hs E hr => ?_
  exact ⟨_, (pss_one (ps_ret (pe_and (pe_callB (call_isK (K := K) rfl) (by rfl) T.m_isinstance (by decide +kernel) (pa_cons (pv 0) (pa_cons (pe_bltn (v := .ty "int") (by rfl) T.m_int (by decide +kernel) rfl) pa_nil))) (pe_and (pe_not (pe_callB (call_isK (K := K) rfl) (by rfl) T.m_isinstance (by decide +kernel) (pa_cons (pv 0) (pa_cons (pe_bltn (v := .ty "bool") (by rfl) T.m_bool (by decide +kernel) rfl) pa_nil)))) (pe_one (pe_chain op_le op_le (pv 1) (pv 0) (pv 2))))))), (ss_ret (se_p (sp_and (sp_isi sp_var) (sp_and (sp_not (sp_isi sp_var)) (sp_chain od_le od_le sp_var sp_var sp_var)))))⟩
theorem sc_is_deed : FnScope ["thing"] ["thing"] (defScope s_is_deed) := ⟨rfl, rfl, rfl, by decide +kernel, rfl, by decide +kernel, by decide +kernel⟩
def m_is_deed : SM := (sSeq (sIf (mBP (bOr (bNot (pTst (pIsi "tuple" (pVar 0)))) (bOr (pTst (pOp fEq (pVar 0) (pTup pNil))) (bNot (pTst (pIsi "str" (pOp fIx (pVar 0) (pC (.int 0))))))))) (sRet (mP (pC (.bool false)))) sNext) (sRet (mP (pAnd (fKdIn ki_LENGTHS (pOp fIx (pVar 0) (pC (.int 0)))) (pOp fEq (pCB fLen (pCons (pVar 0) pNil)) (fKdIx ki_LENGTHS (pOp fIx (pVar 0) (pC (.int 0)))))))))
def F_is_deed (ds : List PyData) : Option PyData := pureOf 1 1 m_is_deed ds
theorem fx_is_deed (T : Txt mg) (xt : ExT exNs K mg) (dk_LENGTHS : DcI w K mg "LENGTHS" ki_LENGTHS) (F : FunD K "is_deed" "is_deed" (defArgs s_is_deed) (defBody s_is_deed) (defScope s_is_deed) [] [] f fd) (hm : mg "is_deed" = some (.ref f))  : Fx P w K mg base 1 "is_deed" ["thing"] (spR K 1 fun ds z => F_is_deed ds = some z) := by
  refine fx_evP (N := ["thing"]) F hm sc_is_deed rfl (fun _ _ _ _ _ _ us hl => match us, hl with | [_], _ => rfl) fun cdv A outer s Hs E hr => ?_
  obtain ⟨es_LENGTHS, n_LENGTHS, kd_LENGTHS⟩ := dk_LENGTHS.kd
  exact ⟨_, (pss_cons (ps_if (PW.pt (pw_or (pt_not (pt_val (pe_callB (call_isK (K := K) rfl) (by rfl) T.m_isinstance (by decide +kernel) (pa_cons (pv 0) (pa_cons (pe_bltn (v := .ty "tuple") (by rfl) T.m_tuple (by decide +kernel) rfl) pa_nil))))) (pw_or (pt_cmpR (op_eqK (K := K) rfl hr.units) (pv 0) (pe_tup pa_nil) (nomark _)) (pw_or1 (pt_not (pt_val (pe_callB (call_isK (K := K) rfl) (by rfl) T.m_isinstance (by decide +kernel) (pa_cons (pe_ix (ix_K (K := K) rfl) (pv 0) pe_int (fun _ _ => rfl)) (pa_cons (pe_bltn (v := .ty "str") (by rfl) T.m_str (by decide +kernel) rfl) pa_nil))))))))) (pss_one (ps_ret pe_bl)) pss_nil) (pss_one (ps_ret (pe_and (pe_cmpR (op_in_kd kd_LENGTHS) (pe_ix (ix_K (K := K) rfl) (pv 0) pe_int (fun _ _ => rfl)) (C8.pe_gc (v := .ref (gaE K "LENGTHS")) (by rfl) ⟨_, dk_LENGTHS.glo, rfl⟩) (by rfl)) (pe_one (pe_cmpR (op_eqK (K := K) rfl hr.units) (pe_callB (call_lenK (K := K) rfl) (by rfl) T.m_len (by decide +kernel) (pa_cons (pv 0) pa_nil)) (pe_ix (ix_kdK (K := K) (w := w) rfl rfl) (C8.pe_gc (v := .ref (gaE K "LENGTHS")) (by rfl) ⟨_, dk_LENGTHS.glo, rfl⟩) (pe_ix (ix_K (K := K) rfl) (pv 0) pe_int (fun _ _ => rfl)) (fun _ _ => rfl)) (nomark _))))))), (ss_seq (ss_if (sbe_p (sb_or (sb_not (sb_B (sp_isi sp_var))) (sb_or (sb_test (sp_op od_eq sp_var (sp_tup sps_nil))) (sb_not (sb_B (sp_isi (sp_op od_ix sp_var sp_int))))))) (ss_ret (se_p sp_bl)) ss_next) (ss_ret (se_p (sp_and (sp_kdIn dk_LENGTHS (sp_op od_ix sp_var sp_int)) (sp_op od_eq (sp_cb cd_len (sps_cons sp_var sps_nil)) (sp_kdIx dk_LENGTHS (sp_op od_ix sp_var sp_int)))))))⟩
theorem sc_is_good : FnScope ["deed", "word", "parts", "part"] ["deed"] (defScope s_is_good) := ⟨rfl, rfl, rfl, by decide +kernel, rfl, by decide +kernel, by decide +kernel⟩
def m_is_good : SM := (sSeq (sIf (mBP (bNot (pTst (pCB F_is_deed (pCons (pVar 0) pNil))))) (sRet (mP (pC (.bool false)))) sNext) (sSeq (sStar 1 2 (mP (pVar 0))) (sSeq (sIf (mBP (pTst (pOp fEq (pVar 1) (pC (.str (Str.ofString "put")))))) (sRet (mP (pAnd (pCB FO_is_key (pCons (pOp fIx (pVar 2) (pC (.int 0))) pNil)) (pCB FO_is_value (pCons (pOp fIx (pVar 2) (pC (.int 1))) pNil))))) sNext) (sSeq (sIf (mBP (pTst (pOp fEq (pVar 1) (pC (.str (Str.ofString "drop")))))) (sRet (mP (pCB FO_is_key (pCons (pOp fIx (pVar 2) (pC (.int 0))) pNil)))) sNext) (sSeq (sIf (mBP (pTst (pOp fEq (pVar 1) (pC (.str (Str.ofString "walk")))))) (sRet (mP (pIsi "bool" (pOp fIx (pVar 2) (pC (.int 0)))))) sNext) (sRet (mP (pCB fAll (pCons (pLc (iData (pVar 2)) (gmName 3) pTrue (pCB F_is_whole (pCons (pVar 3) (pCons (pC (.int 1)) (pCons (pC (.int 9)) pNil)))) [3]) pNil)))))))))
def F_is_good (ds : List PyData) : Option PyData := pureOf 4 1 m_is_good ds
theorem fx_is_good (T : Txt mg) (xt : ExT exNs K mg) (F : FunD K "is_good" "is_good" (defArgs s_is_good) (defBody s_is_good) (defScope s_is_good) [] [] f fd) (hm : mg "is_good" = some (.ref f)) (g_is_deed : Fx P w K mg base 1 "is_deed" ["thing"] (spR K 1 fun ds z => F_is_deed ds = some z)) (g_is_key : Fx P w K mg base 1 "is_key" ["thing"] (spR K 1 RisKey)) (g_is_value : Fx P w K mg base 1 "is_value" ["thing"] (spR K 1 RisVal)) (g_is_whole : Fx P w K mg base 1 "is_whole" ["thing", "least", "most"] (spR K 3 fun ds z => F_is_whole ds = some z)) : Fx P w K mg base 2 "is_good" ["deed"] (spR K 1 fun ds z => F_is_good ds = some z) := by
  refine fx_evP (N := ["deed", "word", "parts", "part"]) F hm sc_is_good rfl (fun _ _ _ _ _ _ us hl => match us, hl with | [_], _ => rfl) fun cdv A outer s Hs E hr => ?_
  exact ⟨_, (pss_cons (ps_if (pt_not (pt_val (pe_fx g_is_deed hr (by decide) (by rfl) passN (pa_cons (pv 0) pa_nil)))) (pss_one (ps_ret pe_bl)) pss_nil) (pss_cons (ps_asg (pv 0) (pg_starK (K := K) rfl (by rfl) (pg_name (i := 1) sc_is_good.nd rfl (by first | exact Or.inl rfl | exact Or.inr rfl)) (pg_name (i := 2) sc_is_good.nd rfl (by first | exact Or.inl rfl | exact Or.inr rfl)))) (pss_cons (ps_if (pt_cmpR (op_eqK (K := K) rfl hr.units) (pv 1) pe_str (nomark _)) (pss_one (ps_ret (pe_and (pe_fx g_is_key hr (by decide) (by rfl) passN (pa_cons (pe_ix (ix_K (K := K) rfl) (pv 2) pe_int (fun _ _ => rfl)) pa_nil)) (pe_one (pe_fx g_is_value hr (by decide) (by rfl) passN (pa_cons (pe_ix (ix_K (K := K) rfl) (pv 2) pe_int (fun _ _ => rfl)) pa_nil)))))) pss_nil) (pss_cons (ps_if (pt_cmpR (op_eqK (K := K) rfl hr.units) (pv 1) pe_str (nomark _)) (pss_one (ps_ret (pe_fx g_is_key hr (by decide) (by rfl) passN (pa_cons (pe_ix (ix_K (K := K) rfl) (pv 2) pe_int (fun _ _ => rfl)) pa_nil)))) pss_nil) (pss_cons (ps_if (pt_cmpR (op_eqK (K := K) rfl hr.units) (pv 1) pe_str (nomark _)) (pss_one (ps_ret (pe_callB (call_isK (K := K) rfl) (by rfl) T.m_isinstance (by decide +kernel) (pa_cons (pe_ix (ix_K (K := K) rfl) (pv 2) pe_int (fun _ _ => rfl)) (pa_cons (pe_bltn (v := .ty "bool") (by rfl) T.m_bool (by decide +kernel) rfl) pa_nil))))) pss_nil) (pss_one (ps_ret (pe_callB (cr_allK (K := K) rfl rfl) (by rfl) T.m_all (by decide +kernel) (pa_cons (pe_lc (own := [("part", 3)]) rfl sc_is_good.nd (pi_K (K := K) rfl (pv 2)) (blkOk_by (N := ["deed", "word", "parts", "part"]) (sc := defScope s_is_good) (by decide +kernel)) (fun _ _ _ _ _ => (pg_name (i := 3) sc_is_good.nd rfl (by first | exact Or.inl rfl | exact Or.inr rfl))) (fun _ _ _ _ _ => pts_nil) (fun _ _ _ _ _ => (pe_fx g_is_whole hr (by decide) (by rfl) passN (pa_cons (pv 3) (pa_cons pe_int (pa_cons pe_int pa_nil)))))) pa_nil))))))))), (ss_seq (ss_if (sbe_p (sb_not (sb_B (sp_call (fun ds z h => ⟨h, pure_len h⟩) (sps_cons sp_var sps_nil))))) (ss_ret (se_p sp_bl)) ss_next) (ss_seq (ss_star (se_p sp_var)) (ss_seq (ss_if (sbe_p (sb_test (sp_op od_eq sp_var sp_str))) (ss_ret (se_p (sp_and (sp_call hfo_is_key (sps_cons (sp_op od_ix sp_var sp_int) sps_nil)) (sp_call hfo_is_value (sps_cons (sp_op od_ix sp_var sp_int) sps_nil))))) ss_next) (ss_seq (ss_if (sbe_p (sb_test (sp_op od_eq sp_var sp_str))) (ss_ret (se_p (sp_call hfo_is_key (sps_cons (sp_op od_ix sp_var sp_int) sps_nil)))) ss_next) (ss_seq (ss_if (sbe_p (sb_test (sp_op od_eq sp_var sp_str))) (ss_ret (se_p (sp_isi (sp_op od_ix sp_var sp_int)))) ss_next) (ss_ret (se_p (sp_cb cd_all (sps_cons (sp_lc (SimI.o (si_data sp_var)) sg_name sb_yes (sp_call (fun ds z h => ⟨h, pure_len h⟩) (sps_cons sp_var (sps_cons sp_int (sps_cons sp_int sps_nil))))) sps_nil)))))))))⟩
theorem sc_word_of : FnScope ["part"] ["part"] (defScope s_word_of) := ⟨rfl, rfl, rfl, by decide +kernel, rfl, by decide +kernel, by decide +kernel⟩
def m_word_of : SM := (sSeq (sIf (mBP (pTst (pIsi "bool" (pVar 0)))) (sRet (mP (pIf (pTst (pVar 0)) (pC (.str (Str.ofString "moment"))) (pC (.str (Str.ofString "now")))))) sNext) (sRet (mP (pIf (pTst (pOp fEq (pVar 0) (pC (.str (Str.ofString ""))))) (pC (.str (Str.ofString "-"))) (pCB fStr (pCons (pVar 0) pNil))))))
def F_word_of (ds : List PyData) : Option PyData := pureOf 1 1 m_word_of ds
theorem fx_word_of (T : Txt mg) (xt : ExT exNs K mg) (F : FunD K "word_of" "word_of" (defArgs s_word_of) (defBody s_word_of) (defScope s_word_of) [] [] f fd) (hm : mg "word_of" = some (.ref f))  : Fx P w K mg base 1 "word_of" ["part"] (spR K 1 fun ds z => F_word_of ds = some z) := by
  refine fx_evP (N := ["part"]) F hm sc_word_of rfl (fun _ _ _ _ _ _ us hl => match us, hl with | [_], _ => rfl) fun cdv A outer s Hs E hr => ?_
  exact ⟨_, (pss_cons (ps_if (pt_val (pe_callB (call_isK (K := K) rfl) (by rfl) T.m_isinstance (by decide +kernel) (pa_cons (pv 0) (pa_cons (pe_bltn (v := .ty "bool") (by rfl) T.m_bool (by decide +kernel) rfl) pa_nil)))) (pss_one (ps_ret (pe_ifExp (pt_val (pv 0)) pe_str pe_str))) pss_nil) (pss_one (ps_ret (pe_ifExp (pt_cmpR (op_eqK (K := K) rfl hr.units) (pv 0) pe_str (nomark _)) (C8.pe_gc (by rfl) T.c_EMPTY) (pe_callTy cr_strU (by rfl) T.m_str (by decide +kernel) (pa_cons (pv 0) pa_nil)))))), (ss_seq (ss_if (sbe_p (sb_B (sp_isi sp_var))) (ss_ret (se_p (sp_if (sb_B sp_var) sp_str sp_str))) ss_next) (ss_ret (se_p (sp_if (sb_test (sp_op od_eq sp_var sp_str)) sp_str (sp_cb cd_str (sps_cons sp_var sps_nil))))))⟩
theorem sc_deeds_text : FnScope ["deeds", "deed", "part"] ["deeds"] (defScope s_deeds_text) := ⟨rfl, rfl, rfl, by decide +kernel, rfl, by decide +kernel, by decide +kernel⟩
def m_deeds_text : SM := (sSeq (sIf (mBP (bOr (bNot (pTst (pIsi "list" (pVar 0)))) (bNot (pTst (pCB fAll (pCons (pLc (iData (pVar 0)) (gmName 1) pTrue (pCB F_is_good (pCons (pVar 1) pNil)) [1]) pNil)))))) (sRaise "NoDeeds") sNext) (sRet (mP (pM1 fJoin (pC (.str (Str.ofString ""))) (pLc (iData (pVar 0)) (gmName 1) pTrue (pOp fAdd (pM1 fJoin (pC (.str (Str.ofString " "))) (pLc (iData (pVar 1)) (gmName 2) pTrue (pCB F_word_of (pCons (pVar 2) pNil)) [2])) (pC (.str (Str.ofString "\n")))) [1])))))
def F_deeds_text : Fun := funOf 3 1 (m_deeds_text)
theorem fx_deeds_text (hT : TT.fl = true) (T : Txt mg) (xt : ExT exNs K mg) (F : FunD K "deeds_text" "deeds_text" (defArgs s_deeds_text) (defBody s_deeds_text) (defScope s_deeds_text) [] [] f fd) (hm : mg "deeds_text" = some (.ref f)) (g_is_good : Fx P w K mg base 2 "is_good" ["deed"] (spR K 1 fun ds z => F_is_good ds = some z)) (g_word_of : Fx P w K mg base 1 "word_of" ["part"] (spR K 1 fun ds z => F_word_of ds = some z)) : Fx P w K mg base 3 "deeds_text" ["deeds"] (spF K FLD TT 1 (F_deeds_text)) := by
  refine fx_ev (N := ["deeds", "deed", "part"]) F hm sc_deeds_text rfl (fun _ _ _ _ _ _ us hl => match us, hl with | [_], _ => rfl) fun cdv A outer s Hs E hr => ?_
  exact ⟨_, (pss_cons (ps_if (PW.pt (pw_or (pt_not (pt_val (pe_callB (call_isK (K := K) rfl) (by rfl) T.m_isinstance (by decide +kernel) (pa_cons (pv 0) (pa_cons (pe_bltn (v := .ty "list") (by rfl) T.m_list (by decide +kernel) rfl) pa_nil))))) (pw_or1 (pt_not (pt_val (pe_callB (cr_allK (K := K) rfl rfl) (by rfl) T.m_all (by decide +kernel) (pa_cons (pe_lc (own := [("deed", 1)]) rfl sc_deeds_text.nd (pi_K (K := K) rfl (pv 0)) (blkOk_by (N := ["deeds", "deed", "part"]) (sc := defScope s_deeds_text) (by decide +kernel)) (fun _ _ _ _ _ => (pg_name (i := 1) sc_deeds_text.nd rfl (by first | exact Or.inl rfl | exact Or.inr rfl))) (fun _ _ _ _ _ => pts_nil) (fun _ _ _ _ _ => (pe_fx g_is_good hr (by decide) (by rfl) passN (pa_cons (pv 1) pa_nil)))) pa_nil))))))) (pss_one (L2N.ps_raise rfl (L2N.takes_of rfl rfl rfl rfl) (L2N.pmk_own PySem.F.excBase_ValueError (xt.exc "NoDeeds" (by decide)) (xt.glo "NoDeeds" (by decide)) (xt.keep "NoDeeds" (by decide)) (raises_own (xt.sub "NoDeeds" (by decide)) (xt.ty "NoDeeds" (by decide))) (by rfl)))) pss_nil) (pss_one (ps_ret (pe_m1 PySem.F.slot_str_join PySem.F.type_str_join (mt_joinK (K := K) rfl) pe_str (pe_lc (own := [("deed", 1)]) rfl sc_deeds_text.nd (pi_K (K := K) rfl (pv 0)) (blkOk_by (N := ["deeds", "deed", "part"]) (sc := defScope s_deeds_text) (by decide +kernel)) (fun _ _ _ _ _ => (pg_name (i := 1) sc_deeds_text.nd rfl (by first | exact Or.inl rfl | exact Or.inr rfl))) (fun _ _ _ _ _ => pts_nil) (fun _ _ _ _ _ => (pe_op (op_addK (K := K) rfl) (pe_m1 PySem.F.slot_str_join PySem.F.type_str_join (mt_joinK (K := K) rfl) pe_str (pe_lc (own := [("part", 2)]) rfl sc_deeds_text.nd (pi_K (K := K) rfl (pv 1)) (blkOk_by (N := ["deeds", "deed", "part"]) (sc := { kind := .function, names := [(".0", .local), ("deed", .local)], isGenerator := false, isCoroutine := false }) (by decide +kernel)) (fun _ _ _ _ _ => (pg_name (i := 2) sc_deeds_text.nd rfl (by first | exact Or.inl rfl | exact Or.inr rfl))) (fun _ _ _ _ _ => pts_nil) (fun _ _ _ _ _ => (pe_fx g_word_of hr (by decide) (by rfl) passN (pa_cons (pv 2) pa_nil))))) pe_str))))))), (ss_seq (ss_if (sbe_p (sb_or (sb_not (sb_B (sp_isi sp_var))) (sb_not (sb_B (sp_cb cd_all (sps_cons (sp_lc (SimI.o (si_data sp_var)) sg_name sb_yes (sp_call (fun ds z h => ⟨h, pure_len h⟩) (sps_cons sp_var sps_nil))) sps_nil)))))) ss_raise ss_next) (ss_ret (se_p (sp_m1 md_join sp_str (sp_lc (SimI.o (si_data sp_var)) sg_name sb_yes (sp_op od_add (sp_m1 md_join sp_str (sp_lc (SimI.o (si_data sp_var)) sg_name sb_yes (sp_call (fun ds z h => ⟨h, pure_len h⟩) (sps_cons sp_var sps_nil)))) sp_str))))))⟩
theorem sc_part_in : FnScope ["word", "part"] ["word", "part"] (defScope s_part_in) := ⟨rfl, rfl, rfl, by decide +kernel, rfl, by decide +kernel, by decide +kernel⟩
def m_part_in : SM := (sSeq (sIf (mBP (pTst (pOp fEq (pVar 0) (pC (.str (Str.ofString "walk")))))) (sSeq (sIf (mBP (pTst (pOp (fInT true) (pVar 1) (pTup (pCons (pC (.str (Str.ofString "moment"))) (pCons (pC (.str (Str.ofString "now"))) pNil)))))) (sRaise "NoText") sNext) (sRet (mP (pOp fEq (pVar 1) (pC (.str (Str.ofString "moment"))))))) sNext) (sSeq (sIf (mBP (pTst (pOp (fInT false) (pVar 0) (pTup (pCons (pC (.str (Str.ofString "step"))) (pCons (pC (.str (Str.ofString "end"))) pNil)))))) (sSeq (sIf (mBP (bOr (pTst (pOp fNe (pCB fLen (pCons (pVar 1) pNil)) (pC (.int 1)))) (pTst (pOp fNotIn (pVar 1) (pSl (pC (.str (Str.ofString "0123456789"))) (oSome (pC (.int 1))) oNone))))) (sRaise "NoText") sNext) (sRet (mP (pCB fIntT (pCons (pVar 1) pNil))))) sNext) (sRet (mP (pIf (pTst (pOp fEq (pVar 1) (pC (.str (Str.ofString "-"))))) (pC (.str (Str.ofString ""))) (pVar 1))))))
def F_part_in : Fun := funOf 2 2 (m_part_in)
theorem fx_part_in (hT : TT.fl = true) (T : Txt mg) (xt : ExT exNs K mg) (F : FunD K "part_in" "part_in" (defArgs s_part_in) (defBody s_part_in) (defScope s_part_in) [] [] f fd) (hm : mg "part_in" = some (.ref f))  : Fx P w K mg base 1 "part_in" ["word", "part"] (spF K FLD TT 2 (F_part_in)) := by
  refine fx_ev (N := ["word", "part"]) F hm sc_part_in rfl (fun _ _ _ _ _ _ us hl => match us, hl with | [_, _], _ => rfl) fun cdv A outer s Hs E hr => ?_
  exact ⟨_, (pss_cons (ps_if (pt_cmpR (op_eqK (K := K) rfl hr.units) (pv 0) pe_str (nomark _)) (pss_cons (ps_if (pt_cmpR (op_notInT (K := K) rfl) (pv 1) (pe_tup (pa_cons pe_str (pa_cons pe_str pa_nil))) (by rfl)) (pss_one (L2N.ps_raise rfl (L2N.takes_of rfl rfl rfl rfl) (L2N.pmk_own PySem.F.excBase_ValueError (xt.exc "NoText" (by decide)) (xt.glo "NoText" (by decide)) (xt.keep "NoText" (by decide)) (raises_own (xt.sub "NoText" (by decide)) (xt.ty "NoText" (by decide))) (by rfl)))) pss_nil) (pss_one (ps_ret (pe_cmpR (op_eqK (K := K) rfl hr.units) (pv 1) pe_str (nomark _))))) pss_nil) (pss_cons (ps_if (pt_cmpR (op_inT (K := K) rfl) (pv 0) (pe_tup (pa_cons pe_str (pa_cons pe_str pa_nil))) (by rfl)) (pss_cons (ps_if (PW.pt (pw_or (pt_cmpR (op_neK (K := K) rfl hr.units) (pe_callB (call_lenK (K := K) rfl) (by rfl) T.m_len (by decide +kernel) (pa_cons (pv 1) pa_nil)) pe_int (nomark _)) (pw_or1 (pt_cmpR op_notIn_sign (pv 1) (pe_slice (sl_K (K := K) rfl) (C8.pe_gc (by rfl) T.c_FIGURES) (po_some pe_int) po_none) (by rfl))))) (pss_one (L2N.ps_raise rfl (L2N.takes_of rfl rfl rfl rfl) (L2N.pmk_own PySem.F.excBase_ValueError (xt.exc "NoText" (by decide)) (xt.glo "NoText" (by decide)) (xt.keep "NoText" (by decide)) (raises_own (xt.sub "NoText" (by decide)) (xt.ty "NoText" (by decide))) (by rfl)))) pss_nil) (pss_one (ps_ret (pe_callTy cr_intT (by rfl) T.m_int (by decide +kernel) (pa_cons (pv 1) pa_nil))))) pss_nil) (pss_one (ps_ret (pe_ifExp (pt_cmpR (op_eqK (K := K) rfl hr.units) (pv 1) (C8.pe_gc (by rfl) T.c_EMPTY) (nomark _)) pe_str (pv 1)))))), (ss_seq (ss_if (sbe_p (sb_test (sp_op od_eq sp_var sp_str))) (ss_seq (ss_if (sbe_p (sb_test (sp_op od_inT sp_var (sp_tup (sps_cons sp_str (sps_cons sp_str sps_nil)))))) ss_raise ss_next) (ss_ret (se_p (sp_op od_eq sp_var sp_str)))) ss_next) (ss_seq (ss_if (sbe_p (sb_test (sp_op od_inT sp_var (sp_tup (sps_cons sp_str (sps_cons sp_str sps_nil)))))) (ss_seq (ss_if (sbe_p (sb_or (sb_test (sp_op od_ne (sp_cb cd_len (sps_cons sp_var sps_nil)) sp_int)) (sb_test (sp_op od_notin sp_var (sp_sl sp_str (so_some sp_int) so_none))))) ss_raise ss_next) (ss_ret (se_p (sp_cb cd_intT (sps_cons sp_var sps_nil))))) ss_next) (ss_ret (se_p (sp_if (sb_test (sp_op od_eq sp_var sp_str)) sp_str sp_var)))))⟩
theorem sc_read_deeds : FnScope ["text", "made", "line", "word", "parts", "deed", "part"] ["text"] (defScope s_read_deeds) := ⟨rfl, rfl, rfl, by decide +kernel, rfl, by decide +kernel, by decide +kernel⟩
def e1_read_deeds (F_part_in F_deeds_text : Fun) : EM := (mCall F_part_in 2 (aConsV (mP (pVar 3)) (aConsV (mP (pVar 6)) aNil)))
def e2_read_deeds (F_part_in F_deeds_text : Fun) : EM := (mCall F_part_in 2 (aConsV (mP (pVar 3)) (aConsV (mP (pVar 6)) aNil)))
def b3_read_deeds (F_part_in F_deeds_text : Fun) : SM := (sSeq (sStar 3 4 (mP (pM1 fSplit (pVar 2) (pC (.str (Str.ofString " ")))))) (sExpr (mApp (wVar 1) (mOp fAdd (mP (pTup (pCons (pVar 3) pNil))) (mCB fTuple (aConsV (mLcX (iData (pVar 4)) (gmName 6) (mBP pTrue) (e2_read_deeds F_part_in F_deeds_text) [6]) aNil))))))
def m_read_deeds (F_part_in F_deeds_text : Fun) : SM := (sSeq (sIf (mBP (bOr (bNot (pTst (pIsi "str" (pVar 0)))) (bAnd (pTst (pOp fNe (pVar 0) (pC (.str (Str.ofString ""))))) (pTst (pOp fNe (pOp fIx (pVar 0) (pUn fNeg (pC (.int 1)))) (pC (.str (Str.ofString "\n")))))))) (sRaise "NoText") sNext) (sSeq (sAsgN 1 (nLst aNil)) (sSeq (sFor (iData (pSl (pM1 fSplit (pVar 0) (pC (.str (Str.ofString "\n")))) oNone (oSome (pUn fNeg (pC (.int 1)))))) (gmName 2) (b3_read_deeds F_part_in F_deeds_text)) (sSeq (sFrz (wVar 1) (sIf (mOrB (mBP (bNot (pTst (pCB fAll (pCons (pLc (iData (pVar 1)) (gmName 5) pTrue (pCB F_is_good (pCons (pVar 5) pNil)) [5]) pNil))))) (mTst (mOp fNe (mCall F_deeds_text 1 (aConsV (mP (pVar 1)) aNil)) (mP (pVar 0))))) (sRaise "NoText") sNext)) (sRet (mP (pVar 1)))))))
def F_read_deeds (F_part_in F_deeds_text : Fun) : Fun := funOf 7 1 (m_read_deeds F_part_in F_deeds_text)
theorem fx_read_deeds (hT : TT.fl = true) (T : Txt mg) (xt : ExT exNs K mg) (F : FunD K "read_deeds" "read_deeds" (defArgs s_read_deeds) (defBody s_read_deeds) (defScope s_read_deeds) [] [] f fd) (hm : mg "read_deeds" = some (.ref f)) {F_part_in F_deeds_text : Fun} (g_is_good : Fx P w K mg base 2 "is_good" ["deed"] (spR K 1 fun ds z => F_is_good ds = some z)) (g_part_in : Fx P w K mg base 1 "part_in" ["word", "part"] (spF K FLD TT 2 F_part_in)) (g_deeds_text : Fx P w K mg base 3 "deeds_text" ["deeds"] (spF K FLD TT 1 F_deeds_text)) : Fx P w K mg base 4 "read_deeds" ["text"] (spF K FLD TT 1 (F_read_deeds F_part_in F_deeds_text)) := by
  refine fx_ev (N := ["text", "made", "line", "word", "parts", "deed", "part"]) F hm sc_read_deeds rfl (fun _ _ _ _ _ _ us hl => match us, hl with | [_], _ => rfl) fun cdv A outer s Hs E hr => ?_
  exact ⟨_, (pss_cons (ps_if (PW.pt (pw_or (pt_not (pt_val (pe_callB (call_isK (K := K) rfl) (by rfl) T.m_isinstance (by decide +kernel) (pa_cons (pv 0) (pa_cons (pe_bltn (v := .ty "str") (by rfl) T.m_str (by decide +kernel) rfl) pa_nil))))) (pw_or1 (PW.pt (pw_and (pt_cmpR (op_neK (K := K) rfl hr.units) (pv 0) pe_str (nomark _)) (pw_and1 (pt_cmpR (op_neK (K := K) rfl hr.units) (pe_ix (ix_K (K := K) rfl) (pv 0) (pe_un un_neg pe_int) (fun _ _ => rfl)) pe_str (nomark _)))))))) (pss_one (L2N.ps_raise rfl (L2N.takes_of rfl rfl rfl rfl) (L2N.pmk_own PySem.F.excBase_ValueError (xt.exc "NoText" (by decide)) (xt.glo "NoText" (by decide)) (xt.keep "NoText" (by decide)) (raises_own (xt.sub "NoText" (by decide)) (xt.ty "NoText" (by decide))) (by rfl)))) pss_nil) (pss_cons (ps_set (i := 1) sc_read_deeds.nd rfl (by first | exact Or.inl rfl | exact Or.inr rfl) (pe_lst pa_nil)) (pss_cons (ps_for PassesOwn.leaving rfl (pi_K (K := K) rfl (pe_slice (sl_K (K := K) rfl) (pe_m1 PySem.F.slot_str_split PySem.F.type_str_split mt_split (pv 0) pe_str) po_none (po_some (pe_un un_neg pe_int)))) (pg_name (i := 2) sc_read_deeds.nd rfl (by first | exact Or.inl rfl | exact Or.inr rfl)) (pss_cons (ps_asg (pe_m1 PySem.F.slot_str_split PySem.F.type_str_split mt_split (pv 2) pe_str) (pg_starK (K := K) rfl (by rfl) (pg_name (i := 3) sc_read_deeds.nd rfl (by first | exact Or.inl rfl | exact Or.inr rfl)) (pg_name (i := 4) sc_read_deeds.nd rfl (by first | exact Or.inl rfl | exact Or.inr rfl)))) (pss_one (ps_expr (pe_bmK (K := K) rfl PySem.F.plainAttrs_list PySem.F.slot_list_append PySem.F.type_list_append mt_append (pv 1) (pa_cons (pe_op (op_addK (K := K) rfl) (pe_tup (pa_cons (pv 3) pa_nil)) (pe_callTy (call_tupK (K := K) rfl) (by rfl) T.m_tuple (by decide +kernel) (pa_cons (LcX.pe_lcX (own := [("part", 6)]) rfl rfl (L2N.takes_of rfl rfl rfl rfl) (fun _ _ _ _ _ h => h) rfl sc_read_deeds.nd (pi_K (K := K) rfl (pv 4)) (blkOk_by (N := ["text", "made", "line", "word", "parts", "deed", "part"]) (sc := defScope s_read_deeds) (by decide +kernel)) (fun _ _ _ _ _ => (pg_name (i := 6) sc_read_deeds.nd rfl (by first | exact Or.inl rfl | exact Or.inr rfl))) (fun _ _ _ _ _ => pts_nil) (fun _ _ _ _ _ _ _ hxc => (pe_fxX hxc g_part_in hr (by decide) (by rfl) (pa_cons (pv 3) (pa_cons (pv 6) pa_nil))))) pa_nil))) pa_nil)))))) (pss_cons (ps_if (PW.pt (pw_or (pt_not (pt_val (pe_callB (cr_allK (K := K) rfl rfl) (by rfl) T.m_all (by decide +kernel) (pa_cons (pe_lc (own := [("deed", 5)]) rfl sc_read_deeds.nd (pi_K (K := K) rfl (pv 1)) (blkOk_by (N := ["text", "made", "line", "word", "parts", "deed", "part"]) (sc := defScope s_read_deeds) (by decide +kernel)) (fun _ _ _ _ _ => (pg_name (i := 5) sc_read_deeds.nd rfl (by first | exact Or.inl rfl | exact Or.inr rfl))) (fun _ _ _ _ _ => pts_nil) (fun _ _ _ _ _ => (pe_fx g_is_good hr (by decide) (by rfl) passN (pa_cons (pv 5) pa_nil)))) pa_nil)))) (pw_or1 (pt_cmpR (op_neK (K := K) rfl hr.units) (pe_fxW (L2N.takes_of rfl rfl rfl rfl) g_deeds_text hr (by decide) (by rfl) (pa_cons (pv 1) pa_nil)) (pv 0) (nomark _))))) (pss_one (L2N.ps_raise rfl (L2N.takes_of rfl rfl rfl rfl) (L2N.pmk_own PySem.F.excBase_ValueError (xt.exc "NoText" (by decide)) (xt.glo "NoText" (by decide)) (xt.keep "NoText" (by decide)) (raises_own (xt.sub "NoText" (by decide)) (xt.ty "NoText" (by decide))) (by rfl)))) pss_nil) (pss_one (ps_ret (pv 1))))))), (ss_seq (ss_if (sbe_p (sb_or (sb_not (sb_B (sp_isi sp_var))) (sb_and (sb_test (sp_op od_ne sp_var sp_str)) (sb_test (sp_op od_ne (sp_op od_ix sp_var (sp_un ud_neg sp_int)) sp_str))))) ss_raise ss_next) (ss_seq (ss_asgN (sn_lst sa_nil)) (ss_seq (ss_for (si_data (sp_sl (sp_m1 md_split sp_var sp_str) so_none (so_some (sp_un ud_neg sp_int)))) sg_name (ss_seq (ss_star (se_p (sp_m1 md_split sp_var sp_str))) (ss_expr (se_app sw_var (se_op od_add (se_p (sp_tup (sps_cons sp_var sps_nil))) (se_cb cd_tuple (sa_cons (se_lcX hT (si_data sp_var) sg_name (sbe_p sb_yes) (se_call hT (sa_cons (se_p sp_var) (sa_cons (se_p sp_var) sa_nil))) (fun _ _ _ _ _ h => h)) sa_nil))))))) (ss_seq (ss_frz sw_var (ss_if (sbe_or (sbe_p (sb_not (sb_B (sp_cb cd_all (sps_cons (sp_lc (SimI.o (si_data sp_var)) sg_name sb_yes (sp_call (fun ds z h => ⟨h, pure_len h⟩) (sps_cons sp_var sps_nil))) sps_nil))))) (sbe_test (se_op od_ne (se_call hT (sa_cons (se_p sp_var) sa_nil)) (se_p sp_var)))) ss_raise ss_next)) (ss_ret (se_p sp_var))))))⟩
theorem sc_law : FnScope ["script", "deeds", "k", "due", "deed", "signs", "bad", "thing", "here", "some", "words", "part", "one", "name", "number", "at", "sign", "told"] ["script"] (defScope s_law) := ⟨rfl, rfl, rfl, by decide +kernel, rfl, by decide +kernel, by decide +kernel⟩
def b1_law (F_deeds_text F_read_deeds : Fun) : SM := (sSeq (sAsg 8 (mP (pOp fAdd (pC (.int 10)) (pOp fMul (pC (.int 30)) (pVar 2))))) (sSeq (sNames [13, 14] (anV (mP (pCB FO_law_key (pCons (pVar 0) (pCons (pVar 8) pNil)))) (anV (mP (pOp fAdd (pC (.int 1)) (pCB FO_law_pick (pCons (pVar 0) (pCons (pOp fAdd (pVar 8) (pC (.int 13))) (pCons (pC (.int 9)) pNil)))))) anNil))) (sSeq (sAsgN 9 (nLst (aConsV (mP (pTup (pCons (pC (.str (Str.ofString "put"))) (pCons (pVar 13) (pCons (pCB FO_law_value (pCons (pVar 0) (pCons (pOp fAdd (pVar 8) (pC (.int 14))) pNil))) pNil))))) (aConsV (mP (pTup (pCons (pC (.str (Str.ofString "put"))) (pCons (pVar 13) (pCons (pC (.str (Str.ofString ""))) pNil))))) (aConsV (mP (pTup (pCons (pC (.str (Str.ofString "drop"))) (pCons (pVar 13) pNil)))) (aConsV (mP (pTup (pCons (pC (.str (Str.ofString "begin"))) pNil))) aNil)))))) (sSeq (sExpr (mExtP (wVar 9) (pLst (pCons (pTup (pCons (pC (.str (Str.ofString "commit"))) pNil)) (pCons (pTup (pCons (pC (.str (Str.ofString "cancel"))) pNil)) (pCons (pTup (pCons (pC (.str (Str.ofString "walk"))) (pCons (pC (.bool true)) pNil))) (pCons (pTup (pCons (pC (.str (Str.ofString "walk"))) (pCons (pC (.bool false)) pNil))) (pCons (pTup (pCons (pC (.str (Str.ofString "step"))) (pCons (pVar 14) pNil))) pNil)))))))) (sSeq (sExpr (mExtP (wVar 9) (pLst (pCons (pTup (pCons (pC (.str (Str.ofString "end"))) (pCons (pVar 14) pNil))) (pCons (pTup (pCons (pC (.str (Str.ofString "squeeze"))) pNil)) pNil))))) (sExpr (mAppP (wVar 1) (pIxL (wVar 9) (pCB FO_law_pick (pCons (pVar 0) (pCons (pOp fAdd (pVar 8) (pC (.int 20))) (pCons (pC (.int 11)) pNil))))))))))))
def b2_law (F_deeds_text F_read_deeds : Fun) : SM := (sExpr (mAppP (wVar 10) (pDisp2 [(Str.ofString "", Str.ofString "-"), (Str.ofString "True", Str.ofString "moment"), (Str.ofString "False", Str.ofString "now")] (pCB fStr (pCons (pVar 11) pNil)) (pCB fStr (pCons (pVar 11) pNil)))))
def b3_law (F_deeds_text F_read_deeds : Fun) : SM := (sSeq (sAsgN 10 (nLst aNil)) (sSeq (sFor (iData (pVar 4)) (gmName 11) (b2_law F_deeds_text F_read_deeds)) (sAsg 3 (mP (pOp fAdd (pOp fAdd (pVar 3) (pJoinW (Str.ofString " ") (wVar 10))) (pC (.str (Str.ofString "\n"))))))))
def b4_law (F_deeds_text F_read_deeds : Fun) : SM := (sSeq (sAsg 17 (mTold exNs (mCall F_read_deeds 1 (aConsV (mP (pVar 12)) aNil)))) (sIf (mAndB (mBP (pTst (pOp fNe (pVar 17) (pTup (pCons (pC (.str (Str.ofString "refused"))) (pCons (pC (.str (Str.ofString "NoText"))) pNil)))))) (mTst (mOp fNe (mCall F_deeds_text 1 (aConsV (mP (pVar 17)) aNil)) (mP (pVar 12))))) (sRet (mP (pC (.bool false)))) sNext))
def b5_law (F_deeds_text F_read_deeds : Fun) : SM := (sSeq (sNames [15, 16] (anV (mP (pCB FO_law_pick (pCons (pVar 0) (pCons (pOp fAdd (pC (.int 600)) (pVar 2)) (pCons (pOp fAdd (pCB fLen (pCons (pVar 3) pNil)) (pC (.int 1))) pNil))))) (anV (mP (pOp fIx (pVar 5) (pCB FO_law_pick (pCons (pVar 0) (pCons (pOp fAdd (pC (.int 610)) (pVar 2)) (pCons (pC (.int 11)) pNil)))))) anNil))) (sFor (iData (pTup (pCons (pOp fAdd (pSl (pVar 3) oNone (oSome (pVar 15))) (pSl (pVar 3) (oSome (pOp fAdd (pVar 15) (pC (.int 1)))) oNone)) (pCons (pOp fAdd (pOp fAdd (pSl (pVar 3) oNone (oSome (pVar 15))) (pVar 16)) (pSl (pVar 3) (oSome (pVar 15)) oNone)) (pCons (pOp fAdd (pOp fAdd (pSl (pVar 3) oNone (oSome (pVar 15))) (pVar 16)) (pSl (pVar 3) (oSome (pOp fAdd (pVar 15) (pC (.int 1)))) oNone)) pNil))))) (gmName 12) (b4_law F_deeds_text F_read_deeds)))
def b6_law (F_deeds_text F_read_deeds : Fun) : SM := (sIf (mTst (mOp fNe (mTold exNs (mCall F_read_deeds 1 (aConsV (mP (pVar 7)) aNil))) (mP (pTup (pCons (pC (.str (Str.ofString "refused"))) (pCons (pC (.str (Str.ofString "NoText"))) pNil)))))) (sRet (mP (pC (.bool false)))) sNext)
def m_law (F_deeds_text F_read_deeds : Fun) : SM := (sSeq (sAsgN 1 (nLst aNil)) (sSeq (sFor (iRg (pCons (pCB FO_law_pick (pCons (pVar 0) (pCons (pC (.int 0)) (pCons (pC (.int 15)) pNil)))) pNil)) (gmName 2) (b1_law F_deeds_text F_read_deeds)) (sSeq (sAsg 3 (mP (pC (.str (Str.ofString ""))))) (sSeq (sFrz (wVar 1) (sFor (iData (pVar 1)) (gmName 4) (b3_law F_deeds_text F_read_deeds))) (sSeq (sIf (mOrB (mTst (mOp fNe (mCall F_deeds_text 1 (aConsV (mP (pVar 1)) aNil)) (mP (pVar 3)))) (mTst (mOp fNe (mTold exNs (mCall F_read_deeds 1 (aConsV (mP (pVar 3)) aNil))) (mP (pVar 1))))) (sRet (mP (pC (.bool false)))) sNext) (sSeq (sAsg 5 (mP (pC (.str (Str.ofString "abz019 -\nkM"))))) (sSeq (sFor (iRg (pCons (pC (.int 6)) pNil)) (gmName 2) (b5_law F_deeds_text F_read_deeds)) (sSeq (sAsgN 6 (nLst (aConsV (mP (pC (.str (Str.ofString "put a\n")))) (aConsV (mP (pC (.str (Str.ofString "put a b c\n")))) (aConsV (mP (pC (.str (Str.ofString "put A 1\n")))) (aConsV (mP (pC (.str (Str.ofString "put a  1\n")))) (aConsV (mP (pC (.str (Str.ofString "walk\n")))) (aConsV (mP (pC (.str (Str.ofString "walk True\n")))) (aConsV (mP (pC (.str (Str.ofString "step 0\n")))) (aConsV (mP (pC (.str (Str.ofString "step 10\n")))) aNil)))))))))) (sSeq (sExpr (mExtP (wVar 6) (pLst (pCons (pC (.str (Str.ofString "begin"))) (pCons (pC (.str (Str.ofString "\n"))) (pCons (pC (.str (Str.ofString " begin\n"))) (pCons (pC (.str (Str.ofString "begin \n"))) (pCons (pC (.str (Str.ofString "Begin\n"))) (pCons (pC (.str (Str.ofString "drop -\n"))) (pCons (pC (.str (Str.ofString "step 01\n"))) pNil)))))))))) (sSeq (sFrz (wVar 6) (sFor (iData (pOp fAdd (pLst (pCons (pC .none) (pCons (pC (.bool true)) (pCons (pC (.int 3)) (pCons (pLst (pCons (pC (.str (Str.ofString "begin"))) pNil)) (pCons (pTup (pCons (pC (.str (Str.ofString "begin"))) pNil)) pNil)))))) (pVar 6))) (gmName 7) (b6_law F_deeds_text F_read_deeds))) (sRet (mAnd (mOp fEq (mCall F_read_deeds 1 (aConsV (mP (pC (.str (Str.ofString "")))) aNil)) (mP (pLst pNil))) (mOp fEq (mCall F_read_deeds 1 (aConsV (mP (pC (.str (Str.ofString "put a -\nwalk now\n")))) aNil)) (mP (pLst (pCons (pTup (pCons (pC (.str (Str.ofString "put"))) (pCons (pC (.str (Str.ofString "a"))) (pCons (pC (.str (Str.ofString ""))) pNil)))) (pCons (pTup (pCons (pC (.str (Str.ofString "walk"))) (pCons (pC (.bool false)) pNil))) pNil)))))))))))))))))
def F_law (F_deeds_text F_read_deeds : Fun) : Fun := funOf 18 1 (m_law F_deeds_text F_read_deeds)
theorem ok_law (hT : TT.fl = true) (T : Txt mg) (xt : ExT exNs K mg) (F : FunD K "law" "law" (defArgs s_law) (defBody s_law) (defScope s_law) [] [] (He.fAd K ("law", none)) fd) (TB : TabB base mg (He.codeOf K ("law", none)) (He.tabOf K (He.codeOf K ("law", none)))) (hmT : (He.tabOf K (He.codeOf K ("law", none)), ("law" ++ ".<locals>." : Str) ++ "<lambda>") ∈ TT.l) (hu : ∀ p ∈ TT.l, p.1 = He.tabOf K (He.codeOf K ("law", none)) → p.2 = ("law" ++ ".<locals>." : Str) ++ "<lambda>") {ft fc : Addr} {fdt fdc : FuncData} (F_law_told : FunD K "_law_told" "_law_told" (defArgs s_law_told) (defBody s_law_told) (defScope s_law_told) [] [] ft fdt) (m_law_told : mg "_law_told" = some (.ref ft)) (F_law_class : FunD K "_law_class" "_law_class" (defArgs s_law_class) (defBody s_law_class) (defScope s_law_class) [] [] fc fdc) (m_law_class : mg "_law_class" = some (.ref fc)) {F_deeds_text F_read_deeds : Fun} (g_law_pick : Fx P w K mg base 1 "_law_pick" ["script", "k", "many"] (spR K 3 Rpick)) (g_law_key : Fx P w K mg base 2 "_law_key" ["script", "at"] (spR K 2 Rkey)) (g_law_value : Fx P w K mg base 2 "_law_value" ["script", "at"] (spR K 2 Rvalue)) (g_deeds_text : Fx P w K mg base 3 "deeds_text" ["deeds"] (spF K FLD TT 1 F_deeds_text)) (g_read_deeds : Fx P w K mg base 4 "read_deeds" ["text"] (spF K FLD TT 1 F_read_deeds)) : FnOk P w K mg base (CXL P w) 9 (He.fAd K ("law", none)) fd ["script"] (spF K FLD TT 1 (F_law F_deeds_text F_read_deeds)) := by
  refine fn_evL (N := ["script", "deeds", "k", "due", "deed", "signs", "bad", "thing", "here", "some", "words", "part", "one", "name", "number", "at", "sign", "told"]) (p := ("law", none)) F rfl sc_law rfl fun cdv hcd A outer s Hs E hr => ?_
  exact ⟨_, (pss_cons (ps_set (i := 1) sc_law.nd rfl (by first | exact Or.inl rfl | exact Or.inr rfl) (pe_lst pa_nil)) (pss_cons (ps_for PassesOwn.leaving rfl (pi_range1 (by rfl) T.m_range (pa_cons (pe_fx g_law_pick hr (by decide) (by rfl) passN (pa_cons (pv 0) (pa_cons pe_int (pa_cons pe_int pa_nil)))) pa_nil)) (pg_name (i := 2) sc_law.nd rfl (by first | exact Or.inl rfl | exact Or.inr rfl)) (pss_cons (ps_set (i := 8) sc_law.nd rfl (by first | exact Or.inl rfl | exact Or.inr rfl) (pe_op (op_addK (K := K) rfl) pe_int (pe_op (op_mulK (K := K) rfl) pe_int (pv 2)))) (pss_cons (ps_par (by rfl) sc_law.nd (i := 13) (j := 14) rfl rfl (by decide) rfl rfl (pa_cons (pe_fx g_law_key hr (by decide) (by rfl) passN (pa_cons (pv 0) (pa_cons (pv 8) pa_nil))) (pa_cons (pe_op (op_addK (K := K) rfl) pe_int (pe_fx g_law_pick hr (by decide) (by rfl) passN (pa_cons (pv 0) (pa_cons (pe_op (op_addK (K := K) rfl) (pv 8) pe_int) (pa_cons pe_int pa_nil))))) pa_nil)) (by rfl)) (pss_cons (ps_set (i := 9) sc_law.nd rfl (by first | exact Or.inl rfl | exact Or.inr rfl) (pe_lst (pa_cons (pe_tup (pa_cons pe_str (pa_cons (pv 13) (pa_cons (pe_fx g_law_value hr (by decide) (by rfl) passN (pa_cons (pv 0) (pa_cons (pe_op (op_addK (K := K) rfl) (pv 8) pe_int) pa_nil))) pa_nil)))) (pa_cons (pe_tup (pa_cons pe_str (pa_cons (pv 13) (pa_cons pe_str pa_nil)))) (pa_cons (pe_tup (pa_cons pe_str (pa_cons (pv 13) pa_nil))) (pa_cons (pe_tup (pa_cons pe_str pa_nil)) pa_nil)))))) (pss_cons (ps_expr (pe_bmK (K := K) rfl PySem.F.plainAttrs_list PySem.F.slot_list_extend PySem.F.type_list_extend mt_extend (pv 9) (pa_cons (pe_lst (pa_cons (pe_tup (pa_cons pe_str pa_nil)) (pa_cons (pe_tup (pa_cons pe_str pa_nil)) (pa_cons (pe_tup (pa_cons pe_str (pa_cons pe_bl pa_nil))) (pa_cons (pe_tup (pa_cons pe_str (pa_cons pe_bl pa_nil))) (pa_cons (pe_tup (pa_cons pe_str (pa_cons (pv 14) pa_nil))) pa_nil)))))) pa_nil))) (pss_cons (ps_expr (pe_bmK (K := K) rfl PySem.F.plainAttrs_list PySem.F.slot_list_extend PySem.F.type_list_extend mt_extend (pv 9) (pa_cons (pe_lst (pa_cons (pe_tup (pa_cons pe_str (pa_cons (pv 14) pa_nil))) (pa_cons (pe_tup (pa_cons pe_str pa_nil)) pa_nil))) pa_nil))) (pss_one (ps_expr (pe_bmK (K := K) rfl PySem.F.plainAttrs_list PySem.F.slot_list_append PySem.F.type_list_append mt_append (pv 1) (pa_cons (pe_ix (ix_K (K := K) rfl) (pv 9) (pe_fx g_law_pick hr (by decide) (by rfl) passN (pa_cons (pv 0) (pa_cons (pe_op (op_addK (K := K) rfl) (pv 8) pe_int) (pa_cons pe_int pa_nil)))) (fun _ _ => rfl)) pa_nil)))))))))) (pss_cons (ps_set (i := 3) sc_law.nd rfl (by first | exact Or.inl rfl | exact Or.inr rfl) pe_str) (pss_cons (ps_for PassesOwn.leaving rfl (pi_K (K := K) rfl (pv 1)) (pg_name (i := 4) sc_law.nd rfl (by first | exact Or.inl rfl | exact Or.inr rfl)) (pss_cons (ps_set (i := 10) sc_law.nd rfl (by first | exact Or.inl rfl | exact Or.inr rfl) (pe_lst pa_nil)) (pss_cons (ps_for PassesOwn.leaving rfl (pi_K (K := K) rfl (pv 4)) (pg_name (i := 11) sc_law.nd rfl (by first | exact Or.inl rfl | exact Or.inr rfl)) (pss_one (ps_expr (pe_bmK (K := K) rfl PySem.F.plainAttrs_list PySem.F.slot_list_append PySem.F.type_list_append mt_append (pv 10) (pa_cons (pe_dget2 (units1 hr.units) (pe_disp (pps_cons pe_str pe_str (pps_cons pe_str pe_str (pps_cons pe_str pe_str pps_nil))) rfl rfl (List.cons_ne_nil _ _) (by decide)) (pe_callTy cr_strU (by rfl) T.m_str (by decide +kernel) (pa_cons (pv 11) pa_nil)) (pe_callTy cr_strU (by rfl) T.m_str (by decide +kernel) (pa_cons (pv 11) pa_nil)) ⟨rfl, rfl, rfl, rfl⟩) pa_nil))))) (pss_one (ps_set (i := 3) sc_law.nd rfl (by first | exact Or.inl rfl | exact Or.inr rfl) (pe_op (op_addK (K := K) rfl) (pe_op (op_addK (K := K) rfl) (pv 3) (pe_m1 PySem.F.slot_str_join PySem.F.type_str_join (mt_joinK (K := K) rfl) pe_str (pv 10))) pe_str)))))) (pss_cons (ps_if (PW.pt (pw_or (pt_cmpR (op_neK (K := K) rfl hr.units) (pe_fxW (L2N.takes_of rfl rfl rfl rfl) g_deeds_text hr (by decide) (by rfl) (pa_cons (pv 1) pa_nil)) (pv 3) (nomark _)) (pw_or1 (pt_cmpR (op_neK (K := K) rfl hr.units) (pe_lamN (T := TT.l) (TT := TTn K) (a := "deed") (k := 4) (by rfl) m_law_told F_law_told (F_law_told.bindsN (fun _ _ _ _ _ _ us hl => match us, hl with | [_], _ => rfl)) sc_law_told rfl (.inl rfl) (fun cdv => told_gives T xt F_law_class m_law_class cdv) TB hcd hmT hu (hr.mono (by decide)) (lamS_by (sc := defScope s_law) (by decide +kernel)) (by rfl) (fun _ _ _ _ _ => rfl) (fun A outer s H E f c' hr => (pe_fxW lamN_takes g_read_deeds hr (by decide) (by rfl) (pa_cons (pv 3) pa_nil)))) (pv 1) (nomark _))))) (pss_one (ps_ret pe_bl)) pss_nil) (pss_cons (ps_set (i := 5) sc_law.nd rfl (by first | exact Or.inl rfl | exact Or.inr rfl) pe_str) (pss_cons (ps_for PassesOwn.leaving rfl (pi_range1 (by rfl) T.m_range (pa_cons pe_int pa_nil)) (pg_name (i := 2) sc_law.nd rfl (by first | exact Or.inl rfl | exact Or.inr rfl)) (pss_cons (ps_par (by rfl) sc_law.nd (i := 15) (j := 16) rfl rfl (by decide) rfl rfl (pa_cons (pe_fx g_law_pick hr (by decide) (by rfl) passN (pa_cons (pv 0) (pa_cons (pe_op (op_addK (K := K) rfl) pe_int (pv 2)) (pa_cons (pe_op (op_addK (K := K) rfl) (pe_callB (call_lenK (K := K) rfl) (by rfl) T.m_len (by decide +kernel) (pa_cons (pv 3) pa_nil)) pe_int) pa_nil)))) (pa_cons (pe_ix (ix_K (K := K) rfl) (pv 5) (pe_fx g_law_pick hr (by decide) (by rfl) passN (pa_cons (pv 0) (pa_cons (pe_op (op_addK (K := K) rfl) pe_int (pv 2)) (pa_cons pe_int pa_nil)))) (fun _ _ => rfl)) pa_nil)) (by rfl)) (pss_one (ps_for PassesOwn.leaving rfl (pi_K (K := K) rfl (pe_tup (pa_cons (pe_op (op_addK (K := K) rfl) (pe_slice (sl_K (K := K) rfl) (pv 3) po_none (po_some (pv 15))) (pe_slice (sl_K (K := K) rfl) (pv 3) (po_some (pe_op (op_addK (K := K) rfl) (pv 15) pe_int)) po_none)) (pa_cons (pe_op (op_addK (K := K) rfl) (pe_op (op_addK (K := K) rfl) (pe_slice (sl_K (K := K) rfl) (pv 3) po_none (po_some (pv 15))) (pv 16)) (pe_slice (sl_K (K := K) rfl) (pv 3) (po_some (pv 15)) po_none)) (pa_cons (pe_op (op_addK (K := K) rfl) (pe_op (op_addK (K := K) rfl) (pe_slice (sl_K (K := K) rfl) (pv 3) po_none (po_some (pv 15))) (pv 16)) (pe_slice (sl_K (K := K) rfl) (pv 3) (po_some (pe_op (op_addK (K := K) rfl) (pv 15) pe_int)) po_none)) pa_nil))))) (pg_name (i := 12) sc_law.nd rfl (by first | exact Or.inl rfl | exact Or.inr rfl)) (pss_cons (ps_set (i := 17) sc_law.nd rfl (by first | exact Or.inl rfl | exact Or.inr rfl) (pe_lamN (T := TT.l) (TT := TTn K) (a := "deed") (k := 4) (by rfl) m_law_told F_law_told (F_law_told.bindsN (fun _ _ _ _ _ _ us hl => match us, hl with | [_], _ => rfl)) sc_law_told rfl (.inl rfl) (fun cdv => told_gives T xt F_law_class m_law_class cdv) TB hcd hmT hu (hr.mono (by decide)) (lamS_by (sc := defScope s_law) (by decide +kernel)) (by rfl) (fun _ _ _ _ _ => rfl) (fun A outer s H E f c' hr => (pe_fxW lamN_takes g_read_deeds hr (by decide) (by rfl) (pa_cons (pv 12) pa_nil))))) (pss_one (ps_if (PW.pt (pw_and (pt_cmpR (op_neK (K := K) rfl hr.units) (pv 17) (pe_tup (pa_cons pe_str (pa_cons pe_str pa_nil))) (nomark _)) (pw_and1 (pt_cmpR (op_neK (K := K) rfl hr.units) (pe_fxW (L2N.takes_of rfl rfl rfl rfl) g_deeds_text hr (by decide) (by rfl) (pa_cons (pv 17) pa_nil)) (pv 12) (nomark _))))) (pss_one (ps_ret pe_bl)) pss_nil))))))) (pss_cons (ps_set (i := 6) sc_law.nd rfl (by first | exact Or.inl rfl | exact Or.inr rfl) (pe_lst (pa_cons pe_str (pa_cons pe_str (pa_cons pe_str (pa_cons pe_str (pa_cons pe_str (pa_cons pe_str (pa_cons pe_str (pa_cons pe_str pa_nil)))))))))) (pss_cons (ps_expr (pe_bmK (K := K) rfl PySem.F.plainAttrs_list PySem.F.slot_list_extend PySem.F.type_list_extend mt_extend (pv 6) (pa_cons (pe_lst (pa_cons pe_str (pa_cons pe_str (pa_cons pe_str (pa_cons pe_str (pa_cons pe_str (pa_cons pe_str (pa_cons pe_str pa_nil)))))))) pa_nil))) (pss_cons (ps_for PassesOwn.leaving rfl (pi_K (K := K) rfl (pe_op (op_addK (K := K) rfl) (pe_lst (pa_cons pe_non (pa_cons pe_bl (pa_cons pe_int (pa_cons (pe_lst (pa_cons pe_str pa_nil)) (pa_cons (pe_tup (pa_cons pe_str pa_nil)) pa_nil)))))) (pv 6))) (pg_name (i := 7) sc_law.nd rfl (by first | exact Or.inl rfl | exact Or.inr rfl)) (pss_one (ps_if (pt_cmpR (op_neK (K := K) rfl hr.units) (pe_lamN (T := TT.l) (TT := TTn K) (a := "deed") (k := 4) (by rfl) m_law_told F_law_told (F_law_told.bindsN (fun _ _ _ _ _ _ us hl => match us, hl with | [_], _ => rfl)) sc_law_told rfl (.inl rfl) (fun cdv => told_gives T xt F_law_class m_law_class cdv) TB hcd hmT hu (hr.mono (by decide)) (lamS_by (sc := defScope s_law) (by decide +kernel)) (by rfl) (fun _ _ _ _ _ => rfl) (fun A outer s H E f c' hr => (pe_fxW lamN_takes g_read_deeds hr (by decide) (by rfl) (pa_cons (pv 7) pa_nil)))) (pe_tup (pa_cons pe_str (pa_cons pe_str pa_nil))) (nomark _)) (pss_one (ps_ret pe_bl)) pss_nil))) (pss_one (ps_ret (pe_and (pe_cmpR (op_eqK (K := K) rfl hr.units) (pe_fxW (L2N.takes_of rfl rfl rfl rfl) g_read_deeds hr (by decide) (by rfl) (pa_cons pe_str pa_nil)) (pe_lst pa_nil) (nomark _)) (pe_one (pe_cmpR (op_eqK (K := K) rfl hr.units) (pe_fxW (L2N.takes_of rfl rfl rfl rfl) g_read_deeds hr (by decide) (by rfl) (pa_cons pe_str pa_nil)) (pe_lst (pa_cons (pe_tup (pa_cons pe_str (pa_cons pe_str (pa_cons pe_str pa_nil)))) (pa_cons (pe_tup (pa_cons pe_str (pa_cons pe_bl pa_nil))) pa_nil))) (nomark _)))))))))))))))), (ss_seq (ss_asgN (sn_lst sa_nil)) (ss_seq (ss_for (si_range (sps_cons (sp_call hfo_law_pick (sps_cons sp_var (sps_cons sp_int (sps_cons sp_int sps_nil)))) sps_nil)) sg_name (ss_seq (ss_asg (se_p (sp_op od_add sp_int (sp_op od_mul sp_int sp_var)))) (ss_seq (ss_par2 (san_v (se_p (sp_call hfo_law_key (sps_cons sp_var (sps_cons sp_var sps_nil)))) (san_v (se_p (sp_op od_add sp_int (sp_call hfo_law_pick (sps_cons sp_var (sps_cons (sp_op od_add sp_var sp_int) (sps_cons sp_int sps_nil)))))) san_nil))) (ss_seq (ss_asgN (sn_lst (sa_cons (se_p (sp_tup (sps_cons sp_str (sps_cons sp_var (sps_cons (sp_call hfo_law_value (sps_cons sp_var (sps_cons (sp_op od_add sp_var sp_int) sps_nil))) sps_nil))))) (sa_cons (se_p (sp_tup (sps_cons sp_str (sps_cons sp_var (sps_cons sp_str sps_nil))))) (sa_cons (se_p (sp_tup (sps_cons sp_str (sps_cons sp_var sps_nil)))) (sa_cons (se_p (sp_tup (sps_cons sp_str sps_nil))) sa_nil)))))) (ss_seq (ss_expr (se_extP sw_var (sp_lst (sps_cons (sp_tup (sps_cons sp_str sps_nil)) (sps_cons (sp_tup (sps_cons sp_str sps_nil)) (sps_cons (sp_tup (sps_cons sp_str (sps_cons sp_bl sps_nil))) (sps_cons (sp_tup (sps_cons sp_str (sps_cons sp_bl sps_nil))) (sps_cons (sp_tup (sps_cons sp_str (sps_cons sp_var sps_nil))) sps_nil)))))))) (ss_seq (ss_expr (se_extP sw_var (sp_lst (sps_cons (sp_tup (sps_cons sp_str (sps_cons sp_var sps_nil))) (sps_cons (sp_tup (sps_cons sp_str sps_nil)) sps_nil))))) (ss_expr (se_appP sw_var (sp_ixL sw_var (sp_call hfo_law_pick (sps_cons sp_var (sps_cons (sp_op od_add sp_var sp_int) (sps_cons sp_int sps_nil))))))))))))) (ss_seq (ss_asg (se_p sp_str)) (ss_seq (ss_frz sw_var (ss_for (si_data sp_var) sg_name (ss_seq (ss_asgN (sn_lst sa_nil)) (ss_seq (ss_for (si_data sp_var) sg_name (ss_expr (se_appP sw_var (sp_disp2 (kvs := [(Str.ofString "", Str.ofString "-"), (Str.ofString "True", Str.ofString "moment"), (Str.ofString "False", Str.ofString "now")]) (by decide) (sp_cb cd_str (sps_cons sp_var sps_nil)) (sp_cb cd_str (sps_cons sp_var sps_nil)))))) (ss_asg (se_p (sp_op od_add (sp_op od_add sp_var (sp_joinW sw_var)) sp_str))))))) (ss_seq (ss_if (sbe_or (sbe_test (se_op od_ne (se_call hT (sa_cons (se_p sp_var) sa_nil)) (se_p sp_var))) (sbe_test (se_op od_ne (se_toldN hT (fun E => (se_call hT (sa_cons (se_p sp_var) sa_nil)))) (se_p sp_var)))) (ss_ret (se_p sp_bl)) ss_next) (ss_seq (ss_asg (se_p sp_str)) (ss_seq (ss_for (si_range (sps_cons sp_int sps_nil)) sg_name (ss_seq (ss_par2 (san_v (se_p (sp_call hfo_law_pick (sps_cons sp_var (sps_cons (sp_op od_add sp_int sp_var) (sps_cons (sp_op od_add (sp_cb cd_len (sps_cons sp_var sps_nil)) sp_int) sps_nil))))) (san_v (se_p (sp_op od_ix sp_var (sp_call hfo_law_pick (sps_cons sp_var (sps_cons (sp_op od_add sp_int sp_var) (sps_cons sp_int sps_nil)))))) san_nil))) (ss_for (si_data (sp_tup (sps_cons (sp_op od_add (sp_sl sp_var so_none (so_some sp_var)) (sp_sl sp_var (so_some (sp_op od_add sp_var sp_int)) so_none)) (sps_cons (sp_op od_add (sp_op od_add (sp_sl sp_var so_none (so_some sp_var)) sp_var) (sp_sl sp_var (so_some sp_var) so_none)) (sps_cons (sp_op od_add (sp_op od_add (sp_sl sp_var so_none (so_some sp_var)) sp_var) (sp_sl sp_var (so_some (sp_op od_add sp_var sp_int)) so_none)) sps_nil))))) sg_name (ss_seq (ss_asg (se_toldN hT (fun E => (se_call hT (sa_cons (se_p sp_var) sa_nil))))) (ss_if (sbe_and (sbe_p (sb_test (sp_op od_ne sp_var (sp_tup (sps_cons sp_str (sps_cons sp_str sps_nil)))))) (sbe_test (se_op od_ne (se_call hT (sa_cons (se_p sp_var) sa_nil)) (se_p sp_var)))) (ss_ret (se_p sp_bl)) ss_next))))) (ss_seq (ss_asgN (sn_lst (sa_cons (se_p sp_str) (sa_cons (se_p sp_str) (sa_cons (se_p sp_str) (sa_cons (se_p sp_str) (sa_cons (se_p sp_str) (sa_cons (se_p sp_str) (sa_cons (se_p sp_str) (sa_cons (se_p sp_str) sa_nil)))))))))) (ss_seq (ss_expr (se_extP sw_var (sp_lst (sps_cons sp_str (sps_cons sp_str (sps_cons sp_str (sps_cons sp_str (sps_cons sp_str (sps_cons sp_str (sps_cons sp_str sps_nil)))))))))) (ss_seq (ss_frz sw_var (ss_for (si_data (sp_op od_add (sp_lst (sps_cons sp_non (sps_cons sp_bl (sps_cons sp_int (sps_cons (sp_lst (sps_cons sp_str sps_nil)) (sps_cons (sp_tup (sps_cons sp_str sps_nil)) sps_nil)))))) sp_var)) sg_name (ss_if (sbe_test (se_op od_ne (se_toldN hT (fun E => (se_call hT (sa_cons (se_p sp_var) sa_nil)))) (se_p (sp_tup (sps_cons sp_str (sps_cons sp_str sps_nil)))))) (ss_ret (se_p sp_bl)) ss_next))) (ss_ret (se_and (se_op od_eq (se_call hT (sa_cons (se_p sp_str) sa_nil)) (se_p (sp_lst sps_nil))) (se_op od_eq (se_call hT (sa_cons (se_p sp_str) sa_nil)) (se_p (sp_lst (sps_cons (sp_tup (sps_cons sp_str (sps_cons sp_str (sps_cons sp_str sps_nil)))) (sps_cons (sp_tup (sps_cons sp_str (sps_cons sp_bl sps_nil))) sps_nil)))))))))))))))))⟩
end
end EV
/-! ### the law k63: what is no text -/
namespace EV
open PySem PySem.Spec PyProof.Rows L2 Evl L2H LamX LR
abbrev FRD := F_read_deeds F_part_in F_deeds_text
def noText (r : Option (Except Str Rv × List Ob)) : Bool := match r with
  | some (.error x, []) => decide (x = "NoText")
  | _ => false
def badTs : List PyData := [.none, .bool true, .int 3, .list [.str (Str.ofString "begin")], .tuple [.str (Str.ofString "begin")], .str (Str.ofString "put a\n"), .str (Str.ofString "put a b c\n"), .str (Str.ofString "put A 1\n"), .str (Str.ofString "put a  1\n"), .str (Str.ofString "walk\n"), .str (Str.ofString "walk True\n"), .str (Str.ofString "step 0\n"), .str (Str.ofString "step 10\n"), .str (Str.ofString "begin"), .str (Str.ofString "\n"), .str (Str.ofString " begin\n"), .str (Str.ofString "begin \n"), .str (Str.ofString "Begin\n"), .str (Str.ofString "drop -\n"), .str (Str.ofString "step 01\n")]
theorem bad_all : badTs.all (fun d => noText (FRD [.dat d] [])) = true := by decide +kernel
theorem bad_one {d : PyData} (h : d ∈ badTs) : FRD [.dat d] [] = some (.error "NoText", []) := by
  have := List.all_eq_true.mp bad_all d h
  unfold noText at this
  split at this
  · rename_i x e
    rw [e, of_decide_eq_true this]
  · cases this
end EV

/-! ### texts: joined, split -/
namespace LR
open PySem PySem.Spec PyProof.Rows L2 Evl
theorem tl_mk' (l : List Nat) : (mk l).cps.toList = l := rfl
theorem mk_len (l : List Nat) : (mk l).length = l.length := List.size_toArray ..
theorem tl_len (z : Str) : z.cps.toList.length = z.length := by simp [Str.length]
theorem mk_tl (z : Str) : mk z.cps.toList = z := TL.mk_tl z
theorem tl_app (a b : Str) : (a ++ b).cps.toList = a.cps.toList ++ b.cps.toList := TL.tl_append a b
theorem len_app (a b : Str) : (a ++ b).length = a.length + b.length := by
  rw [← tl_len, tl_app, List.length_append, tl_len, tl_len]
theorem str_tl {a b : Str} (h : a.cps.toList = b.cps.toList) : a = b := by rw [← mk_tl a, ← mk_tl b, h]
theorem join0 (zs : List Str) : Txt.join "" zs = mk (zs.map fun z => z.cps.toList).flatten := by
  apply str_tl
  rw [TL.join_eq]
  have h := TL.tl_join "" zs
  refine h.trans ?_
  have e : ∀ l : List (List Nat), TL.joinL [] l = l.flatten := fun l => by
    induction l with
    | nil => rfl
    | cons a r ih =>
      cases r with
      | nil => show a = a ++ []; simp
      | cons b q =>
        show a ++ ([] ++ TL.joinL [] (b :: q)) = a ++ (b :: q).flatten
        rw [ih]
        rfl
  exact e _
theorem split_len (a b : Str) (h : b ≠ "") : (Txt.split a b).length ≤ a.length + 2 := PyProof.Rows.split_le a b
theorem join_mem {y : Str} : ∀ {l : List Str} {p : Str}, p ∈ l → p.length ≤ (Str.join y l).length
  | [], _, h => by cases h
  | [x], p, h => by
    rw [List.mem_singleton.mp h]
    exact Nat.le_refl _
  | x :: z :: r, p, h => by
    show _ ≤ (x ++ y ++ Str.join y (z :: r)).length
    rw [len_app, len_app]
    rcases List.mem_cons.mp h with e | e
    · rw [e]
      omega
    · have := join_mem (y := y) e
      omega
theorem split_mem {x y p : Str} (h : p ∈ Txt.split x y) : p.length ≤ x.length := by
  have := join_mem (y := y) h
  rw [StrLaws.join_split] at this
  exact this
theorem at_last {α : Type} (l : List α) : atI l (-1) = l.getLast? := by
  unfold atI ixN
  rw [if_neg (by decide)]
  cases l with
  | nil => rfl
  | cons a r =>
    rw [if_pos (by rw [List.length_cons]; omega)]
    show (a :: r)[((-1 : Int) + ((a :: r).length : Int)).toNat]? = _
    rw [List.getLast?_eq_getElem?]
    congr 1
    rw [List.length_cons]
    omega
theorem cutD_init (ds : List PyData) (h : ds ≠ []) : cutD ds none (some (-1)) = ds.dropLast := by
  unfold cutD
  have e : HT.sIx ds.length ds.length (some (-1)) = ds.length - 1 := by
    show (if (-1 : Int) < 0 then ((-1 : Int) + (ds.length : Int)).toNat else min (-1 : Int).toNat ds.length) = _
    rw [if_pos (by decide)]
    omega
  rw [HT.sIx_none, e, List.drop_zero, Nat.sub_zero, List.dropLast_eq_take]
theorem cutD_last (ds : List PyData) : cutD ds none (some (-1)) = ds.dropLast := by
  cases ds with
  | nil => rfl
  | cons a r => exact cutD_init _ (by simp)
theorem join_ch {y : Str} : ∀ {l : List Str} {p : Str} {c : Nat}, p ∈ l → c ∈ p.cps.toList → c ∈ (Str.join y l).cps.toList
  | [x], p, c, h, hc => by
    rw [List.mem_singleton.mp h] at hc
    exact hc
  | x :: z :: r, p, c, h, hc => by
    show c ∈ (x ++ y ++ Str.join y (z :: r)).cps.toList
    rw [tl_app, tl_app, List.mem_append, List.mem_append]
    rcases List.mem_cons.mp h with e | e
    · exact .inl (.inl (e ▸ hc))
    · exact .inr (join_ch (y := y) e hc)
theorem split_ch {x y p : Str} {c : Nat} (h : p ∈ Txt.split x y) (hc : c ∈ p.cps.toList) : c ∈ x.cps.toList := by
  have := join_ch (y := y) h hc
  rw [StrLaws.join_split] at this
  exact this
theorem split_ok {x y p : Str} (hx : PyData.strOk x = true) (h : p ∈ Txt.split x y) : PyData.strOk p = true := by
  unfold PyData.strOk at hx ⊢
  rw [Array.all_eq_true_iff_forall_mem] at hx ⊢
  exact fun c hc => hx c (Array.mem_toList_iff.mp (split_ch h (Array.mem_toList_iff.mpr hc)))
theorem split_ne (x y : Str) : Txt.split x y ≠ [] := by
  intro h
  unfold Txt.split at h
  split at h
  · cases h
  · split at h
    · cases h
    · unfold Builtin.Str.partsBetween at h
      have := congrArg List.length h
      simp at this
end LR

/-! ### the law k63: words and parts -/
namespace EV
open PySem PySem.Spec PyProof.Rows L2 Evl L2H LamX LR
inductive Deed where
  | put (k v : Str)
  | drop (k : Str)
  | bare (w : Str)
  | walk (b : Bool)
  | num (w : Str) (i : Int)
abbrev wPut : Str := Str.ofString "put"
abbrev wDrop : Str := Str.ofString "drop"
abbrev wWalk : Str := Str.ofString "walk"
abbrev wStep : Str := Str.ofString "step"
abbrev wEnd : Str := Str.ofString "end"
abbrev wDash : Str := Str.ofString "-"
abbrev wNone : Str := Str.ofString ""
abbrev wMom : Str := Str.ofString "moment"
abbrev wNow : Str := Str.ofString "now"
def bares : List Str := [Str.ofString "begin", Str.ofString "commit", Str.ofString "cancel", Str.ofString "squeeze"]
def nums : List Str := [wStep, wEnd]
def parts : Deed → List PyData
  | .put k v => [.str k, .str v]
  | .drop k => [.str k]
  | .bare _ => []
  | .walk b => [.bool b]
  | .num _ i => [.int i]
def word0 : Deed → Str
  | .put _ _ => wPut
  | .drop _ => wDrop
  | .bare w => w
  | .walk _ => wWalk
  | .num w _ => w
def deedD (d : Deed) : PyData := .tuple (.str (word0 d) :: parts d)
def Good : Deed → Prop
  | .put k v => isKeyS k = true ∧ isValS v = true
  | .drop k => isKeyS k = true
  | .bare w => w ∈ bares
  | .walk _ => True
  | .num w i => w ∈ nums ∧ 1 ≤ i ∧ i ≤ 9
theorem ch_ok {z s : Str} (h : z.cps.toList.all (fun c => decide (c ∈ s.cps.toList)) = true) (hs : s.cps.toList.all (· < 1000) = true) : PyData.strOk z = true := by
  unfold PyData.strOk
  rw [Array.all_eq_true_iff_forall_mem]
  intro c hc
  have h1 := of_decide_eq_true (List.all_eq_true.mp h c (Array.mem_toList_iff.mpr hc))
  have h2 := of_decide_eq_true (List.all_eq_true.mp hs c h1)
  exact decide_eq_true (by omega)
theorem keyOk {z : Str} (h : isKeyS z = true) : PyData.strOk z = true ∧ 1 ≤ z.length ∧ z.length ≤ 10 := by
  unfold isKeyS at h
  rw [Bool.and_eq_true, Bool.and_eq_true] at h
  exact ⟨ch_ok h.2 (by decide +kernel), of_decide_eq_true h.1.1, of_decide_eq_true h.1.2⟩
theorem valOk {z : Str} (h : isValS z = true) : PyData.strOk z = true ∧ z.length ≤ 12 := by
  unfold isValS at h
  rw [Bool.and_eq_true] at h
  exact ⟨ch_ok h.2 (by decide +kernel), of_decide_eq_true h.1⟩
/-- plain things -/
def PlainD : PyData → Prop
  | .str z => PyData.strOk z = true ∧ z.length ≤ 50000
  | .int _ => True
  | .bool _ => True
  | _ => False
theorem lay_plain : ∀ l : List PyData, (∀ d ∈ l, PlainD d) → PyData.canLayAll0 l = true ∧ PyData.depthAll l = 0
  | [], _ => ⟨rfl, rfl⟩
  | d :: r, h => by
    obtain ⟨h1, h2⟩ := lay_plain r fun q hq => h q (List.mem_cons_of_mem _ hq)
    have hd := h d List.mem_cons_self
    cases d with
    | str z => exact ⟨by simp only [PyData.canLayAll0, PyData.canLay0, hd.1, h1, Bool.true_and], by simp only [PyData.depthAll, PyData.depth, h2]; rfl⟩
    | int i => exact ⟨by simp only [PyData.canLayAll0, PyData.canLay0, h1, Bool.true_and], by simp only [PyData.depthAll, PyData.depth, h2]; rfl⟩
    | bool i => exact ⟨by simp only [PyData.canLayAll0, PyData.canLay0, h1, Bool.true_and], by simp only [PyData.depthAll, PyData.depth, h2]; rfl⟩
    | none => exact hd.elim
    | list _ => exact hd.elim
    | tuple _ => exact hd.elim
    | dict _ => exact hd.elim
theorem shaped_plain {l : List PyData} (h : ∀ d ∈ l, PlainD d) : SeqAt.shaped (.tuple l) = true := by
  obtain ⟨h1, h2⟩ := lay_plain l h
  unfold SeqAt.shaped
  simp only [PyData.canLay0, h1, PyData.depth, h2, Bool.true_and]
  rfl
theorem eq_nil {d : PyData} {l : List PyData} (h : SeqAt.shaped (.tuple (d :: l)) = true) : fEq (.tuple (d :: l)) (.tuple []) = some (.bool false) := by
  have h0 : SeqAt.shaped (.tuple []) = true := rfl
  show (if _ ∧ _ then some (PyData.eqv (.tuple (d :: l)) (.tuple [])) else none).map PyData.bool = _
  rw [if_pos ⟨h, h0⟩]
  rfl
theorem at_0 {x : PyData} {xs : List PyData} : atI (x :: xs) 0 = some x := by
  have h : (0 : Int) < ((x :: xs).length : Nat) := by rw [List.length_cons]; omega
  unfold atI ixN
  rw [if_pos (Int.le_refl 0), if_pos h]
  rfl
theorem eqII (a b : Int) : fEq (.int a) (.int b) = some (.bool (decide (a = b))) := rfl
theorem eqSS (a b : Str) : fEq (.str a) (.str b) = some (.bool (decide (a = b))) := rfl
theorem neSS (a b : Str) : fNe (.str a) (.str b) = some (.bool (!decide (a = b))) := rfl
/-! is_deed -/
theorem is_deed_eq {w : Str} {ds : List PyData} (h : SeqAt.shaped (.tuple (.str w :: ds)) = true) : F_is_deed [.tuple (.str w :: ds)] = some (.bool (match ki_LENGTHS.lookup w with
    | some n => decide ((ds.length : Int) + 1 = n)
    | none => false)) := by
  have e := eq_nil h
  have l1 : fLen [.tuple (.str w :: ds)] = some (.int ((ds.length : Int) + 1)) := by simp [fLen]
  cases hl : ki_LENGTHS.lookup w with
  | none => simp [F_is_deed, m_is_deed, fKdIn, fKdIx, hl, at_0, eqII, e, l1, funOf, argVs, argV, argsOf, sSeq, sIf, sBind, mBP, pTst, pFld, wVar, wVal, wFld, sRaise, endOf, sNext, pOp, pC, pVar, sRet, sRetN, mP, mW, sExpr, sAsg, sAugF, insAt, sSetF, sSetFN, eBind, mCall, callF, mMeth, clsAt, noFld, notFld, aNil, aConsV, okV, okVs, asB, asI, asBv, bAnd, bOr, bNot, mTst, mAndB, mOrB, mNotB, mIf, mAnd, mOr, mNot, pAnd, pOr, pNot, pIf, pUn, pNil, pCons, pCB, pTup, pLst, pIsi, fNotN, fIsN, isNone, fNe, fEqB, fAdd, fSub, fI, fIB, fIC, fNeg, fIx, fLt, fMax2, fMin2, fInt, contAt, lstAt, dicAt, mAppP, mLPop, Sg.put, Sg.set, pLenL, pLenD, pDGet, pDGet2, pDIn, pDNotIn, sDPutP, mDPop1, mDPop2, keyD, nLst, nDic, sAsgN, sFrz, Sg.frz, endP, pureOf, pChain, mTup, mLst, mCB, isTy, sNames, setNs, anV, anN, anNil, mMake, makeF, mMakeK, mTold, mVar, pSl, oNone, oSome, mSl, sFor, iData, mOp, mUn]
  | some n =>
    by_cases c : (ds.length : Int) + 1 = n
    · simp [F_is_deed, m_is_deed, fKdIn, fKdIx, hl, at_0, eqII, e, l1, c, funOf, argVs, argV, argsOf, sSeq, sIf, sBind, mBP, pTst, pFld, wVar, wVal, wFld, sRaise, endOf, sNext, pOp, pC, pVar, sRet, sRetN, mP, mW, sExpr, sAsg, sAugF, insAt, sSetF, sSetFN, eBind, mCall, callF, mMeth, clsAt, noFld, notFld, aNil, aConsV, okV, okVs, asB, asI, asBv, bAnd, bOr, bNot, mTst, mAndB, mOrB, mNotB, mIf, mAnd, mOr, mNot, pAnd, pOr, pNot, pIf, pUn, pNil, pCons, pCB, pTup, pLst, pIsi, fNotN, fIsN, isNone, fNe, fEqB, fAdd, fSub, fI, fIB, fIC, fNeg, fIx, fLt, fMax2, fMin2, fInt, contAt, lstAt, dicAt, mAppP, mLPop, Sg.put, Sg.set, pLenL, pLenD, pDGet, pDGet2, pDIn, pDNotIn, sDPutP, mDPop1, mDPop2, keyD, nLst, nDic, sAsgN, sFrz, Sg.frz, endP, pureOf, pChain, mTup, mLst, mCB, isTy, sNames, setNs, anV, anN, anNil, mMake, makeF, mMakeK, mTold, mVar, pSl, oNone, oSome, mSl, sFor, iData, mOp, mUn]
    · simp [F_is_deed, m_is_deed, fKdIn, fKdIx, hl, at_0, eqII, e, l1, c, funOf, argVs, argV, argsOf, sSeq, sIf, sBind, mBP, pTst, pFld, wVar, wVal, wFld, sRaise, endOf, sNext, pOp, pC, pVar, sRet, sRetN, mP, mW, sExpr, sAsg, sAugF, insAt, sSetF, sSetFN, eBind, mCall, callF, mMeth, clsAt, noFld, notFld, aNil, aConsV, okV, okVs, asB, asI, asBv, bAnd, bOr, bNot, mTst, mAndB, mOrB, mNotB, mIf, mAnd, mOr, mNot, pAnd, pOr, pNot, pIf, pUn, pNil, pCons, pCB, pTup, pLst, pIsi, fNotN, fIsN, isNone, fNe, fEqB, fAdd, fSub, fI, fIB, fIC, fNeg, fIx, fLt, fMax2, fMin2, fInt, contAt, lstAt, dicAt, mAppP, mLPop, Sg.put, Sg.set, pLenL, pLenD, pDGet, pDGet2, pDIn, pDNotIn, sDPutP, mDPop1, mDPop2, keyD, nLst, nDic, sAsgN, sFrz, Sg.frz, endP, pureOf, pChain, mTup, mLst, mCB, isTy, sNames, setNs, anV, anN, anNil, mMake, makeF, mMakeK, mTold, mVar, pSl, oNone, oSome, mSl, sFor, iData, mOp, mUn]
/-! is_good -/
def PartOk (w : Str) (d : PyData) : Prop :=
  if w = wWalk then ∃ b, d = .bool b
  else if w ∈ nums then ∃ i : Int, d = .int i ∧ 1 ≤ i ∧ i ≤ 9
  else ∃ z, d = .str z ∧ PyData.strOk z = true ∧ z.length ≤ 50000
theorem PartOk.plain {w : Str} {d : PyData} (h : PartOk w d) : PlainD d := by
  unfold PartOk at h
  split at h
  · obtain ⟨b, rfl⟩ := h; trivial
  · split at h
    · obtain ⟨i, rfl, _⟩ := h; trivial
    · obtain ⟨z, rfl, h1, h2⟩ := h; exact ⟨h1, h2⟩
theorem look_cases {w : Str} {n : Int} (h : ki_LENGTHS.lookup w = some n) : (w = wPut ∧ n = 3) ∨ (w = wDrop ∧ n = 2) ∨ (w ∈ bares ∧ n = 1) ∨ (w = wWalk ∧ n = 2) ∨ (w ∈ nums ∧ n = 2) := by
  unfold ki_LENGTHS at h
  simp only [List.lookup_cons] at h
  repeat' split at h
  all_goals first
    | cases h
    | skip
  all_goals rename_i e; rw [beq_iff_eq] at e; subst e; simp [bares, nums]
def isT (r : Option PyData) : Bool := match r with
  | some (.bool true) => true
  | _ => false
theorem of_isT {r : Option PyData} (h : isT r = true) : r = some (.bool true) := by
  unfold isT at h
  split at h
  · rfl
  · cases h
theorem bare_good : bares.all (fun w => isT (F_is_good [.tuple [.str w]])) = true := by decide +kernel
theorem walk_good : [true, false].all (fun b => isT (F_is_good [.tuple [.str wWalk, .bool b]])) = true := by decide +kernel
theorem num_good : nums.all (fun w => [1, 2, 3, 4, 5, 6, 7, 8, 9].all fun i => isT (F_is_good [.tuple [.str w, .int i]])) = true := by decide +kernel
theorem nine {i : Int} (h0 : 1 ≤ i) (h1 : i ≤ 9) : i ∈ ([1, 2, 3, 4, 5, 6, 7, 8, 9] : List Int) := by
  have e : i = 1 ∨ i = 2 ∨ i = 3 ∨ i = 4 ∨ i = 5 ∨ i = 6 ∨ i = 7 ∨ i = 8 ∨ i = 9 := by omega
  rcases e with rfl | rfl | rfl | rfl | rfl | rfl | rfl | rfl | rfl <;> simp
theorem dp : decide (wDrop = wPut) = false := by decide +kernel
theorem nw_put : ¬ wPut = wWalk ∧ ¬ wPut ∈ nums := by decide +kernel
theorem nw_drop : ¬ wDrop = wWalk ∧ ¬ wDrop ∈ nums := by decide +kernel
theorem nw_num {w : Str} (h : w ∈ nums) : ¬ w = wWalk := by
  simp only [nums, List.mem_cons, List.not_mem_nil, or_false] at h
  rcases h with rfl | rfl <;> decide +kernel
theorem is_good_eq {w : Str} {ds : List PyData} (hw : PyData.strOk w = true) (hl : w.length ≤ 50000) (hp : ∀ d ∈ ds, PartOk w d) : (∃ D, Good D ∧ deedD D = .tuple (.str w :: ds) ∧ F_is_good [.tuple (.str w :: ds)] = some (.bool true)) ∨ F_is_good [.tuple (.str w :: ds)] = some (.bool false) := by
  have sh : SeqAt.shaped (.tuple (.str w :: ds)) = true := shaped_plain fun d hd => by
    rcases List.mem_cons.mp hd with rfl | hd
    · exact ⟨hw, hl⟩
    · exact (hp d hd).plain
  have idd := is_deed_eq sh
  cases hk : ki_LENGTHS.lookup w with
  | none =>
    rw [hk] at idd
    exact .inr (by simp [F_is_good, m_is_good, idd, funOf, argVs, argV, argsOf, sSeq, sIf, sBind, mBP, pTst, pFld, wVar, wVal, wFld, sRaise, endOf, sNext, pOp, pC, pVar, sRet, sRetN, mP, mW, sExpr, sAsg, sAugF, insAt, sSetF, sSetFN, eBind, mCall, callF, mMeth, clsAt, noFld, notFld, aNil, aConsV, okV, okVs, asB, asI, asBv, bAnd, bOr, bNot, mTst, mAndB, mOrB, mNotB, mIf, mAnd, mOr, mNot, pAnd, pOr, pNot, pIf, pUn, pNil, pCons, pCB, pTup, pLst, pIsi, fNotN, fIsN, isNone, fNe, fEqB, fAdd, fSub, fI, fIB, fIC, fNeg, fIx, fLt, fMax2, fMin2, fInt, contAt, lstAt, dicAt, mAppP, mLPop, Sg.put, Sg.set, pLenL, pLenD, pDGet, pDGet2, pDIn, pDNotIn, sDPutP, mDPop1, mDPop2, keyD, nLst, nDic, sAsgN, sFrz, Sg.frz, endP, pureOf, pChain, mTup, mLst, mCB, isTy, sNames, setNs, anV, anN, anNil, mMake, makeF, mMakeK, mTold, mVar, pSl, oNone, oSome, mSl, sFor, iData, mOp, mUn])
  | some n =>
    rw [hk] at idd
    by_cases c : (ds.length : Int) + 1 = n
    · simp only [c, decide_true] at idd
      rcases look_cases hk with ⟨rfl, rfl⟩ | ⟨rfl, rfl⟩ | ⟨hb, rfl⟩ | ⟨rfl, rfl⟩ | ⟨hb, rfl⟩
      · match ds, hp, c, idd with
        | [a, b], hp, _, idd =>
          have ha := hp a (by simp)
          have hb := hp b (by simp)
          unfold PartOk at ha hb
          rw [if_neg nw_put.1, if_neg nw_put.2] at ha hb
          obtain ⟨z, rfl, z1, z2⟩ := ha
          obtain ⟨y, rfl, y1, y2⟩ := hb
          have a0 : atI [PyData.str z, .str y] 0 = some (.str z) := rfl
          have a1 : atI [PyData.str z, .str y] 1 = some (.str y) := rfl
          have k1 : FO_is_key [.str z] = some (.bool (isKeyS z)) := if_pos z2
          have k2 : FO_is_value [.str y] = some (.bool (isValS y)) := if_pos y2
          cases hz : isKeyS z with
          | false =>
            rw [hz] at k1
            exact .inr (by simp [F_is_good, m_is_good, idd, sStar, eqSS, a0, a1, k1, k2, funOf, argVs, argV, argsOf, sSeq, sIf, sBind, mBP, pTst, pFld, wVar, wVal, wFld, sRaise, endOf, sNext, pOp, pC, pVar, sRet, sRetN, mP, mW, sExpr, sAsg, sAugF, insAt, sSetF, sSetFN, eBind, mCall, callF, mMeth, clsAt, noFld, notFld, aNil, aConsV, okV, okVs, asB, asI, asBv, bAnd, bOr, bNot, mTst, mAndB, mOrB, mNotB, mIf, mAnd, mOr, mNot, pAnd, pOr, pNot, pIf, pUn, pNil, pCons, pCB, pTup, pLst, pIsi, fNotN, fIsN, isNone, fNe, fEqB, fAdd, fSub, fI, fIB, fIC, fNeg, fIx, fLt, fMax2, fMin2, fInt, contAt, lstAt, dicAt, mAppP, mLPop, Sg.put, Sg.set, pLenL, pLenD, pDGet, pDGet2, pDIn, pDNotIn, sDPutP, mDPop1, mDPop2, keyD, nLst, nDic, sAsgN, sFrz, Sg.frz, endP, pureOf, pChain, mTup, mLst, mCB, isTy, sNames, setNs, anV, anN, anNil, mMake, makeF, mMakeK, mTold, mVar, pSl, oNone, oSome, mSl, sFor, iData, mOp, mUn])
          | true =>
            rw [hz] at k1
            cases hy : isValS y with
            | false =>
              rw [hy] at k2
              exact .inr (by simp [F_is_good, m_is_good, idd, sStar, eqSS, a0, a1, k1, k2, funOf, argVs, argV, argsOf, sSeq, sIf, sBind, mBP, pTst, pFld, wVar, wVal, wFld, sRaise, endOf, sNext, pOp, pC, pVar, sRet, sRetN, mP, mW, sExpr, sAsg, sAugF, insAt, sSetF, sSetFN, eBind, mCall, callF, mMeth, clsAt, noFld, notFld, aNil, aConsV, okV, okVs, asB, asI, asBv, bAnd, bOr, bNot, mTst, mAndB, mOrB, mNotB, mIf, mAnd, mOr, mNot, pAnd, pOr, pNot, pIf, pUn, pNil, pCons, pCB, pTup, pLst, pIsi, fNotN, fIsN, isNone, fNe, fEqB, fAdd, fSub, fI, fIB, fIC, fNeg, fIx, fLt, fMax2, fMin2, fInt, contAt, lstAt, dicAt, mAppP, mLPop, Sg.put, Sg.set, pLenL, pLenD, pDGet, pDGet2, pDIn, pDNotIn, sDPutP, mDPop1, mDPop2, keyD, nLst, nDic, sAsgN, sFrz, Sg.frz, endP, pureOf, pChain, mTup, mLst, mCB, isTy, sNames, setNs, anV, anN, anNil, mMake, makeF, mMakeK, mTold, mVar, pSl, oNone, oSome, mSl, sFor, iData, mOp, mUn])
            | true =>
              rw [hy] at k2
              exact .inl ⟨.put z y, ⟨hz, hy⟩, rfl, by simp [F_is_good, m_is_good, idd, sStar, eqSS, a0, a1, k1, k2, funOf, argVs, argV, argsOf, sSeq, sIf, sBind, mBP, pTst, pFld, wVar, wVal, wFld, sRaise, endOf, sNext, pOp, pC, pVar, sRet, sRetN, mP, mW, sExpr, sAsg, sAugF, insAt, sSetF, sSetFN, eBind, mCall, callF, mMeth, clsAt, noFld, notFld, aNil, aConsV, okV, okVs, asB, asI, asBv, bAnd, bOr, bNot, mTst, mAndB, mOrB, mNotB, mIf, mAnd, mOr, mNot, pAnd, pOr, pNot, pIf, pUn, pNil, pCons, pCB, pTup, pLst, pIsi, fNotN, fIsN, isNone, fNe, fEqB, fAdd, fSub, fI, fIB, fIC, fNeg, fIx, fLt, fMax2, fMin2, fInt, contAt, lstAt, dicAt, mAppP, mLPop, Sg.put, Sg.set, pLenL, pLenD, pDGet, pDGet2, pDIn, pDNotIn, sDPutP, mDPop1, mDPop2, keyD, nLst, nDic, sAsgN, sFrz, Sg.frz, endP, pureOf, pChain, mTup, mLst, mCB, isTy, sNames, setNs, anV, anN, anNil, mMake, makeF, mMakeK, mTold, mVar, pSl, oNone, oSome, mSl, sFor, iData, mOp, mUn]⟩
        | [], _, c, _ => exact absurd c (by simp)
        | [_], _, c, _ => exact absurd c (by simp)
        | _ :: _ :: _ :: _, _, c, _ => exact absurd c (by simp; omega)
      · match ds, hp, c, idd with
        | [a], hp, _, idd =>
          have ha := hp a (by simp)
          unfold PartOk at ha
          rw [if_neg nw_drop.1, if_neg nw_drop.2] at ha
          obtain ⟨z, rfl, z1, z2⟩ := ha
          have a0 : atI [PyData.str z] 0 = some (.str z) := rfl
          have k1 : FO_is_key [.str z] = some (.bool (isKeyS z)) := if_pos z2
          have dp' := dp
          cases hz : isKeyS z with
          | false =>
            rw [hz] at k1
            exact .inr (by simp [F_is_good, m_is_good, idd, sStar, eqSS, dp', a0, k1, funOf, argVs, argV, argsOf, sSeq, sIf, sBind, mBP, pTst, pFld, wVar, wVal, wFld, sRaise, endOf, sNext, pOp, pC, pVar, sRet, sRetN, mP, mW, sExpr, sAsg, sAugF, insAt, sSetF, sSetFN, eBind, mCall, callF, mMeth, clsAt, noFld, notFld, aNil, aConsV, okV, okVs, asB, asI, asBv, bAnd, bOr, bNot, mTst, mAndB, mOrB, mNotB, mIf, mAnd, mOr, mNot, pAnd, pOr, pNot, pIf, pUn, pNil, pCons, pCB, pTup, pLst, pIsi, fNotN, fIsN, isNone, fNe, fEqB, fAdd, fSub, fI, fIB, fIC, fNeg, fIx, fLt, fMax2, fMin2, fInt, contAt, lstAt, dicAt, mAppP, mLPop, Sg.put, Sg.set, pLenL, pLenD, pDGet, pDGet2, pDIn, pDNotIn, sDPutP, mDPop1, mDPop2, keyD, nLst, nDic, sAsgN, sFrz, Sg.frz, endP, pureOf, pChain, mTup, mLst, mCB, isTy, sNames, setNs, anV, anN, anNil, mMake, makeF, mMakeK, mTold, mVar, pSl, oNone, oSome, mSl, sFor, iData, mOp, mUn])
          | true =>
            rw [hz] at k1
            exact .inl ⟨.drop z, hz, rfl, by simp [F_is_good, m_is_good, idd, sStar, eqSS, dp', a0, k1, funOf, argVs, argV, argsOf, sSeq, sIf, sBind, mBP, pTst, pFld, wVar, wVal, wFld, sRaise, endOf, sNext, pOp, pC, pVar, sRet, sRetN, mP, mW, sExpr, sAsg, sAugF, insAt, sSetF, sSetFN, eBind, mCall, callF, mMeth, clsAt, noFld, notFld, aNil, aConsV, okV, okVs, asB, asI, asBv, bAnd, bOr, bNot, mTst, mAndB, mOrB, mNotB, mIf, mAnd, mOr, mNot, pAnd, pOr, pNot, pIf, pUn, pNil, pCons, pCB, pTup, pLst, pIsi, fNotN, fIsN, isNone, fNe, fEqB, fAdd, fSub, fI, fIB, fIC, fNeg, fIx, fLt, fMax2, fMin2, fInt, contAt, lstAt, dicAt, mAppP, mLPop, Sg.put, Sg.set, pLenL, pLenD, pDGet, pDGet2, pDIn, pDNotIn, sDPutP, mDPop1, mDPop2, keyD, nLst, nDic, sAsgN, sFrz, Sg.frz, endP, pureOf, pChain, mTup, mLst, mCB, isTy, sNames, setNs, anV, anN, anNil, mMake, makeF, mMakeK, mTold, mVar, pSl, oNone, oSome, mSl, sFor, iData, mOp, mUn]⟩
        | [], _, c, _ => exact absurd c (by simp)
        | _ :: _ :: _, _, c, _ => exact absurd c (by simp; omega)
      · match ds, c with
        | [], _ => exact .inl ⟨.bare w, hb, rfl, of_isT (List.all_eq_true.mp bare_good w hb)⟩
        | _ :: _, c => exact absurd c (by simp; omega)
      · match ds, hp, c with
        | [a], hp, _ =>
          have ha := hp a (by simp)
          unfold PartOk at ha
          rw [if_pos rfl] at ha
          obtain ⟨b, rfl⟩ := ha
          exact .inl ⟨.walk b, trivial, rfl, of_isT (List.all_eq_true.mp walk_good b (by cases b <;> simp))⟩
        | [], _, c => exact absurd c (by simp)
        | _ :: _ :: _, _, c => exact absurd c (by simp; omega)
      · match ds, hp, c with
        | [a], hp, _ =>
          have ha := hp a (by simp)
          unfold PartOk at ha
          rw [if_neg (nw_num hb), if_pos hb] at ha
          obtain ⟨i, rfl, h0, h1⟩ := ha
          exact .inl ⟨.num w i, ⟨hb, h0, h1⟩, rfl, of_isT (List.all_eq_true.mp (List.all_eq_true.mp num_good w hb) i (nine h0 h1))⟩
        | [], _, c => exact absurd c (by simp)
        | _ :: _ :: _, _, c => exact absurd c (by simp; omega)
    · simp only [c, decide_false] at idd
      exact .inr (by simp [F_is_good, m_is_good, idd, funOf, argVs, argV, argsOf, sSeq, sIf, sBind, mBP, pTst, pFld, wVar, wVal, wFld, sRaise, endOf, sNext, pOp, pC, pVar, sRet, sRetN, mP, mW, sExpr, sAsg, sAugF, insAt, sSetF, sSetFN, eBind, mCall, callF, mMeth, clsAt, noFld, notFld, aNil, aConsV, okV, okVs, asB, asI, asBv, bAnd, bOr, bNot, mTst, mAndB, mOrB, mNotB, mIf, mAnd, mOr, mNot, pAnd, pOr, pNot, pIf, pUn, pNil, pCons, pCB, pTup, pLst, pIsi, fNotN, fIsN, isNone, fNe, fEqB, fAdd, fSub, fI, fIB, fIC, fNeg, fIx, fLt, fMax2, fMin2, fInt, contAt, lstAt, dicAt, mAppP, mLPop, Sg.put, Sg.set, pLenL, pLenD, pDGet, pDGet2, pDIn, pDNotIn, sDPutP, mDPop1, mDPop2, keyD, nLst, nDic, sAsgN, sFrz, Sg.frz, endP, pureOf, pChain, mTup, mLst, mCB, isTy, sNames, setNs, anV, anN, anNil, mMake, makeF, mMakeK, mTold, mVar, pSl, oNone, oSome, mSl, sFor, iData, mOp, mUn])
theorem good_parts {D : Deed} (h : Good D) : (∀ d ∈ parts D, PartOk (word0 D) d) ∧ PyData.strOk (word0 D) = true ∧ (word0 D).length ≤ 50000 := by
  cases D with
  | put k v =>
    refine ⟨fun d hd => ?_, by show PyData.strOk wPut = true; decide +kernel, by show wPut.length ≤ 50000; decide +kernel⟩
    show PartOk wPut d
    unfold PartOk
    rw [if_neg nw_put.1, if_neg nw_put.2]
    simp only [parts, List.mem_cons, List.not_mem_nil, or_false] at hd
    rcases hd with rfl | rfl
    · exact ⟨k, rfl, (keyOk h.1).1, by have := (keyOk h.1).2; omega⟩
    · exact ⟨v, rfl, (valOk h.2).1, by have := (valOk h.2).2; omega⟩
  | drop k =>
    refine ⟨fun d hd => ?_, by show PyData.strOk wDrop = true; decide +kernel, by show wDrop.length ≤ 50000; decide +kernel⟩
    show PartOk wDrop d
    unfold PartOk
    rw [if_neg nw_drop.1, if_neg nw_drop.2]
    simp only [parts, List.mem_cons, List.not_mem_nil, or_false] at hd
    subst hd
    exact ⟨k, rfl, (keyOk h).1, by have := (keyOk h).2; omega⟩
  | bare w =>
    have hb : bares.all (fun w => PyData.strOk w && decide (w.length ≤ 50000)) = true := by decide +kernel
    have := List.all_eq_true.mp hb w h
    rw [Bool.and_eq_true] at this
    exact ⟨(fun d hd => nomatch hd), this.1, of_decide_eq_true this.2⟩
  | walk b =>
    refine ⟨fun d hd => ?_, by show PyData.strOk wWalk = true; decide +kernel, by show wWalk.length ≤ 50000; decide +kernel⟩
    show PartOk wWalk d
    unfold PartOk
    rw [if_pos rfl]
    simp only [parts, List.mem_cons, List.not_mem_nil, or_false] at hd
    exact ⟨b, hd⟩
  | num w i =>
    have hb : nums.all (fun w => PyData.strOk w && decide (w.length ≤ 50000)) = true := by decide +kernel
    have := List.all_eq_true.mp hb w h.1
    rw [Bool.and_eq_true] at this
    refine ⟨fun d hd => ?_, this.1, of_decide_eq_true this.2⟩
    show PartOk w d
    unfold PartOk
    rw [if_neg (nw_num h.1), if_pos h.1]
    simp only [parts, List.mem_cons, List.not_mem_nil, or_false] at hd
    exact ⟨i, hd, h.2⟩
theorem good_true {D : Deed} (h : Good D) : F_is_good [deedD D] = some (.bool true) := by
  cases D with
  | bare w => exact of_isT (List.all_eq_true.mp bare_good w h)
  | walk b => exact of_isT (List.all_eq_true.mp walk_good b (by cases b <;> simp))
  | num w i => exact of_isT (List.all_eq_true.mp (List.all_eq_true.mp num_good w h.1) i (nine h.2.1 h.2.2))
  | put k v =>
    obtain ⟨h1, h2, h3⟩ := good_parts (D := .put k v) h
    have sh : SeqAt.shaped (deedD (.put k v)) = true := shaped_plain fun d hd => by
      rcases List.mem_cons.mp hd with rfl | hd
      · exact ⟨h2, h3⟩
      · exact (h1 d hd).plain
    have idd := is_deed_eq sh
    have idd' : F_is_deed [.tuple [.str wPut, .str k, .str v]] = some (.bool true) := idd.trans (by
      have lk : ki_LENGTHS.lookup wPut = some 3 := by decide +kernel
      show some (PyData.bool (match ki_LENGTHS.lookup wPut with
        | some n => decide (((2 : Nat) : Int) + 1 = n)
        | none => false)) = _
      rw [lk]
      rfl)
    have a0 : atI [PyData.str k, .str v] 0 = some (.str k) := rfl
    have a1 : atI [PyData.str k, .str v] 1 = some (.str v) := rfl
    have k1 : FO_is_key [.str k] = some (.bool (isKeyS k)) := if_pos (by have := (keyOk h.1).2; omega)
    have k2 : FO_is_value [.str v] = some (.bool (isValS v)) := if_pos (by have := (valOk h.2).2; omega)
    rw [h.1] at k1
    rw [h.2] at k2
    simp [F_is_good, m_is_good, deedD, word0, parts, idd', sStar, eqSS, a0, a1, k1, k2, funOf, argVs, argV, argsOf, sSeq, sIf, sBind, mBP, pTst, pFld, wVar, wVal, wFld, sRaise, endOf, sNext, pOp, pC, pVar, sRet, sRetN, mP, mW, sExpr, sAsg, sAugF, insAt, sSetF, sSetFN, eBind, mCall, callF, mMeth, clsAt, noFld, notFld, aNil, aConsV, okV, okVs, asB, asI, asBv, bAnd, bOr, bNot, mTst, mAndB, mOrB, mNotB, mIf, mAnd, mOr, mNot, pAnd, pOr, pNot, pIf, pUn, pNil, pCons, pCB, pTup, pLst, pIsi, fNotN, fIsN, isNone, fNe, fEqB, fAdd, fSub, fI, fIB, fIC, fNeg, fIx, fLt, fMax2, fMin2, fInt, contAt, lstAt, dicAt, mAppP, mLPop, Sg.put, Sg.set, pLenL, pLenD, pDGet, pDGet2, pDIn, pDNotIn, sDPutP, mDPop1, mDPop2, keyD, nLst, nDic, sAsgN, sFrz, Sg.frz, endP, pureOf, pChain, mTup, mLst, mCB, isTy, sNames, setNs, anV, anN, anNil, mMake, makeF, mMakeK, mTold, mVar, pSl, oNone, oSome, mSl, sFor, iData, mOp, mUn]
  | drop k =>
    obtain ⟨h1, h2, h3⟩ := good_parts (D := .drop k) h
    have sh : SeqAt.shaped (deedD (.drop k)) = true := shaped_plain fun d hd => by
      rcases List.mem_cons.mp hd with rfl | hd
      · exact ⟨h2, h3⟩
      · exact (h1 d hd).plain
    have idd := is_deed_eq sh
    have idd' : F_is_deed [.tuple [.str wDrop, .str k]] = some (.bool true) := idd.trans (by
      have lk : ki_LENGTHS.lookup wDrop = some 2 := by decide +kernel
      show some (PyData.bool (match ki_LENGTHS.lookup wDrop with
        | some n => decide (((1 : Nat) : Int) + 1 = n)
        | none => false)) = _
      rw [lk]
      rfl)
    have a0 : atI [PyData.str k] 0 = some (.str k) := rfl
    have k1 : FO_is_key [.str k] = some (.bool (isKeyS k)) := if_pos (by have := (keyOk h).2; omega)
    have dp' := dp
    rw [show isKeyS k = true from h] at k1
    simp [F_is_good, m_is_good, deedD, word0, parts, idd', sStar, eqSS, dp', a0, k1, funOf, argVs, argV, argsOf, sSeq, sIf, sBind, mBP, pTst, pFld, wVar, wVal, wFld, sRaise, endOf, sNext, pOp, pC, pVar, sRet, sRetN, mP, mW, sExpr, sAsg, sAugF, insAt, sSetF, sSetFN, eBind, mCall, callF, mMeth, clsAt, noFld, notFld, aNil, aConsV, okV, okVs, asB, asI, asBv, bAnd, bOr, bNot, mTst, mAndB, mOrB, mNotB, mIf, mAnd, mOr, mNot, pAnd, pOr, pNot, pIf, pUn, pNil, pCons, pCB, pTup, pLst, pIsi, fNotN, fIsN, isNone, fNe, fEqB, fAdd, fSub, fI, fIB, fIC, fNeg, fIx, fLt, fMax2, fMin2, fInt, contAt, lstAt, dicAt, mAppP, mLPop, Sg.put, Sg.set, pLenL, pLenD, pDGet, pDGet2, pDIn, pDNotIn, sDPutP, mDPop1, mDPop2, keyD, nLst, nDic, sAsgN, sFrz, Sg.frz, endP, pureOf, pChain, mTup, mLst, mCB, isTy, sNames, setNs, anV, anN, anNil, mMake, makeF, mMakeK, mTold, mVar, pSl, oNone, oSome, mSl, sFor, iData, mOp, mUn]
end EV

/-! ### the law k63: lines and parts that are read -/
namespace EV
open PySem PySem.Spec PyProof.Rows L2 Evl L2H LamX LR
def digs : List Str := [Str.ofString "1", Str.ofString "2", Str.ofString "3", Str.ofString "4", Str.ofString "5", Str.ofString "6", Str.ofString "7", Str.ofString "8", Str.ofString "9"]
def partP (w p : Str) : Except Str PyData :=
  if w = wWalk then (if p ∈ [wMom, wNow] then .ok (.bool (decide (p = wMom))) else .error "NoText")
  else if w ∈ nums then (if p ∈ digs then .ok (.int ((PySem.intText? p).getD 0)) else .error "NoText")
  else .ok (.str (if p = wDash then wNone else p))
theorem nine_cut : cutS (Str.ofString "0123456789") (some 1) none = Str.ofString "123456789" := by decide +kernel
theorem ten_len : (Str.ofString "0123456789").length ≤ 100000 := by decide +kernel
theorem digs_iff {p : Str} {c : Nat} (h : p.cps.toList = [c]) : decide (c ∈ (Str.ofString "123456789").cps.toList) = decide (p ∈ digs) := by
  have hp : p = ⟨#[c]⟩ := by
    cases p with
    | mk cps => exact congrArg Str.mk (Array.toList_inj.mp h)
  subst hp
  have e1 : (Str.ofString "123456789").cps.toList = [49, 50, 51, 52, 53, 54, 55, 56, 57] := by decide +kernel
  have e2 : digs = [⟨#[49]⟩, ⟨#[50]⟩, ⟨#[51]⟩, ⟨#[52]⟩, ⟨#[53]⟩, ⟨#[54]⟩, ⟨#[55]⟩, ⟨#[56]⟩, ⟨#[57]⟩] := by decide +kernel
  rw [e1, e2]
  have : ∀ n : Nat, ((⟨#[c]⟩ : Str) = ⟨#[n]⟩) ↔ c = n := fun n => ⟨fun h => by injection h with h; have := congrArg Array.toList h; simpa using this, fun h => by rw [h]⟩
  simp only [List.mem_cons, List.not_mem_nil, or_false, this]
theorem digs_len : ∀ p ∈ digs, p.length = 1 ∧ p.length ≤ 640 ∧ (PySem.intText? p).isSome = true ∧ 1 ≤ (PySem.intText? p).getD 0 ∧ (PySem.intText? p).getD 0 ≤ 9 := by decide +kernel
theorem strs2 : strsD [.str wMom, .str wNow] = some [wMom, wNow] := rfl
theorem strs3 : strsD [.str wStep, .str wEnd] = some [wStep, wEnd] := rfl
theorem ne11 : fNe (.int 1) (.int 1) = some (.bool false) := rfl
def resP {α : Type} (f : α → PyData) : Except Str α → Except Str Rv
  | .ok d => .ok (.dat (f d))
  | .error x => .error x
theorem part_in_eq {w p : Str} {st : List Ob} (hl : p.length ≤ 50000) : F_part_in [.dat (.str w), .dat (.str p)] st = some (resP id (partP w p), st) := by
  by_cases cw : w = wWalk
  · subst cw
    by_cases cp : p ∈ [wMom, wNow]
    · have e : partP wWalk p = .ok (.bool (decide (p = wMom))) := by unfold partP; rw [if_pos rfl, if_pos cp]
      have i1 : fInT true (.str p) (.tuple [.str wMom, .str wNow]) = some (.bool false) := by
        unfold fInT
        simp only [strs2, Option.map_some, cp, decide_true, decide_false, Bool.not_true, Bool.not_false, if_true]
      rw [e]
      simp [F_part_in, m_part_in, eqSS, i1, resP, funOf, argVs, argV, argsOf, sSeq, sIf, sBind, mBP, pTst, pFld, wVar, wVal, wFld, sRaise, endOf, sNext, pOp, pC, pVar, sRet, sRetN, mP, mW, sExpr, sAsg, sAugF, insAt, sSetF, sSetFN, eBind, mCall, callF, mMeth, clsAt, noFld, notFld, aNil, aConsV, okV, okVs, asB, asI, asBv, bAnd, bOr, bNot, mTst, mAndB, mOrB, mNotB, mIf, mAnd, mOr, mNot, pAnd, pOr, pNot, pIf, pUn, pNil, pCons, pCB, pTup, pLst, pIsi, fNotN, fIsN, isNone, fEqB, fAdd, fSub, fI, fIB, fIC, fNeg, fIx, fLt, fMax2, fMin2, fInt, contAt, lstAt, dicAt, mAppP, mLPop, Sg.put, Sg.set, pLenL, pLenD, pDGet, pDGet2, pDIn, pDNotIn, sDPutP, mDPop1, mDPop2, keyD, nLst, nDic, sAsgN, sFrz, Sg.frz, endP, pureOf, pChain, mTup, mLst, mCB, isTy, sNames, setNs, anV, anN, anNil, mMake, makeF, mMakeK, mTold, mVar, pSl, oNone, oSome, mSl, sFor, iData, mOp, mUn]
    · have e : partP wWalk p = .error "NoText" := by unfold partP; rw [if_pos rfl, if_neg cp]
      have i1 : fInT true (.str p) (.tuple [.str wMom, .str wNow]) = some (.bool true) := by
        unfold fInT
        simp only [strs2, Option.map_some, cp, decide_true, decide_false, Bool.not_true, Bool.not_false, if_true]
      rw [e]
      simp [F_part_in, m_part_in, eqSS, i1, resP, funOf, argVs, argV, argsOf, sSeq, sIf, sBind, mBP, pTst, pFld, wVar, wVal, wFld, sRaise, endOf, sNext, pOp, pC, pVar, sRet, sRetN, mP, mW, sExpr, sAsg, sAugF, insAt, sSetF, sSetFN, eBind, mCall, callF, mMeth, clsAt, noFld, notFld, aNil, aConsV, okV, okVs, asB, asI, asBv, bAnd, bOr, bNot, mTst, mAndB, mOrB, mNotB, mIf, mAnd, mOr, mNot, pAnd, pOr, pNot, pIf, pUn, pNil, pCons, pCB, pTup, pLst, pIsi, fNotN, fIsN, isNone, fEqB, fAdd, fSub, fI, fIB, fIC, fNeg, fIx, fLt, fMax2, fMin2, fInt, contAt, lstAt, dicAt, mAppP, mLPop, Sg.put, Sg.set, pLenL, pLenD, pDGet, pDGet2, pDIn, pDNotIn, sDPutP, mDPop1, mDPop2, keyD, nLst, nDic, sAsgN, sFrz, Sg.frz, endP, pureOf, pChain, mTup, mLst, mCB, isTy, sNames, setNs, anV, anN, anNil, mMake, makeF, mMakeK, mTold, mVar, pSl, oNone, oSome, mSl, sFor, iData, mOp, mUn]
  · have cw' : decide (w = wWalk) = false := decide_eq_false cw
    by_cases cn : w ∈ nums
    · have i1 : fInT false (.str w) (.tuple [.str wStep, .str wEnd]) = some (.bool true) := by
        unfold fInT
        simp only [strs3, Option.map_some]
        show some (PyData.bool (decide (w ∈ nums))) = _
        rw [decide_eq_true cn]
      have hl2 : p.length ≤ 100000 := by omega
      have l1 : fLen [.str p] = some (.int (p.length : Nat)) := by simp [fLen, hl2]
      by_cases cl : p.length = 1
      · have hc : ∃ c, p.cps.toList = [c] := by
          have : p.cps.toList.length = 1 := by rw [Array.length_toList]; exact cl
          match hq : p.cps.toList, this with
          | [c], _ => exact ⟨c, rfl⟩
        obtain ⟨c, hc⟩ := hc
        have ni : fNotIn (.str p) (.str (Str.ofString "123456789")) = some (.bool (!decide (p ∈ digs))) := by
          show (fIn _ _).bind _ = _
          show (Option.bind (match p.cps.toList with | [c] => some (PyData.bool (decide (c ∈ (Str.ofString "123456789").cps.toList))) | _ => none) _) = _
          rw [hc]
          show some (PyData.bool (!decide (c ∈ (Str.ofString "123456789").cps.toList))) = _
          rw [digs_iff hc]
        by_cases cd : p ∈ digs
        · obtain ⟨_, d1, d2, _⟩ := digs_len p cd
          have e : partP w p = .ok (.int ((PySem.intText? p).getD 0)) := by unfold partP; rw [if_neg cw, if_pos cn, if_pos cd]
          have it : fIntT [.str p] = some (.int ((PySem.intText? p).getD 0)) := by
            show (if _ then _ else _) = _
            rw [if_pos d1]
            obtain ⟨n, hn⟩ := Option.isSome_iff_exists.mp d2
            rw [hn]
            rfl
          rw [e]
          simp [F_part_in, m_part_in, eqSS, cw', i1, l1, cl, slD, ten_len, nine_cut, ne11, ni, cd, it, resP, funOf, argVs, argV, argsOf, sSeq, sIf, sBind, mBP, pTst, pFld, wVar, wVal, wFld, sRaise, endOf, sNext, pOp, pC, pVar, sRet, sRetN, mP, mW, sExpr, sAsg, sAugF, insAt, sSetF, sSetFN, eBind, mCall, callF, mMeth, clsAt, noFld, notFld, aNil, aConsV, okV, okVs, asB, asI, asBv, bAnd, bOr, bNot, mTst, mAndB, mOrB, mNotB, mIf, mAnd, mOr, mNot, pAnd, pOr, pNot, pIf, pUn, pNil, pCons, pCB, pTup, pLst, pIsi, fNotN, fIsN, isNone, fEqB, fAdd, fSub, fI, fIB, fIC, fNeg, fIx, fLt, fMax2, fMin2, fInt, contAt, lstAt, dicAt, mAppP, mLPop, Sg.put, Sg.set, pLenL, pLenD, pDGet, pDGet2, pDIn, pDNotIn, sDPutP, mDPop1, mDPop2, keyD, nLst, nDic, sAsgN, sFrz, Sg.frz, endP, pureOf, pChain, mTup, mLst, mCB, isTy, sNames, setNs, anV, anN, anNil, mMake, makeF, mMakeK, mTold, mVar, pSl, oNone, oSome, mSl, sFor, iData, mOp, mUn]
        · have e : partP w p = .error "NoText" := by unfold partP; rw [if_neg cw, if_pos cn, if_neg cd]
          rw [e]
          simp [F_part_in, m_part_in, eqSS, cw', i1, l1, cl, slD, ten_len, nine_cut, ne11, ni, cd, resP, funOf, argVs, argV, argsOf, sSeq, sIf, sBind, mBP, pTst, pFld, wVar, wVal, wFld, sRaise, endOf, sNext, pOp, pC, pVar, sRet, sRetN, mP, mW, sExpr, sAsg, sAugF, insAt, sSetF, sSetFN, eBind, mCall, callF, mMeth, clsAt, noFld, notFld, aNil, aConsV, okV, okVs, asB, asI, asBv, bAnd, bOr, bNot, mTst, mAndB, mOrB, mNotB, mIf, mAnd, mOr, mNot, pAnd, pOr, pNot, pIf, pUn, pNil, pCons, pCB, pTup, pLst, pIsi, fNotN, fIsN, isNone, fEqB, fAdd, fSub, fI, fIB, fIC, fNeg, fIx, fLt, fMax2, fMin2, fInt, contAt, lstAt, dicAt, mAppP, mLPop, Sg.put, Sg.set, pLenL, pLenD, pDGet, pDGet2, pDIn, pDNotIn, sDPutP, mDPop1, mDPop2, keyD, nLst, nDic, sAsgN, sFrz, Sg.frz, endP, pureOf, pChain, mTup, mLst, mCB, isTy, sNames, setNs, anV, anN, anNil, mMake, makeF, mMakeK, mTold, mVar, pSl, oNone, oSome, mSl, sFor, iData, mOp, mUn]
      · have cd : ¬ p ∈ digs := fun z => cl (digs_len p z).1
        have e : partP w p = .error "NoText" := by unfold partP; rw [if_neg cw, if_pos cn, if_neg cd]
        have ne : fNe (.int (p.length : Nat)) (.int 1) = some (.bool true) := by
          show some (PyData.bool (!decide ((p.length : Int) = 1))) = _
          rw [decide_eq_false (by omega)]
          rfl
        rw [e]
        simp [F_part_in, m_part_in, eqSS, cw', i1, l1, ne, resP, funOf, argVs, argV, argsOf, sSeq, sIf, sBind, mBP, pTst, pFld, wVar, wVal, wFld, sRaise, endOf, sNext, pOp, pC, pVar, sRet, sRetN, mP, mW, sExpr, sAsg, sAugF, insAt, sSetF, sSetFN, eBind, mCall, callF, mMeth, clsAt, noFld, notFld, aNil, aConsV, okV, okVs, asB, asI, asBv, bAnd, bOr, bNot, mTst, mAndB, mOrB, mNotB, mIf, mAnd, mOr, mNot, pAnd, pOr, pNot, pIf, pUn, pNil, pCons, pCB, pTup, pLst, pIsi, fNotN, fIsN, isNone, fEqB, fAdd, fSub, fI, fIB, fIC, fNeg, fIx, fLt, fMax2, fMin2, fInt, contAt, lstAt, dicAt, mAppP, mLPop, Sg.put, Sg.set, pLenL, pLenD, pDGet, pDGet2, pDIn, pDNotIn, sDPutP, mDPop1, mDPop2, keyD, nLst, nDic, sAsgN, sFrz, Sg.frz, endP, pureOf, pChain, mTup, mLst, mCB, isTy, sNames, setNs, anV, anN, anNil, mMake, makeF, mMakeK, mTold, mVar, pSl, oNone, oSome, mSl, sFor, iData, mOp, mUn]
    · have i1 : fInT false (.str w) (.tuple [.str wStep, .str wEnd]) = some (.bool false) := by
        unfold fInT
        simp only [strs3, Option.map_some]
        show some (PyData.bool (decide (w ∈ nums))) = _
        rw [decide_eq_false cn]
      have e : partP w p = .ok (.str (if p = wDash then wNone else p)) := by unfold partP; rw [if_neg cw, if_neg cn]
      rw [e]
      by_cases cd : p = wDash
      · simp [F_part_in, m_part_in, eqSS, cw', i1, cd, resP, funOf, argVs, argV, argsOf, sSeq, sIf, sBind, mBP, pTst, pFld, wVar, wVal, wFld, sRaise, endOf, sNext, pOp, pC, pVar, sRet, sRetN, mP, mW, sExpr, sAsg, sAugF, insAt, sSetF, sSetFN, eBind, mCall, callF, mMeth, clsAt, noFld, notFld, aNil, aConsV, okV, okVs, asB, asI, asBv, bAnd, bOr, bNot, mTst, mAndB, mOrB, mNotB, mIf, mAnd, mOr, mNot, pAnd, pOr, pNot, pIf, pUn, pNil, pCons, pCB, pTup, pLst, pIsi, fNotN, fIsN, isNone, fEqB, fAdd, fSub, fI, fIB, fIC, fNeg, fIx, fLt, fMax2, fMin2, fInt, contAt, lstAt, dicAt, mAppP, mLPop, Sg.put, Sg.set, pLenL, pLenD, pDGet, pDGet2, pDIn, pDNotIn, sDPutP, mDPop1, mDPop2, keyD, nLst, nDic, sAsgN, sFrz, Sg.frz, endP, pureOf, pChain, mTup, mLst, mCB, isTy, sNames, setNs, anV, anN, anNil, mMake, makeF, mMakeK, mTold, mVar, pSl, oNone, oSome, mSl, sFor, iData, mOp, mUn]
      · simp [F_part_in, m_part_in, eqSS, cw', i1, cd, resP, funOf, argVs, argV, argsOf, sSeq, sIf, sBind, mBP, pTst, pFld, wVar, wVal, wFld, sRaise, endOf, sNext, pOp, pC, pVar, sRet, sRetN, mP, mW, sExpr, sAsg, sAugF, insAt, sSetF, sSetFN, eBind, mCall, callF, mMeth, clsAt, noFld, notFld, aNil, aConsV, okV, okVs, asB, asI, asBv, bAnd, bOr, bNot, mTst, mAndB, mOrB, mNotB, mIf, mAnd, mOr, mNot, pAnd, pOr, pNot, pIf, pUn, pNil, pCons, pCB, pTup, pLst, pIsi, fNotN, fIsN, isNone, fEqB, fAdd, fSub, fI, fIB, fIC, fNeg, fIx, fLt, fMax2, fMin2, fInt, contAt, lstAt, dicAt, mAppP, mLPop, Sg.put, Sg.set, pLenL, pLenD, pDGet, pDGet2, pDIn, pDNotIn, sDPutP, mDPop1, mDPop2, keyD, nLst, nDic, sAsgN, sFrz, Sg.frz, endP, pureOf, pChain, mTup, mLst, mCB, isTy, sNames, setNs, anV, anN, anNil, mMake, makeF, mMakeK, mTold, mVar, pSl, oNone, oSome, mSl, sFor, iData, mOp, mUn]
end EV

/-! ### EV: steps of a law's body -/
namespace EV
open PySem PySem.Spec PyProof.Rows L2 Evl L2H LamX LR
theorem sSeq_nx {a b : SM} {g g1 : Sg} {r : Option (Flo × Sg)} (h1 : a g = some (.nx, g1)) (h2 : b g1 = r) : sSeq a b g = r := by
  unfold sSeq
  rw [h1]
  exact h2
theorem sRet_ok {m : EM} {g g1 : Sg} {v : Rv} (h : m g = some (.ok v, g1)) : sRet m g = some (.rt v, g1) := by
  unfold sRet sBind
  rw [h]
  rfl
theorem mAnd_tt {a b : EM} {g g1 : Sg} {r : Option (Except Str Rv × Sg)} (h1 : a g = some (.ok (.dat (.bool true)), g1)) (h2 : b g1 = r) : mAnd a b g = r := by
  unfold mAnd eBind
  rw [h1]
  exact h2
theorem lenO_ok {C : Str} {f : Fun} {m : EM} {g g1 : Sg} {n : Int} (h : mMeth C "__len__" f 1 m aNil g = some (.ok (.dat (.int n)), g1)) (h0 : 0 ≤ n) (h1 : n < 2 ^ 63) : mLenO C f m g = some (.ok (.dat (.int n)), g1) := by
  unfold mLenO eBind
  rw [h]
  exact if_pos ⟨h0, h1⟩
end EV

/-! ### the law k63: deeds as a text -/
namespace EV
open PySem PySem.Spec PyProof.Rows L2 Evl L2H LamX LR
abbrev wSp : Str := Str.ofString " "
abbrev wNl : Str := Str.ofString "\n"
def wordOf : PyData → Str
  | .bool b => if b then wMom else wNow
  | .str z => if z = wNone then wDash else z
  | .int i => Str.ofString (toString i)
  | _ => wNone
theorem eqIN (i : Int) : fEq (.int i) (.str wNone) = some (.bool false) := by
  have h1 : SeqAt.shaped (.int i) = true := rfl
  have h2 : SeqAt.shaped (.str wNone) = true := by decide +kernel
  have e : fEqB (.int i) (.str wNone) = some false := by
    unfold fEqB
    simp only [h1, h2, and_self, if_true]
    rfl
  unfold fEq
  rw [e]
  rfl
theorem word_of_eq {d : PyData} (h : PlainD d) (hi : ∀ i, d = .int i → i.natAbs < 2 ^ 64) : F_word_of [d] = some (.str (wordOf d)) := by
  cases d with
  | bool b => cases b <;> simp [F_word_of, m_word_of, wordOf, funOf, argVs, argV, argsOf, sSeq, sIf, sBind, mBP, pTst, pFld, wVar, wVal, wFld, sRaise, endOf, sNext, pOp, pC, pVar, sRet, sRetN, mP, mW, sExpr, sAsg, sAugF, insAt, sSetF, sSetFN, eBind, mCall, callF, mMeth, clsAt, noFld, notFld, aNil, aConsV, okV, okVs, asB, asI, asBv, bAnd, bOr, bNot, mTst, mAndB, mOrB, mNotB, mIf, mAnd, mOr, mNot, pAnd, pOr, pNot, pIf, pUn, pNil, pCons, pCB, pTup, pLst, pIsi, fNotN, fIsN, isNone, fNe, fEqB, fAdd, fSub, fI, fIB, fIC, fNeg, fIx, fLen, fLt, fMax2, fMin2, fInt, contAt, lstAt, dicAt, mAppP, mLPop, Sg.put, Sg.set, pLenL, pLenD, pDGet, pDGet2, pDIn, pDNotIn, sDPutP, mDPop1, mDPop2, keyD, nLst, nDic, sAsgN, sFrz, Sg.frz, endP, pureOf, pChain, mTup, mLst, mCB, isTy, sNames, setNs, anV, anN, anNil, mMake, makeF, mMakeK, mTold, mVar, pSl, oNone, oSome, mSl, sFor, iData, mOp, mUn]
  | str z =>
    by_cases c : z = wNone
    · simp [F_word_of, m_word_of, wordOf, eqSS, c, fStr, funOf, argVs, argV, argsOf, sSeq, sIf, sBind, mBP, pTst, pFld, wVar, wVal, wFld, sRaise, endOf, sNext, pOp, pC, pVar, sRet, sRetN, mP, mW, sExpr, sAsg, sAugF, insAt, sSetF, sSetFN, eBind, mCall, callF, mMeth, clsAt, noFld, notFld, aNil, aConsV, okV, okVs, asB, asI, asBv, bAnd, bOr, bNot, mTst, mAndB, mOrB, mNotB, mIf, mAnd, mOr, mNot, pAnd, pOr, pNot, pIf, pUn, pNil, pCons, pCB, pTup, pLst, pIsi, fNotN, fIsN, isNone, fNe, fEqB, fAdd, fSub, fI, fIB, fIC, fNeg, fIx, fLen, fLt, fMax2, fMin2, fInt, contAt, lstAt, dicAt, mAppP, mLPop, Sg.put, Sg.set, pLenL, pLenD, pDGet, pDGet2, pDIn, pDNotIn, sDPutP, mDPop1, mDPop2, keyD, nLst, nDic, sAsgN, sFrz, Sg.frz, endP, pureOf, pChain, mTup, mLst, mCB, isTy, sNames, setNs, anV, anN, anNil, mMake, makeF, mMakeK, mTold, mVar, pSl, oNone, oSome, mSl, sFor, iData, mOp, mUn]
    · simp [F_word_of, m_word_of, wordOf, eqSS, c, fStr, funOf, argVs, argV, argsOf, sSeq, sIf, sBind, mBP, pTst, pFld, wVar, wVal, wFld, sRaise, endOf, sNext, pOp, pC, pVar, sRet, sRetN, mP, mW, sExpr, sAsg, sAugF, insAt, sSetF, sSetFN, eBind, mCall, callF, mMeth, clsAt, noFld, notFld, aNil, aConsV, okV, okVs, asB, asI, asBv, bAnd, bOr, bNot, mTst, mAndB, mOrB, mNotB, mIf, mAnd, mOr, mNot, pAnd, pOr, pNot, pIf, pUn, pNil, pCons, pCB, pTup, pLst, pIsi, fNotN, fIsN, isNone, fNe, fEqB, fAdd, fSub, fI, fIB, fIC, fNeg, fIx, fLen, fLt, fMax2, fMin2, fInt, contAt, lstAt, dicAt, mAppP, mLPop, Sg.put, Sg.set, pLenL, pLenD, pDGet, pDGet2, pDIn, pDNotIn, sDPutP, mDPop1, mDPop2, keyD, nLst, nDic, sAsgN, sFrz, Sg.frz, endP, pureOf, pChain, mTup, mLst, mCB, isTy, sNames, setNs, anV, anN, anNil, mMake, makeF, mMakeK, mTold, mVar, pSl, oNone, oSome, mSl, sFor, iData, mOp, mUn]
  | int i =>
    have e := eqIN i
    have f : fStr [.int i] = some (.str (Str.ofString (toString i))) := if_pos (hi i rfl)
    simp [F_word_of, m_word_of, wordOf, e, f, funOf, argVs, argV, argsOf, sSeq, sIf, sBind, mBP, pTst, pFld, wVar, wVal, wFld, sRaise, endOf, sNext, pOp, pC, pVar, sRet, sRetN, mP, mW, sExpr, sAsg, sAugF, insAt, sSetF, sSetFN, eBind, mCall, callF, mMeth, clsAt, noFld, notFld, aNil, aConsV, okV, okVs, asB, asI, asBv, bAnd, bOr, bNot, mTst, mAndB, mOrB, mNotB, mIf, mAnd, mOr, mNot, pAnd, pOr, pNot, pIf, pUn, pNil, pCons, pCB, pTup, pLst, pIsi, fNotN, fIsN, isNone, fNe, fEqB, fAdd, fSub, fI, fIB, fIC, fNeg, fIx, fLen, fLt, fMax2, fMin2, fInt, contAt, lstAt, dicAt, mAppP, mLPop, Sg.put, Sg.set, pLenL, pLenD, pDGet, pDGet2, pDIn, pDNotIn, sDPutP, mDPop1, mDPop2, keyD, nLst, nDic, sAsgN, sFrz, Sg.frz, endP, pureOf, pChain, mTup, mLst, mCB, isTy, sNames, setNs, anV, anN, anNil, mMake, makeF, mMakeK, mTold, mVar, pSl, oNone, oSome, mSl, sFor, iData, mOp, mUn]
  | none => exact h.elim
  | list _ => exact h.elim
  | tuple _ => exact h.elim
  | dict _ => exact h.elim
def wordsOf (D : Deed) : List Str := (.str (word0 D) :: parts D).map wordOf
def bodyS (D : Deed) : Str := Txt.join wSp (wordsOf D)
def lineS (D : Deed) : Str := bodyS D ++ wNl
def textS (Ds : List Deed) : Str := Txt.join wNone (Ds.map lineS)
/-- a word without the signs between words -/
def CleanW (z : Str) : Prop := z.length ≤ 12 ∧ 10 ∉ z.cps.toList ∧ 32 ∉ z.cps.toList ∧ PyData.strOk z = true
instance (z : Str) : Decidable (CleanW z) := by unfold CleanW; infer_instance
theorem clean_of {z s : Str} (hl : z.length ≤ 12) (h : z.cps.toList.all (fun c => decide (c ∈ s.cps.toList)) = true) (h1 : 10 ∉ s.cps.toList) (h2 : 32 ∉ s.cps.toList) (h3 : s.cps.toList.all (· < 1000) = true) : CleanW z :=
  ⟨hl, fun hc => h1 (of_decide_eq_true (List.all_eq_true.mp h 10 hc)), fun hc => h2 (of_decide_eq_true (List.all_eq_true.mp h 32 hc)), ch_ok h h3⟩
theorem clean_key {z : Str} (h : isKeyS z = true) : CleanW z := by
  have h' := h
  unfold isKeyS at h'
  rw [Bool.and_eq_true, Bool.and_eq_true] at h'
  exact clean_of (by have := (keyOk h).2; omega) h'.2 (by decide +kernel) (by decide +kernel) (by decide +kernel)
theorem clean_val {z : Str} (h : isValS z = true) : CleanW z := by
  have h' := h
  unfold isValS at h'
  rw [Bool.and_eq_true] at h'
  exact clean_of (valOk h).2 h'.2 (by decide +kernel) (by decide +kernel) (by decide +kernel)
theorem cl_bares : ∀ w ∈ bares, wordOf (.str w) = w ∧ CleanW w := by decide +kernel
theorem cl_nums : ∀ w ∈ nums, wordOf (.str w) = w ∧ CleanW w := by decide +kernel
theorem cl_figs : ∀ i ∈ ([1, 2, 3, 4, 5, 6, 7, 8, 9] : List Int), CleanW (wordOf (.int i)) := by decide +kernel
theorem words_clean {D : Deed} (h : Good D) : ∀ z ∈ wordsOf D, CleanW z := by
  intro z hz
  cases D with
  | put k v =>
    have hz : z ∈ [wordOf (.str wPut), wordOf (.str k), wordOf (.str v)] := hz
    simp only [List.mem_cons, List.not_mem_nil, or_false] at hz
    rcases hz with rfl | rfl | rfl
    · decide +kernel
    · show CleanW (if k = wNone then wDash else k)
      split
      · decide +kernel
      · exact clean_key h.1
    · show CleanW (if v = wNone then wDash else v)
      split
      · decide +kernel
      · exact clean_val h.2
  | drop k =>
    have hz : z ∈ [wordOf (.str wDrop), wordOf (.str k)] := hz
    simp only [List.mem_cons, List.not_mem_nil, or_false] at hz
    rcases hz with rfl | rfl
    · decide +kernel
    · show CleanW (if k = wNone then wDash else k)
      split
      · decide +kernel
      · exact clean_key h
  | bare w =>
    have hz : z ∈ [wordOf (.str w)] := hz
    rw [List.mem_singleton.mp hz, (cl_bares w h).1]
    exact (cl_bares w h).2
  | walk b =>
    have hz : z ∈ [wordOf (.str wWalk), wordOf (.bool b)] := hz
    simp only [List.mem_cons, List.not_mem_nil, or_false] at hz
    rcases hz with rfl | rfl
    · decide +kernel
    · cases b <;> decide +kernel
  | num w i =>
    have hz : z ∈ [wordOf (.str w), wordOf (.int i)] := hz
    simp only [List.mem_cons, List.not_mem_nil, or_false] at hz
    rcases hz with rfl | rfl
    · rw [(cl_nums w h.1).1]
      exact (cl_nums w h.1).2
    · exact cl_figs i (nine h.2.1 h.2.2)
theorem words_len (D : Deed) : (wordsOf D).length ≤ 3 ∧ wordsOf D ≠ [] := by
  refine ⟨?_, fun h => nomatch h⟩
  unfold wordsOf
  rw [List.length_map, List.length_cons]
  cases D <;> simp [parts]
theorem join_len (y : Str) : ∀ l : List Str, (Txt.join y l).length ≤ (l.map (·.length)).sum + l.length * y.length := by
  intro l
  rw [TL.join_eq]
  induction l with
  | nil => exact Nat.zero_le _
  | cons x r ih =>
    cases r with
    | nil =>
      show x.length ≤ _
      simp
    | cons z q =>
      show (x ++ y ++ Str.join y (z :: q)).length ≤ _
      rw [len_app, len_app]
      simp only [List.map_cons, List.sum_cons, List.length_cons] at ih ⊢
      have : (q.length + 1 + 1) * y.length = (q.length + 1) * y.length + y.length := Nat.succ_mul _ _
      omega
theorem sum_le {b : Nat} : ∀ {l : List Str}, (∀ z ∈ l, z.length ≤ b) → (l.map (·.length)).sum ≤ l.length * b
  | [], _ => Nat.zero_le _
  | z :: r, h => by
    have h1 := sum_le (l := r) fun q hq => h q (List.mem_cons_of_mem _ hq)
    have h2 := h z List.mem_cons_self
    rw [List.map_cons, List.sum_cons, List.length_cons, Nat.succ_mul]
    omega
theorem body_len {D : Deed} (h : Good D) : ((wordsOf D).map (·.length)).sum + (wordsOf D).length * wSp.length ≤ 39 ∧ (bodyS D).length ≤ 39 := by
  have h1 := sum_le (fun z hz => (words_clean h z hz).1)
  have h2 := (words_len D).1
  have h3 : wSp.length = 1 := by decide +kernel
  have h4 := join_len wSp (wordsOf D)
  have h5 : (wordsOf D).length * 12 ≤ 3 * 12 := Nat.mul_le_mul_right _ h2
  have : ((wordsOf D).map (·.length)).sum + (wordsOf D).length * wSp.length ≤ 39 := by rw [h3, Nat.mul_one]; omega
  exact ⟨this, Nat.le_trans h4 this⟩
theorem line_len {D : Deed} (h : Good D) : (lineS D).length ≤ 40 := by
  unfold lineS
  rw [len_app]
  have h1 := (body_len h).2
  have h2 : wNl.length = 1 := by decide +kernel
  omega
/-! deeds_text -/
theorem lc_words {D : Deed} (h : Good D) {sl : List (Option Val)} {st : List Ob} (hl : 2 < sl.length) : lcAll (gmName 2) pTrue (pCB F_word_of (pCons (pVar 2) pNil)) ⟨sl, st⟩ (.str (word0 D) :: parts D) = some ((wordsOf D).map .str) := by
  have all : ∀ l : List PyData, (∀ d ∈ l, PlainD d ∧ ∀ i, d = .int i → i.natAbs < 2 ^ 64) → lcAll (gmName 2) pTrue (pCB F_word_of (pCons (pVar 2) pNil)) ⟨sl, st⟩ l = some ((l.map wordOf).map .str) := by
    intro l
    induction l with
    | nil => intro _; rfl
    | cons d r ih =>
      intro hd
      have hd0 := hd d List.mem_cons_self
      have w := word_of_eq hd0.1 hd0.2
      have a1 : (sl.set 2 (some (.dat d)))[2]? = some (some (.dat d)) := List.getElem?_set_self hl
      have one : lcOne (gmName 2) pTrue (pCB F_word_of (pCons (pVar 2) pNil)) ⟨sl, st⟩ d = some (some (.str (wordOf d))) := by
        simp [lcOne, gmName, pTrue, Sg.set, pVar, pCB, pCons, pNil, a1, w]
      show (lcOne _ _ _ _ _).bind _ = _
      rw [one]
      show (lcAll _ _ _ _ r).bind _ = _
      rw [ih fun q hq => hd q (List.mem_cons_of_mem _ hq)]
      rfl
  refine all _ fun d hd => ?_
  obtain ⟨h1, h2, h3⟩ := good_parts h
  rcases List.mem_cons.mp hd with rfl | hd
  · exact ⟨⟨h2, h3⟩, fun i e => nomatch e⟩
  · refine ⟨(h1 d hd).plain, fun i e => ?_⟩
    subst e
    have := h1 _ hd
    unfold PartOk at this
    split at this
    · obtain ⟨b, e⟩ := this; cases e
    · split at this
      · obtain ⟨j, e, q1, q2⟩ := this; cases e; omega
      · obtain ⟨z, e, _⟩ := this; cases e
theorem strsD_map : ∀ l : List Str, strsD (l.map .str) = some l
  | [] => rfl
  | z :: r => by
    show (asS (.str z)).bind _ = _
    show ((strsD (r.map .str)).map _) = _
    rw [strsD_map r]
    rfl
theorem join_ok {y : Str} {l : List Str} (h : (l.map (·.length)).sum + l.length * y.length ≤ 100000) : fJoin y (.list (l.map .str)) = some (.str (Txt.join y l)) := by
  show (strsD (l.map .str)).bind _ = _
  rw [strsD_map]
  exact if_pos h
theorem lc_lines {sl : List (Option Val)} {st : List Ob} (hl : 2 < sl.length) : ∀ Ds : List Deed, (∀ D ∈ Ds, Good D) → lcAll (gmName 1) pTrue (pOp fAdd (pM1 fJoin (pC (.str wSp)) (pLc (iData (pVar 1)) (gmName 2) pTrue (pCB F_word_of (pCons (pVar 2) pNil)) [2])) (pC (.str wNl))) ⟨sl, st⟩ (Ds.map deedD) = some ((Ds.map lineS).map .str)
  | [], _ => rfl
  | D :: r, h => by
    have hD := h D List.mem_cons_self
    have a1 : (sl.set 1 (some (.dat (deedD D))))[1]? = some (some (.dat (deedD D))) := List.getElem?_set_self (by omega)
    have lw := lc_words hD (sl := (sl.set 1 (some (.dat (deedD D)))).set 2 none) (st := st) (by simp; omega)
    have jk := join_ok (y := wSp) (l := wordsOf D) (by have := (body_len hD).1; omega)
    have ad : fAdd (.str (bodyS D)) (.str wNl) = some (.str (lineS D)) := by
      have := (body_len hD).2
      have h2 : wNl.length = 1 := by decide +kernel
      exact if_pos (by omega)
    have pl : (.str (word0 D) :: parts D : List PyData).length ≤ 50000 := by cases D <;> simp [parts]
    have one : lcOne (gmName 1) pTrue (pOp fAdd (pM1 fJoin (pC (.str wSp)) (pLc (iData (pVar 1)) (gmName 2) pTrue (pCB F_word_of (pCons (pVar 2) pNil)) [2])) (pC (.str wNl))) ⟨sl, st⟩ (deedD D) = some (some (.str (lineS D))) := by
      have jk' : fJoin wSp (.list ((wordsOf D).map .str)) = some (.str (bodyS D)) := jk
      generalize lineS D = L at ad
      generalize bodyS D = B at ad jk'
      have dd : deedD D = .tuple (.str (word0 D) :: parts D) := rfl
      rw [dd] at a1 lw ⊢
      generalize (.str (word0 D) :: parts D : List PyData) = pd at a1 lw pl
      simp [lcOne, gmName, pTrue, Sg.set, pOp, pM1, pC, pLc, iData, pVar, a1, lw, pl, jk', ad, Sg.wipe, Sg.clr, asS]
    show (lcOne _ _ _ _ _).bind _ = _
    rw [one]
    show (lcAll _ _ _ _ (r.map _)).bind _ = _
    rw [lc_lines hl r fun q hq => h q (List.mem_cons_of_mem _ hq)]
    rfl
theorem lc_good {sl : List (Option Val)} {st : List Ob} {v : Nat} (hl : v < sl.length) : ∀ Ds : List Deed, (∀ D ∈ Ds, Good D) → lcAll (gmName v) pTrue (pCB F_is_good (pCons (pVar v) pNil)) ⟨sl, st⟩ (Ds.map deedD) = some (Ds.map fun _ => .bool true)
  | [], _ => rfl
  | D :: r, h => by
    have g := good_true (h D List.mem_cons_self)
    have a1 : (sl.set v (some (.dat (deedD D))))[v]? = some (some (.dat (deedD D))) := List.getElem?_set_self hl
    have one : lcOne (gmName v) pTrue (pCB F_is_good (pCons (pVar v) pNil)) ⟨sl, st⟩ (deedD D) = some (some (.bool true)) := by
      simp [lcOne, gmName, pTrue, Sg.set, pVar, pCB, pCons, pNil, a1, g]
    show (lcOne _ _ _ _ _).bind _ = _
    rw [one]
    show (lcAll _ _ _ _ (r.map _)).bind _ = _
    rw [lc_good hl r fun q hq => h q (List.mem_cons_of_mem _ hq)]
    rfl
theorem all_true {α : Type} (l : List α) : fAll [.list (l.map fun _ => .bool true)] = some (.bool true) := by
  have : ∀ l : List α, bools (l.map fun _ => .bool true) = some (l.map fun _ => true) := by
    intro l
    induction l with
    | nil => rfl
    | cons k r ih =>
      show (bools (r.map fun _ => .bool true)).map _ = _
      rw [ih]
      rfl
  show (bools _).map _ = _
  rw [this]
  simp
theorem text_eq {Ds : List Deed} {st : List Ob} (h : ∀ D ∈ Ds, Good D) (hl : Ds.length ≤ 2000) : F_deeds_text [.dat (.list (Ds.map deedD))] st = some (.ok (.dat (.str (textS Ds))), st) := by
  have g1 := lc_good (sl := [some (.dat (.list (Ds.map deedD))), none, none]) (st := st) (v := 1) (by simp) Ds h
  have g2 := lc_lines (sl := [some (.dat (.list (Ds.map deedD))), none, none]) (st := st) (by simp) Ds h
  have at_ := all_true Ds
  have jk := join_ok (y := wNone) (l := Ds.map lineS) (by
    have h1 := sum_le (b := 40) (l := Ds.map lineS) fun z hz => by
      obtain ⟨D, hD, rfl⟩ := List.mem_map.mp hz
      exact line_len (h D hD)
    have h2 : wNone.length = 0 := by decide +kernel
    rw [List.length_map] at h1 ⊢
    rw [h2]
    omega)
  have jk' : fJoin wNone (.list ((Ds.map lineS).map .str)) = some (.str (textS Ds)) := jk
  have l1 : (Ds.map deedD).length ≤ 50000 := by rw [List.length_map]; omega
  generalize (Ds.map fun _ => PyData.bool true) = bs at g1 at_
  generalize (Ds.map lineS).map PyData.str = ls at g2 jk'
  generalize Ds.map deedD = dd at g1 g2 l1
  generalize textS Ds = tx at jk'
  simp [F_deeds_text, m_deeds_text, pLc, iData, Sg.wipe, Sg.clr, g1, g2, at_, l1, pM1, asS, jk', funOf, argVs, argV, argsOf, sSeq, sIf, sBind, mBP, pTst, pFld, wVar, wVal, wFld, sRaise, endOf, sNext, pOp, pC, pVar, sRet, sRetN, mP, mW, sExpr, sAsg, sAugF, insAt, sSetF, sSetFN, eBind, mCall, callF, mMeth, clsAt, noFld, notFld, aNil, aConsV, okV, okVs, asB, asI, asBv, bAnd, bOr, bNot, mTst, mAndB, mOrB, mNotB, mIf, mAnd, mOr, mNot, pAnd, pOr, pNot, pIf, pUn, pNil, pCons, pCB, pTup, pLst, pIsi, fNotN, fIsN, isNone, fEq, fNe, fEqB, fAdd, fSub, fI, fIB, fIC, fNeg, fIx, fLen, fLt, fMax2, fMin2, fInt, contAt, lstAt, dicAt, mAppP, mLPop, Sg.put, Sg.set, pLenL, pLenD, pDGet, pDGet2, pDIn, pDNotIn, sDPutP, mDPop1, mDPop2, keyD, nLst, nDic, sAsgN, sFrz, Sg.frz, endP, pureOf, pChain, mTup, mLst, mCB, isTy, sNames, setNs, anV, anN, anNil, mMake, makeF, mMakeK, mTold, mVar, pSl, oNone, oSome, mSl, sFor, iData, mOp, mUn]
end EV

/-! ### the law k63: what read_deeds does -/
namespace EV
open PySem PySem.Spec PyProof.Rows L2 Evl L2H LamX LR
abbrev E2 := e2_read_deeds F_part_in F_deeds_text
abbrev B3 := b3_read_deeds F_part_in F_deeds_text
def partsP (w : Str) : List Str → Except Str (List PyData)
  | [] => .ok []
  | p :: r => match partP w p with
    | .ok d => (match partsP w r with
      | .ok ds => .ok (d :: ds)
      | .error x => .error x)
    | .error x => .error x
def putE (acc : List PyData) : Except Str (List PyData) → Except Str (List PyData)
  | .ok ds => .ok (acc ++ ds)
  | .error x => .error x
theorem lc_parts {w : Str} {x0 x1 x2 x4 x5 x6 : Option Val} : ∀ (ps : List Str), (∀ p ∈ ps, p.length ≤ 50000) → ∀ acc : List PyData, lcAllX (gmName 6) (mBP pTrue) E2 [6] (ps.map .str) acc ⟨[x0, x1, x2, some (.dat (.str w)), x4, x5, x6], []⟩ = some (putE acc (partsP w ps), ⟨[x0, x1, x2, some (.dat (.str w)), x4, x5, x6], []⟩)
  | [], _, acc => by simp [lcAllX, partsP, putE]
  | p :: r, hp, acc => by
    have pe := part_in_eq (w := w) (p := p) (st := []) (hp p List.mem_cons_self)
    cases hq : partP w p with
    | error x =>
      rw [hq] at pe
      have one : lcOneX (gmName 6) (mBP pTrue) E2 [6] ⟨[x0, x1, x2, some (.dat (.str w)), x4, x5, x6], []⟩ (.str p) = some (.error x, ⟨[x0, x1, x2, some (.dat (.str w)), x4, x5, x6], []⟩) := by
        simp [lcOneX, gmName, pTrue, E2, e2_read_deeds, Sg.inner, Sg.wipe, Sg.clr, keepV, pe, resP, funOf, argVs, argV, argsOf, sSeq, sIf, sBind, mBP, pTst, pFld, wVar, wVal, wFld, sRaise, endOf, sNext, pOp, pC, pVar, sRet, sRetN, mP, mW, sExpr, sAsg, sAugF, insAt, sSetF, sSetFN, eBind, mCall, callF, mMeth, clsAt, noFld, notFld, aNil, aConsV, okV, okVs, asB, asI, asBv, bAnd, bOr, bNot, mTst, mAndB, mOrB, mNotB, mIf, mAnd, mOr, mNot, pAnd, pOr, pNot, pIf, pUn, pNil, pCons, pCB, pTup, pLst, pIsi, fNotN, fIsN, isNone, fEq, fNe, fEqB, fAdd, fSub, fI, fIB, fIC, fNeg, fIx, fLen, fLt, fMax2, fMin2, fInt, contAt, lstAt, dicAt, mAppP, mLPop, Sg.put, Sg.set, pLenL, pLenD, pDGet, pDGet2, pDIn, pDNotIn, sDPutP, mDPop1, mDPop2, keyD, nLst, nDic, sAsgN, sFrz, Sg.frz, endP, pureOf, pChain, mTup, mLst, mCB, isTy, sNames, setNs, anV, anN, anNil, mMake, makeF, mMakeK, mTold, mVar, pSl, oNone, oSome, mSl, sFor, iData, mOp, mUn]
      show (lcOneX _ _ _ _ _ _).bind _ = _
      rw [one]
      simp [partsP, hq, putE]
    | ok d =>
      rw [hq] at pe
      have one : lcOneX (gmName 6) (mBP pTrue) E2 [6] ⟨[x0, x1, x2, some (.dat (.str w)), x4, x5, x6], []⟩ (.str p) = some (.ok (some d), ⟨[x0, x1, x2, some (.dat (.str w)), x4, x5, x6], []⟩) := by
        simp [lcOneX, gmName, pTrue, E2, e2_read_deeds, Sg.inner, Sg.wipe, Sg.clr, keepV, pe, resP, funOf, argVs, argV, argsOf, sSeq, sIf, sBind, mBP, pTst, pFld, wVar, wVal, wFld, sRaise, endOf, sNext, pOp, pC, pVar, sRet, sRetN, mP, mW, sExpr, sAsg, sAugF, insAt, sSetF, sSetFN, eBind, mCall, callF, mMeth, clsAt, noFld, notFld, aNil, aConsV, okV, okVs, asB, asI, asBv, bAnd, bOr, bNot, mTst, mAndB, mOrB, mNotB, mIf, mAnd, mOr, mNot, pAnd, pOr, pNot, pIf, pUn, pNil, pCons, pCB, pTup, pLst, pIsi, fNotN, fIsN, isNone, fEq, fNe, fEqB, fAdd, fSub, fI, fIB, fIC, fNeg, fIx, fLen, fLt, fMax2, fMin2, fInt, contAt, lstAt, dicAt, mAppP, mLPop, Sg.put, Sg.set, pLenL, pLenD, pDGet, pDGet2, pDIn, pDNotIn, sDPutP, mDPop1, mDPop2, keyD, nLst, nDic, sAsgN, sFrz, Sg.frz, endP, pureOf, pChain, mTup, mLst, mCB, isTy, sNames, setNs, anV, anN, anNil, mMake, makeF, mMakeK, mTold, mVar, pSl, oNone, oSome, mSl, sFor, iData, mOp, mUn]
      show (lcOneX _ _ _ _ _ _).bind _ = _
      rw [one]
      show lcAllX _ _ _ _ (r.map _) (acc ++ [d]) _ = _
      rw [lc_parts r (fun q hq => hp q (List.mem_cons_of_mem _ hq)) (acc ++ [d])]
      cases hr : partsP w r with
      | ok ds => simp [partsP, hq, hr, putE]
      | error x => simp [partsP, hq, hr, putE]
def lineP (l : Str) : Except Str PyData := match Txt.split l wSp with
  | w :: ps => (match partsP w ps with
    | .ok ds => .ok (.tuple (.str w :: ds))
    | .error x => .error x)
  | [] => .error "NoText"
theorem parts_len : ∀ {w : Str} {ps : List Str} {ds : List PyData}, partsP w ps = .ok ds → ds.length = ps.length
  | _, [], _, h => by cases h; rfl
  | w, p :: r, ds, h => by
    unfold partsP at h
    split at h
    · split at h
      · cases h
        rename_i h2
        rw [List.length_cons, List.length_cons, parts_len h2]
      · cases h
    · cases h
theorem line_body {l : Str} {x0 x3 x4 x5 x6 : Option Val} {made : List PyData} (hl : l.length ≤ 5000) (hm : made.length < 100000) :
    ∃ y3 y4, B3 ⟨[x0, some (.ownL made), some (.dat (.str l)), x3, x4, x5, x6], []⟩ = some (match lineP l with
      | .ok d => (.nx, ⟨[x0, some (.ownL (made ++ [d])), some (.dat (.str l)), y3, y4, x5, x6], []⟩)
      | .error x => (.er x, ⟨[x0, some (.ownL made), some (.dat (.str l)), y3, y4, x5, x6], []⟩)) := by
  have fs : fSplit l (.str wSp) = some (.list ((Txt.split l wSp).map .str)) := if_pos ⟨by decide +kernel, by omega⟩
  cases hs : Txt.split l wSp with
  | nil => exact absurd hs (split_ne _ _)
  | cons w ps =>
    rw [hs] at fs
    have sl := split_len l wSp (by decide +kernel)
    rw [hs, List.length_cons] at sl
    have hp : ∀ p ∈ ps, p.length ≤ 50000 := fun p hp => by
      have : p.length ≤ l.length := split_mem (y := wSp) (by rw [hs]; exact List.mem_cons_of_mem _ hp)
      omega
    have lp := lc_parts (w := w) (x0 := x0) (x1 := some (.ownL made)) (x2 := some (.dat (.str l))) (x4 := some (.dat (.list (ps.map .str)))) (x5 := x5) (x6 := x6) ps hp []
    refine ⟨some (.dat (.str w)), some (.dat (.list (ps.map .str))), ?_⟩
    have pl : (ps.map PyData.str).length ≤ 50000 := by rw [List.length_map]; omega
    unfold lineP
    rw [hs]
    unfold B3 b3_read_deeds
    refine sSeq_nx (g1 := ⟨[x0, some (.ownL made), some (.dat (.str l)), some (.dat (.str w)), some (.dat (.list (ps.map .str))), x5, x6], []⟩) (by simp [sStar, pM1, asS, fs, funOf, argVs, argV, argsOf, sSeq, sIf, sBind, mBP, pTst, pFld, wVar, wVal, wFld, sRaise, endOf, sNext, pOp, pC, pVar, sRet, sRetN, mP, mW, sExpr, sAsg, sAugF, insAt, sSetF, sSetFN, eBind, mCall, callF, mMeth, clsAt, noFld, notFld, aNil, aConsV, okV, okVs, asB, asI, asBv, bAnd, bOr, bNot, mTst, mAndB, mOrB, mNotB, mIf, mAnd, mOr, mNot, pAnd, pOr, pNot, pIf, pUn, pNil, pCons, pCB, pTup, pLst, pIsi, fNotN, fIsN, isNone, fEq, fNe, fEqB, fAdd, fSub, fI, fIB, fIC, fNeg, fIx, fLen, fLt, fMax2, fMin2, fInt, contAt, lstAt, dicAt, mAppP, mLPop, Sg.put, Sg.set, pLenL, pLenD, pDGet, pDGet2, pDIn, pDNotIn, sDPutP, mDPop1, mDPop2, keyD, nLst, nDic, sAsgN, sFrz, Sg.frz, endP, pureOf, pChain, mTup, mLst, mCB, isTy, sNames, setNs, anV, anN, anNil, mMake, makeF, mMakeK, mTold, mVar, pSl, oNone, oSome, mSl, sFor, iData, mOp, mUn]) ?_
    cases hq : partsP w ps with
    | error x =>
      rw [hq] at lp
      simp only [putE] at lp
      generalize ps.map PyData.str = psd at lp pl
      simp [mApp, mLcX, iData, lp, pl, hq, funOf, argVs, argV, argsOf, sSeq, sIf, sBind, mBP, pTst, pFld, wVar, wVal, wFld, sRaise, endOf, sNext, pOp, pC, pVar, sRet, sRetN, mP, mW, sExpr, sAsg, sAugF, insAt, sSetF, sSetFN, eBind, mCall, callF, mMeth, clsAt, noFld, notFld, aNil, aConsV, okV, okVs, asB, asI, asBv, bAnd, bOr, bNot, mTst, mAndB, mOrB, mNotB, mIf, mAnd, mOr, mNot, pAnd, pOr, pNot, pIf, pUn, pNil, pCons, pCB, pTup, pLst, pIsi, fNotN, fIsN, isNone, fEq, fNe, fEqB, fAdd, fSub, fI, fIB, fIC, fNeg, fIx, fLen, fLt, fMax2, fMin2, fInt, contAt, lstAt, dicAt, mAppP, mLPop, Sg.put, Sg.set, pLenL, pLenD, pDGet, pDGet2, pDIn, pDNotIn, sDPutP, mDPop1, mDPop2, keyD, nLst, nDic, sAsgN, sFrz, Sg.frz, endP, pureOf, pChain, mTup, mLst, mCB, isTy, sNames, setNs, anV, anN, anNil, mMake, makeF, mMakeK, mTold, mVar, pSl, oNone, oSome, mSl, sFor, iData, mOp, mUn]
    | ok ds =>
      rw [hq] at lp
      have dl : ds.length ≤ 50000 := by rw [parts_len hq]; omega
      simp only [putE, List.nil_append] at lp
      have ad : fAdd (.tuple [.str w]) (.tuple ds) = some (.tuple (.str w :: ds)) := if_pos (by simp; omega)
      generalize ps.map PyData.str = psd at lp pl
      simp [mApp, mLcX, iData, lp, pl, fTuple, ad, hm, hq, funOf, argVs, argV, argsOf, sSeq, sIf, sBind, mBP, pTst, pFld, wVar, wVal, wFld, sRaise, endOf, sNext, pOp, pC, pVar, sRet, sRetN, mP, mW, sExpr, sAsg, sAugF, insAt, sSetF, sSetFN, eBind, mCall, callF, mMeth, clsAt, noFld, notFld, aNil, aConsV, okV, okVs, asB, asI, asBv, bAnd, bOr, bNot, mTst, mAndB, mOrB, mNotB, mIf, mAnd, mOr, mNot, pAnd, pOr, pNot, pIf, pUn, pNil, pCons, pCB, pTup, pLst, pIsi, fNotN, fIsN, isNone, fEq, fNe, fEqB, fSub, fI, fIB, fIC, fNeg, fIx, fLen, fLt, fMax2, fMin2, fInt, contAt, lstAt, dicAt, mAppP, mLPop, Sg.put, Sg.set, pLenL, pLenD, pDGet, pDGet2, pDIn, pDNotIn, sDPutP, mDPop1, mDPop2, keyD, nLst, nDic, sAsgN, sFrz, Sg.frz, endP, pureOf, pChain, mTup, mLst, mCB, isTy, sNames, setNs, anV, anN, anNil, mMake, makeF, mMakeK, mTold, mVar, pSl, oNone, oSome, mSl, sFor, iData, mOp, mUn]
def linesP : List Str → Except Str (List PyData)
  | [] => .ok []
  | l :: r => match lineP l with
    | .ok d => (match linesP r with
      | .ok ds => .ok (d :: ds)
      | .error x => .error x)
    | .error x => .error x
theorem lines_loop {x0 x5 x6 : Option Val} : ∀ (ls : List Str), (∀ l ∈ ls, l.length ≤ 5000) → ∀ (made : List PyData) (x2 x3 x4 : Option Val), made.length + ls.length < 100000 →
    ∃ y2 y3 y4 m', forL (gmName 2) B3 (ls.map .str) ⟨[x0, some (.ownL made), x2, x3, x4, x5, x6], []⟩ = some (match linesP ls with
      | .ok ds => (.nx, ⟨[x0, some (.ownL (made ++ ds)), y2, y3, y4, x5, x6], []⟩)
      | .error x => (.er x, ⟨[x0, some (.ownL m'), y2, y3, y4, x5, x6], []⟩))
  | [], _, made, x2, x3, x4, _ => ⟨x2, x3, x4, made, by simp [forL, linesP]⟩
  | l :: r, hl, made, x2, x3, x4, hm => by
    rw [List.length_cons] at hm
    obtain ⟨y3, y4, e1⟩ := line_body (x0 := x0) (x3 := x3) (x4 := x4) (x5 := x5) (x6 := x6) (made := made) (hl l List.mem_cons_self) (by omega)
    cases hq : lineP l with
    | error x =>
      rw [hq] at e1
      refine ⟨some (.dat (.str l)), y3, y4, made, ?_⟩
      show (B3 ⟨[x0, some (.ownL made), some (.dat (.str l)), x3, x4, x5, x6], []⟩).bind (fun p => match p.1 with
        | .nx => forL (gmName 2) B3 (r.map .str) p.2
        | .ct => forL (gmName 2) B3 (r.map .str) p.2
        | .bk => some (.nx, p.2)
        | fl => some (fl, p.2)) = _
      rw [e1]
      simp [linesP, hq]
    | ok d =>
      rw [hq] at e1
      obtain ⟨z2, z3, z4, m', e2⟩ := lines_loop (x0 := x0) (x5 := x5) (x6 := x6) r (fun q hq => hl q (List.mem_cons_of_mem _ hq)) (made ++ [d]) (some (.dat (.str l))) y3 y4 (by rw [List.length_append, List.length_singleton]; omega)
      refine ⟨z2, z3, z4, m', ?_⟩
      show (B3 ⟨[x0, some (.ownL made), some (.dat (.str l)), x3, x4, x5, x6], []⟩).bind (fun p => match p.1 with
        | .nx => forL (gmName 2) B3 (r.map .str) p.2
        | .ct => forL (gmName 2) B3 (r.map .str) p.2
        | .bk => some (.nx, p.2)
        | fl => some (fl, p.2)) = _
      rw [e1]
      show forL (gmName 2) B3 (r.map .str) _ = _
      rw [e2]
      cases hr : linesP r with
      | ok ds => simp [linesP, hq, hr]
      | error x => simp [linesP, hq, hr]
end EV

/-! ### the law k63: read_deeds, all of it -/
namespace EV
open PySem PySem.Spec PyProof.Rows L2 Evl L2H LamX LR
theorem part_ok {w p : Str} {d : PyData} (h : partP w p = .ok d) (hp : PyData.strOk p = true) (hl : p.length ≤ 50000) : PartOk w d := by
  unfold partP at h
  unfold PartOk
  by_cases c1 : w = wWalk
  · rw [if_pos c1] at h ⊢
    split at h
    · cases h; exact ⟨_, rfl⟩
    · cases h
  · rw [if_neg c1] at h ⊢
    by_cases c2 : w ∈ nums
    · rw [if_pos c2] at h ⊢
      split at h
      · rename_i hd
        cases h
        obtain ⟨_, _, _, h1, h2⟩ := digs_len p hd
        exact ⟨_, rfl, h1, h2⟩
      · cases h
    · rw [if_neg c2] at h ⊢
      cases h
      split
      · exact ⟨_, rfl, by decide +kernel, by decide +kernel⟩
      · exact ⟨_, rfl, hp, hl⟩
theorem parts_ok {w : Str} : ∀ {ps : List Str} {ds : List PyData}, partsP w ps = .ok ds → (∀ p ∈ ps, PyData.strOk p = true ∧ p.length ≤ 50000) → ∀ d ∈ ds, PartOk w d
  | [], _, h, _, d, hd => by cases h; cases hd
  | p :: r, ds, h, hp, d, hd => by
    unfold partsP at h
    split at h
    · rename_i d0 h1
      split at h
      · rename_i ds0 h2
        cases h
        rcases List.mem_cons.mp hd with rfl | hd
        · exact part_ok h1 (hp p List.mem_cons_self).1 (hp p List.mem_cons_self).2
        · exact parts_ok h2 (fun q hq => hp q (List.mem_cons_of_mem _ hq)) d hd
      · cases h
    · cases h
def OkD (d : PyData) : Prop := (∃ D, Good D ∧ deedD D = d) ∨ F_is_good [d] = some (.bool false)
theorem line_ok {l : Str} {d : PyData} (h : lineP l = .ok d) (hl : PyData.strOk l = true) (hn : l.length ≤ 5000) : OkD d := by
  unfold lineP at h
  split at h
  · rename_i w ps hs
    split at h
    · rename_i ds h1
      cases h
      have hm : ∀ p ∈ w :: ps, PyData.strOk p = true ∧ p.length ≤ 50000 := fun p hp => by
        rw [← hs] at hp
        exact ⟨split_ok hl hp, by have := split_mem hp; omega⟩
      rcases is_good_eq (hm w List.mem_cons_self).1 (hm w List.mem_cons_self).2 (parts_ok h1 fun p hp => hm p (List.mem_cons_of_mem _ hp)) with ⟨D, g, e, _⟩ | e
      · exact .inl ⟨D, g, e⟩
      · exact .inr e
    · cases h
  · cases h
theorem lines_ok : ∀ {ls : List Str} {ds : List PyData}, linesP ls = .ok ds → (∀ l ∈ ls, PyData.strOk l = true ∧ l.length ≤ 5000) → (∀ d ∈ ds, OkD d) ∧ ds.length = ls.length
  | [], _, h, _ => by cases h; exact ⟨(fun d hd => nomatch hd), rfl⟩
  | l :: r, ds, h, hp => by
    unfold linesP at h
    split at h
    · rename_i d0 h1
      split at h
      · rename_i ds0 h2
        cases h
        obtain ⟨a, b⟩ := lines_ok h2 fun q hq => hp q (List.mem_cons_of_mem _ hq)
        refine ⟨fun d hd => ?_, by rw [List.length_cons, List.length_cons, b]⟩
        rcases List.mem_cons.mp hd with rfl | hd
        · exact line_ok h1 (hp l List.mem_cons_self).1 (hp l List.mem_cons_self).2
        · exact a d hd
      · cases h
    · cases h
theorem part_err {w p x : Str} (h : partP w p = .error x) : x = "NoText" := by
  unfold partP at h
  split at h
  · split at h
    · cases h
    · cases h; rfl
  · split at h
    · split at h
      · cases h
      · cases h; rfl
    · cases h
theorem parts_err {w x : Str} : ∀ {ps : List Str}, partsP w ps = .error x → x = "NoText"
  | [], h => by cases h
  | p :: r, h => by
    unfold partsP at h
    split at h
    · split at h
      · cases h
      · rename_i h2
        cases h
        exact parts_err h2
    · rename_i h1
      cases h
      exact part_err h1
theorem lines_err {x : Str} : ∀ {ls : List Str}, linesP ls = .error x → x = "NoText"
  | [], h => by cases h
  | l :: r, h => by
    unfold linesP at h
    split at h
    · split at h
      · cases h
      · rename_i h2
        cases h
        exact lines_err h2
    · rename_i h1
      cases h
      unfold lineP at h1
      split at h1
      · split at h1
        · cases h1
        · rename_i h3
          cases h1
          exact parts_err h3
      · cases h1; rfl
theorem goods {sl : List (Option Val)} {st : List Ob} {v : Nat} (hl : v < sl.length) : ∀ made : List PyData, (∀ d ∈ made, OkD d) → (∃ Ds : List Deed, made = Ds.map deedD ∧ ∀ D ∈ Ds, Good D) ∨ ∃ bs : List Bool, lcAll (gmName v) pTrue (pCB F_is_good (pCons (pVar v) pNil)) ⟨sl, st⟩ made = some (bs.map .bool) ∧ bs.all id = false
  | [], _ => .inl ⟨[], rfl, fun _ h => nomatch h⟩
  | d :: r, h => by
    have step : ∀ b : Bool, F_is_good [d] = some (.bool b) → lcAll (gmName v) pTrue (pCB F_is_good (pCons (pVar v) pNil)) ⟨sl, st⟩ (d :: r) = (lcAll (gmName v) pTrue (pCB F_is_good (pCons (pVar v) pNil)) ⟨sl, st⟩ r).bind fun q => some (.bool b :: q) := fun b g => by
      have a1 : (sl.set v (some (.dat d)))[v]? = some (some (.dat d)) := List.getElem?_set_self hl
      have one : lcOne (gmName v) pTrue (pCB F_is_good (pCons (pVar v) pNil)) ⟨sl, st⟩ d = some (some (.bool b)) := by
        simp [lcOne, gmName, pTrue, Sg.set, pVar, pCB, pCons, pNil, a1, g]
      show (lcOne _ _ _ _ _).bind _ = _
      rw [one]
      rfl
    have hd := h d List.mem_cons_self
    have hr : ∀ q ∈ r, OkD q := fun q hq => h q (List.mem_cons_of_mem _ hq)
    have rest : ∃ bs : List Bool, lcAll (gmName v) pTrue (pCB F_is_good (pCons (pVar v) pNil)) ⟨sl, st⟩ r = some (bs.map .bool) := by
      rcases goods hl r hr with ⟨Ds, rfl, g⟩ | ⟨bs, e, _⟩
      · exact ⟨Ds.map fun _ => true, by rw [lc_good hl Ds g, List.map_map]; rfl⟩
      · exact ⟨bs, e⟩
    rcases hd with ⟨D, g, e⟩ | e
    · rcases goods hl r hr with ⟨Ds, er, gs⟩ | ⟨bs, e2, nb⟩
      · refine .inl ⟨D :: Ds, by rw [List.map_cons, e, er], fun q hq => ?_⟩
        rcases List.mem_cons.mp hq with rfl | hq
        · exact g
        · exact gs q hq
      · subst e
        exact .inr ⟨true :: bs, by rw [step true (good_true g), e2]; rfl, by rw [List.all_cons, nb]; rfl⟩
    · obtain ⟨bs, e2⟩ := rest
      exact .inr ⟨false :: bs, by rw [step false e, e2]; rfl, by rw [List.all_cons]; rfl⟩
theorem bools_map (bs : List Bool) : fAll [.list (bs.map .bool)] = some (.bool (bs.all id)) := by
  have : ∀ bs : List Bool, bools (bs.map .bool) = some bs := by
    intro bs
    induction bs with
    | nil => rfl
    | cons k r ih =>
      show (bools (r.map .bool)).map _ = _
      rw [ih]
      rfl
  show (bools _).map _ = _
  rw [this]
  rfl
theorem sSeq_er {a b : SM} {g g1 : Sg} {x : Str} (h1 : a g = some (.er x, g1)) : sSeq a b g = some (.er x, g1) := by
  unfold sSeq
  rw [h1]
  rfl
abbrev c1R : BM := mBP (bOr (bNot (pTst (pIsi "str" (pVar 0)))) (bAnd (pTst (pOp fNe (pVar 0) (pC (.str (Str.ofString ""))))) (pTst (pOp fNe (pOp fIx (pVar 0) (pUn fNeg (pC (.int 1)))) (pC (.str (Str.ofString "\n")))))))
/-- ends as it should -/
def EndsNl (z : Str) : Bool := decide (z = wNone) || decide (z.cps.toList.getLast? = some 10)
theorem nl_one : wNl = ⟨#[10]⟩ := by decide +kernel
theorem c1_eq {z : Str} {r : List (Option Val)} (hl : z.length ≤ 5000) : c1R ⟨some (.dat (.str z)) :: r, []⟩ = some (.ok (!EndsNl z), ⟨some (.dat (.str z)) :: r, []⟩) := by
  by_cases c : z = wNone
  · have e : EndsNl z = true := by unfold EndsNl; rw [decide_eq_true c]; rfl
    rw [e]
    subst c
    simp [c1R, neSS, funOf, argVs, argV, argsOf, sSeq, sIf, sBind, mBP, pTst, pFld, wVar, wVal, wFld, sRaise, endOf, sNext, pOp, pC, pVar, sRet, sRetN, mP, mW, sExpr, sAsg, sAugF, insAt, sSetF, sSetFN, eBind, mCall, callF, mMeth, clsAt, noFld, notFld, aNil, aConsV, okV, okVs, asB, asI, asBv, bAnd, bOr, bNot, mTst, mAndB, mOrB, mNotB, mIf, mAnd, mOr, mNot, pAnd, pOr, pNot, pIf, pUn, pNil, pCons, pCB, pTup, pLst, pIsi, fNotN, fIsN, isNone, fEq, fEqB, fAdd, fSub, fI, fIB, fIC, fNeg, fLen, fLt, fMax2, fMin2, fInt, contAt, lstAt, dicAt, mAppP, mLPop, Sg.put, Sg.set, pLenL, pLenD, pDGet, pDGet2, pDIn, pDNotIn, sDPutP, mDPop1, mDPop2, keyD, nLst, nDic, sAsgN, sFrz, Sg.frz, endP, pureOf, pChain, mTup, mLst, mCB, isTy, sNames, setNs, anV, anN, anNil, mMake, makeF, mMakeK, mTold, mVar, pSl, oNone, oSome, mSl, sFor, iData, mOp, mUn]
  · have hne : z.cps.toList ≠ [] := fun e => c (str_tl (e.trans (by decide +kernel)))
    have hz2 : z.length ≤ 100000 := by omega
    cases hq : z.cps.toList.getLast? with
    | none => exact absurd (List.getLast?_eq_none_iff.mp hq) hne
    | some k =>
      have e : EndsNl z = decide (k = 10) := by
        unfold EndsNl
        rw [decide_eq_false c, hq, Bool.false_or]
        by_cases ck : k = 10
        · subst ck; simp
        · simp [ck]
      have fx : fIx (.str z) (.int (-1)) = some (.str ⟨#[k]⟩) := by
        show (if z.length ≤ 100000 then (atI z.cps.toList (-1)).map _ else none) = _
        rw [if_pos hz2, at_last, hq]
        rfl
      have n1 : fNe (.str ⟨#[k]⟩) (.str (Str.ofString "\n")) = some (.bool (!decide (k = 10))) := by
        rw [neSS]
        have : ((⟨#[k]⟩ : Str) = Str.ofString "\n") ↔ k = 10 := by
          rw [show Str.ofString "\n" = (⟨#[10]⟩ : Str) from nl_one]
          exact ⟨fun h => by injection h with h; have := congrArg Array.toList h; simpa using this, fun h => by rw [h]⟩
        simp [this]
      rw [e]
      simp [c1R, neSS z, c, fx, n1, funOf, argVs, argV, argsOf, sSeq, sIf, sBind, mBP, pTst, pFld, wVar, wVal, wFld, sRaise, endOf, sNext, pOp, pC, pVar, sRet, sRetN, mP, mW, sExpr, sAsg, sAugF, insAt, sSetF, sSetFN, eBind, mCall, callF, mMeth, clsAt, noFld, notFld, aNil, aConsV, okV, okVs, asB, asI, asBv, bAnd, bOr, bNot, mTst, mAndB, mOrB, mNotB, mIf, mAnd, mOr, mNot, pAnd, pOr, pNot, pIf, pUn, pNil, pCons, pCB, pTup, pLst, pIsi, fNotN, fIsN, isNone, fEq, fEqB, fAdd, fSub, fI, fIB, fIC, fNeg, fLen, fLt, fMax2, fMin2, fInt, contAt, lstAt, dicAt, mAppP, mLPop, Sg.put, Sg.set, pLenL, pLenD, pDGet, pDGet2, pDIn, pDNotIn, sDPutP, mDPop1, mDPop2, keyD, nLst, nDic, sAsgN, sFrz, Sg.frz, endP, pureOf, pChain, mTup, mLst, mCB, isTy, sNames, setNs, anV, anN, anNil, mMake, makeF, mMakeK, mTold, mVar, pSl, oNone, oSome, mSl, sFor, iData, mOp, mUn]
end EV

/-! ### the law k63: read_deeds tells -/
namespace EV
open PySem PySem.Spec PyProof.Rows L2 Evl L2H LamX LR
abbrev lsOf (z : Str) : List Str := (Txt.split z wNl).dropLast
theorem ls_ok {z : Str} (hz : PyData.strOk z = true) : ∀ l ∈ lsOf z, PyData.strOk l = true ∧ l.length ≤ z.length := fun l hl =>
  ⟨split_ok hz (List.dropLast_subset _ hl), split_mem (List.dropLast_subset _ hl)⟩
theorem ls_len (z : Str) : (lsOf z).length ≤ z.length + 2 := by
  have := split_len z wNl (by decide +kernel)
  rw [List.length_dropLast]
  omega
theorem read_step {z : Str} (hz : PyData.strOk z = true) (hl : z.length ≤ 1900) (he : EndsNl z = true) : ∃ y2 y3 y4 m', sFor (iData (pSl (pM1 fSplit (pVar 0) (pC (.str (Str.ofString "\n")))) oNone (oSome (pUn fNeg (pC (.int 1)))))) (gmName 2) B3 ⟨[some (.dat (.str z)), some (.ownL []), none, none, none, none, none], []⟩ = some (match linesP (lsOf z) with
      | .ok ds => (.nx, ⟨[some (.dat (.str z)), some (.ownL ds), y2, y3, y4, none, none], []⟩)
      | .error x => (.er x, ⟨[some (.dat (.str z)), some (.ownL m'), y2, y3, y4, none, none], []⟩)) := by
  have fs : fSplit z (.str wNl) = some (.list ((Txt.split z wNl).map .str)) := if_pos ⟨by decide +kernel, by omega⟩
  obtain ⟨y2, y3, y4, m', e⟩ := lines_loop (x0 := some (.dat (.str z))) (x5 := none) (x6 := none) (lsOf z) (fun l hq => by have := (ls_ok hz l hq).2; omega) [] none none none (by have := ls_len z; rw [List.length_nil]; omega)
  refine ⟨y2, y3, y4, m', ?_⟩
  simp only [List.nil_append] at e
  have sl : slD (.list ((Txt.split z wNl).map .str)) none (some (-1)) = some (.list ((lsOf z).map .str)) := by
    show some (PyData.list (cutD _ _ _)) = _
    rw [cutD_last, List.map_dropLast]
  generalize (Txt.split z wNl).map PyData.str = sp at fs sl
  generalize (lsOf z).map PyData.str = ld at e sl
  simp [sFor, iData, pM1, asS, fs, sl, e, funOf, argVs, argV, argsOf, sSeq, sIf, sBind, mBP, pTst, pFld, wVar, wVal, wFld, sRaise, endOf, sNext, pOp, pC, pVar, sRet, sRetN, mP, mW, sExpr, sAsg, sAugF, insAt, sSetF, sSetFN, eBind, mCall, callF, mMeth, clsAt, noFld, notFld, aNil, aConsV, okV, okVs, asB, asI, asBv, bAnd, bOr, bNot, mTst, mAndB, mOrB, mNotB, mIf, mAnd, mOr, mNot, pAnd, pOr, pNot, pIf, pUn, pNil, pCons, pCB, pTup, pLst, pIsi, fNotN, fIsN, isNone, fEq, fNe, fEqB, fAdd, fSub, fI, fIB, fIC, fNeg, fIx, fLen, fLt, fMax2, fMin2, fInt, contAt, lstAt, dicAt, mAppP, mLPop, Sg.put, Sg.set, pLenL, pLenD, pDGet, pDGet2, pDIn, pDNotIn, sDPutP, mDPop1, mDPop2, keyD, nLst, nDic, sAsgN, sFrz, Sg.frz, endP, pureOf, pChain, mTup, mLst, mCB, isTy, sNames, setNs, anV, anN, anNil, mMake, makeF, mMakeK, mTold, mVar, pSl, oNone, oSome, mSl, sFor, iData, mOp, mUn]
  all_goals (cases linesP (lsOf z) <;> rfl)
theorem read_cases {z : Str} (hz : PyData.strOk z = true) (hl : z.length ≤ 1900) : FRD [.dat (.str z)] [] = some (.error "NoText", []) ∨ ∃ Ds : List Deed, (∀ D ∈ Ds, Good D) ∧ Ds.length ≤ 2000 ∧ textS Ds = z ∧ FRD [.dat (.str z)] [] = some (.ok (.dat (.list (Ds.map deedD))), []) := by
  have c1 := c1_eq (z := z) (r := [none, none, none, none, none, none]) (by omega)
  cases he : EndsNl z with
  | false =>
    rw [he] at c1
    left
    have m1 : m_read_deeds F_part_in F_deeds_text ⟨[some (.dat (.str z)), none, none, none, none, none, none], []⟩ = some (.er "NoText", ⟨[some (.dat (.str z)), none, none, none, none, none, none], []⟩) := by
      unfold m_read_deeds
      refine sSeq_er ?_
      show sIf c1R _ _ _ = _
      simp [sIf, sBind, c1, sRaise]
    simp [FRD, F_read_deeds, funOf, argVs, argV, argsOf, m1, endOf]
  | true =>
    rw [he] at c1
    obtain ⟨y2, y3, y4, m', e⟩ := read_step hz hl he
    have s1 : sIf c1R (sRaise "NoText") sNext ⟨[some (.dat (.str z)), none, none, none, none, none, none], []⟩ = some (.nx, ⟨[some (.dat (.str z)), none, none, none, none, none, none], []⟩) := by
      simp [sIf, sBind, c1, sNext]
    cases hq : linesP (lsOf z) with
    | error x =>
      have hx := lines_err hq
      subst hx
      rw [hq] at e
      left
      have m1 : m_read_deeds F_part_in F_deeds_text ⟨[some (.dat (.str z)), none, none, none, none, none, none], []⟩ = some (.er "NoText", ⟨[some (.dat (.str z)), some (.ownL m'), y2, y3, y4, none, none], []⟩) := by
        unfold m_read_deeds
        refine sSeq_nx s1 ?_
        refine sSeq_nx (g1 := ⟨[some (.dat (.str z)), some (.ownL []), none, none, none, none, none], []⟩) (by simp [funOf, argVs, argV, argsOf, sSeq, sIf, sBind, mBP, pTst, pFld, wVar, wVal, wFld, sRaise, endOf, sNext, pOp, pC, pVar, sRet, sRetN, mP, mW, sExpr, sAsg, sAugF, insAt, sSetF, sSetFN, eBind, mCall, callF, mMeth, clsAt, noFld, notFld, aNil, aConsV, okV, okVs, asB, asI, asBv, bAnd, bOr, bNot, mTst, mAndB, mOrB, mNotB, mIf, mAnd, mOr, mNot, pAnd, pOr, pNot, pIf, pUn, pNil, pCons, pCB, pTup, pLst, pIsi, fNotN, fIsN, isNone, fEq, fNe, fEqB, fAdd, fSub, fI, fIB, fIC, fNeg, fIx, fLen, fLt, fMax2, fMin2, fInt, contAt, lstAt, dicAt, mAppP, mLPop, Sg.put, Sg.set, pLenL, pLenD, pDGet, pDGet2, pDIn, pDNotIn, sDPutP, mDPop1, mDPop2, keyD, nLst, nDic, sAsgN, sFrz, Sg.frz, endP, pureOf, pChain, mTup, mLst, mCB, isTy, sNames, setNs, anV, anN, anNil, mMake, makeF, mMakeK, mTold, mVar, pSl, oNone, oSome, mSl, sFor, iData, mOp, mUn]) ?_
        exact sSeq_er e
      simp [FRD, F_read_deeds, funOf, argVs, argV, argsOf, m1, endOf]
    | ok made =>
      rw [hq] at e
      obtain ⟨oks, ml⟩ := lines_ok hq fun l hq => ⟨(ls_ok hz l hq).1, by have := (ls_ok hz l hq).2; omega⟩
      have lz := ls_len z
      have mk : made.length ≤ 50000 := by omega
      rcases goods (sl := [some (.dat (.str z)), some (.dat (.list made)), y2, y3, y4, none, none]) (st := []) (v := 5) (by simp) made oks with ⟨Ds, em, gd⟩ | ⟨bs, eb, nb⟩
      · have dl : Ds.length ≤ 2000 := by rw [em, List.length_map] at ml; omega
        have tx := text_eq (st := []) gd dl
        have lg := lc_good (sl := [some (.dat (.str z)), some (.dat (.list made)), y2, y3, y4, none, none]) (st := []) (v := 5) (by simp) Ds gd
        have at_ := all_true Ds
        rw [← em] at tx lg
        generalize (Ds.map fun _ => PyData.bool true) = bs at lg at_
        by_cases ct : textS Ds = z
        · right
          refine ⟨Ds, gd, dl, ct, ?_⟩
          rw [ct] at tx
          have ne : fNe (.str z) (.str z) = some (.bool false) := by simp [neSS]
          have m1 : m_read_deeds F_part_in F_deeds_text ⟨[some (.dat (.str z)), none, none, none, none, none, none], []⟩ = some (.rt (.dat (.list made)), ⟨[some (.dat (.str z)), some (.dat (.list made)), y2, y3, y4, none, none], []⟩) := by
            unfold m_read_deeds
            refine sSeq_nx s1 ?_
            refine sSeq_nx (g1 := ⟨[some (.dat (.str z)), some (.ownL []), none, none, none, none, none], []⟩) (by simp [funOf, argVs, argV, argsOf, sSeq, sIf, sBind, mBP, pTst, pFld, wVar, wVal, wFld, sRaise, endOf, sNext, pOp, pC, pVar, sRet, sRetN, mP, mW, sExpr, sAsg, sAugF, insAt, sSetF, sSetFN, eBind, mCall, callF, mMeth, clsAt, noFld, notFld, aNil, aConsV, okV, okVs, asB, asI, asBv, bAnd, bOr, bNot, mTst, mAndB, mOrB, mNotB, mIf, mAnd, mOr, mNot, pAnd, pOr, pNot, pIf, pUn, pNil, pCons, pCB, pTup, pLst, pIsi, fNotN, fIsN, isNone, fEq, fNe, fEqB, fAdd, fSub, fI, fIB, fIC, fNeg, fIx, fLen, fLt, fMax2, fMin2, fInt, contAt, lstAt, dicAt, mAppP, mLPop, Sg.put, Sg.set, pLenL, pLenD, pDGet, pDGet2, pDIn, pDNotIn, sDPutP, mDPop1, mDPop2, keyD, nLst, nDic, sAsgN, sFrz, Sg.frz, endP, pureOf, pChain, mTup, mLst, mCB, isTy, sNames, setNs, anV, anN, anNil, mMake, makeF, mMakeK, mTold, mVar, pSl, oNone, oSome, mSl, sFor, iData, mOp, mUn]) ?_
            refine sSeq_nx e ?_
            refine sSeq_nx (g1 := ⟨[some (.dat (.str z)), some (.dat (.list made)), y2, y3, y4, none, none], []⟩) (by simp [pLc, iData, Sg.wipe, Sg.clr, lg, at_, mk, tx, ne, funOf, argVs, argV, argsOf, sSeq, sIf, sBind, mBP, pTst, pFld, wVar, wVal, wFld, sRaise, endOf, sNext, pOp, pC, pVar, sRet, sRetN, mP, mW, sExpr, sAsg, sAugF, insAt, sSetF, sSetFN, eBind, mCall, callF, mMeth, clsAt, noFld, notFld, aNil, aConsV, okV, okVs, asB, asI, asBv, bAnd, bOr, bNot, mTst, mAndB, mOrB, mNotB, mIf, mAnd, mOr, mNot, pAnd, pOr, pNot, pIf, pUn, pNil, pCons, pCB, pTup, pLst, pIsi, fNotN, fIsN, isNone, fEq, fEqB, fAdd, fSub, fI, fIB, fIC, fNeg, fIx, fLen, fLt, fMax2, fMin2, fInt, contAt, lstAt, dicAt, mAppP, mLPop, Sg.put, Sg.set, pLenL, pLenD, pDGet, pDGet2, pDIn, pDNotIn, sDPutP, mDPop1, mDPop2, keyD, nLst, nDic, sAsgN, sFrz, Sg.frz, endP, pureOf, pChain, mTup, mLst, mCB, isTy, sNames, setNs, anV, anN, anNil, mMake, makeF, mMakeK, mTold, mVar, pSl, oNone, oSome, mSl, sFor, iData, mOp, mUn]) ?_
            simp [funOf, argVs, argV, argsOf, sSeq, sIf, sBind, mBP, pTst, pFld, wVar, wVal, wFld, sRaise, endOf, sNext, pOp, pC, pVar, sRet, sRetN, mP, mW, sExpr, sAsg, sAugF, insAt, sSetF, sSetFN, eBind, mCall, callF, mMeth, clsAt, noFld, notFld, aNil, aConsV, okV, okVs, asB, asI, asBv, bAnd, bOr, bNot, mTst, mAndB, mOrB, mNotB, mIf, mAnd, mOr, mNot, pAnd, pOr, pNot, pIf, pUn, pNil, pCons, pCB, pTup, pLst, pIsi, fNotN, fIsN, isNone, fEq, fNe, fEqB, fAdd, fSub, fI, fIB, fIC, fNeg, fIx, fLen, fLt, fMax2, fMin2, fInt, contAt, lstAt, dicAt, mAppP, mLPop, Sg.put, Sg.set, pLenL, pLenD, pDGet, pDGet2, pDIn, pDNotIn, sDPutP, mDPop1, mDPop2, keyD, nLst, nDic, sAsgN, sFrz, Sg.frz, endP, pureOf, pChain, mTup, mLst, mCB, isTy, sNames, setNs, anV, anN, anNil, mMake, makeF, mMakeK, mTold, mVar, pSl, oNone, oSome, mSl, sFor, iData, mOp, mUn]
          rw [em] at m1
          simp [FRD, F_read_deeds, funOf, argVs, argV, argsOf, m1, endOf]
        · left
          have ne : fNe (.str (textS Ds)) (.str z) = some (.bool true) := by simp [neSS, ct]
          generalize textS Ds = tt at tx ne
          have m1 : m_read_deeds F_part_in F_deeds_text ⟨[some (.dat (.str z)), none, none, none, none, none, none], []⟩ = some (.er "NoText", ⟨[some (.dat (.str z)), some (.dat (.list made)), y2, y3, y4, none, none], []⟩) := by
            unfold m_read_deeds
            refine sSeq_nx s1 ?_
            refine sSeq_nx (g1 := ⟨[some (.dat (.str z)), some (.ownL []), none, none, none, none, none], []⟩) (by simp [funOf, argVs, argV, argsOf, sSeq, sIf, sBind, mBP, pTst, pFld, wVar, wVal, wFld, sRaise, endOf, sNext, pOp, pC, pVar, sRet, sRetN, mP, mW, sExpr, sAsg, sAugF, insAt, sSetF, sSetFN, eBind, mCall, callF, mMeth, clsAt, noFld, notFld, aNil, aConsV, okV, okVs, asB, asI, asBv, bAnd, bOr, bNot, mTst, mAndB, mOrB, mNotB, mIf, mAnd, mOr, mNot, pAnd, pOr, pNot, pIf, pUn, pNil, pCons, pCB, pTup, pLst, pIsi, fNotN, fIsN, isNone, fEq, fNe, fEqB, fAdd, fSub, fI, fIB, fIC, fNeg, fIx, fLen, fLt, fMax2, fMin2, fInt, contAt, lstAt, dicAt, mAppP, mLPop, Sg.put, Sg.set, pLenL, pLenD, pDGet, pDGet2, pDIn, pDNotIn, sDPutP, mDPop1, mDPop2, keyD, nLst, nDic, sAsgN, sFrz, Sg.frz, endP, pureOf, pChain, mTup, mLst, mCB, isTy, sNames, setNs, anV, anN, anNil, mMake, makeF, mMakeK, mTold, mVar, pSl, oNone, oSome, mSl, sFor, iData, mOp, mUn]) ?_
            refine sSeq_nx e ?_
            exact sSeq_er (by simp [pLc, iData, Sg.wipe, Sg.clr, lg, at_, mk, tx, ne, funOf, argVs, argV, argsOf, sSeq, sIf, sBind, mBP, pTst, pFld, wVar, wVal, wFld, sRaise, endOf, sNext, pOp, pC, pVar, sRet, sRetN, mP, mW, sExpr, sAsg, sAugF, insAt, sSetF, sSetFN, eBind, mCall, callF, mMeth, clsAt, noFld, notFld, aNil, aConsV, okV, okVs, asB, asI, asBv, bAnd, bOr, bNot, mTst, mAndB, mOrB, mNotB, mIf, mAnd, mOr, mNot, pAnd, pOr, pNot, pIf, pUn, pNil, pCons, pCB, pTup, pLst, pIsi, fNotN, fIsN, isNone, fEq, fEqB, fAdd, fSub, fI, fIB, fIC, fNeg, fIx, fLen, fLt, fMax2, fMin2, fInt, contAt, lstAt, dicAt, mAppP, mLPop, Sg.put, Sg.set, pLenL, pLenD, pDGet, pDGet2, pDIn, pDNotIn, sDPutP, mDPop1, mDPop2, keyD, nLst, nDic, sAsgN, sFrz, Sg.frz, endP, pureOf, pChain, mTup, mLst, mCB, isTy, sNames, setNs, anV, anN, anNil, mMake, makeF, mMakeK, mTold, mVar, pSl, oNone, oSome, mSl, sFor, iData, mOp, mUn])
          simp [FRD, F_read_deeds, funOf, argVs, argV, argsOf, m1, endOf]
      · left
        have bm := bools_map bs
        rw [nb] at bm
        generalize bs.map PyData.bool = bd at eb bm
        have m1 : m_read_deeds F_part_in F_deeds_text ⟨[some (.dat (.str z)), none, none, none, none, none, none], []⟩ = some (.er "NoText", ⟨[some (.dat (.str z)), some (.dat (.list made)), y2, y3, y4, none, none], []⟩) := by
          unfold m_read_deeds
          refine sSeq_nx s1 ?_
          refine sSeq_nx (g1 := ⟨[some (.dat (.str z)), some (.ownL []), none, none, none, none, none], []⟩) (by simp [funOf, argVs, argV, argsOf, sSeq, sIf, sBind, mBP, pTst, pFld, wVar, wVal, wFld, sRaise, endOf, sNext, pOp, pC, pVar, sRet, sRetN, mP, mW, sExpr, sAsg, sAugF, insAt, sSetF, sSetFN, eBind, mCall, callF, mMeth, clsAt, noFld, notFld, aNil, aConsV, okV, okVs, asB, asI, asBv, bAnd, bOr, bNot, mTst, mAndB, mOrB, mNotB, mIf, mAnd, mOr, mNot, pAnd, pOr, pNot, pIf, pUn, pNil, pCons, pCB, pTup, pLst, pIsi, fNotN, fIsN, isNone, fEq, fNe, fEqB, fAdd, fSub, fI, fIB, fIC, fNeg, fIx, fLen, fLt, fMax2, fMin2, fInt, contAt, lstAt, dicAt, mAppP, mLPop, Sg.put, Sg.set, pLenL, pLenD, pDGet, pDGet2, pDIn, pDNotIn, sDPutP, mDPop1, mDPop2, keyD, nLst, nDic, sAsgN, sFrz, Sg.frz, endP, pureOf, pChain, mTup, mLst, mCB, isTy, sNames, setNs, anV, anN, anNil, mMake, makeF, mMakeK, mTold, mVar, pSl, oNone, oSome, mSl, sFor, iData, mOp, mUn]) ?_
          refine sSeq_nx e ?_
          exact sSeq_er (by simp [pLc, iData, Sg.wipe, Sg.clr, eb, bm, mk, funOf, argVs, argV, argsOf, sSeq, sIf, sBind, mBP, pTst, pFld, wVar, wVal, wFld, sRaise, endOf, sNext, pOp, pC, pVar, sRet, sRetN, mP, mW, sExpr, sAsg, sAugF, insAt, sSetF, sSetFN, eBind, mCall, callF, mMeth, clsAt, noFld, notFld, aNil, aConsV, okV, okVs, asB, asI, asBv, bAnd, bOr, bNot, mTst, mAndB, mOrB, mNotB, mIf, mAnd, mOr, mNot, pAnd, pOr, pNot, pIf, pUn, pNil, pCons, pCB, pTup, pLst, pIsi, fNotN, fIsN, isNone, fEq, fEqB, fAdd, fSub, fI, fIB, fIC, fNeg, fIx, fLen, fLt, fMax2, fMin2, fInt, contAt, lstAt, dicAt, mAppP, mLPop, Sg.put, Sg.set, pLenL, pLenD, pDGet, pDGet2, pDIn, pDNotIn, sDPutP, mDPop1, mDPop2, keyD, nLst, nDic, sAsgN, sFrz, Sg.frz, endP, pureOf, pChain, mTup, mLst, mCB, isTy, sNames, setNs, anV, anN, anNil, mMake, makeF, mMakeK, mTold, mVar, pSl, oNone, oSome, mSl, sFor, iData, mOp, mUn])
        simp [FRD, F_read_deeds, funOf, argVs, argV, argsOf, m1, endOf]
theorem read_ok {z : Str} {Ds : List Deed} (hz : PyData.strOk z = true) (hl : z.length ≤ 1900) (he : EndsNl z = true) (hq : linesP (lsOf z) = .ok (Ds.map deedD)) (gd : ∀ D ∈ Ds, Good D) (dl : Ds.length ≤ 2000) (ct : textS Ds = z) : FRD [.dat (.str z)] [] = some (.ok (.dat (.list (Ds.map deedD))), []) := by
  have c1 := c1_eq (z := z) (r := [none, none, none, none, none, none]) (by omega)
  rw [he] at c1
  obtain ⟨y2, y3, y4, m', e⟩ := read_step hz hl he
  have s1 : sIf c1R (sRaise "NoText") sNext ⟨[some (.dat (.str z)), none, none, none, none, none, none], []⟩ = some (.nx, ⟨[some (.dat (.str z)), none, none, none, none, none, none], []⟩) := by
    simp [sIf, sBind, c1, sNext]
  rw [hq] at e
  have mk : (Ds.map deedD).length ≤ 50000 := by rw [List.length_map]; omega
  have tx := text_eq (st := []) gd dl
  have lg := lc_good (sl := [some (.dat (.str z)), some (.dat (.list (Ds.map deedD))), y2, y3, y4, none, none]) (st := []) (v := 5) (by simp) Ds gd
  have at_ := all_true Ds
  generalize (Ds.map fun _ => PyData.bool true) = bs at lg at_
  rw [ct] at tx
  generalize Ds.map deedD = made at tx lg mk e ⊢
  have ne : fNe (.str z) (.str z) = some (.bool false) := by simp [neSS]
  have m1 : m_read_deeds F_part_in F_deeds_text ⟨[some (.dat (.str z)), none, none, none, none, none, none], []⟩ = some (.rt (.dat (.list made)), ⟨[some (.dat (.str z)), some (.dat (.list made)), y2, y3, y4, none, none], []⟩) := by
    unfold m_read_deeds
    refine sSeq_nx s1 ?_
    refine sSeq_nx (g1 := ⟨[some (.dat (.str z)), some (.ownL []), none, none, none, none, none], []⟩) (by simp [funOf, argVs, argV, argsOf, sSeq, sIf, sBind, mBP, pTst, pFld, wVar, wVal, wFld, sRaise, endOf, sNext, pOp, pC, pVar, sRet, sRetN, mP, mW, sExpr, sAsg, sAugF, insAt, sSetF, sSetFN, eBind, mCall, callF, mMeth, clsAt, noFld, notFld, aNil, aConsV, okV, okVs, asB, asI, asBv, bAnd, bOr, bNot, mTst, mAndB, mOrB, mNotB, mIf, mAnd, mOr, mNot, pAnd, pOr, pNot, pIf, pUn, pNil, pCons, pCB, pTup, pLst, pIsi, fNotN, fIsN, isNone, fEq, fNe, fEqB, fAdd, fSub, fI, fIB, fIC, fNeg, fIx, fLen, fLt, fMax2, fMin2, fInt, contAt, lstAt, dicAt, mAppP, mLPop, Sg.put, Sg.set, pLenL, pLenD, pDGet, pDGet2, pDIn, pDNotIn, sDPutP, mDPop1, mDPop2, keyD, nLst, nDic, sAsgN, sFrz, Sg.frz, endP, pureOf, pChain, mTup, mLst, mCB, isTy, sNames, setNs, anV, anN, anNil, mMake, makeF, mMakeK, mTold, mVar, pSl, oNone, oSome, mSl, sFor, iData, mOp, mUn]) ?_
    refine sSeq_nx e ?_
    refine sSeq_nx (g1 := ⟨[some (.dat (.str z)), some (.dat (.list made)), y2, y3, y4, none, none], []⟩) (by simp [pLc, iData, Sg.wipe, Sg.clr, lg, at_, mk, tx, ne, funOf, argVs, argV, argsOf, sSeq, sIf, sBind, mBP, pTst, pFld, wVar, wVal, wFld, sRaise, endOf, sNext, pOp, pC, pVar, sRet, sRetN, mP, mW, sExpr, sAsg, sAugF, insAt, sSetF, sSetFN, eBind, mCall, callF, mMeth, clsAt, noFld, notFld, aNil, aConsV, okV, okVs, asB, asI, asBv, bAnd, bOr, bNot, mTst, mAndB, mOrB, mNotB, mIf, mAnd, mOr, mNot, pAnd, pOr, pNot, pIf, pUn, pNil, pCons, pCB, pTup, pLst, pIsi, fNotN, fIsN, isNone, fEq, fEqB, fAdd, fSub, fI, fIB, fIC, fNeg, fIx, fLen, fLt, fMax2, fMin2, fInt, contAt, lstAt, dicAt, mAppP, mLPop, Sg.put, Sg.set, pLenL, pLenD, pDGet, pDGet2, pDIn, pDNotIn, sDPutP, mDPop1, mDPop2, keyD, nLst, nDic, sAsgN, sFrz, Sg.frz, endP, pureOf, pChain, mTup, mLst, mCB, isTy, sNames, setNs, anV, anN, anNil, mMake, makeF, mMakeK, mTold, mVar, pSl, oNone, oSome, mSl, sFor, iData, mOp, mUn]) ?_
    simp [funOf, argVs, argV, argsOf, sSeq, sIf, sBind, mBP, pTst, pFld, wVar, wVal, wFld, sRaise, endOf, sNext, pOp, pC, pVar, sRet, sRetN, mP, mW, sExpr, sAsg, sAugF, insAt, sSetF, sSetFN, eBind, mCall, callF, mMeth, clsAt, noFld, notFld, aNil, aConsV, okV, okVs, asB, asI, asBv, bAnd, bOr, bNot, mTst, mAndB, mOrB, mNotB, mIf, mAnd, mOr, mNot, pAnd, pOr, pNot, pIf, pUn, pNil, pCons, pCB, pTup, pLst, pIsi, fNotN, fIsN, isNone, fEq, fNe, fEqB, fAdd, fSub, fI, fIB, fIC, fNeg, fIx, fLen, fLt, fMax2, fMin2, fInt, contAt, lstAt, dicAt, mAppP, mLPop, Sg.put, Sg.set, pLenL, pLenD, pDGet, pDGet2, pDIn, pDNotIn, sDPutP, mDPop1, mDPop2, keyD, nLst, nDic, sAsgN, sFrz, Sg.frz, endP, pureOf, pChain, mTup, mLst, mCB, isTy, sNames, setNs, anV, anN, anNil, mMake, makeF, mMakeK, mTold, mVar, pSl, oNone, oSome, mSl, sFor, iData, mOp, mUn]
  simp [FRD, F_read_deeds, funOf, argVs, argV, argsOf, m1, endOf]
end EV

/-! ### the law k63: what is written is read -/
namespace EV
open PySem PySem.Spec PyProof.Rows L2 Evl L2H LamX LR
theorem sp_tl : wSp.cps.toList = [32] := by decide +kernel
theorem nl_tl : wNl.cps.toList = [10] := by decide +kernel
theorem mem_joinL {S : List Nat} {c : Nat} : ∀ {l : List (List Nat)}, c ∈ TL.joinL S l → c ∈ S ∨ ∃ p ∈ l, c ∈ p
  | [], h => by cases h
  | [x], h => .inr ⟨x, List.mem_singleton_self _, h⟩
  | x :: z :: r, h => by
    have h : c ∈ x ++ (S ++ TL.joinL S (z :: r)) := h
    rcases List.mem_append.mp h with h | h
    · exact .inr ⟨x, List.mem_cons_self, h⟩
    · rcases List.mem_append.mp h with h | h
      · exact .inl h
      · rcases mem_joinL h with h | ⟨p, hp, hc⟩
        · exact .inl h
        · exact .inr ⟨p, List.mem_cons_of_mem _ hp, hc⟩
theorem join_tl (y : Str) (l : List Str) : (Txt.join y l).cps.toList = TL.joinL y.cps.toList (l.map fun z => z.cps.toList) := by
  rw [TL.join_eq]
  exact TL.tl_join y l
theorem body_ch {D : Deed} (h : Good D) {c : Nat} (hc : c ∈ (bodyS D).cps.toList) : c ≠ 10 ∧ c < 1114112 := by
  unfold bodyS at hc
  rw [join_tl, sp_tl] at hc
  rcases mem_joinL hc with hc | ⟨p, hp, hc⟩
  · rw [List.mem_singleton.mp hc]
    decide
  · obtain ⟨z, hz, rfl⟩ := List.mem_map.mp hp
    obtain ⟨_, h1, _, h3⟩ := words_clean h z hz
    refine ⟨fun e => h1 (e ▸ hc), ?_⟩
    unfold PyData.strOk at h3
    rw [Array.all_eq_true_iff_forall_mem] at h3
    exact of_decide_eq_true (h3 c (Array.mem_toList_iff.mp hc))
theorem text_tl (Ds : List Deed) : (textS Ds).cps.toList = (Ds.map fun D => (bodyS D).cps.toList ++ [10]).flatten := by
  have e : textS Ds = mk ((Ds.map lineS).map fun z => z.cps.toList).flatten := join0 (Ds.map lineS)
  rw [e, tl_mk', List.map_map]
  congr 1
  refine List.map_congr_left fun D _ => ?_
  show (bodyS D ++ wNl).cps.toList = _
  rw [tl_app, nl_tl]
theorem text_join (Ds : List Deed) : textS Ds = Txt.join wNl (Ds.map bodyS ++ [wNone]) := by
  refine str_tl ?_
  rw [text_tl, join_tl, nl_tl]
  induction Ds with
  | nil => decide +kernel
  | cons D r ih =>
    rw [List.map_cons, List.flatten_cons, ih]
    cases r with
    | nil =>
      show ((bodyS D).cps.toList ++ [10]) ++ _ = (bodyS D).cps.toList ++ ([10] ++ _)
      rw [List.append_assoc]
      rfl
    | cons D2 q =>
      show ((bodyS D).cps.toList ++ [10]) ++ _ = (bodyS D).cps.toList ++ ([10] ++ _)
      rw [List.append_assoc]
      rfl
theorem text_split {Ds : List Deed} (h : ∀ D ∈ Ds, Good D) : lsOf (textS Ds) = Ds.map bodyS := by
  have sp : Txt.split (textS Ds) wNl = Ds.map bodyS ++ [wNone] := by
    rw [text_join]
    refine TL.split_join (s := 10) (S := []) nl_tl (by decide +kernel) (by simp) fun p hp m => ?_
    rcases List.mem_append.mp hp with hp | hp
    · obtain ⟨D, hD, rfl⟩ := List.mem_map.mp hp
      exact (body_ch (h D hD) m).1 rfl
    · rw [List.mem_singleton.mp hp] at m
      exact absurd m (by decide +kernel)
  unfold lsOf
  rw [sp, List.dropLast_concat]
theorem body_split {D : Deed} (h : Good D) : Txt.split (bodyS D) wSp = wordsOf D := TL.split_join (s := 32) (S := []) sp_tl (by decide +kernel) (words_len D).2 fun p hp m => (words_clean h p hp).2.2.1 m
theorem key_ne {k : Str} (h : isKeyS k = true) : k ≠ wNone ∧ k ≠ wDash := by
  refine ⟨fun e => ?_, fun e => ?_⟩
  · subst e; revert h; decide +kernel
  · subst e; revert h; decide +kernel
theorem val_ne {k : Str} (h : isValS k = true) : k ≠ wDash := fun e => by subst e; revert h; decide +kernel
theorem part_put (p : Str) : partP wPut p = .ok (.str (if p = wDash then wNone else p)) := by
  unfold partP
  rw [if_neg nw_put.1, if_neg nw_put.2]
theorem part_drop (p : Str) : partP wDrop p = .ok (.str (if p = wDash then wNone else p)) := by
  unfold partP
  rw [if_neg nw_drop.1, if_neg nw_drop.2]
def walkB (b : Bool) : Bool := match partP wWalk (wordOf (.bool b)) with
  | .ok (.bool c) => c == b
  | _ => false
theorem walk_back : walkB true = true ∧ walkB false = true := by decide +kernel
def numB (w : Str) (i : Int) : Bool := match partP w (wordOf (.int i)) with
  | .ok (.int j) => decide (j = i)
  | _ => false
theorem num_back : nums.all (fun w => ([1, 2, 3, 4, 5, 6, 7, 8, 9] : List Int).all fun i => numB w i) = true := by decide +kernel
theorem words_cons {D : Deed} (h : Good D) : wordsOf D = word0 D :: (parts D).map wordOf := by
  have e : wordOf (.str (word0 D)) = word0 D := by
    cases D with
    | put k v => show wordOf (.str wPut) = wPut; decide +kernel
    | drop k => show wordOf (.str wDrop) = wDrop; decide +kernel
    | bare w => exact (cl_bares w h).1
    | walk b => show wordOf (.str wWalk) = wWalk; decide +kernel
    | num w i => exact (cl_nums w h.1).1
  unfold wordsOf
  rw [List.map_cons, e]
theorem parts_back {D : Deed} (h : Good D) : partsP (word0 D) ((parts D).map wordOf) = .ok (parts D) := by
  cases D with
  | put k v =>
    have e1 : wordOf (.str k) = k := if_neg (key_ne h.1).1
    have e2 : partP wPut (wordOf (.str v)) = .ok (.str v) := by
      rw [part_put]
      by_cases c : v = wNone
      · have : wordOf (.str v) = wDash := if_pos c
        rw [this, if_pos rfl, c]
      · have : wordOf (.str v) = v := if_neg c
        rw [this, if_neg (val_ne h.2)]
    have e3 : partP wPut (wordOf (.str k)) = .ok (.str k) := by rw [e1, part_put, if_neg (key_ne h.1).2]
    show partsP wPut [wordOf (.str k), wordOf (.str v)] = _
    simp [partsP, e2, e3, parts]
  | drop k =>
    have e1 : wordOf (.str k) = k := if_neg (key_ne h).1
    have e3 : partP wDrop (wordOf (.str k)) = .ok (.str k) := by rw [e1, part_drop, if_neg (key_ne h).2]
    show partsP wDrop [wordOf (.str k)] = _
    simp [partsP, e3, parts]
  | bare w => rfl
  | walk b =>
    have hb : walkB b = true := by cases b <;> simp [walk_back]
    have e : partP wWalk (wordOf (.bool b)) = .ok (.bool b) := by
      unfold walkB at hb
      split at hb
      · rename_i c e
        rw [e, beq_iff_eq.mp hb]
      · cases hb
    show partsP wWalk [wordOf (.bool b)] = _
    simp [partsP, e, parts]
  | num w i =>
    have hb := List.all_eq_true.mp (List.all_eq_true.mp num_back w h.1) i (nine h.2.1 h.2.2)
    have e : partP w (wordOf (.int i)) = .ok (.int i) := by
      unfold numB at hb
      split at hb
      · rename_i c e
        rw [e, of_decide_eq_true hb]
      · cases hb
    show partsP w [wordOf (.int i)] = _
    simp [partsP, e, parts]
theorem line_back {D : Deed} (h : Good D) : lineP (bodyS D) = .ok (deedD D) := by
  unfold lineP
  rw [body_split h, words_cons h]
  show (match partsP (word0 D) ((parts D).map wordOf) with
    | .ok ds => Except.ok (PyData.tuple (.str (word0 D) :: ds))
    | .error x => .error x) = _
  rw [parts_back h]
  rfl
theorem lines_back : ∀ {Ds : List Deed}, (∀ D ∈ Ds, Good D) → linesP (Ds.map bodyS) = .ok (Ds.map deedD)
  | [], _ => rfl
  | D :: r, h => by
    have e := line_back (h D List.mem_cons_self)
    have e2 := lines_back (Ds := r) fun q hq => h q (List.mem_cons_of_mem _ hq)
    rw [List.map_cons]
    unfold linesP
    rw [e]
    simp only [e2]
    rfl
theorem text_ends (Ds : List Deed) : EndsNl (textS Ds) = true := by
  unfold EndsNl
  cases hD : Ds with
  | nil => rw [decide_eq_true (by decide +kernel : textS [] = wNone)]; rfl
  | cons D r =>
    have : ∀ (l : List Deed), l ≠ [] → ((l.map fun D => (bodyS D).cps.toList ++ [10]).flatten).getLast? = some 10 := by
      intro l
      induction l with
      | nil => intro h; exact absurd rfl h
      | cons a q ih =>
        intro _
        rw [List.map_cons, List.flatten_cons, List.getLast?_append]
        cases q with
        | nil => simp
        | cons b q2 => rw [ih (by simp)]; rfl
    rw [text_tl, this (D :: r) (by simp)]
    simp
theorem text_len {Ds : List Deed} (h : ∀ D ∈ Ds, Good D) : (textS Ds).length ≤ Ds.length * 40 := by
  have h1 := join_len wNone (Ds.map lineS)
  have h2 := sum_le (b := 40) (l := Ds.map lineS) fun z hz => by
    obtain ⟨D, hD, rfl⟩ := List.mem_map.mp hz
    exact line_len (h D hD)
  have h3 : wNone.length = 0 := by decide +kernel
  rw [h3, Nat.mul_zero, Nat.add_zero] at h1
  rw [List.length_map] at h2
  exact Nat.le_trans h1 h2
theorem text_ok {Ds : List Deed} (h : ∀ D ∈ Ds, Good D) : PyData.strOk (textS Ds) = true := by
  unfold PyData.strOk
  rw [Array.all_eq_true_iff_forall_mem]
  intro c hc
  have hc : c ∈ (textS Ds).cps.toList := Array.mem_toList_iff.mpr hc
  rw [text_tl] at hc
  obtain ⟨l, hl, hc⟩ := List.mem_flatten.mp hc
  obtain ⟨D, hD, rfl⟩ := List.mem_map.mp hl
  rcases List.mem_append.mp hc with hc | hc
  · exact decide_eq_true (body_ch (h D hD) hc).2
  · rw [List.mem_singleton.mp hc]
    decide
theorem read_text {Ds : List Deed} (h : ∀ D ∈ Ds, Good D) (hl : Ds.length ≤ 40) : FRD [.dat (.str (textS Ds))] [] = some (.ok (.dat (.list (Ds.map deedD))), []) := by
  refine read_ok (text_ok h) (by have := text_len h; omega) (text_ends Ds) ?_ h (by omega) rfl
  rw [text_split h]
  exact lines_back h
end EV

/-! ### the law k63: its loops -/
namespace EV
open PySem PySem.Spec PyProof.Rows L2 Evl L2H LamX LR
abbrev B1L := b1_law F_deeds_text FRD
abbrev B2L := b2_law F_deeds_text FRD
abbrev B3L := b3_law F_deeds_text FRD
abbrev B4L := b4_law F_deeds_text FRD
abbrev B5L := b5_law F_deeds_text FRD
abbrev B6L := b6_law F_deeds_text FRD
theorem forL_step {gm : GM} {b : SM} {d : PyData} {ds : List PyData} {g g1 g2 : Sg} {r : Option (Flo × Sg)} (h1 : gm d g = some g1) (h2 : b g1 = some (.nx, g2)) (h3 : forL gm b ds g2 = r) : forL gm b (d :: ds) g = r := by
  unfold forL
  rw [h1]
  show (b g1).bind _ = _
  rw [h2]
  exact h3
theorem lawKey_key (ns : List Int) (k : Int) : isKeyS (lawKey ns k) = true := by
  obtain ⟨h1, h2⟩ := lawKey_len ns k
  have e : smallS.cps.toList = (List.range 26).map (97 + ·) := by decide +kernel
  unfold isKeyS
  rw [decide_eq_true h1, decide_eq_true h2, Bool.true_and, Bool.true_and, List.all_eq_true]
  intro c hc
  have := keyL_small ns k c hc
  rw [e]
  exact decide_eq_true (List.mem_map.mpr ⟨c - 97, List.mem_range.mpr (by omega), by omega⟩)
def cand (k v : Str) (i : Int) : List Deed := [.put k v, .put k wNone, .drop k, .bare (Str.ofString "begin"), .bare (Str.ofString "commit"), .bare (Str.ofString "cancel"), .walk true, .walk false, .num wStep i, .num wEnd i, .bare (Str.ofString "squeeze")]
theorem cand_good {k v : Str} {i : Int} (hk : isKeyS k = true) (hv : isValS v = true) (h0 : 1 ≤ i) (h1 : i ≤ 9) : ∀ D ∈ cand k v i, Good D := by
  intro D hD
  have v0 : isValS wNone = true := by decide +kernel
  simp only [cand, List.mem_cons, List.not_mem_nil, or_false] at hD
  rcases hD with rfl | rfl | rfl | rfl | rfl | rfl | rfl | rfl | rfl | rfl | rfl
  · exact ⟨hk, hv⟩
  · exact ⟨hk, v0⟩
  · exact hk
  · show _ ∈ bares; simp [bares]
  · show _ ∈ bares; simp [bares]
  · show _ ∈ bares; simp [bares]
  · trivial
  · trivial
  · exact ⟨by simp [nums], h0, h1⟩
  · exact ⟨by simp [nums], h0, h1⟩
  · show _ ∈ bares; simp [bares]
theorem at_map {l : List Deed} {j : Int} (h0 : 0 ≤ j) (h1 : j < (l.length : Int)) : ∃ D ∈ l, atI (l.map deedD) j = some (deedD D) := by
  have hj : j.toNat < l.length := by omega
  refine ⟨l[j.toNat], List.getElem_mem hj, ?_⟩
  unfold atI ixN
  rw [List.length_map, if_pos h0, if_pos h1]
  show (l.map deedD)[j.toNat]? = _
  rw [List.getElem?_map, List.getElem?_eq_getElem hj]
  rfl
theorem k63_loop1 {ns : List Int} (hns : ns.length ≤ 63) {x3 x4 x5 x6 x7 x10 x11 x12 x15 x16 x17 : Option Val} : ∀ (ks : List Nat), (∀ k ∈ ks, k < 15) → ∀ (Ds : List Deed) (x2 x8 x9 x13 x14 : Option Val), (∀ D ∈ Ds, Good D) → Ds.length + ks.length ≤ 100 →
    ∃ (Ds' : List Deed) (y2 y8 y9 y13 y14 : Option Val), forL (gmName 2) B1L (ks.map fun (k : Nat) => .int (k : Int)) ⟨[some (.dat (scrD ns)), some (.ownL (Ds.map deedD)), x2, x3, x4, x5, x6, x7, x8, x9, x10, x11, x12, x13, x14, x15, x16, x17], []⟩ = some (.nx, ⟨[some (.dat (scrD ns)), some (.ownL (Ds'.map deedD)), y2, x3, x4, x5, x6, x7, y8, y9, x10, x11, x12, y13, y14, x15, x16, x17], []⟩) ∧ (∀ D ∈ Ds', Good D) ∧ Ds'.length = Ds.length + ks.length
  | [], _, Ds, x2, x8, x9, x13, x14, hd, _ => ⟨Ds, x2, x8, x9, x13, x14, rfl, hd, rfl⟩
  | k :: r, hk, Ds, x2, x8, x9, x13, x14, hd, hl => by
    have k15 := hk k List.mem_cons_self
    rw [List.length_cons] at hl
    have fk := fo_key (ns := ns) (k := 10 + 30 * (k : Int)) hns (by omega) (by omega)
    have fv := fo_value (ns := ns) (k := 10 + 30 * (k : Int) + 14) hns (by omega) (by omega)
    have hkey := lawKey_key ns (10 + 30 * (k : Int))
    have hval := lawVal_val ns (10 + 30 * (k : Int) + 14)
    have ni := fo_pick (ns := ns) (k := 10 + 30 * (k : Int) + 13) (many := 9) hns (by omega) (by omega) (by decide)
    have n0 := pick_lo ns (10 + 30 * (k : Int) + 13) (many := 9) (by decide)
    have n1 := pick_hi ns (10 + 30 * (k : Int) + 13) (many := 9) (by decide)
    have ji := fo_pick (ns := ns) (k := 10 + 30 * (k : Int) + 20) (many := 11) hns (by omega) (by omega) (by decide)
    have j0 := pick_lo ns (10 + 30 * (k : Int) + 20) (many := 11) (by decide)
    have j1 := pick_hi ns (10 + 30 * (k : Int) + 20) (many := 11) (by decide)
    generalize lawKey ns (10 + 30 * (k : Int)) = ke at fk hkey
    generalize lawVal ns (10 + 30 * (k : Int) + 14) = va at fv hval
    generalize pick ns (10 + 30 * (k : Int) + 13) 9 = nn at ni n0 n1
    generalize pick ns (10 + 30 * (k : Int) + 20) 11 = j at ji j0 j1
    have gd := cand_good (i := 1 + nn) hkey hval (by omega) (by omega)
    obtain ⟨D, hD, ha⟩ := at_map (l := cand ke va (1 + nn)) j0 (by show j < 11; omega)
    have gD := gd D hD
    have ha' : atI ([PyData.tuple [.str (Str.ofString "put"), .str ke, .str va], .tuple [.str (Str.ofString "put"), .str ke, .str (Str.ofString "")], .tuple [.str (Str.ofString "drop"), .str ke], .tuple [.str (Str.ofString "begin")], .tuple [.str (Str.ofString "commit")], .tuple [.str (Str.ofString "cancel")], .tuple [.str (Str.ofString "walk"), .bool true], .tuple [.str (Str.ofString "walk"), .bool false], .tuple [.str (Str.ofString "step"), .int (1 + nn)], .tuple [.str (Str.ofString "end"), .int (1 + nn)], .tuple [.str (Str.ofString "squeeze")]]) j = some (deedD D) := ha
    obtain ⟨Ds', z2, z8, z9, z13, z14, e2, g2, l2⟩ := k63_loop1 hns (x3 := x3) (x4 := x4) (x5 := x5) (x6 := x6) (x7 := x7) (x10 := x10) (x11 := x11) (x12 := x12) (x15 := x15) (x16 := x16) (x17 := x17) r (fun q hq => hk q (List.mem_cons_of_mem _ hq)) (Ds ++ [D]) (some (.dat (.int (k : Int)))) (some (.dat (.int (10 + 30 * (k : Int))))) (some (.ownL ((cand ke va (1 + nn)).map deedD))) (some (.dat (.str ke))) (some (.dat (.int (1 + nn)))) (fun q hq => (List.mem_append.mp hq).elim (hd q) fun e => by rw [List.mem_singleton.mp e]; exact gD) (by rw [List.length_append, List.length_singleton]; omega)
    refine ⟨Ds', z2, z8, z9, z13, z14, ?_, g2, by rw [l2, List.length_append, List.length_singleton, List.length_cons]; omega⟩
    have m30 : fMul (.int 30) (.int (k : Int)) = some (.int (30 * (k : Int))) := by simp [fMul]
    have ll : (Ds.map deedD).length < 100000 := by rw [List.length_map]; omega
    have ap : Ds.map deedD ++ [deedD D] = (Ds ++ [D]).map deedD := by rw [List.map_append]; rfl
    have bd : B1L ⟨[some (.dat (scrD ns)), some (.ownL (Ds.map deedD)), some (.dat (.int (k : Int))), x3, x4, x5, x6, x7, x8, x9, x10, x11, x12, x13, x14, x15, x16, x17], []⟩ = some (.nx, ⟨[some (.dat (scrD ns)), some (.ownL ((Ds ++ [D]).map deedD)), some (.dat (.int (k : Int))), x3, x4, x5, x6, x7, some (.dat (.int (10 + 30 * (k : Int)))), some (.ownL ((cand ke va (1 + nn)).map deedD)), x10, x11, x12, some (.dat (.str ke)), some (.dat (.int (1 + nn))), x15, x16, x17], []⟩) := by
      generalize Ds.map deedD = dd at ll ap
      rw [← ap]
      have cc : (cand ke va (1 + nn)).map deedD = [PyData.tuple [.str (Str.ofString "put"), .str ke, .str va], .tuple [.str (Str.ofString "put"), .str ke, .str (Str.ofString "")], .tuple [.str (Str.ofString "drop"), .str ke], .tuple [.str (Str.ofString "begin")], .tuple [.str (Str.ofString "commit")], .tuple [.str (Str.ofString "cancel")], .tuple [.str (Str.ofString "walk"), .bool true], .tuple [.str (Str.ofString "walk"), .bool false], .tuple [.str (Str.ofString "step"), .int (1 + nn)], .tuple [.str (Str.ofString "end"), .int (1 + nn)], .tuple [.str (Str.ofString "squeeze")]] := rfl
      rw [cc]
      generalize deedD D = dD at ha'
      simp [B1L, b1_law, m30, fk, fv, ni, ji, mExtP, pIxL, ha', ll, funOf, argVs, argV, argsOf, sSeq, sIf, sBind, mBP, pTst, pFld, wVar, wVal, wFld, sRaise, endOf, sNext, pOp, pC, pVar, sRet, sRetN, mP, mW, sExpr, sAsg, sAugF, insAt, sSetF, sSetFN, eBind, mCall, callF, mMeth, clsAt, noFld, notFld, aNil, aConsV, okV, okVs, asB, asI, asBv, bAnd, bOr, bNot, mTst, mAndB, mOrB, mNotB, mIf, mAnd, mOr, mNot, pAnd, pOr, pNot, pIf, pUn, pNil, pCons, pCB, pTup, pLst, pIsi, fNotN, fIsN, isNone, fEq, fNe, fEqB, fAdd, fSub, fI, fIB, fIC, fNeg, fIx, fLen, fLt, fMax2, fMin2, fInt, contAt, lstAt, dicAt, mAppP, mLPop, Sg.put, Sg.set, pLenL, pLenD, pDGet, pDGet2, pDIn, pDNotIn, sDPutP, mDPop1, mDPop2, keyD, nLst, nDic, sAsgN, sFrz, Sg.frz, endP, pureOf, pChain, mTup, mLst, mCB, isTy, sNames, setNs, anV, anN, anNil, mMake, makeF, mMakeK, mTold, mVar, pSl, oNone, oSome, mSl, sFor, iData, mOp, mUn]
    exact forL_step rfl bd e2
end EV

/-! ### the law k63: what is due -/
namespace EV
open PySem PySem.Spec PyProof.Rows L2 Evl L2H LamX LR
abbrev kvsL : List (Str × Str) := [(Str.ofString "", Str.ofString "-"), (Str.ofString "True", Str.ofString "moment"), (Str.ofString "False", Str.ofString "now")]
abbrev wTrue : Str := Str.ofString "True"
abbrev wFalse : Str := Str.ofString "False"
def look3 (l : List (Key × V)) : List (Str × Str) := l.filterMap fun p => match p.1, p.2 with
  | .inr k, .str v => some (k, v)
  | _, _ => none
theorem disp_list : dispK kvsL = [(Sum.inr wNone, V.str wDash), (Sum.inr wTrue, V.str wMom), (Sum.inr wFalse, V.str wNow)] := by
  have h1 : ¬ (wNone = wTrue) := by decide +kernel
  have h2 : ¬ (wNone = wFalse) := by decide +kernel
  have h3 : ¬ (wTrue = wFalse) := by decide +kernel
  unfold dispK mergeK
  simp [putK, h1, h2, h3]
theorem disp_none {z : Str} (h1 : z ≠ wNone) (h2 : z ≠ wTrue) (h3 : z ≠ wFalse) : valV (dispK kvsL) (.inr z) = none := by
  rw [disp_list]
  have a1 : ¬ (wNone = z) := fun e => h1 e.symm
  have a2 : ¬ (wTrue = z) := fun e => h2 e.symm
  have a3 : ¬ (wFalse = z) := fun e => h3 e.symm
  simp [valV, List.find?_cons, a1, a2, a3]
def isSome3 (r : Option V) (z : Str) : Bool := match r with
  | some (.str v) => decide (v = z)
  | _ => false
theorem of_some3 {r : Option V} {z : Str} (h : isSome3 r z = true) : r = some (.str z) := by
  unfold isSome3 at h
  split at h
  · rw [of_decide_eq_true h]
  · cases h
theorem disp_three : valV (dispK kvsL) (.inr wNone) = some (.str wDash) ∧ valV (dispK kvsL) (.inr wTrue) = some (.str wMom) ∧ valV (dispK kvsL) (.inr wFalse) = some (.str wNow) := by
  rw [disp_list]
  have h1 : ¬ (wNone = wTrue) := by decide +kernel
  have h2 : ¬ (wNone = wFalse) := by decide +kernel
  have h3 : ¬ (wTrue = wFalse) := by decide +kernel
  simp [valV, List.find?_cons, h1, h2, h3]
/-- what the law makes of a part -/
def dueP (d : PyData) : Option PyData := (fStr [d]).bind fun e => match e with
  | .str z => (match valV (dispK kvsL) (.inr z) with
    | none => some e
    | some (.str v) => some (.str v)
    | some _ => none)
  | _ => none
theorem due_str {z : Str} (h2 : z ≠ wTrue) (h3 : z ≠ wFalse) : dueP (.str z) = some (.str (wordOf (.str z))) := by
  show (match valV (dispK kvsL) (.inr z) with
    | none => some (PyData.str z)
    | some (.str v) => some (.str v)
    | some _ => none) = _
  by_cases c : z = wNone
  · rw [c, disp_three.1]
    rfl
  · rw [disp_none c h2 h3]
    exact congrArg some (congrArg PyData.str (if_neg c).symm)
theorem due_bool (b : Bool) : dueP (.bool b) = some (.str (wordOf (.bool b))) := by
  cases b
  · show (match valV (dispK kvsL) (.inr wFalse) with
      | none => some (PyData.str wFalse)
      | some (.str v) => some (.str v)
      | some _ => none) = _
    rw [disp_three.2.2]
    rfl
  · show (match valV (dispK kvsL) (.inr wTrue) with
      | none => some (PyData.str wTrue)
      | some (.str v) => some (.str v)
      | some _ => none) = _
    rw [disp_three.2.1]
    rfl
theorem fig_ne : ∀ i ∈ ([1, 2, 3, 4, 5, 6, 7, 8, 9] : List Int), wordOf (.int i) ≠ wNone ∧ wordOf (.int i) ≠ wTrue ∧ wordOf (.int i) ≠ wFalse ∧ i.natAbs < 2 ^ 64 := by decide +kernel
theorem due_int {i : Int} (h : i ∈ ([1, 2, 3, 4, 5, 6, 7, 8, 9] : List Int)) : dueP (.int i) = some (.str (wordOf (.int i))) := by
  obtain ⟨h1, h2, h3, h4⟩ := fig_ne i h
  have f : fStr [.int i] = some (.str (wordOf (.int i))) := if_pos h4
  unfold dueP
  rw [f]
  show (match valV (dispK kvsL) (.inr (wordOf (.int i))) with
    | none => some (PyData.str (wordOf (.int i)))
    | some (.str v) => some (.str v)
    | some _ => none) = _
  rw [disp_none h1 h2 h3]
theorem low_ne {z s : Str} (h : z.cps.toList.all (fun c => decide (c ∈ s.cps.toList)) = true) (hs : 84 ∉ s.cps.toList) (hf : 70 ∉ s.cps.toList) : z ≠ wTrue ∧ z ≠ wFalse := by
  refine ⟨fun e => ?_, fun e => ?_⟩
  · subst e
    exact hs (of_decide_eq_true (List.all_eq_true.mp h 84 (by decide +kernel)))
  · subst e
    exact hf (of_decide_eq_true (List.all_eq_true.mp h 70 (by decide +kernel)))
theorem key_low {z : Str} (h : isKeyS z = true) : z ≠ wTrue ∧ z ≠ wFalse := by
  unfold isKeyS at h
  rw [Bool.and_eq_true, Bool.and_eq_true] at h
  exact low_ne h.2 (by decide +kernel) (by decide +kernel)
theorem val_low {z : Str} (h : isValS z = true) : z ≠ wTrue ∧ z ≠ wFalse := by
  unfold isValS at h
  rw [Bool.and_eq_true] at h
  exact low_ne h.2 (by decide +kernel) (by decide +kernel)
theorem words_low : (∀ w ∈ bares, w ≠ wTrue ∧ w ≠ wFalse) ∧ (∀ w ∈ nums, w ≠ wTrue ∧ w ≠ wFalse) ∧ (wPut ≠ wTrue ∧ wPut ≠ wFalse) ∧ (wDrop ≠ wTrue ∧ wDrop ≠ wFalse) ∧ (wWalk ≠ wTrue ∧ wWalk ≠ wFalse) := by decide +kernel
theorem due_all {D : Deed} (h : Good D) : ∀ d ∈ (.str (word0 D) :: parts D : List PyData), dueP d = some (.str (wordOf d)) := by
  intro d hd
  cases D with
  | put k v =>
    have hd : d ∈ ([.str wPut, .str k, .str v] : List PyData) := hd
    simp only [List.mem_cons, List.not_mem_nil, or_false] at hd
    rcases hd with rfl | rfl | rfl
    · exact due_str words_low.2.2.1.1 words_low.2.2.1.2
    · exact due_str (key_low h.1).1 (key_low h.1).2
    · exact due_str (val_low h.2).1 (val_low h.2).2
  | drop k =>
    have hd : d ∈ ([.str wDrop, .str k] : List PyData) := hd
    simp only [List.mem_cons, List.not_mem_nil, or_false] at hd
    rcases hd with rfl | rfl
    · exact due_str words_low.2.2.2.1.1 words_low.2.2.2.1.2
    · exact due_str (key_low h).1 (key_low h).2
  | bare w =>
    have hd : d ∈ ([.str w] : List PyData) := hd
    rw [List.mem_singleton.mp hd]
    exact due_str (words_low.1 w h).1 (words_low.1 w h).2
  | walk b =>
    have hd : d ∈ ([.str wWalk, .bool b] : List PyData) := hd
    simp only [List.mem_cons, List.not_mem_nil, or_false] at hd
    rcases hd with rfl | rfl
    · exact due_str words_low.2.2.2.2.1 words_low.2.2.2.2.2
    · exact due_bool b
  | num w i =>
    have hd : d ∈ ([.str w, .int i] : List PyData) := hd
    simp only [List.mem_cons, List.not_mem_nil, or_false] at hd
    rcases hd with rfl | rfl
    · exact due_str (words_low.2.1 w h.1).1 (words_low.2.1 w h.1).2
    · exact due_int (nine h.2.1 h.2.2)
theorem k63_words {x0 x1 x2 x3 x4 x5 x6 x7 x8 x9 x12 x13 x14 x15 x16 x17 : Option Val} : ∀ (ds : List PyData), (∀ d ∈ ds, dueP d = some (.str (wordOf d))) → ∀ (acc : List PyData) (x11 : Option Val), acc.length + ds.length < 1000 →
    ∃ y11, forL (gmName 11) B2L ds ⟨[x0, x1, x2, x3, x4, x5, x6, x7, x8, x9, some (.ownL acc), x11, x12, x13, x14, x15, x16, x17], []⟩ = some (.nx, ⟨[x0, x1, x2, x3, x4, x5, x6, x7, x8, x9, some (.ownL (acc ++ (ds.map wordOf).map .str)), y11, x12, x13, x14, x15, x16, x17], []⟩)
  | [], _, acc, x11, _ => ⟨x11, by simp [forL]⟩
  | d :: r, h, acc, x11, hl => by
    have hd := h d List.mem_cons_self
    rw [List.length_cons] at hl
    obtain ⟨y11, e2⟩ := k63_words (x0 := x0) (x1 := x1) (x2 := x2) (x3 := x3) (x4 := x4) (x5 := x5) (x6 := x6) (x7 := x7) (x8 := x8) (x9 := x9) (x12 := x12) (x13 := x13) (x14 := x14) (x15 := x15) (x16 := x16) (x17 := x17) r (fun q hq => h q (List.mem_cons_of_mem _ hq)) (acc ++ [.str (wordOf d)]) (some (.dat d)) (by rw [List.length_append, List.length_singleton]; omega)
    have al : acc.length < 100000 := by omega
    refine ⟨y11, ?_⟩
    have bd : B2L ⟨[x0, x1, x2, x3, x4, x5, x6, x7, x8, x9, some (.ownL acc), some (.dat d), x12, x13, x14, x15, x16, x17], []⟩ = some (.nx, ⟨[x0, x1, x2, x3, x4, x5, x6, x7, x8, x9, some (.ownL (acc ++ [.str (wordOf d)])), some (.dat d), x12, x13, x14, x15, x16, x17], []⟩) := by
      have pd : pDisp2 kvsL (pCB fStr (pCons (pVar 11) pNil)) (pCB fStr (pCons (pVar 11) pNil)) ⟨[x0, x1, x2, x3, x4, x5, x6, x7, x8, x9, some (.ownL acc), some (.dat d), x12, x13, x14, x15, x16, x17], []⟩ = some (.str (wordOf d)) := by
        unfold dueP at hd
        cases hf : fStr [d] with
        | none => rw [hf] at hd; cases hd
        | some e =>
          rw [hf] at hd
          have hd : (match e with
            | .str z => (match valV (dispK kvsL) (.inr z) with
              | none => some e
              | some (.str v) => some (PyData.str v)
              | some _ => none)
            | _ => none) = some (.str (wordOf d)) := hd
          simp only [pDisp2, pCB, pCons, pNil, pVar, List.getElem?_cons_succ, List.getElem?_cons_zero, Option.bind_some, hf]
          exact hd
      generalize wordOf d = wd at pd
      simp [B2L, b2_law, pd, al, funOf, argVs, argV, argsOf, sSeq, sIf, sBind, mBP, pTst, pFld, wVar, wVal, wFld, sRaise, endOf, sNext, pOp, pC, pVar, sRet, sRetN, mP, mW, sExpr, sAsg, sAugF, insAt, sSetF, sSetFN, eBind, mCall, callF, mMeth, clsAt, noFld, notFld, aNil, aConsV, okV, okVs, asB, asI, asBv, bAnd, bOr, bNot, mTst, mAndB, mOrB, mNotB, mIf, mAnd, mOr, mNot, pAnd, pOr, pNot, pIf, pUn, pNil, pCons, pCB, pTup, pLst, pIsi, fNotN, fIsN, isNone, fEq, fNe, fEqB, fAdd, fSub, fI, fIB, fIC, fNeg, fIx, fLen, fLt, fMax2, fMin2, fInt, contAt, lstAt, dicAt, mAppP, mLPop, Sg.put, Sg.set, pLenL, pLenD, pDGet, pDGet2, pDIn, pDNotIn, sDPutP, mDPop1, mDPop2, keyD, nLst, nDic, sAsgN, sFrz, Sg.frz, endP, pureOf, pChain, mTup, mLst, mCB, isTy, sNames, setNs, anV, anN, anNil, mMake, makeF, mMakeK, mTold, mVar, pSl, oNone, oSome, mSl, sFor, iData, mOp, mUn]
    refine (forL_step rfl bd e2).trans ?_
    simp
theorem textS_snoc (A : List Deed) (D : Deed) : textS (A ++ [D]) = textS A ++ bodyS D ++ wNl := by
  refine str_tl ?_
  rw [text_tl, tl_app, tl_app, nl_tl, text_tl, List.map_append, List.flatten_append]
  simp
theorem k63_due {x0 x1 x2 x5 x6 x7 x8 x9 x12 x13 x14 x15 x16 x17 : Option Val} : ∀ (Ds : List Deed), (∀ D ∈ Ds, Good D) → ∀ (A : List Deed), (∀ D ∈ A, Good D) → A.length + Ds.length ≤ 100 → ∀ (x4 x10 x11 : Option Val),
    ∃ y4 y10 y11, forL (gmName 4) B3L (Ds.map deedD) ⟨[x0, x1, x2, some (.dat (.str (textS A))), x4, x5, x6, x7, x8, x9, x10, x11, x12, x13, x14, x15, x16, x17], []⟩ = some (.nx, ⟨[x0, x1, x2, some (.dat (.str (textS (A ++ Ds)))), y4, x5, x6, x7, x8, x9, y10, y11, x12, x13, x14, x15, x16, x17], []⟩)
  | [], _, A, _, _, x4, x10, x11 => ⟨x4, x10, x11, by simp [forL]⟩
  | D :: r, h, A, hA, hl, x4, x10, x11 => by
    have hD := h D List.mem_cons_self
    rw [List.length_cons] at hl
    obtain ⟨y11, e1⟩ := k63_words (x0 := x0) (x1 := x1) (x2 := x2) (x3 := some (.dat (.str (textS A)))) (x4 := some (.dat (deedD D))) (x5 := x5) (x6 := x6) (x7 := x7) (x8 := x8) (x9 := x9) (x12 := x12) (x13 := x13) (x14 := x14) (x15 := x15) (x16 := x16) (x17 := x17) (.str (word0 D) :: parts D) (due_all hD) [] x11 (by cases D <;> simp [parts])
    rw [List.nil_append] at e1
    have e1' : forL (gmName 11) B2L (.str (word0 D) :: parts D) ⟨[x0, x1, x2, some (.dat (.str (textS A))), some (.dat (deedD D)), x5, x6, x7, x8, x9, some (.ownL []), x11, x12, x13, x14, x15, x16, x17], []⟩ = some (.nx, ⟨[x0, x1, x2, some (.dat (.str (textS A))), some (.dat (deedD D)), x5, x6, x7, x8, x9, some (.ownL ((wordsOf D).map .str)), y11, x12, x13, x14, x15, x16, x17], []⟩) := e1
    have jk := join_ok (y := wSp) (l := wordsOf D) (by have := (body_len hD).1; omega)
    have jk' : fJoin (Str.ofString " ") (.list ((wordsOf D).map .str)) = some (.str (bodyS D)) := jk
    have tl := text_len hA
    have bl := (body_len hD).2
    have a1 : fAdd (.str (textS A)) (.str (bodyS D)) = some (.str (textS A ++ bodyS D)) := if_pos (by omega)
    have a2 : fAdd (.str (textS A ++ bodyS D)) (.str (Str.ofString "\n")) = some (.str (textS (A ++ [D]))) := by
      rw [textS_snoc]
      have h2 : (Str.ofString "\n").length = 1 := by decide +kernel
      exact if_pos (by rw [len_app, h2]; omega)
    obtain ⟨z4, z10, z11, e2⟩ := k63_due (x0 := x0) (x1 := x1) (x2 := x2) (x5 := x5) (x6 := x6) (x7 := x7) (x8 := x8) (x9 := x9) (x12 := x12) (x13 := x13) (x14 := x14) (x15 := x15) (x16 := x16) (x17 := x17) r (fun q hq => h q (List.mem_cons_of_mem _ hq)) (A ++ [D]) (fun q hq => (List.mem_append.mp hq).elim (hA q) fun e => by rw [List.mem_singleton.mp e]; exact hD) (by rw [List.length_append, List.length_singleton]; omega) (some (.dat (deedD D))) (some (.ownL ((wordsOf D).map .str))) y11
    refine ⟨z4, z10, z11, ?_⟩
    rw [List.append_assoc] at e2
    have bd : B3L ⟨[x0, x1, x2, some (.dat (.str (textS A))), some (.dat (deedD D)), x5, x6, x7, x8, x9, x10, x11, x12, x13, x14, x15, x16, x17], []⟩ = some (.nx, ⟨[x0, x1, x2, some (.dat (.str (textS (A ++ [D])))), some (.dat (deedD D)), x5, x6, x7, x8, x9, some (.ownL ((wordsOf D).map .str)), y11, x12, x13, x14, x15, x16, x17], []⟩) := by
      have dd : deedD D = .tuple (.str (word0 D) :: parts D) := rfl
      rw [dd] at e1' ⊢
      generalize (.str (word0 D) :: parts D : List PyData) = items at e1'
      generalize (wordsOf D).map PyData.str = wsd at e1' jk'
      generalize textS (A ++ [D]) = tAD at a2
      generalize textS A ++ bodyS D = tB at a1 a2
      generalize bodyS D = bD at a1 jk'
      generalize textS A = tA at e1' a1
      unfold B3L b3_law
      refine sSeq_nx (g1 := ⟨[x0, x1, x2, some (.dat (.str tA)), some (.dat (.tuple items)), x5, x6, x7, x8, x9, some (.ownL []), x11, x12, x13, x14, x15, x16, x17], []⟩) (by simp [funOf, argVs, argV, argsOf, sSeq, sIf, sBind, mBP, pTst, pFld, wVar, wVal, wFld, sRaise, endOf, sNext, pOp, pC, pVar, sRet, sRetN, mP, mW, sExpr, sAsg, sAugF, insAt, sSetF, sSetFN, eBind, mCall, callF, mMeth, clsAt, noFld, notFld, aNil, aConsV, okV, okVs, asB, asI, asBv, bAnd, bOr, bNot, mTst, mAndB, mOrB, mNotB, mIf, mAnd, mOr, mNot, pAnd, pOr, pNot, pIf, pUn, pNil, pCons, pCB, pTup, pLst, pIsi, fNotN, fIsN, isNone, fEq, fNe, fEqB, fAdd, fSub, fI, fIB, fIC, fNeg, fIx, fLen, fLt, fMax2, fMin2, fInt, contAt, lstAt, dicAt, mAppP, mLPop, Sg.put, Sg.set, pLenL, pLenD, pDGet, pDGet2, pDIn, pDNotIn, sDPutP, mDPop1, mDPop2, keyD, nLst, nDic, sAsgN, sFrz, Sg.frz, endP, pureOf, pChain, mTup, mLst, mCB, isTy, sNames, setNs, anV, anN, anNil, mMake, makeF, mMakeK, mTold, mVar, pSl, oNone, oSome, mSl, sFor, iData, mOp, mUn]) ?_
      refine sSeq_nx (g1 := ⟨[x0, x1, x2, some (.dat (.str tA)), some (.dat (.tuple items)), x5, x6, x7, x8, x9, some (.ownL wsd), y11, x12, x13, x14, x15, x16, x17], []⟩) (by simp [iData, e1', funOf, argVs, argV, argsOf, sSeq, sIf, sBind, mBP, pTst, pFld, wVar, wVal, wFld, sRaise, endOf, sNext, pOp, pC, pVar, sRet, sRetN, mP, mW, sExpr, sAsg, sAugF, insAt, sSetF, sSetFN, eBind, mCall, callF, mMeth, clsAt, noFld, notFld, aNil, aConsV, okV, okVs, asB, asI, asBv, bAnd, bOr, bNot, mTst, mAndB, mOrB, mNotB, mIf, mAnd, mOr, mNot, pAnd, pOr, pNot, pIf, pUn, pNil, pCons, pCB, pTup, pLst, pIsi, fNotN, fIsN, isNone, fEq, fNe, fEqB, fAdd, fSub, fI, fIB, fIC, fNeg, fIx, fLen, fLt, fMax2, fMin2, fInt, contAt, lstAt, dicAt, mAppP, mLPop, Sg.put, Sg.set, pLenL, pLenD, pDGet, pDGet2, pDIn, pDNotIn, sDPutP, mDPop1, mDPop2, keyD, nLst, nDic, sAsgN, sFrz, Sg.frz, endP, pureOf, pChain, mTup, mLst, mCB, isTy, sNames, setNs, anV, anN, anNil, mMake, makeF, mMakeK, mTold, mVar, pSl, oNone, oSome, mSl, sFor, iData, mOp, mUn]) ?_
      simp [pJoinW, jk', a1, a2, funOf, argVs, argV, argsOf, sSeq, sIf, sBind, mBP, pTst, pFld, wVar, wVal, wFld, sRaise, endOf, sNext, pOp, pC, pVar, sRet, sRetN, mP, mW, sExpr, sAsg, sAugF, insAt, sSetF, sSetFN, eBind, mCall, callF, mMeth, clsAt, noFld, notFld, aNil, aConsV, okV, okVs, asB, asI, asBv, bAnd, bOr, bNot, mTst, mAndB, mOrB, mNotB, mIf, mAnd, mOr, mNot, pAnd, pOr, pNot, pIf, pUn, pNil, pCons, pCB, pTup, pLst, pIsi, fNotN, fIsN, isNone, fEq, fNe, fEqB, fSub, fI, fIB, fIC, fNeg, fIx, fLen, fLt, fMax2, fMin2, fInt, contAt, lstAt, dicAt, mAppP, mLPop, Sg.put, Sg.set, pLenL, pLenD, pDGet, pDGet2, pDIn, pDNotIn, sDPutP, mDPop1, mDPop2, keyD, nLst, nDic, sAsgN, sFrz, Sg.frz, endP, pureOf, pChain, mTup, mLst, mCB, isTy, sNames, setNs, anV, anN, anNil, mMake, makeF, mMakeK, mTold, mVar, pSl, oNone, oSome, mSl, sFor, iData, mOp, mUn]
    exact forL_step rfl bd e2
end EV

/-! ### the law k63: spoilt texts, the end -/
namespace EV
open PySem PySem.Spec PyProof.Rows L2 Evl L2H LamX LR
theorem deed_lay {D : Deed} (h : Good D) : (deedD D).canLay0 = true ∧ (deedD D).depth = 1 := by
  obtain ⟨h1, h2, h3⟩ := good_parts h
  obtain ⟨a, b⟩ := lay_plain (.str (word0 D) :: parts D) fun d hd => by
    rcases List.mem_cons.mp hd with rfl | hd
    · exact ⟨h2, h3⟩
    · exact (h1 d hd).plain
  exact ⟨by unfold deedD; simp only [PyData.canLay0, a], by unfold deedD; simp only [PyData.depth, b]⟩
theorem deeds_lay : ∀ {Ds : List Deed}, (∀ D ∈ Ds, Good D) → PyData.canLayAll0 (Ds.map deedD) = true ∧ PyData.depthAll (Ds.map deedD) ≤ 1
  | [], _ => ⟨rfl, Nat.zero_le _⟩
  | D :: r, h => by
    obtain ⟨a, b⟩ := deed_lay (h D List.mem_cons_self)
    obtain ⟨c, d⟩ := deeds_lay (Ds := r) fun q hq => h q (List.mem_cons_of_mem _ hq)
    refine ⟨by rw [List.map_cons]; simp only [PyData.canLayAll0, a, c, Bool.true_and], ?_⟩
    rw [List.map_cons]
    simp only [PyData.depthAll, b]
    omega
theorem shaped_deeds {Ds : List Deed} (h : ∀ D ∈ Ds, Good D) : SeqAt.shaped (.list (Ds.map deedD)) = true := by
  obtain ⟨a, b⟩ := deeds_lay h
  unfold SeqAt.shaped
  simp only [PyData.canLay0, a, PyData.depth, Bool.true_and]
  exact decide_eq_true (by omega)
theorem ne_sh {d : PyData} (hs : SeqAt.shaped d = true) : fNe d d = some (.bool false) := by
  have he := eqv_refl' hs
  cases d <;> simp [fNe, fEqB, hs, he]
theorem eq_sh {d : PyData} (hs : SeqAt.shaped d = true) : fEq d d = some (.bool true) := by
  have he := eqv_refl' hs
  cases d <;> simp [fEq, fEqB, hs, he]
theorem told_sh : SeqAt.shaped (toldV "NoText") = true := by decide +kernel
theorem ne_lt {ds es : List PyData} (h1 : SeqAt.shaped (.list ds) = true) (h2 : SeqAt.shaped (.tuple es) = true) : fNe (.list ds) (.tuple es) = some (.bool true) := by
  have e : fEqB (.list ds) (.tuple es) = some false := by
    unfold fEqB
    simp only [h1, h2, and_self, if_true]
    rfl
  unfold fNe
  rw [e]
  rfl
theorem ex_nt : (Str.ofString "NoText") ∈ exNs := by decide
theorem k63_one {z : Str} {x0 x1 x2 x3 x4 x5 x6 x7 x8 x9 x10 x11 x13 x14 x15 x16 x17 : Option Val} (hz : PyData.strOk z = true) (hl : z.length ≤ 1900) :
    ∃ y17, B4L ⟨[x0, x1, x2, x3, x4, x5, x6, x7, x8, x9, x10, x11, some (.dat (.str z)), x13, x14, x15, x16, x17], []⟩ = some (.nx, ⟨[x0, x1, x2, x3, x4, x5, x6, x7, x8, x9, x10, x11, some (.dat (.str z)), x13, x14, x15, x16, y17], []⟩) := by
  have xn := ex_nt
  rcases read_cases hz hl with e | ⟨Ds, gd, dl, ct, e⟩
  · have ne := ne_sh told_sh
    have tv : PyData.tuple [.str (Str.ofString "refused"), .str (Str.ofString "NoText")] = toldV "NoText" := rfl
    refine ⟨some (.dat (toldV "NoText")), ?_⟩
    simp [B4L, b4_law, e, xn, tv, ne, funOf, argVs, argV, argsOf, sSeq, sIf, sBind, mBP, pTst, pFld, wVar, wVal, wFld, sRaise, endOf, sNext, pOp, pC, pVar, sRet, sRetN, mP, mW, sExpr, sAsg, sAugF, insAt, sSetF, sSetFN, eBind, mCall, callF, mMeth, clsAt, noFld, notFld, aNil, aConsV, okV, okVs, asB, asI, asBv, bAnd, bOr, bNot, mTst, mAndB, mOrB, mNotB, mIf, mAnd, mOr, mNot, pAnd, pOr, pNot, pIf, pUn, pNil, pCons, pCB, pTup, pLst, pIsi, fNotN, fIsN, isNone, fEq, fEqB, fAdd, fSub, fI, fIB, fIC, fNeg, fIx, fLen, fLt, fMax2, fMin2, fInt, contAt, lstAt, dicAt, mAppP, mLPop, Sg.put, Sg.set, pLenL, pLenD, pDGet, pDGet2, pDIn, pDNotIn, sDPutP, mDPop1, mDPop2, keyD, nLst, nDic, sAsgN, sFrz, Sg.frz, endP, pureOf, pChain, mTup, mLst, mCB, isTy, sNames, setNs, anV, anN, anNil, mMake, makeF, mMakeK, mTold, mVar, pSl, oNone, oSome, mSl, sFor, iData, mOp, mUn]
  · have sh := shaped_deeds gd
    have n1 := ne_lt sh told_sh
    have tv : PyData.tuple [.str (Str.ofString "refused"), .str (Str.ofString "NoText")] = toldV "NoText" := rfl
    have tx := text_eq (st := []) gd dl
    rw [ct] at tx
    have ne : fNe (.str z) (.str z) = some (.bool false) := by simp [neSS]
    refine ⟨some (.dat (.list (Ds.map deedD))), ?_⟩
    have n1' : fNe (.list (Ds.map deedD)) (toldV "NoText") = some (.bool true) := n1
    generalize Ds.map deedD = dd at e tx n1'
    simp [B4L, b4_law, e, tv, n1', tx, ne, funOf, argVs, argV, argsOf, sSeq, sIf, sBind, mBP, pTst, pFld, wVar, wVal, wFld, sRaise, endOf, sNext, pOp, pC, pVar, sRet, sRetN, mP, mW, sExpr, sAsg, sAugF, insAt, sSetF, sSetFN, eBind, mCall, callF, mMeth, clsAt, noFld, notFld, aNil, aConsV, okV, okVs, asB, asI, asBv, bAnd, bOr, bNot, mTst, mAndB, mOrB, mNotB, mIf, mAnd, mOr, mNot, pAnd, pOr, pNot, pIf, pUn, pNil, pCons, pCB, pTup, pLst, pIsi, fNotN, fIsN, isNone, fEq, fEqB, fAdd, fSub, fI, fIB, fIC, fNeg, fIx, fLen, fLt, fMax2, fMin2, fInt, contAt, lstAt, dicAt, mAppP, mLPop, Sg.put, Sg.set, pLenL, pLenD, pDGet, pDGet2, pDIn, pDNotIn, sDPutP, mDPop1, mDPop2, keyD, nLst, nDic, sAsgN, sFrz, Sg.frz, endP, pureOf, pChain, mTup, mLst, mCB, isTy, sNames, setNs, anV, anN, anNil, mMake, makeF, mMakeK, mTold, mVar, pSl, oNone, oSome, mSl, sFor, iData, mOp, mUn]
theorem k63_ones {x0 x1 x2 x3 x4 x5 x6 x7 x8 x9 x10 x11 x13 x14 x15 x16 : Option Val} : ∀ (zs : List Str), (∀ z ∈ zs, PyData.strOk z = true ∧ z.length ≤ 1900) → ∀ (x12 x17 : Option Val),
    ∃ y12 y17, forL (gmName 12) B4L (zs.map .str) ⟨[x0, x1, x2, x3, x4, x5, x6, x7, x8, x9, x10, x11, x12, x13, x14, x15, x16, x17], []⟩ = some (.nx, ⟨[x0, x1, x2, x3, x4, x5, x6, x7, x8, x9, x10, x11, y12, x13, x14, x15, x16, y17], []⟩)
  | [], _, x12, x17 => ⟨x12, x17, rfl⟩
  | z :: r, h, x12, x17 => by
    obtain ⟨y17, e1⟩ := k63_one (x0 := x0) (x1 := x1) (x2 := x2) (x3 := x3) (x4 := x4) (x5 := x5) (x6 := x6) (x7 := x7) (x8 := x8) (x9 := x9) (x10 := x10) (x11 := x11) (x13 := x13) (x14 := x14) (x15 := x15) (x16 := x16) (x17 := x17) (h z List.mem_cons_self).1 (h z List.mem_cons_self).2
    obtain ⟨z12, z17, e2⟩ := k63_ones (x0 := x0) (x1 := x1) (x2 := x2) (x3 := x3) (x4 := x4) (x5 := x5) (x6 := x6) (x7 := x7) (x8 := x8) (x9 := x9) (x10 := x10) (x11 := x11) (x13 := x13) (x14 := x14) (x15 := x15) (x16 := x16) r (fun q hq => h q (List.mem_cons_of_mem _ hq)) (some (.dat (.str z))) y17
    exact ⟨z12, z17, forL_step rfl e1 e2⟩
theorem cut_len (z : Str) (lo hi : Option Int) : (cutS z lo hi).length ≤ z.length := by
  unfold cutS
  show (List.toArray _).size ≤ _
  rw [List.size_toArray, List.length_take, List.length_drop, Array.length_toList]
  have : z.cps.size = z.length := rfl
  omega
theorem cut_ok {z : Str} {lo hi : Option Int} (h : PyData.strOk z = true) : PyData.strOk (cutS z lo hi) = true := by
  unfold PyData.strOk at h ⊢
  rw [Array.all_eq_true_iff_forall_mem] at h ⊢
  intro c hc
  refine h c ?_
  have : c ∈ (cutS z lo hi).cps.toList := Array.mem_toList_iff.mpr hc
  unfold cutS at this
  exact Array.mem_toList_iff.mp (List.mem_of_mem_drop (List.mem_of_mem_take this))
theorem app_ok {a b : Str} (h1 : PyData.strOk a = true) (h2 : PyData.strOk b = true) : PyData.strOk (a ++ b) = true := by
  unfold PyData.strOk at *
  show (a.cps ++ b.cps).all _ = true
  rw [Array.all_append, h1, h2]
  rfl
theorem signT (j : Int) (h0 : 0 ≤ j) (h : j < 11) : ∃ z : Str, fIx (.str (Str.ofString "abz019 -\nkM")) (.int j) = some (.str z) ∧ z.length = 1 ∧ PyData.strOk z = true := by
  have e : j = 0 ∨ j = 1 ∨ j = 2 ∨ j = 3 ∨ j = 4 ∨ j = 5 ∨ j = 6 ∨ j = 7 ∨ j = 8 ∨ j = 9 ∨ j = 10 := by omega
  rcases e with rfl | rfl | rfl | rfl | rfl | rfl | rfl | rfl | rfl | rfl | rfl <;> exact ⟨_, rfl, by decide +kernel, by decide +kernel⟩
theorem k63_loop5 {ns : List Int} (hns : ns.length ≤ 63) {due : Str} (hd : PyData.strOk due = true) (hl : due.length ≤ 600) {x1 x4 x6 x7 x8 x9 x10 x11 x13 x14 : Option Val} : ∀ (ks : List Nat), (∀ k ∈ ks, k < 6) → ∀ (x2 x12 x15 x16 x17 : Option Val),
    ∃ y2 y12 y15 y16 y17, forL (gmName 2) B5L (ks.map fun (k : Nat) => .int (k : Int)) ⟨[some (.dat (scrD ns)), x1, x2, some (.dat (.str due)), x4, some (.dat (.str (Str.ofString "abz019 -\nkM"))), x6, x7, x8, x9, x10, x11, x12, x13, x14, x15, x16, x17], []⟩ = some (.nx, ⟨[some (.dat (scrD ns)), x1, y2, some (.dat (.str due)), x4, some (.dat (.str (Str.ofString "abz019 -\nkM"))), x6, x7, x8, x9, x10, x11, y12, x13, x14, y15, y16, y17], []⟩)
  | [], _, x2, x12, x15, x16, x17 => ⟨x2, x12, x15, x16, x17, rfl⟩
  | k :: r, hk, x2, x12, x15, x16, x17 => by
    have k6 := hk k List.mem_cons_self
    have ai := fo_pick (ns := ns) (k := 600 + (k : Int)) (many := (due.length : Int) + 1) hns (by omega) (by omega) (by omega)
    generalize pick ns (600 + (k : Int)) ((due.length : Int) + 1) = at' at ai
    have ji := fo_pick (ns := ns) (k := 610 + (k : Int)) (many := 11) hns (by omega) (by omega) (by decide)
    have j0 := pick_lo ns (610 + (k : Int)) (many := 11) (by decide)
    have j1 := pick_hi ns (610 + (k : Int)) (many := 11) (by decide)
    generalize pick ns (610 + (k : Int)) 11 = j at ji j0 j1
    obtain ⟨sg, s1, s2, s3⟩ := signT j j0 j1
    have d1 : due.length ≤ 100000 := by omega
    have l1 : fLen [.str due] = some (.int (due.length : Nat)) := by simp [fLen, d1]
    have ca := cut_len due none (some at')
    have cb := cut_len due (some (at' + 1)) none
    have cc := cut_len due (some at') none
    have oa := cut_ok (lo := none) (hi := some at') hd
    have ob := cut_ok (lo := some (at' + 1)) (hi := none) hd
    have oc := cut_ok (lo := some at') (hi := none) hd
    generalize hca : cutS due none (some at') = za at ca oa
    generalize hcb : cutS due (some (at' + 1)) none = zb at cb ob
    generalize hcc : cutS due (some at') none = zc at cc oc
    have f1 : fAdd (.str za) (.str zb) = some (.str (za ++ zb)) := if_pos (by omega)
    have f2 : fAdd (.str za) (.str sg) = some (.str (za ++ sg)) := if_pos (by omega)
    have f3 : fAdd (.str (za ++ sg)) (.str zc) = some (.str (za ++ sg ++ zc)) := if_pos (by rw [len_app]; omega)
    have f4 : fAdd (.str (za ++ sg)) (.str zb) = some (.str (za ++ sg ++ zb)) := if_pos (by rw [len_app]; omega)
    obtain ⟨y12, y17, e1⟩ := k63_ones (x0 := some (.dat (scrD ns))) (x1 := x1) (x2 := some (.dat (.int (k : Int)))) (x3 := some (.dat (.str due))) (x4 := x4) (x5 := some (.dat (.str (Str.ofString "abz019 -\nkM")))) (x6 := x6) (x7 := x7) (x8 := x8) (x9 := x9) (x10 := x10) (x11 := x11) (x13 := x13) (x14 := x14) (x15 := some (.dat (.int at'))) (x16 := some (.dat (.str sg))) [za ++ zb, za ++ sg ++ zc, za ++ sg ++ zb] (fun z hz => by
      simp only [List.mem_cons, List.not_mem_nil, or_false] at hz
      rcases hz with rfl | rfl | rfl
      · exact ⟨app_ok oa ob, by rw [len_app]; omega⟩
      · exact ⟨app_ok (app_ok oa s3) oc, by rw [len_app, len_app]; omega⟩
      · exact ⟨app_ok (app_ok oa s3) ob, by rw [len_app, len_app]; omega⟩) x12 x17
    have e1' : forL (gmName 12) B4L [.str (za ++ zb), .str (za ++ sg ++ zc), .str (za ++ sg ++ zb)] ⟨[some (.dat (scrD ns)), x1, some (.dat (.int (k : Int))), some (.dat (.str due)), x4, some (.dat (.str (Str.ofString "abz019 -\nkM"))), x6, x7, x8, x9, x10, x11, x12, x13, x14, some (.dat (.int at')), some (.dat (.str sg)), x17], []⟩ = _ := e1
    obtain ⟨z2, z12, z15, z16, z17, e2⟩ := k63_loop5 hns hd hl (x1 := x1) (x4 := x4) (x6 := x6) (x7 := x7) (x8 := x8) (x9 := x9) (x10 := x10) (x11 := x11) (x13 := x13) (x14 := x14) r (fun q hq => hk q (List.mem_cons_of_mem _ hq)) (some (.dat (.int (k : Int)))) y12 (some (.dat (.int at'))) (some (.dat (.str sg))) y17
    refine ⟨z2, z12, z15, z16, z17, ?_⟩
    have sa : slD (.str due) none (some at') = some (.str za) := by rw [← hca]; exact if_pos d1
    have sb : slD (.str due) (some (at' + 1)) none = some (.str zb) := by rw [← hcb]; exact if_pos d1
    have sc : slD (.str due) (some at') none = some (.str zc) := by rw [← hcc]; exact if_pos d1
    have adI : ∀ a b : Int, fAdd (.int a) (.int b) = some (.int (a + b)) := fun _ _ => rfl
    have bd : B5L ⟨[some (.dat (scrD ns)), x1, some (.dat (.int (k : Int))), some (.dat (.str due)), x4, some (.dat (.str (Str.ofString "abz019 -\nkM"))), x6, x7, x8, x9, x10, x11, x12, x13, x14, x15, x16, x17], []⟩ = some (.nx, ⟨[some (.dat (scrD ns)), x1, some (.dat (.int (k : Int))), some (.dat (.str due)), x4, some (.dat (.str (Str.ofString "abz019 -\nkM"))), x6, x7, x8, x9, x10, x11, y12, x13, x14, some (.dat (.int at')), some (.dat (.str sg)), y17], []⟩) := by
      unfold B5L b5_law
      refine sSeq_nx (g1 := ⟨[some (.dat (scrD ns)), x1, some (.dat (.int (k : Int))), some (.dat (.str due)), x4, some (.dat (.str (Str.ofString "abz019 -\nkM"))), x6, x7, x8, x9, x10, x11, x12, x13, x14, some (.dat (.int at')), some (.dat (.str sg)), x17], []⟩) (by simp [adI, l1, ai, ji, s1, funOf, argVs, argV, argsOf, sSeq, sIf, sBind, mBP, pTst, pFld, wVar, wVal, wFld, sRaise, endOf, sNext, pOp, pC, pVar, sRet, sRetN, mP, mW, sExpr, sAsg, sAugF, insAt, sSetF, sSetFN, eBind, mCall, callF, mMeth, clsAt, noFld, notFld, aNil, aConsV, okV, okVs, asB, asI, asBv, bAnd, bOr, bNot, mTst, mAndB, mOrB, mNotB, mIf, mAnd, mOr, mNot, pAnd, pOr, pNot, pIf, pUn, pNil, pCons, pCB, pTup, pLst, pIsi, fNotN, fIsN, isNone, fEq, fNe, fEqB, fSub, fI, fIB, fIC, fNeg, fLt, fMax2, fMin2, fInt, contAt, lstAt, dicAt, mAppP, mLPop, Sg.put, Sg.set, pLenL, pLenD, pDGet, pDGet2, pDIn, pDNotIn, sDPutP, mDPop1, mDPop2, keyD, nLst, nDic, sAsgN, sFrz, Sg.frz, endP, pureOf, pChain, mTup, mLst, mCB, isTy, sNames, setNs, anV, anN, anNil, mMake, makeF, mMakeK, mTold, mVar, pSl, oNone, oSome, mSl, sFor, iData, mOp, mUn]) ?_
      generalize za ++ sg ++ zc = t2 at f3 e1'
      generalize za ++ sg ++ zb = t3 at f4 e1'
      generalize za ++ sg = t1 at f2 f3 f4
      generalize za ++ zb = t0 at f1 e1'
      simp [sFor, iData, adI, sa, sb, sc, f1, f2, f3, f4, e1', funOf, argVs, argV, argsOf, sSeq, sIf, sBind, mBP, pTst, pFld, wVar, wVal, wFld, sRaise, endOf, sNext, pOp, pC, pVar, sRet, sRetN, mP, mW, sExpr, sAsg, sAugF, insAt, sSetF, sSetFN, eBind, mCall, callF, mMeth, clsAt, noFld, notFld, aNil, aConsV, okV, okVs, asB, asI, asBv, bAnd, bOr, bNot, mTst, mAndB, mOrB, mNotB, mIf, mAnd, mOr, mNot, pAnd, pOr, pNot, pIf, pUn, pNil, pCons, pCB, pTup, pLst, pIsi, fNotN, fIsN, isNone, fEq, fNe, fEqB, fSub, fI, fIB, fIC, fNeg, fIx, fLen, fLt, fMax2, fMin2, fInt, contAt, lstAt, dicAt, mAppP, mLPop, Sg.put, Sg.set, pLenL, pLenD, pDGet, pDGet2, pDIn, pDNotIn, sDPutP, mDPop1, mDPop2, keyD, nLst, nDic, sAsgN, sFrz, Sg.frz, endP, pureOf, pChain, mTup, mLst, mCB, isTy, sNames, setNs, anV, anN, anNil, mMake, makeF, mMakeK, mTold, mVar, pSl, oNone, oSome, mSl, sFor, iData, mOp, mUn]
    exact forL_step rfl bd e2
theorem k63_bad {x0 x1 x2 x3 x4 x5 x6 x8 x9 x10 x11 x12 x13 x14 x15 x16 x17 : Option Val} : ∀ (ds : List PyData), (∀ d ∈ ds, d ∈ badTs) → ∀ x7 : Option Val,
    ∃ y7, forL (gmName 7) B6L ds ⟨[x0, x1, x2, x3, x4, x5, x6, x7, x8, x9, x10, x11, x12, x13, x14, x15, x16, x17], []⟩ = some (.nx, ⟨[x0, x1, x2, x3, x4, x5, x6, y7, x8, x9, x10, x11, x12, x13, x14, x15, x16, x17], []⟩)
  | [], _, x7 => ⟨x7, rfl⟩
  | d :: r, h, x7 => by
    have e := bad_one (h d List.mem_cons_self)
    obtain ⟨y7, e2⟩ := k63_bad (x0 := x0) (x1 := x1) (x2 := x2) (x3 := x3) (x4 := x4) (x5 := x5) (x6 := x6) (x8 := x8) (x9 := x9) (x10 := x10) (x11 := x11) (x12 := x12) (x13 := x13) (x14 := x14) (x15 := x15) (x16 := x16) (x17 := x17) r (fun q hq => h q (List.mem_cons_of_mem _ hq)) (some (.dat d))
    have xn := ex_nt
    have ne := ne_sh told_sh
    have tv : PyData.tuple [.str (Str.ofString "refused"), .str (Str.ofString "NoText")] = toldV "NoText" := rfl
    have bd : B6L ⟨[x0, x1, x2, x3, x4, x5, x6, some (.dat d), x8, x9, x10, x11, x12, x13, x14, x15, x16, x17], []⟩ = some (.nx, ⟨[x0, x1, x2, x3, x4, x5, x6, some (.dat d), x8, x9, x10, x11, x12, x13, x14, x15, x16, x17], []⟩) := by
      simp [B6L, b6_law, e, xn, tv, ne, funOf, argVs, argV, argsOf, sSeq, sIf, sBind, mBP, pTst, pFld, wVar, wVal, wFld, sRaise, endOf, sNext, pOp, pC, pVar, sRet, sRetN, mP, mW, sExpr, sAsg, sAugF, insAt, sSetF, sSetFN, eBind, mCall, callF, mMeth, clsAt, noFld, notFld, aNil, aConsV, okV, okVs, asB, asI, asBv, bAnd, bOr, bNot, mTst, mAndB, mOrB, mNotB, mIf, mAnd, mOr, mNot, pAnd, pOr, pNot, pIf, pUn, pNil, pCons, pCB, pTup, pLst, pIsi, fNotN, fIsN, isNone, fEq, fEqB, fAdd, fSub, fI, fIB, fIC, fNeg, fIx, fLen, fLt, fMax2, fMin2, fInt, contAt, lstAt, dicAt, mAppP, mLPop, Sg.put, Sg.set, pLenL, pLenD, pDGet, pDGet2, pDIn, pDNotIn, sDPutP, mDPop1, mDPop2, keyD, nLst, nDic, sAsgN, sFrz, Sg.frz, endP, pureOf, pChain, mTup, mLst, mCB, isTy, sNames, setNs, anV, anN, anNil, mMake, makeF, mMakeK, mTold, mVar, pSl, oNone, oSome, mSl, sFor, iData, mOp, mUn]
    exact ⟨y7, forL_step rfl bd e2⟩
end EV

/-! ### the law k63: all of it -/
namespace EV
open PySem PySem.Spec PyProof.Rows L2 Evl L2H LamX LR
theorem end_text : textS [.put (Str.ofString "a") wNone, .walk false] = Str.ofString "put a -\nwalk now\n" := by decide +kernel
theorem nil_text : textS [] = wNone := by decide +kernel
theorem k63_law {ns : List Int} (hns : ns.length ≤ 63) : ∃ st', F_law F_deeds_text FRD [.dat (scrD ns)] [] = some (.ok (.dat (.bool true)), st') := by
  have pk := fo_pick (ns := ns) (k := 0) (many := 15) hns (by decide) (by decide) (by decide)
  have p0 := pick_lo ns 0 (many := 15) (by decide)
  have p1 := pick_hi ns 0 (many := 15) (by decide)
  generalize pick ns 0 15 = p at pk p0 p1
  have pb : p < 1000000 ∧ -1000000 < p := by omega
  obtain ⟨Ds, y2, y8, y9, y13, y14, e1, gd, dl⟩ := k63_loop1 hns (x3 := none) (x4 := none) (x5 := none) (x6 := none) (x7 := none) (x10 := none) (x11 := none) (x12 := none) (x15 := none) (x16 := none) (x17 := none) (List.range p.toNat) (fun k hk => by have := List.mem_range.mp hk; omega) [] none none none none none (fun _ h => nomatch h) (by simp; omega)
  have dl' : Ds.length ≤ 14 := by rw [dl]; simp; omega
  have e1' : forL (gmName 2) B1L (rngL p) ⟨[some (.dat (scrD ns)), some (.ownL []), none, none, none, none, none, none, none, none, none, none, none, none, none, none, none, none], []⟩ = some (.nx, ⟨[some (.dat (scrD ns)), some (.ownL (Ds.map deedD)), y2, none, none, none, none, none, y8, y9, none, none, none, y13, y14, none, none, none], []⟩) := e1
  obtain ⟨y4, y10, y11, e3⟩ := k63_due (x0 := some (.dat (scrD ns))) (x1 := some (.dat (.list (Ds.map deedD)))) (x2 := y2) (x5 := none) (x6 := none) (x7 := none) (x8 := y8) (x9 := y9) (x12 := none) (x13 := y13) (x14 := y14) (x15 := none) (x16 := none) (x17 := none) Ds gd [] (fun _ h => nomatch h) (by simp; omega) none none none
  rw [nil_text, List.nil_append] at e3
  have tl := text_len gd
  have tk := text_ok gd
  have tx := text_eq (st := []) gd (by omega)
  have rd := read_text gd (by omega)
  have ne1 : fNe (.str (textS Ds)) (.str (textS Ds)) = some (.bool false) := by simp [neSS]
  have ne2 := ne_sh (shaped_deeds gd)
  obtain ⟨z2, z12, z15, z16, z17, e5⟩ := k63_loop5 hns tk (by omega) (x1 := some (.dat (.list (Ds.map deedD)))) (x4 := y4) (x6 := none) (x7 := none) (x8 := y8) (x9 := y9) (x10 := y10) (x11 := y11) (x13 := y13) (x14 := y14) (List.range 6) (fun k hk => List.mem_range.mp hk) y2 none none none none
  have e5' : forL (gmName 2) B5L (rngL 6) _ = _ := e5
  obtain ⟨z7, e6⟩ := k63_bad (x0 := some (.dat (scrD ns))) (x1 := some (.dat (.list (Ds.map deedD)))) (x2 := z2) (x3 := some (.dat (.str (textS Ds)))) (x4 := y4) (x5 := some (.dat (.str (Str.ofString "abz019 -\nkM")))) (x6 := some (.dat (.list (badTs.drop 5)))) (x8 := y8) (x9 := y9) (x10 := y10) (x11 := y11) (x12 := z12) (x13 := y13) (x14 := y14) (x15 := z15) (x16 := z16) (x17 := z17) badTs (fun _ h => h) none
  have r0 := read_text (Ds := []) (fun _ h => nomatch h) (by decide)
  rw [nil_text] at r0
  have r1 := read_text (Ds := [.put (Str.ofString "a") wNone, .walk false]) (fun D hD => by
    simp only [List.mem_cons, List.not_mem_nil, or_false] at hD
    rcases hD with rfl | rfl
    · exact ⟨by decide +kernel, by decide +kernel⟩
    · trivial) (by decide)
  rw [end_text] at r1
  have r1' : FRD [.dat (.str (Str.ofString "put a -\nwalk now\n"))] [] = some (.ok (.dat (.list [.tuple [.str (Str.ofString "put"), .str (Str.ofString "a"), .str (Str.ofString "")], .tuple [.str (Str.ofString "walk"), .bool false]])), []) := r1
  have q0 : fEq (.list []) (.list []) = some (.bool true) := eq_sh (by decide +kernel)
  have q1 : fEq (.list [.tuple [.str (Str.ofString "put"), .str (Str.ofString "a"), .str (Str.ofString "")], .tuple [.str (Str.ofString "walk"), .bool false]]) (.list [.tuple [.str (Str.ofString "put"), .str (Str.ofString "a"), .str (Str.ofString "")], .tuple [.str (Str.ofString "walk"), .bool false]]) = some (.bool true) := eq_sh (by decide +kernel)
  have main : m_law F_deeds_text FRD ⟨[some (.dat (scrD ns)), none, none, none, none, none, none, none, none, none, none, none, none, none, none, none, none, none], []⟩ = some (.rt (.dat (.bool true)), ⟨[some (.dat (scrD ns)), some (.dat (.list (Ds.map deedD))), z2, some (.dat (.str (textS Ds))), y4, some (.dat (.str (Str.ofString "abz019 -\nkM"))), some (.dat (.list (badTs.drop 5))), z7, y8, y9, y10, y11, z12, y13, y14, z15, z16, z17], []⟩) := by
    generalize Ds.map deedD = dd at e1' e3 tx rd ne2 e5' e6 ⊢
    generalize textS Ds = due at e3 tx rd ne1 e5' e6 ⊢
    unfold m_law
    refine sSeq_nx (g1 := ⟨[some (.dat (scrD ns)), some (.ownL []), none, none, none, none, none, none, none, none, none, none, none, none, none, none, none, none], []⟩) (by simp [funOf, argVs, argV, argsOf, sSeq, sIf, sBind, mBP, pTst, pFld, wVar, wVal, wFld, sRaise, endOf, sNext, pOp, pC, pVar, sRet, sRetN, mP, mW, sExpr, sAsg, sAugF, insAt, sSetF, sSetFN, eBind, mCall, callF, mMeth, clsAt, noFld, notFld, aNil, aConsV, okV, okVs, asB, asI, asBv, bAnd, bOr, bNot, mTst, mAndB, mOrB, mNotB, mIf, mAnd, mOr, mNot, pAnd, pOr, pNot, pIf, pUn, pNil, pCons, pCB, pTup, pLst, pIsi, fNotN, fIsN, isNone, fEq, fNe, fEqB, fAdd, fSub, fI, fIB, fIC, fNeg, fIx, fLen, fLt, fMax2, fMin2, fInt, contAt, lstAt, dicAt, mAppP, mLPop, Sg.put, Sg.set, pLenL, pLenD, pDGet, pDGet2, pDIn, pDNotIn, sDPutP, mDPop1, mDPop2, keyD, nLst, nDic, sAsgN, sFrz, Sg.frz, endP, pureOf, pChain, mTup, mLst, mCB, isTy, sNames, setNs, anV, anN, anNil, mMake, makeF, mMakeK, mTold, mVar, pSl, oNone, oSome, mSl, sFor, iData, mOp, mUn]) ?_
    refine sSeq_nx (g1 := ⟨[some (.dat (scrD ns)), some (.ownL dd), y2, none, none, none, none, none, y8, y9, none, none, none, y13, y14, none, none, none], []⟩) (by simp [iRg, pk, pb, e1', funOf, argVs, argV, argsOf, sSeq, sIf, sBind, mBP, pTst, pFld, wVar, wVal, wFld, sRaise, endOf, sNext, pOp, pC, pVar, sRet, sRetN, mP, mW, sExpr, sAsg, sAugF, insAt, sSetF, sSetFN, eBind, mCall, callF, mMeth, clsAt, noFld, notFld, aNil, aConsV, okV, okVs, asB, asI, asBv, bAnd, bOr, bNot, mTst, mAndB, mOrB, mNotB, mIf, mAnd, mOr, mNot, pAnd, pOr, pNot, pIf, pUn, pNil, pCons, pCB, pTup, pLst, pIsi, fNotN, fIsN, isNone, fEq, fNe, fEqB, fAdd, fSub, fI, fIB, fIC, fNeg, fIx, fLen, fLt, fMax2, fMin2, fInt, contAt, lstAt, dicAt, mAppP, mLPop, Sg.put, Sg.set, pLenL, pLenD, pDGet, pDGet2, pDIn, pDNotIn, sDPutP, mDPop1, mDPop2, keyD, nLst, nDic, sAsgN, sFrz, Sg.frz, endP, pureOf, pChain, mTup, mLst, mCB, isTy, sNames, setNs, anV, anN, anNil, mMake, makeF, mMakeK, mTold, mVar, pSl, oNone, oSome, mSl, sFor, iData, mOp, mUn]) ?_
    refine sSeq_nx (g1 := ⟨[some (.dat (scrD ns)), some (.ownL dd), y2, some (.dat (.str wNone)), none, none, none, none, y8, y9, none, none, none, y13, y14, none, none, none], []⟩) (by simp [funOf, argVs, argV, argsOf, sSeq, sIf, sBind, mBP, pTst, pFld, wVar, wVal, wFld, sRaise, endOf, sNext, pOp, pC, pVar, sRet, sRetN, mP, mW, sExpr, sAsg, sAugF, insAt, sSetF, sSetFN, eBind, mCall, callF, mMeth, clsAt, noFld, notFld, aNil, aConsV, okV, okVs, asB, asI, asBv, bAnd, bOr, bNot, mTst, mAndB, mOrB, mNotB, mIf, mAnd, mOr, mNot, pAnd, pOr, pNot, pIf, pUn, pNil, pCons, pCB, pTup, pLst, pIsi, fNotN, fIsN, isNone, fEq, fNe, fEqB, fAdd, fSub, fI, fIB, fIC, fNeg, fIx, fLen, fLt, fMax2, fMin2, fInt, contAt, lstAt, dicAt, mAppP, mLPop, Sg.put, Sg.set, pLenL, pLenD, pDGet, pDGet2, pDIn, pDNotIn, sDPutP, mDPop1, mDPop2, keyD, nLst, nDic, sAsgN, sFrz, Sg.frz, endP, pureOf, pChain, mTup, mLst, mCB, isTy, sNames, setNs, anV, anN, anNil, mMake, makeF, mMakeK, mTold, mVar, pSl, oNone, oSome, mSl, sFor, iData, mOp, mUn]) ?_
    refine sSeq_nx (g1 := ⟨[some (.dat (scrD ns)), some (.dat (.list dd)), y2, some (.dat (.str due)), y4, none, none, none, y8, y9, y10, y11, none, y13, y14, none, none, none], []⟩) (by simp [iData, e3, funOf, argVs, argV, argsOf, sSeq, sIf, sBind, mBP, pTst, pFld, wVar, wVal, wFld, sRaise, endOf, sNext, pOp, pC, pVar, sRet, sRetN, mP, mW, sExpr, sAsg, sAugF, insAt, sSetF, sSetFN, eBind, mCall, callF, mMeth, clsAt, noFld, notFld, aNil, aConsV, okV, okVs, asB, asI, asBv, bAnd, bOr, bNot, mTst, mAndB, mOrB, mNotB, mIf, mAnd, mOr, mNot, pAnd, pOr, pNot, pIf, pUn, pNil, pCons, pCB, pTup, pLst, pIsi, fNotN, fIsN, isNone, fEq, fNe, fEqB, fAdd, fSub, fI, fIB, fIC, fNeg, fIx, fLen, fLt, fMax2, fMin2, fInt, contAt, lstAt, dicAt, mAppP, mLPop, Sg.put, Sg.set, pLenL, pLenD, pDGet, pDGet2, pDIn, pDNotIn, sDPutP, mDPop1, mDPop2, keyD, nLst, nDic, sAsgN, sFrz, Sg.frz, endP, pureOf, pChain, mTup, mLst, mCB, isTy, sNames, setNs, anV, anN, anNil, mMake, makeF, mMakeK, mTold, mVar, pSl, oNone, oSome, mSl, sFor, iData, mOp, mUn]) ?_
    refine sSeq_nx (g1 := ⟨[some (.dat (scrD ns)), some (.dat (.list dd)), y2, some (.dat (.str due)), y4, none, none, none, y8, y9, y10, y11, none, y13, y14, none, none, none], []⟩) (by simp [tx, rd, ne1, ne2, funOf, argVs, argV, argsOf, sSeq, sIf, sBind, mBP, pTst, pFld, wVar, wVal, wFld, sRaise, endOf, sNext, pOp, pC, pVar, sRet, sRetN, mP, mW, sExpr, sAsg, sAugF, insAt, sSetF, sSetFN, eBind, mCall, callF, mMeth, clsAt, noFld, notFld, aNil, aConsV, okV, okVs, asB, asI, asBv, bAnd, bOr, bNot, mTst, mAndB, mOrB, mNotB, mIf, mAnd, mOr, mNot, pAnd, pOr, pNot, pIf, pUn, pNil, pCons, pCB, pTup, pLst, pIsi, fNotN, fIsN, isNone, fEq, fEqB, fAdd, fSub, fI, fIB, fIC, fNeg, fIx, fLen, fLt, fMax2, fMin2, fInt, contAt, lstAt, dicAt, mAppP, mLPop, Sg.put, Sg.set, pLenL, pLenD, pDGet, pDGet2, pDIn, pDNotIn, sDPutP, mDPop1, mDPop2, keyD, nLst, nDic, sAsgN, sFrz, Sg.frz, endP, pureOf, pChain, mTup, mLst, mCB, isTy, sNames, setNs, anV, anN, anNil, mMake, makeF, mMakeK, mTold, mVar, pSl, oNone, oSome, mSl, sFor, iData, mOp, mUn]) ?_
    refine sSeq_nx (g1 := ⟨[some (.dat (scrD ns)), some (.dat (.list dd)), y2, some (.dat (.str due)), y4, some (.dat (.str (Str.ofString "abz019 -\nkM"))), none, none, y8, y9, y10, y11, none, y13, y14, none, none, none], []⟩) (by simp [funOf, argVs, argV, argsOf, sSeq, sIf, sBind, mBP, pTst, pFld, wVar, wVal, wFld, sRaise, endOf, sNext, pOp, pC, pVar, sRet, sRetN, mP, mW, sExpr, sAsg, sAugF, insAt, sSetF, sSetFN, eBind, mCall, callF, mMeth, clsAt, noFld, notFld, aNil, aConsV, okV, okVs, asB, asI, asBv, bAnd, bOr, bNot, mTst, mAndB, mOrB, mNotB, mIf, mAnd, mOr, mNot, pAnd, pOr, pNot, pIf, pUn, pNil, pCons, pCB, pTup, pLst, pIsi, fNotN, fIsN, isNone, fEq, fNe, fEqB, fAdd, fSub, fI, fIB, fIC, fNeg, fIx, fLen, fLt, fMax2, fMin2, fInt, contAt, lstAt, dicAt, mAppP, mLPop, Sg.put, Sg.set, pLenL, pLenD, pDGet, pDGet2, pDIn, pDNotIn, sDPutP, mDPop1, mDPop2, keyD, nLst, nDic, sAsgN, sFrz, Sg.frz, endP, pureOf, pChain, mTup, mLst, mCB, isTy, sNames, setNs, anV, anN, anNil, mMake, makeF, mMakeK, mTold, mVar, pSl, oNone, oSome, mSl, sFor, iData, mOp, mUn]) ?_
    refine sSeq_nx (g1 := ⟨[some (.dat (scrD ns)), some (.dat (.list dd)), z2, some (.dat (.str due)), y4, some (.dat (.str (Str.ofString "abz019 -\nkM"))), none, none, y8, y9, y10, y11, z12, y13, y14, z15, z16, z17], []⟩) (by simp [iRg, e5', funOf, argVs, argV, argsOf, sSeq, sIf, sBind, mBP, pTst, pFld, wVar, wVal, wFld, sRaise, endOf, sNext, pOp, pC, pVar, sRet, sRetN, mP, mW, sExpr, sAsg, sAugF, insAt, sSetF, sSetFN, eBind, mCall, callF, mMeth, clsAt, noFld, notFld, aNil, aConsV, okV, okVs, asB, asI, asBv, bAnd, bOr, bNot, mTst, mAndB, mOrB, mNotB, mIf, mAnd, mOr, mNot, pAnd, pOr, pNot, pIf, pUn, pNil, pCons, pCB, pTup, pLst, pIsi, fNotN, fIsN, isNone, fEq, fNe, fEqB, fAdd, fSub, fI, fIB, fIC, fNeg, fIx, fLen, fLt, fMax2, fMin2, fInt, contAt, lstAt, dicAt, mAppP, mLPop, Sg.put, Sg.set, pLenL, pLenD, pDGet, pDGet2, pDIn, pDNotIn, sDPutP, mDPop1, mDPop2, keyD, nLst, nDic, sAsgN, sFrz, Sg.frz, endP, pureOf, pChain, mTup, mLst, mCB, isTy, sNames, setNs, anV, anN, anNil, mMake, makeF, mMakeK, mTold, mVar, pSl, oNone, oSome, mSl, sFor, iData, mOp, mUn]) ?_
    refine sSeq_nx (g1 := ⟨[some (.dat (scrD ns)), some (.dat (.list dd)), z2, some (.dat (.str due)), y4, some (.dat (.str (Str.ofString "abz019 -\nkM"))), some (.ownL ((badTs.drop 5).take 8)), none, y8, y9, y10, y11, z12, y13, y14, z15, z16, z17], []⟩) (by simp [badTs, funOf, argVs, argV, argsOf, sSeq, sIf, sBind, mBP, pTst, pFld, wVar, wVal, wFld, sRaise, endOf, sNext, pOp, pC, pVar, sRet, sRetN, mP, mW, sExpr, sAsg, sAugF, insAt, sSetF, sSetFN, eBind, mCall, callF, mMeth, clsAt, noFld, notFld, aNil, aConsV, okV, okVs, asB, asI, asBv, bAnd, bOr, bNot, mTst, mAndB, mOrB, mNotB, mIf, mAnd, mOr, mNot, pAnd, pOr, pNot, pIf, pUn, pNil, pCons, pCB, pTup, pLst, pIsi, fNotN, fIsN, isNone, fEq, fNe, fEqB, fAdd, fSub, fI, fIB, fIC, fNeg, fIx, fLen, fLt, fMax2, fMin2, fInt, contAt, lstAt, dicAt, mAppP, mLPop, Sg.put, Sg.set, pLenL, pLenD, pDGet, pDGet2, pDIn, pDNotIn, sDPutP, mDPop1, mDPop2, keyD, nLst, nDic, sAsgN, sFrz, Sg.frz, endP, pureOf, pChain, mTup, mLst, mCB, isTy, sNames, setNs, anV, anN, anNil, mMake, makeF, mMakeK, mTold, mVar, pSl, oNone, oSome, mSl, sFor, iData, mOp, mUn]) ?_
    refine sSeq_nx (g1 := ⟨[some (.dat (scrD ns)), some (.dat (.list dd)), z2, some (.dat (.str due)), y4, some (.dat (.str (Str.ofString "abz019 -\nkM"))), some (.ownL (badTs.drop 5)), none, y8, y9, y10, y11, z12, y13, y14, z15, z16, z17], []⟩) (by simp [badTs, mExtP, funOf, argVs, argV, argsOf, sSeq, sIf, sBind, mBP, pTst, pFld, wVar, wVal, wFld, sRaise, endOf, sNext, pOp, pC, pVar, sRet, sRetN, mP, mW, sExpr, sAsg, sAugF, insAt, sSetF, sSetFN, eBind, mCall, callF, mMeth, clsAt, noFld, notFld, aNil, aConsV, okV, okVs, asB, asI, asBv, bAnd, bOr, bNot, mTst, mAndB, mOrB, mNotB, mIf, mAnd, mOr, mNot, pAnd, pOr, pNot, pIf, pUn, pNil, pCons, pCB, pTup, pLst, pIsi, fNotN, fIsN, isNone, fEq, fNe, fEqB, fAdd, fSub, fI, fIB, fIC, fNeg, fIx, fLen, fLt, fMax2, fMin2, fInt, contAt, lstAt, dicAt, mAppP, mLPop, Sg.put, Sg.set, pLenL, pLenD, pDGet, pDGet2, pDIn, pDNotIn, sDPutP, mDPop1, mDPop2, keyD, nLst, nDic, sAsgN, sFrz, Sg.frz, endP, pureOf, pChain, mTup, mLst, mCB, isTy, sNames, setNs, anV, anN, anNil, mMake, makeF, mMakeK, mTold, mVar, pSl, oNone, oSome, mSl, sFor, iData, mOp, mUn]) ?_
    refine sSeq_nx (g1 := ⟨[some (.dat (scrD ns)), some (.dat (.list dd)), z2, some (.dat (.str due)), y4, some (.dat (.str (Str.ofString "abz019 -\nkM"))), some (.dat (.list (badTs.drop 5))), z7, y8, y9, y10, y11, z12, y13, y14, z15, z16, z17], []⟩) ?_ ?_
    · have ad : fAdd (.list (badTs.take 5)) (.list (badTs.drop 5)) = some (.list badTs) := rfl
      have ad' : fAdd (.list [.none, .bool true, .int 3, .list [.str (Str.ofString "begin")], .tuple [.str (Str.ofString "begin")]]) (.list (badTs.drop 5)) = some (.list badTs) := ad
      generalize badTs.drop 5 = bd at ad' e6 ⊢
      generalize badTs = bt at ad' e6
      simp [iData, ad', e6, funOf, argVs, argV, argsOf, sSeq, sIf, sBind, mBP, pTst, pFld, wVar, wVal, wFld, sRaise, endOf, sNext, pOp, pC, pVar, sRet, sRetN, mP, mW, sExpr, sAsg, sAugF, insAt, sSetF, sSetFN, eBind, mCall, callF, mMeth, clsAt, noFld, notFld, aNil, aConsV, okV, okVs, asB, asI, asBv, bAnd, bOr, bNot, mTst, mAndB, mOrB, mNotB, mIf, mAnd, mOr, mNot, pAnd, pOr, pNot, pIf, pUn, pNil, pCons, pCB, pTup, pLst, pIsi, fNotN, fIsN, isNone, fEq, fNe, fEqB, fSub, fI, fIB, fIC, fNeg, fIx, fLen, fLt, fMax2, fMin2, fInt, contAt, lstAt, dicAt, mAppP, mLPop, Sg.put, Sg.set, pLenL, pLenD, pDGet, pDGet2, pDIn, pDNotIn, sDPutP, mDPop1, mDPop2, keyD, nLst, nDic, sAsgN, sFrz, Sg.frz, endP, pureOf, pChain, mTup, mLst, mCB, isTy, sNames, setNs, anV, anN, anNil, mMake, makeF, mMakeK, mTold, mVar, pSl, oNone, oSome, mSl, sFor, iData, mOp, mUn]
    · refine sRet_ok (mAnd_tt (g1 := ⟨[some (.dat (scrD ns)), some (.dat (.list dd)), z2, some (.dat (.str due)), y4, some (.dat (.str (Str.ofString "abz019 -\nkM"))), some (.dat (.list (badTs.drop 5))), z7, y8, y9, y10, y11, z12, y13, y14, z15, z16, z17], []⟩) ?_ ?_)
      · have r0' : FRD [.dat (.str (Str.ofString ""))] [] = some (.ok (.dat (.list [])), []) := r0
        simp [r0', q0, funOf, argVs, argV, argsOf, sSeq, sIf, sBind, mBP, pTst, pFld, wVar, wVal, wFld, sRaise, endOf, sNext, pOp, pC, pVar, sRet, sRetN, mP, mW, sExpr, sAsg, sAugF, insAt, sSetF, sSetFN, eBind, mCall, callF, mMeth, clsAt, noFld, notFld, aNil, aConsV, okV, okVs, asB, asI, asBv, bAnd, bOr, bNot, mTst, mAndB, mOrB, mNotB, mIf, mAnd, mOr, mNot, pAnd, pOr, pNot, pIf, pUn, pNil, pCons, pCB, pTup, pLst, pIsi, fNotN, fIsN, isNone, fNe, fEqB, fAdd, fSub, fI, fIB, fIC, fNeg, fIx, fLen, fLt, fMax2, fMin2, fInt, contAt, lstAt, dicAt, mAppP, mLPop, Sg.put, Sg.set, pLenL, pLenD, pDGet, pDGet2, pDIn, pDNotIn, sDPutP, mDPop1, mDPop2, keyD, nLst, nDic, sAsgN, sFrz, Sg.frz, endP, pureOf, pChain, mTup, mLst, mCB, isTy, sNames, setNs, anV, anN, anNil, mMake, makeF, mMakeK, mTold, mVar, pSl, oNone, oSome, mSl, sFor, iData, mOp, mUn]
      · simp [r1', q1, funOf, argVs, argV, argsOf, sSeq, sIf, sBind, mBP, pTst, pFld, wVar, wVal, wFld, sRaise, endOf, sNext, pOp, pC, pVar, sRet, sRetN, mP, mW, sExpr, sAsg, sAugF, insAt, sSetF, sSetFN, eBind, mCall, callF, mMeth, clsAt, noFld, notFld, aNil, aConsV, okV, okVs, asB, asI, asBv, bAnd, bOr, bNot, mTst, mAndB, mOrB, mNotB, mIf, mAnd, mOr, mNot, pAnd, pOr, pNot, pIf, pUn, pNil, pCons, pCB, pTup, pLst, pIsi, fNotN, fIsN, isNone, fNe, fEqB, fAdd, fSub, fI, fIB, fIC, fNeg, fIx, fLen, fLt, fMax2, fMin2, fInt, contAt, lstAt, dicAt, mAppP, mLPop, Sg.put, Sg.set, pLenL, pLenD, pDGet, pDGet2, pDIn, pDNotIn, sDPutP, mDPop1, mDPop2, keyD, nLst, nDic, sAsgN, sFrz, Sg.frz, endP, pureOf, pChain, mTup, mLst, mCB, isTy, sNames, setNs, anV, anN, anNil, mMake, makeF, mMakeK, mTold, mVar, pSl, oNone, oSome, mSl, sFor, iData, mOp, mUn]
  refine ⟨[], ?_⟩
  simp [F_law, funOf, argsOf, argVs, argV, main, endOf]
abbrev LawF : Fun := F_law F_deeds_text FRD
theorem law_true {ns : List Int} (hns : ns.length ≤ 63) : ∃ st', LawF [.dat (scrD ns)] [] = some (.ok (.dat (.bool true)), st') := k63_law hns
end EV

set_option maxHeartbeats 0
namespace EV
open PySem PySem.Spec PyProof.Rows L2 Evl L2H LamX LR
def TTk (K : PySem.W.Frag) : TbS := ⟨true, [(He.tabOf K (He.codeOf K ("law", none)), ("law" ++ ".<locals>." : Str) ++ "<lambda>")]⟩
theorem tt_mem {K : PySem.W.Frag} {p : Addr × Str} (h : p ∈ (TTk K).l) : ∃ q ∈ tf, (He.cT K q).2 = p.1 := by
  simp only [TTk, List.mem_cons, List.not_mem_nil, or_false] at h
  rcases h with rfl
  · exact ⟨("law", none), by decide, rfl⟩
theorem law_end {K : PySem.W.Frag} {ns : List Int} {H : Hp} {a : Addr} (hl : ns.length ≤ 63) (hS : SqL K H a (ns.map V.int)) (hT : Tabs (TTk K).l H) : spF K FLD (TTk K) 1 LawF [.ref a] H (fun v _ => v = .bl true) fun _ _ _ => False := by
  obtain ⟨st', e⟩ := law_true hl
  exact law_spF e hS hT
theorem facts {P : Program} {w : World} {K : PySem.W.Frag} {h : Heap} {mg : Str → Option Value} {f : Addr} (X : K.In h) (G : h.Ns mainGlobals mg) (hfa : mg ("law" : Str) = some (.ref f)) (c : SaysA as fa fn tf ex ts w h K) :
    ∃ fd : FuncData, (∀ (s : Shared) (v : Value), BindsTo s fd ⟨[v], []⟩ [("script", v)]) ∧ ∀ base : Heap, K.In base → base.Ns mainGlobals mg → (∀ p ∈ tf, TabB base mg (He.cT K p).1 (He.cT K p).2) → FnOk P w K mg base (CXL P w) 9 f fd ["script"] (spF K FLD (TTk K) 1 LawF) := by
  have T : Txt mg := ⟨c.free X G 15 rfl, c.free X G 16 rfl, c.free X G 17 rfl, c.free X G 18 rfl, c.free X G 19 rfl, c.free X G 20 rfl, c.free X G 21 rfl, c.free X G 22 rfl, c.free X G 23 rfl, c.free X G 24 rfl, c.free X G 25 rfl, c.str X G 26 rfl, c.str X G 27 rfl, c.int X G 28 rfl, c.int X G 29 rfl, c.str X G 31 rfl⟩
  obtain ⟨more0, more1⟩ := He.ba c.more
  have nd : (tf.map fun p => (He.cT K p).2).Nodup := of_decide_eq_true more0
  obtain ⟨xt0, more4⟩ := He.ba more1
  have dv0 := more4
  have xt : ExT exNs K mg := exT_of X G xt0
  have dk_LENGTHS : DcI w K mg "LENGTHS" ki_LENGTHS := dcI_mk (c.glo X G 30 rfl) (dicTop c 0 rfl) dv0
  obtain ⟨fd_law_pick, F_law_pick⟩ := c.fnAt 9 (d := d_law_pick) rfl
  have m_law_pick := c.glo X G 9 (x := "_law_pick") rfl
  obtain ⟨fd_is_key, F_is_key⟩ := c.fnAt 1 (d := d_is_key) rfl
  have m_is_key := c.glo X G 1 (x := "is_key") rfl
  obtain ⟨fd_is_value, F_is_value⟩ := c.fnAt 2 (d := d_is_value) rfl
  have m_is_value := c.glo X G 2 (x := "is_value") rfl
  obtain ⟨fd_law_key, F_law_key⟩ := c.fnAt 10 (d := d_law_key) rfl
  have m_law_key := c.glo X G 10 (x := "_law_key") rfl
  obtain ⟨fd_law_value, F_law_value⟩ := c.fnAt 11 (d := d_law_value) rfl
  have m_law_value := c.glo X G 11 (x := "_law_value") rfl
  obtain ⟨fd_is_whole, F_is_whole⟩ := c.fnAt 0 (d := d_is_whole) rfl
  have m_is_whole := c.glo X G 0 (x := "is_whole") rfl
  obtain ⟨fd_is_deed, F_is_deed⟩ := c.fnAt 3 (d := d_is_deed) rfl
  have m_is_deed := c.glo X G 3 (x := "is_deed") rfl
  obtain ⟨fd_is_good, F_is_good⟩ := c.fnAt 4 (d := d_is_good) rfl
  have m_is_good := c.glo X G 4 (x := "is_good") rfl
  obtain ⟨fd_word_of, F_word_of⟩ := c.fnAt 5 (d := d_word_of) rfl
  have m_word_of := c.glo X G 5 (x := "word_of") rfl
  obtain ⟨fd_deeds_text, F_deeds_text⟩ := c.fnAt 6 (d := d_deeds_text) rfl
  have m_deeds_text := c.glo X G 6 (x := "deeds_text") rfl
  obtain ⟨fd_part_in, F_part_in⟩ := c.fnAt 7 (d := d_part_in) rfl
  have m_part_in := c.glo X G 7 (x := "part_in") rfl
  obtain ⟨fd_read_deeds, F_read_deeds⟩ := c.fnAt 8 (d := d_read_deeds) rfl
  have m_read_deeds := c.glo X G 8 (x := "read_deeds") rfl
  obtain ⟨fd_law, F_law⟩ := c.fnAt 14 (d := d_law) rfl
  have m_law := c.glo X G 14 (x := "law") rfl
  obtain ⟨fd_law_told, F_law_told⟩ := c.fnAt 13 (d := d_law_told) rfl
  have m_law_told := c.glo X G 13 (x := "_law_told") rfl
  obtain ⟨fd_law_class, F_law_class⟩ := c.fnAt 12 (d := d_law_class) rfl
  have m_law_class := c.glo X G 12 (x := "_law_class") rfl
  have e := hfa.symm.trans m_law
  cases e
  have hmT_law : (He.tabOf K (He.codeOf K ("law", none)), ("law" ++ ".<locals>." : Str) ++ "<lambda>") ∈ (TTk K).l := by unfold TTk; simp
  have hu_law : ∀ p ∈ (TTk K).l, p.1 = He.tabOf K (He.codeOf K ("law", none)) → p.2 = ("law" ++ ".<locals>." : Str) ++ "<lambda>" := by
    intro p hp he
    simp only [TTk, List.mem_cons, List.not_mem_nil, or_false] at hp
    rcases hp with rfl
    · rfl
  refine ⟨fd_law, fun s v => FunD.bindsA (ps := ["script"]) F_law (fun _ _ _ _ _ _ us hl => match us, hl with | [_], _ => rfl) s [v] rfl, fun base _ _ TB => ?_⟩
  have g_law_pick := fx_law_pick (P := P) (w := w) (K := K) (mg := mg) (base := base) (T := T) (F := F_law_pick) (hm := m_law_pick)
  have g_is_key := fx_is_key (P := P) (w := w) (K := K) (mg := mg) (base := base) (T := T) (F := F_is_key) (hm := m_is_key)
  have g_is_value := fx_is_value (P := P) (w := w) (K := K) (mg := mg) (base := base) (T := T) (F := F_is_value) (hm := m_is_value)
  have g_law_key := fx_law_key (P := P) (w := w) (K := K) (mg := mg) (base := base) (T := T) (F := F_law_key) (hm := m_law_key) (g_law_pick := g_law_pick)
  have g_law_value := fx_law_value (P := P) (w := w) (K := K) (mg := mg) (base := base) (T := T) (F := F_law_value) (hm := m_law_value) (g_law_pick := g_law_pick)
  have g_is_whole := fx_is_whole (P := P) (w := w) (K := K) (mg := mg) (base := base) (T := T) (xt := xt) (F := F_is_whole) (hm := m_is_whole)
  have g_is_deed := fx_is_deed (P := P) (w := w) (K := K) (mg := mg) (base := base) (T := T) (xt := xt) (dk_LENGTHS := dk_LENGTHS) (F := F_is_deed) (hm := m_is_deed)
  have g_is_good := fx_is_good (P := P) (w := w) (K := K) (mg := mg) (base := base) (T := T) (xt := xt) (F := F_is_good) (hm := m_is_good) (g_is_deed := g_is_deed) (g_is_key := g_is_key) (g_is_value := g_is_value) (g_is_whole := g_is_whole)
  have g_word_of := fx_word_of (P := P) (w := w) (K := K) (mg := mg) (base := base) (T := T) (xt := xt) (F := F_word_of) (hm := m_word_of)
  have g_deeds_text := fx_deeds_text (P := P) (w := w) (K := K) (mg := mg) (base := base) (TT := TTk K) (hT := rfl) (T := T) (xt := xt) (F := F_deeds_text) (hm := m_deeds_text) (g_is_good := g_is_good) (g_word_of := g_word_of)
  have g_part_in := fx_part_in (P := P) (w := w) (K := K) (mg := mg) (base := base) (TT := TTk K) (hT := rfl) (T := T) (xt := xt) (F := F_part_in) (hm := m_part_in)
  have g_read_deeds := fx_read_deeds (P := P) (w := w) (K := K) (mg := mg) (base := base) (TT := TTk K) (hT := rfl) (T := T) (xt := xt) (F := F_read_deeds) (hm := m_read_deeds) (g_is_good := g_is_good) (g_part_in := g_part_in) (g_deeds_text := g_deeds_text)
  exact ok_law (P := P) (w := w) (K := K) (mg := mg) (base := base) (TT := TTk K) (hT := rfl) (T := T) (xt := xt) (F := F_law) (TB := (TB ("law", none) (by decide))) (hmT := hmT_law) (hu := hu_law) (F_law_told := F_law_told) (m_law_told := m_law_told) (F_law_class := F_law_class) (m_law_class := m_law_class) (g_law_pick := g_law_pick) (g_law_key := g_law_key) (g_law_value := g_law_value) (g_deeds_text := g_deeds_text) (g_read_deeds := g_read_deeds)
end EV
open PySem PySem.W PySem.Calls PyProof.Rows
theorem PySem.Challenge.cw_leafroom_k63_whole_texts_holds : PySem.Challenge.rw_leafroom_k63_whole_texts.Holds := by
  w_on; o_law
  refine HandSHeadRun.head_any (r := OpenLaw.row PySem.Challenge.rw_leafroom_k63_whole_texts) (q := LR.qv) (H := LR.hk) (ob := LR.ob) (M := 20000) (loose := LR.nms) (d := HandSHeadRun.topDef (OpenLaw.row PySem.Challenge.rw_leafroom_k63_whole_texts).prog 40) (kwd := []) LR.ob_eq
    (by kernel_rfl) (fun s => by kernel_rfl) LR.run (by kernel_rfl) (by kernel_rfl) (by kernel_rfl) (by rfl) (by first | assumption | decide +kernel) (by decide +kernel) ⟨rfl, rfl, rfl, rfl, rfl, by decide +kernel⟩ ?hw ?hc
  case hw => w_witness2
  case hc =>
    refine LamX.walk_ofTsE (l := PySem.Challenge.rw_leafroom_k63_whole_texts) (n := 63) (k := 9) (x := "script") (CX := fun w => LR.CXL (PySem.Challenge.rw_leafroom_k63_whole_texts).prog w) rfl (by decide) (by kernel_rfl) ⟨rfl, by decide, by decide⟩ ?F (fun w H s e s' z => ?cx)
    case cx =>
      obtain ⟨_, _, _, _, _, _, _, _, _, _, _, _, y⟩ := z
      exact y
    case F =>
      intro w mg fa h Y G hmg0
      obtain ⟨K, KX, c⟩ := Y
      have hmg : mg ("law" : PySem.Str) = some (.ref fa) := by
        have e : (HandSHeadRun.topDef (OpenLaw.row PySem.Challenge.rw_leafroom_k63_whole_texts).prog 40).name = ("law" : PySem.Str) := by kernel_rfl
        rw [← e]
        exact hmg0
      obtain ⟨fd, hb, hF⟩ := EV.facts (P := (PySem.Challenge.rw_leafroom_k63_whole_texts).prog) (w := w) KX G hmg c
      refine ⟨K, KX, fd, LR.tf.map (He.cT K), EV.spF K EV.FLD (EV.TTk K) 1 EV.LawF, fun p hp => ?_, fun p hp => ?_, fun p hp => ?_, hb, fun H a ns hl _ hT hS => EV.law_end hl hS (fun p hp => ?_), fun base k1 k2 k3 => hF base k1 k2 (fun p hp => k3 _ (List.mem_map_of_mem hp))⟩
      · obtain ⟨q, hq, rfl⟩ := List.mem_map.mp hp
        exact c.empty _ hq
      · obtain ⟨q, hq, rfl⟩ := List.mem_map.mp hp
        exact c.out _ hq
      · obtain ⟨q, hq, rfl⟩ := List.mem_map.mp hp
        exact PySem.W.codeHd_of_K KX (c.hd _ hq)
      · obtain ⟨q, hq, e⟩ := EV.tt_mem hp
        rw [← e]
        exact LamX.TabS.nil (hT _ (List.mem_map_of_mem hq))
