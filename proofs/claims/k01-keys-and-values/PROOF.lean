import PyProof.Rows.All
import Wide.All
import OpenK.AllK
import Wide.FinOn
import KE.KStateDown
import Lean
import HandS.ForMost
import HandS.More
import HandS.WordsExc
import HandS.Defaults
import HandS.Head0
import HandS.Head1
import HandS.Head2
import HandS.HeadEnd
import HandS.HeadHook1
import HandS.HeadHook2
import HandS.HeadHook4
import HandS.Walk
import HandS.IsInst
import HandS.Evl
import HandS.StrMore
import HandS.TupAny
import HandS.TupMul
import HandS.TupLe
import HandS.Deep
import HandS.Zip
import HandS.Conv
import HandS.NoneIn
import HandS.Lambda
import HandS.HotCalls
import HandS.SuiteRaise
import HandS.ExcIs
import HandS.TryOnly
import HandS.ExcOwn
import HandS.CallRecv
import HandS.Codes
import HandS.SortInts
import HandS.SetKeys
import HandS.Strs
import HandS.DictComp
import HandS.ListItems
import HandS.WrittenGet
import HandS.Small
import HandS.Flow
import HandS.Style
import HandS.RaiseMore
import HandS.Wide
import HandS.EndTab
import HandS.HeadWalk
import PySem.Challenge.RW_leafroom_k01_keys_and_values
set_option Elab.async false
set_option linter.all false
set_option maxRecDepth 100000
set_option maxHeartbeats 4000000
/-! ### a head by facts over a part of the heap that is named by its addresses (own work) -/
namespace LR
open PySem PySem.Spec PyProof.Rows L2
abbrev AlA : Type := Bool × List He.FnW × Bool
/-- what is looked at: the facts, the defs, and one more Bool -/
def okA (as : List Addr) (fa : List He.Fa) (g : Addr → Option Obj) : Bool := fa.all fun f => f.ok (He.frG g as)
def okD (as : List Addr) (fn : List He.DefD) (g : Addr → Option Obj) : Bool := fn.all fun d => d.ok (He.frG g as)
def fnA (as : List Addr) (fn : List He.DefD) (g : Addr → Option Obj) : List He.FnW := fn.map fun d => He.fnW (He.frG g as) d.at_
def emptyAt (g : Addr → Option Obj) (a : Addr) : Bool := match g a with
  | some o => He.emptyTab o
  | none => false
/-- the tables of code objects: empty, not among the addresses -/
def tabA (as : List Addr) (tf : List He.Defn) (g : Addr → Option Obj) : Bool := tf.all fun p => PySem.W.codeHdIn (He.frG g as) (He.cT (He.frG g as) p).1 (He.cT (He.frG g as) p).2 && (emptyAt g (He.cT (He.frG g as) p).2 && !(as.contains (He.cT (He.frG g as) p).2))
structure SaysA (as : List Addr) (fa : List He.Fa) (fn : List He.DefD) (tf : List He.Defn) (ex : PySem.W.Frag → Bool) (h : Heap) (K : PySem.W.Frag) : Prop where
  fact : ∀ f ∈ fa, f.ok K = true
  defs : ∀ d ∈ fn, d.ok K = true ∧ He.fnW K d.at_ = d.val
  more : ex K = true
  hd : ∀ p ∈ tf, PySem.W.codeHdIn K (He.cT K p).1 (He.cT K p).2 = true
  out : ∀ p ∈ tf, K.lookup (He.cT K p).2 = none
  empty : ∀ p ∈ tf, h.get? (He.cT K p).2 = some { cls := .none, data := .fields #[] }
abbrev ObA : Type := Bool × Bool × List He.FnW × Bool
def obsA (as : List Addr) (fa : List He.Fa) (fn : List He.DefD) (tf : List He.Defn) (ex : PySem.W.Frag → Bool) (g : Addr → Option Obj) : ObA := (okA as fa g, okD as fn g, fnA as fn g, ex (He.frG g as) && tabA as tf g)
def valA (fn : List He.DefD) : ObA := (true, true, fn.map He.DefD.val, true)
theorem frG_none {g : Addr → Option Obj} {a : Addr} : ∀ {as : List Addr}, as.contains a = false → (He.frG g as).lookup a = none
  | [], _ => rfl
  | b :: r, h => by
    have h2 : (a == b) = false ∧ r.contains a = false := by
      rw [List.contains_cons] at h
      exact Bool.or_eq_false_iff.mp h
    unfold He.frG
    rw [List.filterMap_cons]
    cases hb : g b with
    | none => exact frG_none h2.2
    | some o =>
      show (match a == b with | true => some o | false => (He.frG g r).lookup a) = none
      rw [h2.1]
      exact frG_none h2.2
theorem saysA_of {as : List Addr} {fa : List He.Fa} {fn : List He.DefD} {tf : List He.Defn} {ex : PySem.W.Frag → Bool} {h : Heap} (e : obsA as fa fn tf ex h.get? = valA fn) : SaysA as fa fn tf ex h (He.frG h.get? as) := by
  have e1 : okA as fa h.get? = true := congrArg (fun z : ObA => z.1) e
  have e2 : okD as fn h.get? = true := congrArg (fun z : ObA => z.2.1) e
  have e3 : fnA as fn h.get? = fn.map He.DefD.val := congrArg (fun z : ObA => z.2.2.1) e
  have e4 : (ex (He.frG h.get? as) && tabA as tf h.get?) = true := congrArg (fun z : ObA => z.2.2.2) e
  obtain ⟨e5, e6⟩ := He.ba e4
  have key : ∀ p ∈ tf, PySem.W.codeHdIn (He.frG h.get? as) (He.cT (He.frG h.get? as) p).1 (He.cT (He.frG h.get? as) p).2 = true ∧ emptyAt h.get? (He.cT (He.frG h.get? as) p).2 = true ∧ as.contains (He.cT (He.frG h.get? as) p).2 = false := fun p hp => by
    obtain ⟨a, b⟩ := He.ba (List.all_eq_true.mp e6 p hp)
    obtain ⟨b, c⟩ := He.ba b
    exact ⟨a, b, by simpa using c⟩
  refine ⟨fun f hf => List.all_eq_true.mp e1 f hf, fun d hd => ⟨List.all_eq_true.mp e2 d hd, ?_⟩, e5, fun p hp => (key p hp).1, fun p hp => frG_none (key p hp).2.2, fun p hp => ?_⟩
  · obtain ⟨i, hi, rfl⟩ := List.mem_iff_getElem.mp hd
    have z : (fnA as fn h.get?)[i]? = (fn.map He.DefD.val)[i]? := by rw [e3]
    unfold fnA at z
    rw [List.getElem?_map, List.getElem?_map, List.getElem?_eq_getElem hi] at z
    exact Option.some.inj z
  · have b := (key p hp).2.1
    unfold emptyAt at b
    cases q : h.get? (He.cT (He.frG h.get? as) p).2 with
    | none =>
      rw [q] at b
      cases b
    | some o =>
      rw [q] at b
      rw [He.emptyTab_eq b]
def hookA (as : List Addr) (fa : List He.Fa) (fn : List He.DefD) (tf : List He.Defn) (ex : PySem.W.Frag → Bool) : PySem.W.Hook where
  α := ObA
  obs := fun s => obsA as fa fn tf ex s.heap.get?
  val := fun _ => valA fn
  says := fun _ h => ∃ K : PySem.W.Frag, K.In h ∧ SaysA as fa fn tf ex h K
  of := fun _ _ e => ⟨_, He.frG_in, saysA_of e⟩
  keeps := fun _ _ _ ⟨K, hK, c⟩ k => ⟨K, PySem.W.Frag.In.keeps hK k, ⟨c.fact, c.defs, c.more, c.hd, c.out, fun p hp => k _ _ (c.empty p hp)⟩⟩
theorem obsA_eq {as : List Addr} {fa : List He.Fa} {fn : List He.DefD} {tf : List He.Defn} {ex : PySem.W.Frag → Bool} {g : Addr → Option Obj} {s : Shared} (h : ∀ a, g a = s.heap.get? a) : obsA as fa fn tf ex g = (hookA as fa fn tf ex).obs s := by
  have e : g = s.heap.get? := funext h
  rw [e] <;> rfl
section
variable {as : List Addr} {fa : List He.Fa} {fn : List He.DefD} {tf : List He.Defn} {ex : PySem.W.Frag → Bool} {h : Heap} {K : PySem.W.Frag}
theorem SaysA.fnAt (c : SaysA as fa fn tf ex h K) (i : Nat) {d : He.DefD} (hd : fn[i]? = some d) : ∃ fd, FunD K d.name d.qual d.params d.body d.scope (d.dvs K) (d.kws K) (He.fAd K d.at_) fd :=
  He.DefD.funD (c.defs d (List.mem_of_getElem? hd)).2 (c.defs d (List.mem_of_getElem? hd)).1
theorem SaysA.faAt (c : SaysA as fa fn tf ex h K) (i : Nat) {f : He.Fa} (hf : fa[i]? = some f) : f.ok K = true := c.fact f (List.mem_of_getElem? hf)
theorem SaysA.free (c : SaysA as fa fn tf ex h K) {mg : Str → Option Value} (X : K.In h) (G : h.Ns mainGlobals mg) (i : Nat) {x : Str} (hf : fa[i]? = some (.free x)) : mg x = none := He.free_ok X G (c.faAt i hf)
theorem SaysA.glo (c : SaysA as fa fn tf ex h K) {mg : Str → Option Value} (X : K.In h) (G : h.Ns mainGlobals mg) (i : Nat) {x : Str} (hf : fa[i]? = some (.glo x)) : mg x = some (.ref (He.ga K x)) := He.glo_ok X G (c.faAt i hf)
theorem SaysA.int (c : SaysA as fa fn tf ex h K) {mg : Str → Option Value} (X : K.In h) (G : h.Ns mainGlobals mg) (i : Nat) {x : Str} {z : Int} (hf : fa[i]? = some (.int x z)) : ∃ u, mg x = some u ∧ RelV (.int z) u := by
  obtain ⟨t, e⟩ := He.int_ok X G (c.faAt i hf)
  exact ⟨_, e, t, rfl⟩
theorem SaysA.str (c : SaysA as fa fn tf ex h K) {mg : Str → Option Value} (X : K.In h) (G : h.Ns mainGlobals mg) (i : Nat) {x z : Str} (hf : fa[i]? = some (.str x z)) : ∃ u, mg x = some u ∧ RelV (.str z) u := by
  obtain ⟨t, e⟩ := He.str_ok X G (c.faAt i hf)
  exact ⟨_, e, t, rfl⟩
end
/-- the run in parts: each look by a kernel run of its own -/
theorem map_pair {α β γ : Type} {x : Option α} {f : α → β} {g : α → γ} {a : β} {b : γ} (h1 : x.map f = some a) (h2 : x.map g = some b) : x.map (fun s => (f s, g s)) = some (a, b) := by
  cases x with
  | none => cases h1
  | some s =>
    have e1 : f s = a := Option.some.inj h1
    have e2 : g s = b := Option.some.inj h2
    rw [← e1, ← e2] <;> rfl
end LR

/-! ### data: what pure code reckons (own work). H: what is known (a logical heap); the heap that runs is any that holds H -/
namespace LR
open PySem PySem.Spec PyProof.Rows L2 Evl
/-- H' is H with objects that are new (not in H1) -/
structure Ext (H H1 H' : Hp) : Prop where
  ex : Ex H H'
  fresh : ∀ b o, H' b = some o → H b = some o ∨ H1 b = none
theorem Ext.refl (H H1 : Hp) : Ext H H1 H := ⟨Ex.refl H, fun _ _ h => .inl h⟩
theorem Ext.trans {H H1 H' H2 H'' : Hp} (a : Ext H H1 H') (e : Ex H1 H2) (b : Ext H' H2 H'') : Ext H H1 H'' :=
  ⟨a.ex.trans b.ex, fun c o h => by
    rcases b.fresh c o h with z | z
    · exact a.fresh c o z
    · exact .inr (fresh_back e z)⟩
theorem Ext.off {H H1 H' : Hp} (a : Ext H H1 H') {l : Addr} {o : HO} (h : H l = none) (h1 : H1 l = some o) : H' l = none := by
  cases q : H' l with
  | none => rfl
  | some u =>
    rcases a.fresh l u q with z | z
    · rw [h] at z
      cases z
    · rw [h1] at z
      cases z
theorem Ext.new {H H1 : Hp} {p : Addr} {o : HO} (e : Ex H H1) (h : H1 p = none) : Ext H H1 (upd H p o) :=
  ⟨Ex.new (fresh_back e h), fun b u q => by
    by_cases z : b = p
    · subst z
      exact .inr h
    · rw [upd_ne z] at q
      exact .inl q⟩
/-- both heaps get the same new object -/
theorem ex_upd {H H1 : Hp} {p : Addr} {o : HO} (e : Ex H H1) : Ex (upd H p o) (upd H1 p o) := fun b u q => by
  by_cases z : b = p
  · subst z
    rw [upd_same] at q ⊢
    exact q
  · rw [upd_ne z] at q ⊢
    exact e b u q
/-- an object that H does not know is changed -/
theorem ex_off {H H1 : Hp} {p : Addr} {o : HO} (e : Ex H H1) (h : H p = none) : Ex H (upd H1 p o) := fun b u q => by
  rw [upd_ne (ne_of_none q h)]
  exact e b u q
/-! data at an address: lists that are tracked, tuples, numbers, texts -/
mutual
inductive Dt (K : PySem.W.Frag) (H : Hp) : V → PyData → Prop
  | non : Dt K H .non .none
  | bl (b : Bool) : Dt K H (.bl b) (.bool b)
  | int (i : Int) : Dt K H (.int i) (.int i)
  | str (x : Str) : Dt K H (.str x) (.str x)
  | lst {a : Addr} {xs : List V} {ds : List PyData} : H a = some (.lst xs) → DtAll K H xs ds → Dt K H (.ref a) (.list ds)
  | tup {a : Addr} {xs : List V} {ds : List PyData} : SqT K H a xs → DtAll K H xs ds → Dt K H (.ref a) (.tuple ds)
  /-- the law's script: a list that is read alone -/
  | scr {a : Addr} (ns : List Int) : SqL K H a (ns.map V.int) → Dt K H (.ref a) (.dict (ns.map fun i => (.int i, .none)))
inductive DtAll (K : PySem.W.Frag) (H : Hp) : List V → List PyData → Prop
  | nil : DtAll K H [] []
  | cons {v : V} {vs : List V} {d : PyData} {ds : List PyData} : Dt K H v d → DtAll K H vs ds → DtAll K H (v :: vs) (d :: ds)
end
section
variable {K : PySem.W.Frag} {H H' : Hp}
mutual
theorem Dt.ex (e : Ex H H') : ∀ {v : V} {d : PyData}, Dt K H v d → Dt K H' v d
  | _, _, .non => .non
  | _, _, .bl b => .bl b
  | _, _, .int i => .int i
  | _, _, .str x => .str x
  | _, _, .lst h r => .lst (e _ _ h) (DtAll.ex e r)
  | _, _, .tup h r => .tup (ex_t e h) (DtAll.ex e r)
  | _, _, .scr ns h => .scr ns (ex_l e h)
theorem DtAll.ex (e : Ex H H') : ∀ {vs : List V} {ds : List PyData}, DtAll K H vs ds → DtAll K H' vs ds
  | _, _, .nil => .nil
  | _, _, .cons a b => .cons (Dt.ex e a) (DtAll.ex e b)
end
mutual
theorem Dt.dp : ∀ {v : V} {d : PyData}, Dt K H v d → d.canLay0 = true → L2.Dp K H v d
  | _, _, .non, _ => .non
  | _, _, .bl b, _ => .bl b
  | _, _, .int i, _ => .int i
  | _, _, .str x, _ => .str x
  | _, _, .lst h r, c => .lst (sq_of h) (DtAll.dp r (by simpa [PyData.canLay0] using c))
  | _, _, .tup h r, c => .tup h (DtAll.dp r (by simpa [PyData.canLay0] using c))
  | _, _, .scr _ _, c => by simp [PyData.canLay0] at c
theorem DtAll.dp : ∀ {vs : List V} {ds : List PyData}, DtAll K H vs ds → PyData.canLayAll0 ds = true → L2.DpAll K H vs ds
  | _, _, .nil, _ => .nil
  | _, _, .cons a b, c => by
    simp only [PyData.canLayAll0, Bool.and_eq_true] at c
    exact .cons (Dt.dp a c.1) (DtAll.dp b c.2)
end
/-- the script as data -/
def scrD (ns : List Int) : PyData := .dict (ns.map fun i => (.int i, .none))
theorem scr_map_inj : ∀ {ns ms : List Int}, ns.map (fun i => ((.int i, .none) : PyData × PyData)) = ms.map (fun i => (.int i, .none)) → ns = ms
  | [], [], _ => rfl
  | [], _ :: _, h => by cases h
  | _ :: _, [], h => by cases h
  | a :: r, b :: q, h => by
    rw [List.map_cons, List.map_cons] at h
    injection h with h1 h2
    injection h1 with h3 _
    injection h3 with h4
    rw [h4, scr_map_inj h2]
theorem Dt.scr_eq {v : V} {ns : List Int} (h : Dt K H v (scrD ns)) : ∃ a, v = .ref a ∧ SqL K H a (ns.map V.int) := by
  unfold scrD at h
  generalize e : (PyData.dict (ns.map fun i => (.int i, .none))) = d at h
  cases h with
  | scr ms h =>
    injection e with e
    rw [scr_map_inj e]
    exact ⟨_, rfl, h⟩
  | _ => cases e
theorem DtAll.length : ∀ {vs : List V} {ds : List PyData}, DtAll K H vs ds → vs.length = ds.length
  | _, _, .nil => rfl
  | _, _, .cons _ b => congrArg Nat.succ (DtAll.length b)
theorem DtAll.get : ∀ {vs : List V} {ds : List PyData} {i : Nat} {d : PyData}, DtAll K H vs ds → ds[i]? = some d → ∃ v, vs[i]? = some v ∧ Dt K H v d
  | _, _, _, _, .nil, e => by simp at e
  | _, _, 0, _, .cons a _, e => by
    simp at e
    subst e
    exact ⟨_, rfl, a⟩
  | _, _, i + 1, d, .cons _ b, e => by
    obtain ⟨v, h1, h2⟩ := DtAll.get (i := i) (d := d) b (by simpa using e)
    exact ⟨v, by simpa using h1, h2⟩
theorem DtAll.get' {vs : List V} {ds : List PyData} {i : Nat} {v : V} (h : DtAll K H vs ds) (e : vs[i]? = some v) : ∃ d, ds[i]? = some d ∧ Dt K H v d := by
  have hl : i < ds.length := by rw [← h.length]; exact (List.getElem?_eq_some_iff.mp e).1
  obtain ⟨w, h1, h2⟩ := h.get (i := i) (d := ds[i]) (List.getElem?_eq_getElem hl)
  rw [e] at h1
  cases h1
  exact ⟨_, List.getElem?_eq_getElem hl, h2⟩
theorem DtAll.append : ∀ {vs ws : List V} {ds es : List PyData}, DtAll K H vs ds → DtAll K H ws es → DtAll K H (vs ++ ws) (ds ++ es)
  | _, _, _, _, .nil, b => b
  | _, _, _, _, .cons a r, b => .cons a (DtAll.append r b)
theorem DtAll.take : ∀ {vs : List V} {ds : List PyData} (n : Nat), DtAll K H vs ds → DtAll K H (vs.take n) (ds.take n)
  | _, _, 0, _ => .nil
  | _, _, _ + 1, .nil => .nil
  | _, _, n + 1, .cons a r => .cons a (DtAll.take n r)
theorem DtAll.drop : ∀ {vs : List V} {ds : List PyData} (n : Nat), DtAll K H vs ds → DtAll K H (vs.drop n) (ds.drop n)
  | _, _, 0, r => r
  | _, _, _ + 1, .nil => .nil
  | _, _, n + 1, .cons _ r => DtAll.drop n r
/-- what is a whole number, a text .. stands alone -/
theorem Dt.int_eq {v : V} {i : Int} (h : Dt K H v (.int i)) : v = .int i := by cases h; rfl
theorem Dt.str_eq {v : V} {x : Str} (h : Dt K H v (.str x)) : v = .str x := by cases h; rfl
theorem Dt.bl_eq {v : V} {b : Bool} (h : Dt K H v (.bool b)) : v = .bl b := by cases h; rfl
theorem Dt.non_eq {v : V} (h : Dt K H v .none) : v = .non := by cases h; rfl
theorem Dt.tup_eq {v : V} {ds : List PyData} (h : Dt K H v (.tuple ds)) : ∃ a xs, v = .ref a ∧ SqT K H a xs ∧ DtAll K H xs ds := by
  cases h with
  | tup h r => exact ⟨_, _, rfl, h, r⟩
theorem Dt.lst_eq {v : V} {ds : List PyData} (h : Dt K H v (.list ds)) : ∃ a xs, v = .ref a ∧ H a = some (.lst xs) ∧ DtAll K H xs ds := by
  cases h with
  | lst h r => exact ⟨_, _, rfl, h, r⟩
theorem dp_strs : ∀ (l : List Str), DtAll K H (l.map V.str) (l.map PyData.str)
  | [] => .nil
  | x :: r => .cons (.str x) (dp_strs r)
theorem dp_ints : ∀ (l : List Int), DtAll K H (l.map V.int) (l.map PyData.int)
  | [] => .nil
  | x :: r => .cons (.int x) (dp_ints r)
theorem strs_dp : ∀ {l : List Str} {vs : List V}, DtAll K H vs (l.map PyData.str) → vs = l.map V.str
  | [], _, .nil => rfl
  | x :: r, _, .cons a b => by rw [a.str_eq, strs_dp b]; rfl
theorem ints_dp : ∀ {l : List Int} {vs : List V}, DtAll K H vs (l.map PyData.int) → vs = l.map V.int
  | [], _, .nil => rfl
  | x :: r, _, .cons a b => by rw [a.int_eq, ints_dp b]; rfl
theorem bls_dp : ∀ {l : List Bool} {vs : List V}, DtAll K H vs (l.map PyData.bool) → vs = l.map V.bl
  | [], _, .nil => rfl
  | x :: r, _, .cons a b => by rw [a.bl_eq, bls_dp b]; rfl
end

/-! ### what evaluates to data -/
/-- two heaps as one -/
def unH (A B : Hp) : Hp := fun b => match A b with
  | some o => some o
  | none => B b
theorem unH_l {A B : Hp} {b : Addr} {o : HO} (h : A b = some o) : unH A B b = some o := by
  unfold unH
  rw [h]
theorem unH_r {A B : Hp} {b : Addr} (h : A b = none) : unH A B b = B b := by
  unfold unH
  rw [h]
theorem unH_ex {A B H2 : Hp} (ea : Ex A H2) (eb : Ex B H2) : Ex (unH A B) H2 := fun b o hb => by
  cases z : A b with
  | some u =>
    rw [unH_l z] at hb
    cases hb
    exact ea b _ z
  | none =>
    rw [unH_r z] at hb
    exact eb b o hb
theorem ex_unH {A B H2 : Hp} (ea : Ex A H2) (eb : Ex B H2) : Ex B (unH A B) := fun b o hb => by
  cases z : A b with
  | some u =>
    have h1 := ea b _ z
    rw [eb b o hb] at h1
    cases h1
    exact unH_l z
  | none =>
    rw [unH_r z]
    exact hb
theorem ext_unH {A B H H1 : Hp} (e : Ex H A) (x : Ext H H1 B) : Ext A H1 (unH A B) := ⟨fun b o hb => unH_l hb, fun b o hb => by
  cases z : A b with
  | some u =>
    rw [unH_l z] at hb
    exact .inl hb
  | none =>
    rw [unH_r z] at hb
    rcases x.fresh b o hb with y | y
    · rw [e b o y] at z
      cases z
    · exact .inr y⟩
/-- what follows an evaluation: the heap has grown, H' holds the answer -/
abbrev KD (K : PySem.W.Frag) (H H1 : Hp) (d : PyData) (Q : VK) : Prop := ∀ v H2 H', Ex H1 H2 → Ex H' H2 → Ext H H1 H' → Dt K H' v d → Q v H2
def EvD (K : PySem.W.Frag) (te : TE) (σ : L2.St) (H : Hp) (d : PyData) : Prop := ∀ H1, Ex H H1 → ∀ Q : VK, KD K H H1 d Q → te σ H1 Q
def EvB (tt : TT) (σ : L2.St) (H : Hp) (b : Bool) : Prop := ∀ H1, Ex H H1 → ∀ Q : Bool → Hp → Prop, (∀ H2, Ex H1 H2 → Q b H2) → tt σ H1 Q
def EvDs (K : PySem.W.Frag) (ta : TA) (σ : L2.St) (H : Hp) (ds : List PyData) : Prop := ∀ H1, Ex H H1 → ∀ Q : List V → Hp → Prop, (∀ vs H2 H', Ex H1 H2 → Ex H' H2 → Ext H H1 H' → DtAll K H' vs ds → Q vs H2) → ta σ H1 Q
/-- a slot's part -/
def EvO (to : TO) (σ : L2.St) (H : Hp) (o : Option Int) : Prop := ∀ H1, Ex H H1 → ∀ Q : Option Int → Hp → Prop, (∀ H2, Ex H1 H2 → Q o H2) → to σ H1 Q
/-- an operation on data -/
def RD2 (K : PySem.W.Frag) (r : R2) (d e : PyData) (H : Hp) (z : PyData) : Prop := ∀ H' x y, Ex H H' → Dt K H' x d → Dt K H' y e → ∀ H1, Ex H' H1 → ∀ Q : VK, KD K H' H1 z Q → r x y H1 Q
def RDU (K : PySem.W.Frag) (r : V → Hp → VK → Prop) (d : PyData) (H : Hp) (z : PyData) : Prop := ∀ H' x, Ex H H' → Dt K H' x d → ∀ H1, Ex H' H1 → ∀ Q : VK, KD K H' H1 z Q → r x H1 Q
def RDC (K : PySem.W.Frag) (r : List V → Hp → VK → Prop) (ds : List PyData) (H : Hp) (z : PyData) : Prop := ∀ H' vs, Ex H H' → DtAll K H' vs ds → ∀ H1, Ex H' H1 → ∀ Q : VK, KD K H' H1 z Q → r vs H1 Q
section
variable {K : PySem.W.Frag} {σ : L2.St} {H H' H1 : Hp} {ta tb te tc : TE} {t u : TT} {d e z : PyData}
theorem KD.now {v : V} {Q : VK} (q : KD K H H1 d Q) (e : Ex H H1) (h : Dt K H v d) : Q v H1 := q v H1 H (Ex.refl _) e (Ext.refl _ _) h
/-- a new object is laid: the answer -/
theorem KD.new {p : Addr} {o : HO} {Q : VK} (q : KD K H H1 d Q) (e : Ex H H1) (h : H1 p = none) (hd : Dt K (upd H p o) (.ref p) d) : Q (.ref p) (upd H1 p o) :=
  q _ _ (upd H p o) (Ex.new h) (ex_upd e) (Ext.new e h) hd
theorem EvD.mono (h : EvD K te σ H d) (e : Ex H H') : EvD K te σ H' d := fun H1 e1 Q q => h H1 (e.trans e1) Q fun v H2 H'' e2 e3 x hd =>
  q v H2 (unH H' H'') e2 (unH_ex (e1.trans e2) e3) (ext_unH e x) (Dt.ex (ex_unH (e1.trans e2) e3) hd)
theorem EvB.mono {b : Bool} (h : EvB t σ H b) (e : Ex H H') : EvB t σ H' b := fun H1 e1 Q q => h H1 (e.trans e1) Q q
theorem EvDs.mono {ta : TA} {ds : List PyData} (h : EvDs K ta σ H ds) (e : Ex H H') : EvDs K ta σ H' ds := fun H1 e1 Q q => h H1 (e.trans e1) Q fun v H2 H'' e2 e3 x hd =>
  q v H2 (unH H' H'') e2 (unH_ex (e1.trans e2) e3) (ext_unH e x) (DtAll.ex (ex_unH (e1.trans e2) e3) hd)
theorem ed_var {i : Nat} {v : V} (h : σ[i]? = some (some v)) (hd : Dt K H v d) : EvD K (tVar i) σ H d := fun H1 e Q q => ⟨v, h, KD.now q e hd⟩
theorem ed_c {v : V} (hd : Dt K H v d) : EvD K (tC v) σ H d := fun H1 e Q q => KD.now q e hd
theorem ed_op {r : R2} (ha : EvD K ta σ H d) (hb : EvD K tb σ H e) (hr : RD2 K r d e H z) : EvD K (tOp r ta tb) σ H z := fun H1 e1 Q q =>
  ha H1 e1 _ fun x H2 Ha e2 ea xa da => (hb.mono xa.ex) H2 ea _ fun y H3 Hb e3 eb xb db => hr Hb x y (xa.ex.trans xb.ex) (Dt.ex xb.ex da) db H3 eb Q fun v H4 Hc e4 ec xc dc =>
    q v H4 Hc ((e2.trans e3).trans e4) ec ((xa.trans e2 xb).trans (e2.trans e3) xc) dc
theorem ed_un {r : V → Hp → VK → Prop} (ha : EvD K ta σ H d) (hr : RDU K r d H z) : EvD K (tUn r ta) σ H z := fun H1 e1 Q q =>
  ha H1 e1 _ fun x H2 Ha e2 ea xa da => hr Ha x xa.ex da H2 ea Q fun v H4 Hc e4 ec xc dc => q v H4 Hc (e2.trans e4) ec (xa.trans e2 xc) dc
theorem ed_cb {r : List V → Hp → VK → Prop} {ta : TA} {ds : List PyData} (ha : EvDs K ta σ H ds) (hr : RDC K r ds H z) : EvD K (tCB r ta) σ H z := fun H1 e1 Q q =>
  ha H1 e1 _ fun x H2 Ha e2 ea xa da => hr Ha x xa.ex da H2 ea Q fun v H4 Hc e4 ec xc dc => q v H4 Hc (e2.trans e4) ec (xa.trans e2 xc) dc
theorem eds_nil : EvDs K tNil σ H [] := fun H1 e Q q => q [] H1 H (Ex.refl _) e (Ext.refl _ _) .nil
theorem eds_cons {tr : TA} {ds : List PyData} (ha : EvD K ta σ H d) (hr : EvDs K tr σ H ds) : EvDs K (tCons ta tr) σ H (d :: ds) := fun H1 e1 Q q =>
  ha H1 e1 _ fun x H2 Ha e2 ea xa da => (hr.mono xa.ex) H2 ea _ fun ys H3 Hb e3 eb xb db => q (x :: ys) H3 Hb (e2.trans e3) eb (xa.trans e2 xb) (.cons (Dt.ex xb.ex da) db)
theorem ed_tup {ta : TA} {ds : List PyData} (ha : EvDs K ta σ H ds) (hl : ds.length ≤ 100000) : EvD K (tTup ta) σ H (.tuple ds) := fun H1 e1 Q q =>
  ha H1 e1 _ fun xs H2 Ha e2 ea xa da => ⟨by rw [da.length]; exact sz_of hl, fun p hp => q _ _ (upd Ha p (.tup xs)) (e2.trans (Ex.new hp)) (ex_upd ea) (xa.trans e2 (Ext.new ea hp)) (.tup (st_of upd_same) (DtAll.ex (Ex.new (fresh_back ea hp)) da))⟩
theorem ed_lst {ta : TA} {ds : List PyData} (ha : EvDs K ta σ H ds) (hl : ds.length ≤ 100000) : EvD K (tLst ta) σ H (.list ds) := fun H1 e1 Q q =>
  ha H1 e1 _ fun xs H2 Ha e2 ea xa da => ⟨by rw [da.length]; exact sz_of hl, fun p hp => q _ _ (upd Ha p (.lst xs)) (e2.trans (Ex.new hp)) (ex_upd ea) (xa.trans e2 (Ext.new ea hp)) (.lst upd_same (DtAll.ex (Ex.new (fresh_back ea hp)) da))⟩
theorem ed_is {w : PyData} (h : EvD K te σ H d) (e : d = w) : EvD K te σ H w := e ▸ h
/-! tests -/
theorem eb_test {b : Bool} (h : EvD K te σ H (.bool b)) : EvB (tTest te) σ H b := fun H1 e _ q => h H1 e _ fun v H2 _ e2 _ _ dv => ⟨b, dv.bl_eq, q H2 e2⟩
theorem eb_B {b : Bool} (h : EvD K te σ H (.bool b)) : EvB (tB te) σ H b := fun H1 e _ q => h H1 e _ fun v H2 _ e2 _ _ dv => ⟨b, dv.bl_eq, q H2 e2⟩
theorem eb_and {a b : Bool} (h1 : EvB t σ H a) (h2 : a = true → EvB u σ H b) : EvB (tAnd t u) σ H (a && b) := fun H1 e Q q => h1 H1 e _ fun H2 e2 => by
  cases a with
  | true => exact h2 rfl H2 (e.trans e2) Q fun H3 e3 => q H3 (e2.trans e3)
  | false => exact q H2 e2
theorem eb_or {a b : Bool} (h1 : EvB t σ H a) (h2 : a = false → EvB u σ H b) : EvB (tOr t u) σ H (a || b) := fun H1 e Q q => h1 H1 e _ fun H2 e2 => by
  cases a with
  | true => exact q H2 e2
  | false => exact h2 rfl H2 (e.trans e2) Q fun H3 e3 => q H3 (e2.trans e3)
theorem eb_not {a : Bool} (h1 : EvB t σ H a) : EvB (tNot t) σ H (!a) := fun H1 e _ q => h1 H1 e _ fun H2 e2 => q H2 e2
theorem eb_is {a b : Bool} (h : EvB t σ H a) (e : a = b) : EvB t σ H b := e ▸ h
theorem ed_and {a b : Bool} (h1 : EvD K ta σ H (.bool a)) (h2 : a = true → EvD K tb σ H (.bool b)) : EvD K (tAndV ta tb) σ H (.bool (a && b)) := fun H1 e Q q => h1 H1 e _ fun v H2 Ha e2 ea xa dv => ⟨a, dv.bl_eq, by
  cases a with
  | true => exact (h2 rfl).mono xa.ex H2 ea Q fun v H3 Hb e3 eb xb db => q v H3 Hb (e2.trans e3) eb (xa.trans e2 xb) db
  | false => exact q _ H2 Ha e2 ea xa (.bl false)⟩
theorem ed_or {a b : Bool} (h1 : EvD K ta σ H (.bool a)) (h2 : a = false → EvD K tb σ H (.bool b)) : EvD K (tOrV ta tb) σ H (.bool (a || b)) := fun H1 e Q q => h1 H1 e _ fun v H2 Ha e2 ea xa dv => ⟨a, dv.bl_eq, by
  cases a with
  | true => exact q _ H2 Ha e2 ea xa (.bl true)
  | false => exact (h2 rfl).mono xa.ex H2 ea Q fun v H3 Hb e3 eb xb db => q v H3 Hb (e2.trans e3) eb (xa.trans e2 xb) db⟩
theorem ed_not {a : Bool} (h1 : EvD K ta σ H (.bool a)) : EvD K (tNotV ta) σ H (.bool (!a)) := fun H1 e Q q => h1 H1 e _ fun v H2 Ha e2 ea xa dv => ⟨a, dv.bl_eq, q _ H2 Ha e2 ea xa (.bl _)⟩
theorem ed_if {b : Bool} (h : EvB t σ H b) (h1 : b = true → EvD K ta σ H d) (h2 : b = false → EvD K tb σ H d) : EvD K (tIf t ta tb) σ H d := fun H1 e Q q => h H1 e _ fun H2 e2 => by
  cases b with
  | true => exact h1 rfl H2 (e.trans e2) Q fun v H3 Hb e3 eb xb db => q v H3 Hb (e2.trans e3) eb ⟨xb.ex, fun b o hb => (xb.fresh b o hb).imp id fun z => fresh_back e2 z⟩ db
  | false => exact h2 rfl H2 (e.trans e2) Q fun v H3 Hb e3 eb xb db => q v H3 Hb (e2.trans e3) eb ⟨xb.ex, fun b o hb => (xb.fresh b o hb).imp id fun z => fresh_back e2 z⟩ db
/-- a < b < c -/
theorem ed_chain {r r' : R2} {a b : Bool} {f : PyData} (ha : EvD K ta σ H d) (hb : EvD K tb σ H e) (hr : RD2 K r d e H (.bool a)) (hc : a = true → EvD K tc σ H f) (hr' : a = true → RD2 K r' e f H (.bool b)) : EvD K (tChain r r' ta tb tc) σ H (.bool (a && b)) := fun H1 e1 Q q =>
  ha H1 e1 _ fun x H2 Ha e2 ea xa da => (hb.mono xa.ex) H2 ea _ fun y H3 Hb e3 eb xb db => hr Hb x y (xa.ex.trans xb.ex) (Dt.ex xb.ex da) db H3 eb _ fun v H4 Hc e4 ec xc dc => ⟨a, dc.bl_eq, by
    cases a with
    | true => exact ((hc rfl).mono ((xa.ex.trans xb.ex).trans xc.ex)) H4 ec _ fun z H5 Hd e5 ed xd dd => hr' rfl Hd y z (((xa.ex.trans xb.ex).trans xc.ex).trans xd.ex) (Dt.ex (xc.ex.trans xd.ex) db) dd H5 ed Q fun v H6 He e6 ee xe de => q v H6 He ((((e2.trans e3).trans e4).trans e5).trans e6) ee ((((xa.trans e2 xb).trans (e2.trans e3) xc).trans ((e2.trans e3).trans e4) xd).trans (((e2.trans e3).trans e4).trans e5) xe) de
    | false => exact q _ H4 Hc ((e2.trans e3).trans e4) ec ((xa.trans e2 xb).trans (e2.trans e3) xc) (.bl false)⟩
end
end LR

/-! ### operations on data (own work) -/
namespace LR
open PySem PySem.Spec PyProof.Rows L2 Evl
section
variable {X : Cx}
/-! text times a number -/
def rRepS : R2 := fun x y H Q => ∃ (z : Str) (k : Int), x = .str z ∧ y = .int k ∧ -(2 ^ 60) ≤ k ∧ k ≤ 1000 ∧ z.length ≤ 1000 ∧ Q (.str ⟨(List.replicate k.toNat z.cps.toList).flatten.toArray⟩) H
theorem foldl_app (l : List (Array Nat)) : ∀ a : Array Nat, l.foldl (· ++ ·) a = (a.toList ++ (l.map Array.toList).flatten).toArray := by
  induction l with
  | nil => intro a; simp
  | cons x r ih =>
    intro a
    rw [List.foldl_cons, ih, List.map_cons, List.flatten_cons]
    apply Array.toList_inj.mp
    simp
theorem op_repS : OpR X (binaryOp .Mult) rRepS := by
  intro pins s σ H x y v u Q I rx ry h
  obtain ⟨z, k, rfl, rfl, h1, h2, h3, q⟩ := h
  obtain ⟨t, rfl⟩ := rx
  obtain ⟨t', rfl⟩ := ry
  have e0 : ∀ m : Nat, (List.replicate m z.cps).foldl (· ++ ·) #[] = (List.replicate m z.cps.toList).flatten.toArray := fun m => by
    rw [foldl_app]
    simp
  refine PySem.P.mul_str ?_ (fun a b => ?_) (fun a b => ?_) ?_
  · have a1 : ¬ k < -(2 ^ 63) := by omega
    have a2 : ¬ k ≥ 2 ^ 63 := by omega
    rw [decide_eq_false a1, decide_eq_false a2]
    rfl
  · have : (2 ^ 63 - 1) / k ≥ 1000 := by
      have : (1000 : Int) * k ≤ 2 ^ 63 - 1 := by omega
      exact (Int.le_ediv_iff_mul_le (by omega)).mpr this
    omega
  · have hk : k.toNat ≤ 1000 := by omega
    have : z.length * k.toNat ≤ 1000 * 1000 := Nat.mul_le_mul h3 hk
    unfold Builtin.Str.tooLong
    simp only [decide_eq_false_iff_not, Nat.not_lt, gt_iff_lt]
    exact Nat.le_trans this (by decide)
  · by_cases c1 : k < 1
    · rw [if_pos c1]
      have e1 : k.toNat = 0 := by omega
      rw [e1] at q
      exact ⟨by decide, .str Str.empty, H, I.tok _, ⟨_, rfl⟩, q⟩
    · rw [if_neg c1]
      by_cases c2 : (k == 1 || z.length == 0) = true
      · rw [if_pos c2]
        have e1 : (⟨(List.replicate k.toNat z.cps.toList).flatten.toArray⟩ : Str) = z := by
          apply Str.ext'
          rcases Bool.or_eq_true_iff.mp c2 with c | c
          · have : k = 1 := by simpa using c
            subst this
            simp
          · have hz : z.cps = #[] := by
              have : z.cps.size = 0 := by simpa [Str.length] using c
              exact Array.eq_empty_of_size_eq_zero this
            rw [hz]
            simp
        rw [e1] at q
        exact ⟨.str z, H, I, ⟨_, rfl⟩, q⟩
      · rw [if_neg c2]
        rw [← e0] at q
        refine ⟨?_, .str _, H, I.tok _, ⟨_, rfl⟩, q⟩
        have hk : k.toNat ≤ 1000 := by omega
        have h5 : z.length * k.toNat ≤ 1000 * 1000 := Nat.mul_le_mul h3 hk
        rw [e0]
        have h6 : (⟨(List.replicate k.toNat z.cps.toList).flatten.toArray⟩ : Str).length = z.length * k.toNat := by
          simp [Str.length, Nat.mul_comm]
        rw [h6]
        exact Nat.le_trans h5 (by decide)
/-! the universal operators -/
def rAddU (K : PySem.W.Frag) : R2 := fun x y H Q => (rI0 fun i j => .int (i + j)) x y H Q ∨ ((∃ i j, x = .str i ∧ y = .str j ∧ i.length + j.length ≤ sizeLine ∧ Q (.str (i ++ j)) H) ∨ (rCat x y H Q ∨ rCatA K x y H Q))
theorem op_addU : OpR X (binaryOp .Add) (rAddU X.K) := op_add.or (op_add_str.or (op_cat.or op_catA))
def rMulU (K : PySem.W.Frag) : R2 := fun x y H Q => (rI CMul fun i j => .int (i * j)) x y H Q ∨ (rRepS x y H Q ∨ (rRep x y H Q ∨ rRepT K x y H Q))
theorem op_mulU : OpR X (binaryOp .Mult) (rMulU X.K) := op_mul.or (op_repS.or (op_rep.or op_repT))
def rEqU (K : PySem.W.Frag) : R2 := fun x y H Q => rEq x y H Q ∨ rEqD K x y H Q
theorem op_eqU (hu : X.A.units + 64 < cLine) : OpR X (compareOp .Eq) (rEqU X.K) := op_eq.or (op_eqD hu)
def rNeU (K : PySem.W.Frag) : R2 := fun x y H Q => rNe x y H Q ∨ rNeD K x y H Q
theorem op_neU (hu : X.A.units + 64 < cLine) : OpR X (compareOp .NotEq) (rNeU X.K) := op_ne.or (op_neD hu)
def rLtU : R2 := fun x y H Q => (rI0 fun i j => .bl (decide (i < j))) x y H Q ∨ (∃ i j, x = .str i ∧ y = .str j ∧ Q (.bl (decide (i.cps.toList < j.cps.toList))) H)
theorem op_ltU : OpR X (compareOp .Lt) rLtU := op_lt.or op_lt_str
end
section
variable {K : PySem.W.Frag} {H : Hp}
/-- a value that needs no new object -/
theorem KD.val {d : PyData} {v : V} {H1 : Hp} {Q : VK} (q : KD K H H1 d Q) (e : Ex H H1) (h : ∀ H, Dt K H v d) : Q v H1 := q v H1 H (Ex.refl _) e (Ext.refl _ _) (h H)
theorem rd_I0 {g : Int → Int → Int} {i j : Int} : RD2 K (rI0 fun i j => .int (g i j)) (.int i) (.int j) H (.int (g i j)) := fun H' x y _ dx dy H1 e1 Q q =>
  ⟨i, j, dx.int_eq, dy.int_eq, q.val e1 fun _ => .int _⟩
theorem rd_IB {g : Int → Int → Bool} {i j : Int} : RD2 K (rI0 fun i j => .bl (g i j)) (.int i) (.int j) H (.bool (g i j)) := fun H' x y _ dx dy H1 e1 Q q =>
  ⟨i, j, dx.int_eq, dy.int_eq, q.val e1 fun _ => .bl _⟩
theorem rd_I {C : Int → Int → Prop} {g : Int → Int → Int} {i j : Int} (hc : C i j) : RD2 K (rI C fun i j => .int (g i j)) (.int i) (.int j) H (.int (g i j)) := fun H' x y _ dx dy H1 e1 Q q =>
  ⟨i, j, dx.int_eq, dy.int_eq, hc, q.val e1 fun _ => .int _⟩
theorem rd_addI {i j : Int} : RD2 K (rAddU K) (.int i) (.int j) H (.int (i + j)) := fun H' x y e dx dy H1 e1 Q q => .inl (rd_I0 (g := fun i j => i + j) H' x y e dx dy H1 e1 Q q)
theorem rd_addS {a b : Str} (h : a.length + b.length ≤ sizeLine) : RD2 K (rAddU K) (.str a) (.str b) H (.str (a ++ b)) := fun H' x y _ dx dy H1 e1 Q q =>
  .inr (.inl ⟨a, b, dx.str_eq, dy.str_eq, h, q.val e1 fun _ => .str _⟩)
theorem rd_addL {ds es : List PyData} (h : ds.length + es.length ≤ 100000) : RD2 K (rAddU K) (.list ds) (.list es) H (.list (ds ++ es)) := fun H' x y _ dx dy H1 e1 Q q => by
  obtain ⟨a, xs, rfl, ha, ra⟩ := dx.lst_eq
  obtain ⟨b, ys, rfl, hb, rb⟩ := dy.lst_eq
  refine .inr (.inr (.inl ⟨a, b, xs, ys, rfl, rfl, e1 a _ ha, e1 b _ hb, ?_, fun p hp => ?_⟩))
  · rw [ra.length, rb.length]
    exact sz_of h
  · exact q.new e1 hp (.lst upd_same (DtAll.ex (Ex.new (fresh_back e1 hp)) (ra.append rb)))
theorem rd_addT {ds es : List PyData} (h : ds.length + es.length ≤ 100000) : RD2 K (rAddU K) (.tuple ds) (.tuple es) H (.tuple (ds ++ es)) := fun H' x y _ dx dy H1 e1 Q q => by
  obtain ⟨a, xs, rfl, ha, ra⟩ := dx.tup_eq
  obtain ⟨b, ys, rfl, hb, rb⟩ := dy.tup_eq
  refine .inr (.inr (.inr ⟨a, b, xs, ys, rfl, rfl, ex_t e1 ha, ex_t e1 hb, ?_, fun z => ?_, fun z1 z2 => ?_, fun _ _ p hp => ?_⟩))
  · rw [ra.length, rb.length]
    exact sz_of h
  · subst z
    cases ra
    exact q.now e1 (.tup hb rb)
  · subst z2
    cases rb
    rw [List.append_nil] at q
    exact q.now e1 (.tup ha ra)
  · exact q.new e1 hp (.tup (st_of upd_same) (DtAll.ex (Ex.new (fresh_back e1 hp)) (ra.append rb)))
theorem rd_mulI {i j : Int} (h : CMul i j) : RD2 K (rMulU K) (.int i) (.int j) H (.int (i * j)) := fun H' x y e dx dy H1 e1 Q q => .inl (rd_I (g := fun i j => i * j) h H' x y e dx dy H1 e1 Q q)
theorem rd_mulS {z : Str} {k : Int} (h1 : -(2 ^ 60) ≤ k) (h2 : k ≤ 1000) (h3 : z.length ≤ 1000) : RD2 K (rMulU K) (.str z) (.int k) H (.str ⟨(List.replicate k.toNat z.cps.toList).flatten.toArray⟩) := fun H' x y e dx dy H1 e1 Q q =>
  .inr (.inl ⟨z, k, dx.str_eq, dy.int_eq, h1, h2, h3, q.val e1 fun _ => .str _⟩)
theorem rd_ltS {a b : Str} : RD2 K rLtU (.str a) (.str b) H (.bool (decide (a.cps.toList < b.cps.toList))) := fun H' x y _ dx dy H1 e1 Q q => .inr ⟨a, b, dx.str_eq, dy.str_eq, q.val e1 fun _ => .bl _⟩
theorem rd_ltI {i j : Int} : RD2 K rLtU (.int i) (.int j) H (.bool (decide (i < j))) := fun H' x y e dx dy H1 e1 Q q => .inl (rd_IB (g := fun i j => decide (i < j)) H' x y e dx dy H1 e1 Q q)
theorem rd_eqD {d e : PyData} (h1 : SeqAt.shaped d = true) (h2 : SeqAt.shaped e = true) : RD2 K (rEqD K) d e H (.bool (PyData.eqv d e)) := fun H' x y _ dx dy H1 e1 Q q =>
  ⟨d, e, (Dt.ex e1 dx).dp (SeqAt.canLay_of_shaped h1), (Dt.ex e1 dy).dp (SeqAt.canLay_of_shaped h2), h1, h2, q.val e1 fun _ => .bl _⟩
theorem rd_neD {d e : PyData} (h1 : SeqAt.shaped d = true) (h2 : SeqAt.shaped e = true) : RD2 K (rNeD K) d e H (.bool (!PyData.eqv d e)) := fun H' x y _ dx dy H1 e1 Q q =>
  ⟨d, e, (Dt.ex e1 dx).dp (SeqAt.canLay_of_shaped h1), (Dt.ex e1 dy).dp (SeqAt.canLay_of_shaped h2), h1, h2, q.val e1 fun _ => .bl _⟩
theorem rd_eqU {d e : PyData} (h1 : SeqAt.shaped d = true) (h2 : SeqAt.shaped e = true) : RD2 K (rEqU K) d e H (.bool (PyData.eqv d e)) := fun H' x y ex dx dy H1 e1 Q q => .inr (rd_eqD h1 h2 H' x y ex dx dy H1 e1 Q q)
theorem rd_neU {d e : PyData} (h1 : SeqAt.shaped d = true) (h2 : SeqAt.shaped e = true) : RD2 K (rNeU K) d e H (.bool (!PyData.eqv d e)) := fun H' x y ex dx dy H1 e1 Q q => .inr (rd_neD h1 h2 H' x y ex dx dy H1 e1 Q q)
theorem rd_eqI {i j : Int} : RD2 K (rEqU K) (.int i) (.int j) H (.bool (decide (i = j))) := fun H' x y ex dx dy H1 e1 Q q => by
  rw [dx.int_eq, dy.int_eq]
  refine .inl ⟨rfl, ?_⟩
  have e : decide (V.int i = V.int j) = decide (i = j) := decide_eq_decide.mpr ⟨fun h => V.int.inj h, fun h => by rw [h]⟩
  rw [e]
  exact q.val e1 fun _ => .bl _
theorem rd_neI {i j : Int} : RD2 K (rNeU K) (.int i) (.int j) H (.bool (!decide (i = j))) := fun H' x y ex dx dy H1 e1 Q q => by
  rw [dx.int_eq, dy.int_eq]
  refine .inl ⟨rfl, ?_⟩
  have e : decide (V.int i = V.int j) = decide (i = j) := decide_eq_decide.mpr ⟨fun h => V.int.inj h, fun h => by rw [h]⟩
  rw [e]
  exact q.val e1 fun _ => .bl _
theorem rd_eqS {i j : Str} : RD2 K (rEqU K) (.str i) (.str j) H (.bool (decide (i = j))) := fun H' x y ex dx dy H1 e1 Q q => by
  rw [dx.str_eq, dy.str_eq]
  refine .inl ⟨rfl, ?_⟩
  have e : decide (V.str i = V.str j) = decide (i = j) := decide_eq_decide.mpr ⟨fun h => V.str.inj h, fun h => by rw [h]⟩
  rw [e]
  exact q.val e1 fun _ => .bl _
theorem rd_neS {i j : Str} : RD2 K (rNeU K) (.str i) (.str j) H (.bool (!decide (i = j))) := fun H' x y ex dx dy H1 e1 Q q => by
  rw [dx.str_eq, dy.str_eq]
  refine .inl ⟨rfl, ?_⟩
  have e : decide (V.str i = V.str j) = decide (i = j) := decide_eq_decide.mpr ⟨fun h => V.str.inj h, fun h => by rw [h]⟩
  rw [e]
  exact q.val e1 fun _ => .bl _
theorem rd_eqB {i j : Bool} : RD2 K (rEqU K) (.bool i) (.bool j) H (.bool (decide (i = j))) := fun H' x y ex dx dy H1 e1 Q q => by
  rw [dx.bl_eq, dy.bl_eq]
  refine .inl ⟨rfl, ?_⟩
  have e : decide (V.bl i = V.bl j) = decide (i = j) := decide_eq_decide.mpr ⟨fun h => V.bl.inj h, fun h => by rw [h]⟩
  rw [e]
  exact q.val e1 fun _ => .bl _
theorem rd_neB {i j : Bool} : RD2 K (rNeU K) (.bool i) (.bool j) H (.bool (!decide (i = j))) := fun H' x y ex dx dy H1 e1 Q q => by
  rw [dx.bl_eq, dy.bl_eq]
  refine .inl ⟨rfl, ?_⟩
  have e : decide (V.bl i = V.bl j) = decide (i = j) := decide_eq_decide.mpr ⟨fun h => V.bl.inj h, fun h => by rw [h]⟩
  rw [e]
  exact q.val e1 fun _ => .bl _
/-- is True, is False -/
theorem rd_isB {a b : Bool} : RD2 K (fun x y H Q => ∃ a b, x = .bl a ∧ y = .bl b ∧ Q (.bl (decide (a = b))) H) (.bool a) (.bool b) H (.bool (decide (a = b))) := fun H' x y ex dx dy H1 e1 Q q => ⟨a, b, dx.bl_eq, dy.bl_eq, q.val e1 fun _ => .bl _⟩
theorem rd_isnotB {a b : Bool} : RD2 K (fun x y H Q => ∃ a b, x = .bl a ∧ y = .bl b ∧ Q (.bl (!decide (a = b))) H) (.bool a) (.bool b) H (.bool (!decide (a = b))) := fun H' x y ex dx dy H1 e1 Q q => ⟨a, b, dx.bl_eq, dy.bl_eq, q.val e1 fun _ => .bl _⟩
theorem dp_intsD : ∀ l : List Int, L2.DpAll K H (l.map V.int) (l.map .int)
  | [] => .nil
  | n :: r => .cons (.int n) (dp_intsD r)
theorem lay_ints : ∀ l : List Int, PyData.canLayAll0 (l.map .int) = true
  | [] => rfl
  | n :: r => by simp only [List.map_cons, PyData.canLayAll0, PyData.canLay0, Bool.true_and, lay_ints r]
theorem depth_ints : ∀ l : List Int, PyData.depthAll (l.map .int) = 0
  | [] => rfl
  | n :: r => by simp only [List.map_cons, PyData.depthAll, PyData.depth, depth_ints r]; rfl
/-- script != [] -/
theorem rd_neScr {ns : List Int} : RD2 K (rNeU K) (scrD ns) (.list []) H (.bool (!ns.isEmpty)) := fun H' x y ex dx dy H1 e1 Q q => by
  obtain ⟨a, rfl, h⟩ := dx.scr_eq
  refine .inr ⟨.list (ns.map .int), .list [], .lst (ex_l e1 h) (dp_intsD ns), (Dt.ex e1 dy).dp rfl, ?_, rfl, ?_⟩
  · unfold SeqAt.shaped
    simp only [PyData.canLay0, lay_ints, PyData.depth, depth_ints, Bool.true_and]
    rfl
  · have e : PyData.eqv (.list (ns.map .int)) (.list []) = ns.isEmpty := by
      cases ns <;> rfl
    rw [e]
    exact q.val e1 fun _ => .bl _
/-- script[i] -/
theorem rd_ixScr {ns : List Int} {i : Int} {n : Int} (h : atI ns i = some n) : RD2 K (rIx K) (scrD ns) (.int i) H (.int n) := fun H' x y _ dx dy H1 e1 Q q => by
  obtain ⟨a, rfl, ha⟩ := dx.scr_eq
  unfold atI at h
  obtain ⟨j, hj, hd⟩ := Option.bind_eq_some_iff.mp h
  refine .inl ⟨a, _, i, .int n, rfl, dy.int_eq, ex_l e1 ha, ?_, q.val e1 fun _ => .int _⟩
  unfold atI
  rw [List.length_map, hj]
  show (ns.map V.int)[j]? = some (V.int n)
  rw [List.getElem?_map, hd]
  rfl
theorem rd_ixT {ds : List PyData} {i : Int} {d : PyData} (h : atI ds i = some d) : RD2 K (rIx K) (.tuple ds) (.int i) H d := fun H' x y _ dx dy H1 e1 Q q => by
  obtain ⟨a, xs, rfl, ha, ra⟩ := dx.tup_eq
  unfold atI at h
  rw [← ra.length] at h
  obtain ⟨j, hj, hd⟩ := Option.bind_eq_some_iff.mp h
  obtain ⟨v, hv, dv⟩ := ra.get hd
  refine .inr (.inl ⟨a, xs, i, v, rfl, dy.int_eq, ex_t e1 ha, ?_, q.now e1 dv⟩)
  unfold atI
  rw [hj]
  exact hv
theorem rd_ixL {ds : List PyData} {i : Int} {d : PyData} (h : atI ds i = some d) : RD2 K (rIx K) (.list ds) (.int i) H d := fun H' x y _ dx dy H1 e1 Q q => by
  obtain ⟨a, xs, rfl, ha, ra⟩ := dx.lst_eq
  unfold atI at h
  rw [← ra.length] at h
  obtain ⟨j, hj, hd⟩ := Option.bind_eq_some_iff.mp h
  obtain ⟨v, hv, dv⟩ := ra.get hd
  refine .inl ⟨a, xs, i, v, rfl, dy.int_eq, sq_of (e1 a _ ha), ?_, q.now e1 dv⟩
  unfold atI
  rw [hj]
  exact hv
theorem rd_ixS {z : Str} {i : Int} {c : Nat} (hl : z.length ≤ 100000) (h : atI z.cps.toList i = some c) : RD2 K (rIx K) (.str z) (.int i) H (.str ⟨#[c]⟩) := fun H' x y _ dx dy H1 e1 Q q =>
  .inr (.inr ⟨z, i, c, dx.str_eq, dy.int_eq, sz_of hl, h, q.val e1 fun _ => .str _⟩)
/-- isinstance of a built-in class -/
def tyD : PyData → String
  | .none => "NoneType"
  | .bool _ => "bool"
  | .int _ => "int"
  | .str _ => "str"
  | .list _ => "list"
  | .tuple _ => "tuple"
  | .dict _ => "list"
theorem Dt.ty {v : V} {d : PyData} (h : Dt K H v d) : TyX K H v (.type (tyD d)) := by
  cases h with
  | non => exact .base .non
  | bl b => exact .base (.bl b)
  | int i => exact .base (.int i)
  | str x => exact .base (.str x)
  | lst h _ => exact .base (.lst h)
  | tup h _ =>
    rcases h with (h | ⟨o, h⟩) | ⟨o, its, n, h1, h2, _⟩
    · exact .base (.tup h)
    · exact .fTuple h
    · exact .kTuple h1 h2
  | scr ns h =>
    rcases h with (h | ⟨o, h⟩) | ⟨o, its, n, h1, h2, _⟩
    · exact .base (.lst h)
    · exact .base (.frz h)
    · exact .kList h1 h2
theorem rdc_isi {d : PyData} {n : String} {b : Bool} (h : kitB (tyD d) n = some b) : ∀ H' vs, Ex H H' → ∀ v, Dt K H' v d → vs = [v, V.ty n] → ∀ H1, Ex H' H1 → ∀ Q : VK, KD K H' H1 (.bool b) Q → rIsi K vs H1 Q := fun H' vs _ v dv hv H1 e1 Q q =>
  ⟨v, .ty n, .type (tyD d), .type n, b, hv, .ty n, (Dt.ex e1 dv).ty, kit_ty h, q.val e1 fun _ => .bl _⟩
end
section
variable {K : PySem.W.Frag} {σ : L2.St} {H : Hp} {ta te : TE} {d : PyData}
/-- isinstance(e, T) -/
theorem ed_isi {n : String} {b : Bool} (ha : EvD K ta σ H d) (h : kitB (tyD d) n = some b) : EvD K (tCB (rIsi K) (tCons ta (tCons (tC (.ty n)) tNil))) σ H (.bool b) := fun H1 e1 Q q =>
  ha H1 e1 _ fun x H2 Ha e2 ea xa da => rdc_isi (H := H) h Ha _ xa.ex x da rfl H2 ea Q fun v H4 Hc e4 ec xc dc => q v H4 Hc (e2.trans e4) ec (xa.trans e2 xc) dc
/-- len -/
def lenR (K : PySem.W.Frag) : List V → Hp → VK → Prop := fun xs H Q => ∃ x n, xs = [x] ∧ LenV K x H n ∧ Q (.int n) H
theorem ed_lenS {z : Str} (ha : EvD K ta σ H (.str z)) (h : z.length ≤ sizeLine) : EvD K (tCB (lenR K) (tCons ta tNil)) σ H (.int z.length) := fun H1 e1 Q q =>
  ha H1 e1 _ fun x H2 Ha e2 ea xa da => by
    rw [da.str_eq]
    exact ⟨_, _, rfl, ⟨h, rfl⟩, q _ H2 Ha e2 ea xa (.int _)⟩
theorem ed_lenL {ds : List PyData} (ha : EvD K ta σ H (.list ds)) : EvD K (tCB (lenR K) (tCons ta tNil)) σ H (.int ds.length) := fun H1 e1 Q q =>
  ha H1 e1 _ fun x H2 Ha e2 ea xa da => by
    obtain ⟨a, xs, rfl, h, r⟩ := da.lst_eq
    refine ⟨_, _, rfl, .inl ⟨xs, sq_of (ea a _ h), rfl⟩, ?_⟩
    rw [r.length]
    exact q _ H2 Ha e2 ea xa (.int _)
theorem ed_lenT {ds : List PyData} (ha : EvD K ta σ H (.tuple ds)) : EvD K (tCB (lenR K) (tCons ta tNil)) σ H (.int ds.length) := fun H1 e1 Q q =>
  ha H1 e1 _ fun x H2 Ha e2 ea xa da => by
    obtain ⟨a, xs, rfl, h, r⟩ := da.tup_eq
    refine ⟨_, _, rfl, .inr ⟨xs, ex_t ea h, rfl⟩, ?_⟩
    rw [r.length]
    exact q _ H2 Ha e2 ea xa (.int _)
theorem ed_lenScr {ns : List Int} (ha : EvD K ta σ H (scrD ns)) : EvD K (tCB (lenR K) (tCons ta tNil)) σ H (.int ns.length) := fun H1 e1 Q q =>
  ha H1 e1 _ fun x H2 Ha e2 ea xa da => by
    obtain ⟨a, rfl, h⟩ := da.scr_eq
    refine ⟨_, _, rfl, .inl ⟨_, ex_l ea h, rfl⟩, ?_⟩
    rw [List.length_map]
    exact q _ H2 Ha e2 ea xa (.int _)
/-- all, any of a list of truths -/
theorem ed_all {bs : List Bool} (ha : EvD K ta σ H (.list (bs.map .bool))) : EvD K (tCB (rAll K) (tCons ta tNil)) σ H (.bool (bs.all id)) := fun H1 e1 Q q =>
  ha H1 e1 _ fun x H2 Ha e2 ea xa da => by
    obtain ⟨a, xs, rfl, h, r⟩ := da.lst_eq
    refine ⟨a, bs, rfl, sq_of ?_, q _ H2 Ha e2 ea xa (.bl _)⟩
    rw [← bls_dp r]
    exact ea a _ h
theorem ed_any {bs : List Bool} (ha : EvD K ta σ H (.list (bs.map .bool))) : EvD K (tCB (rAny K) (tCons ta tNil)) σ H (.bool (bs.any id)) := fun H1 e1 Q q =>
  ha H1 e1 _ fun x H2 Ha e2 ea xa da => by
    obtain ⟨a, xs, rfl, h, r⟩ := da.lst_eq
    refine ⟨a, bs, rfl, sq_of ?_, q _ H2 Ha e2 ea xa (.bl _)⟩
    rw [← bls_dp r]
    exact ea a _ h
/-- one sign in a text -/
def rInS : R2 := fun x y H Q => ∃ (c : Nat) (z : Str), x = .str ⟨#[c]⟩ ∧ y = .str z ∧ Q (.bl (decide (c ∈ z.cps.toList))) H
theorem rd_inS {c : Nat} {z : Str} : RD2 K rInS (.str ⟨#[c]⟩) (.str z) H (.bool (decide (c ∈ z.cps.toList))) := fun H' x y _ dx dy H1 e1 Q q => ⟨c, z, dx.str_eq, dy.str_eq, q.val e1 fun _ => .bl _⟩
/-- parts of a slice -/
theorem eo_none : EvO tNoPart σ H none := fun H1 _ _ q => q H1 (Ex.refl H1)
theorem eo_some {i : Int} (h : EvD K te σ H (.int i)) : EvO (tPart te) σ H (some i) := fun H1 e _ q => h H1 e _ fun v H2 _ e2 _ _ dv => ⟨i, dv.int_eq, q H2 e2⟩
theorem EvO.mono {to : TO} {o : Option Int} {H' : Hp} (h : EvO to σ H o) (e : Ex H H') : EvO to σ H' o := fun H1 e1 Q q => h H1 (e.trans e1) Q q
/-- slices: a text, a list, a tuple -/
def rSlU (K : PySem.W.Frag) : V → Option Int → Option Int → Hp → VK → Prop := fun x lo hi H Q => rSlS x lo hi H Q ∨ (rSlL K x lo hi H Q ∨ rSlA K x lo hi H Q)
theorem sl_U {X : Cx} : SlR X (rSlU X.K) := sl_str.or (sl_list.or sl_tupA)
theorem ed_slS {z : Str} {tl th : TO} {lo hi : Option Int} (ha : EvD K ta σ H (.str z)) (h1 : EvO tl σ H lo) (h2 : EvO th σ H hi) (hl : z.length ≤ 100000) : EvD K (tSl (rSlU K) ta tl th) σ H (.str (cutS z lo hi)) := fun H1 e1 Q q =>
  ha H1 e1 _ fun x H2 Ha e2 ea xa da => (h1.mono xa.ex) H2 ea _ fun H3 e3 => (h2.mono xa.ex) H3 (ea.trans e3) _ fun H4 e4 =>
    .inl ⟨z, da.str_eq, sz_of hl, q _ H4 Ha ((e2.trans e3).trans e4) ((ea.trans e3).trans e4) xa (.str _)⟩
def cutD (ds : List PyData) (lo hi : Option Int) : List PyData := (ds.drop (HT.sIx ds.length 0 lo)).take (HT.sIx ds.length ds.length hi - HT.sIx ds.length 0 lo)
theorem cut_dt {xs : List V} {ds : List PyData} (r : DtAll K H xs ds) (lo hi : Option Int) : DtAll K H (cutV xs lo hi) (cutD ds lo hi) := by
  unfold cutV cutD
  rw [r.length]
  exact (r.drop _).take _
theorem ed_slL {ds : List PyData} {tl th : TO} {lo hi : Option Int} (ha : EvD K ta σ H (.list ds)) (h1 : EvO tl σ H lo) (h2 : EvO th σ H hi) : EvD K (tSl (rSlU K) ta tl th) σ H (.list (cutD ds lo hi)) := fun H1 e1 Q q =>
  ha H1 e1 _ fun x H2 Ha e2 ea xa da => (h1.mono xa.ex) H2 ea _ fun H3 e3 => (h2.mono xa.ex) H3 (ea.trans e3) _ fun H4 e4 => by
    obtain ⟨a, xs, rfl, h, r⟩ := da.lst_eq
    refine .inr (.inl ⟨a, xs, rfl, sq_of (((ea.trans e3).trans e4) a _ h), fun p hp => ?_⟩)
    exact q _ _ (upd Ha p _) (((e2.trans e3).trans e4).trans (Ex.new hp)) (ex_upd ((ea.trans e3).trans e4)) (xa.trans ((e2.trans e3).trans e4) (Ext.new ((ea.trans e3).trans e4) hp)) (.lst upd_same (DtAll.ex (Ex.new (fresh_back ((ea.trans e3).trans e4) hp)) (cut_dt r lo hi)))
theorem cut_all {xs : List V} {lo hi : Option Int} (h1 : HT.sIx xs.length 0 lo = 0) (h2 : HT.sIx xs.length xs.length hi = xs.length) {ds : List PyData} (hl : xs.length = ds.length) : cutD ds lo hi = ds := by
  unfold cutD
  rw [← hl, h1, h2, List.drop_zero, Nat.sub_zero, hl, List.take_length]
theorem ed_slT {ds : List PyData} {tl th : TO} {lo hi : Option Int} (ha : EvD K ta σ H (.tuple ds)) (h1 : EvO tl σ H lo) (h2 : EvO th σ H hi) : EvD K (tSl (rSlU K) ta tl th) σ H (.tuple (cutD ds lo hi)) := fun H1 e1 Q q =>
  ha H1 e1 _ fun x H2 Ha e2 ea xa da => (h1.mono xa.ex) H2 ea _ fun H3 e3 => (h2.mono xa.ex) H3 (ea.trans e3) _ fun H4 e4 => by
    obtain ⟨a, xs, rfl, h, r⟩ := da.tup_eq
    refine .inr (.inr ⟨a, xs, rfl, ex_t ((ea.trans e3).trans e4) h, fun z => ?_, fun _ p hp => ?_⟩)
    · rw [cut_all z.1 z.2 r.length] at q
      exact q _ H4 Ha ((e2.trans e3).trans e4) ((ea.trans e3).trans e4) xa (.tup h r)
    · exact q _ _ (upd Ha p _) (((e2.trans e3).trans e4).trans (Ex.new hp)) (ex_upd ((ea.trans e3).trans e4)) (xa.trans ((e2.trans e3).trans e4) (Ext.new ((ea.trans e3).trans e4) hp)) (.tup (st_of upd_same) (DtAll.ex (Ex.new (fresh_back ((ea.trans e3).trans e4) hp)) (cut_dt r lo hi)))
end
end LR

/-! ### slots, statements, loops over data (own work) -/
namespace LR
open PySem PySem.Spec PyProof.Rows L2 Evl
/-- what is known of a slot: data, a value itself, nothing -/
inductive SD where
  | dat (d : PyData)
  | val (v : V)
  | unk
def SdOk (K : PySem.W.Frag) (H : Hp) : Option V → SD → Prop
  | some v, .dat d => Dt K H v d
  | some v, .val w => v = w
  | _, .unk => True
  | none, .dat _ => False
  | none, .val _ => False
/-- the slots as they are known -/
inductive Sl (K : PySem.W.Frag) (H : Hp) : L2.St → List SD → Prop
  | nil : Sl K H [] []
  | cons {o : Option V} {σ : L2.St} {s : SD} {ss : List SD} : SdOk K H o s → Sl K H σ ss → Sl K H (o :: σ) (s :: ss)
section
variable {K : PySem.W.Frag} {H H' : Hp} {σ : L2.St} {ss : List SD}
theorem SdOk.ex (e : Ex H H') {o : Option V} {s : SD} (h : SdOk K H o s) : SdOk K H' o s := by
  cases o with
  | none => cases s <;> exact h
  | some v =>
    cases s with
    | dat d => exact Dt.ex e h
    | val w => exact h
    | unk => trivial
theorem Sl.ex (e : Ex H H') : ∀ {σ : L2.St} {ss : List SD}, Sl K H σ ss → Sl K H' σ ss
  | _, _, .nil => .nil
  | _, _, .cons a b => .cons (a.ex e) (Sl.ex e b)
theorem Sl.get : ∀ {σ : L2.St} {ss : List SD} {i : Nat} {s : SD}, Sl K H σ ss → ss[i]? = some s → ∃ o, σ[i]? = some o ∧ SdOk K H o s
  | _, _, _, _, .nil, e => by simp at e
  | _, _, 0, _, .cons a _, e => by
    simp at e
    subst e
    exact ⟨_, rfl, a⟩
  | _, _, i + 1, s, .cons _ b, e => by
    obtain ⟨v, h1, h2⟩ := Sl.get (i := i) (s := s) b (by simpa using e)
    exact ⟨v, by simpa using h1, h2⟩
theorem Sl.dat {i : Nat} {d : PyData} (s : Sl K H σ ss) (h : ss[i]? = some (.dat d)) : ∃ v, σ[i]? = some (some v) ∧ Dt K H v d := by
  obtain ⟨o, h1, h2⟩ := s.get h
  cases o with
  | none => exact h2.elim
  | some v => exact ⟨v, h1, h2⟩
theorem Sl.val {i : Nat} {v : V} (s : Sl K H σ ss) (h : ss[i]? = some (.val v)) : σ[i]? = some (some v) := by
  obtain ⟨o, h1, h2⟩ := s.get h
  cases o with
  | none => exact h2.elim
  | some w =>
    have e : w = v := h2
    rw [e] at h1
    exact h1
theorem Sl.set {s : SD} {o : Option V} (h : SdOk K H o s) : ∀ {σ : L2.St} {ss : List SD} (i : Nat), Sl K H σ ss → Sl K H (σ.set i o) (ss.set i s)
  | _, _, _, .nil => .nil
  | _, _, 0, .cons _ b => .cons h b
  | _, _, i + 1, .cons a b => .cons a (Sl.set h i b)
theorem Sl.length : ∀ {σ : L2.St} {ss : List SD}, Sl K H σ ss → σ.length = ss.length
  | _, _, .nil => rfl
  | _, _, .cons _ b => congrArg Nat.succ (Sl.length b)
/-- a slot is forgotten -/
theorem Sl.forget : ∀ {σ : L2.St} {ss : List SD} (i : Nat), Sl K H σ ss → Sl K H σ (ss.set i .unk)
  | _, _, _, .nil => .nil
  | _, _, 0, .cons (o := o) _ b => .cons (by cases o <;> trivial) b
  | _, _, i + 1, .cons a b => .cons a (Sl.forget i b)
/-- the slots of a comprehension's own names are forgotten -/
def wipeS (ss : List SD) : List Nat → List SD
  | [] => ss
  | v :: vs => (wipeS ss vs).set v .unk
theorem Sl.wipe : ∀ (vs : List Nat), Sl K H σ ss → Sl K H (L2.wipe σ vs) (wipeS ss vs)
  | [], s => s
  | v :: vs, s => Sl.set (s := .unk) (o := none) trivial v (Sl.wipe vs s)
/-- the start of a def -/
theorem sl_start {vs : List V} : ∀ {ds : List PyData} (n : Nat), DtAll K H vs ds → Sl K H (vs.map some ++ List.replicate n none) (ds.map .dat ++ List.replicate n .unk) := by
  intro ds n h
  induction vs generalizing ds with
  | nil =>
    cases h
    induction n with
    | zero => exact .nil
    | succ n ih => exact .cons trivial ih
  | cons v vs ih =>
    cases h with
    | cons a b => exact .cons a (ih b)
theorem sl_unk : ∀ (n : Nat), Sl K H (List.replicate n none) (List.replicate n .unk)
  | 0 => .nil
  | n + 1 => .cons trivial (sl_unk n)
end
/-- where one stands: H is known, H1 is the heap; H0, H10 the same at the def's entry -/
structure Now (H0 H10 H H1 : Hp) : Prop where
  ex : Ex H H1
  ext : Ext H0 H10 H
  grow : Ex H10 H1
theorem Now.start {H0 H10 : Hp} (e : Ex H0 H10) : Now H0 H10 H0 H10 := ⟨e, Ext.refl _ _, Ex.refl _⟩
theorem Now.on {H0 H10 H H1 H' H2 : Hp} (n : Now H0 H10 H H1) (e2 : Ex H1 H2) (e : Ex H' H2) (x : Ext H H1 H') : Now H0 H10 H' H2 := ⟨e, n.ext.trans n.grow x, n.grow.trans e2⟩
/-- a list of one's own is changed -/
theorem Now.mut {H0 H10 H H1 : Hp} (n : Now H0 H10 H H1) {l : Addr} {o : HO} (h : H l = none) (h0 : H10 l = none) : Now H0 H10 H (upd H1 l o) :=
  ⟨ex_off n.ex h, n.ext, ex_off n.grow h0⟩
section
variable {K : PySem.W.Frag} {H0 H10 H H1 : Hp} {σ : L2.St} {ss : List SD} {te ta : TE} {tt : TT} {d : PyData} {D : Ends} {t1 t2 : TS}
theorem ed_sl {i : Nat} (s : Sl K H σ ss) (h : ss[i]? = some (.dat d)) : EvD K (tVar i) σ H d := by
  obtain ⟨v, h1, h2⟩ := s.dat h
  exact ed_var h1 h2
theorem st_ret {Q : VK} (n : Now H0 H10 H H1) (h : EvD K te σ H d) (q : KD K H0 H10 d Q) (hQ : D.rt = Q := by rfl) : tRet te D σ H1 := by
  subst hQ
  exact h H1 n.ex _ fun v H2 H' e2 e x dv => q v H2 H' (n.grow.trans e2) e (n.ext.trans n.grow x) dv
theorem st_retN {Q : VK} (n : Now H0 H10 H H1) (q : KD K H0 H10 .none Q) (hQ : D.rt = Q := by rfl) : tRetN D σ H1 := by
  subst hQ
  exact q _ H1 H n.grow n.ex n.ext .non
theorem st_asg {i : Nat} (n : Now H0 H10 H H1) (s : Sl K H σ ss) (h : EvD K te σ H d) (k : ∀ σ' H' H2, Ex H H' → Now H0 H10 H' H2 → Sl K H' σ' (ss.set i (.dat d)) → D.nx σ' H2) : tAsg te (gName i) D σ H1 :=
  h H1 n.ex _ fun v H2 H' e2 e x dv => k _ H' H2 x.ex (n.on e2 e x) ((s.ex x.ex).set (s := .dat d) (o := some v) dv i)
theorem st_if {b : Bool} (n : Now H0 H10 H H1) (h : EvB tt σ H b) (k1 : b = true → ∀ H2, Now H0 H10 H H2 → t1 D σ H2) (k2 : b = false → ∀ H2, Now H0 H10 H H2 → t2 D σ H2) : tIfS tt t1 t2 D σ H1 :=
  h H1 n.ex _ fun H2 e2 => by
    have n2 : Now H0 H10 H H2 := ⟨n.ex.trans e2, n.ext, n.grow.trans e2⟩
    cases b with
    | true => exact k1 rfl H2 n2
    | false => exact k2 rfl H2 n2
/-- a new list of one's own, empty, in slot i -/
theorem st_new {i : Nat} (n : Now H0 H10 H H1) (s : Sl K H σ ss) (k : ∀ l σ' H2, H l = none → H10 l = none → H2 l = some (.lst []) → Now H0 H10 H H2 → Sl K H σ' (ss.set i (.val (.ref l))) → D.nx σ' H2) : tAsg (tLst tNil) (gName i) D σ H1 :=
  ⟨by show 0 ≤ sizeLine; exact Nat.zero_le _, fun p hp => k p _ _ (fresh_back n.ex hp) (fresh_back n.grow hp) upd_same ⟨n.ex.trans (Ex.new hp), n.ext, n.grow.trans (Ex.new hp)⟩ (s.set (s := .val (.ref p)) (o := some (.ref p)) rfl i)⟩
/-- l.append(e), the list in slot i -/
theorem st_app {i : Nat} {l : Addr} {vs : List V} (n : Now H0 H10 H H1) (s : Sl K H σ ss) (hi : ss[i]? = some (.val (.ref l))) (hl : H l = none) (h0 : H10 l = none) (h1 : H1 l = some (.lst vs)) (hz : vs.length < 100000) (h : EvD K te σ H d)
    (k : ∀ v H' H2, Ex H H' → H' l = none → Dt K H' v d → H2 l = some (.lst (vs ++ [v])) → Now H0 H10 H' H2 → Sl K H' σ ss → D.nx σ H2) : tDrop (tBM K "list" rAppend (tVar i) (tCons te tNil)) D σ H1 :=
  ⟨.ref l, s.val hi, Or.inl ⟨rfl, vs, sq_of h1⟩, h H1 n.ex _ fun v H2 H' e2 e x dv => ⟨l, vs, v, rfl, rfl, e2 l _ h1, sz_lt hz,
    k v H' _ x.ex (x.off hl h1) dv upd_same ((n.on e2 e x).mut (x.off hl h1) h0) (s.ex x.ex)⟩⟩
end
/-! ### walks -/
/-- what is walked: n turns, the i-th item is told by Y (what is known where it is walked, the turn, the heap then, the item, the heap behind it) -/
def EvI (wi : TI) (σ : L2.St) (H : Hp) (n : Nat) (Y : Hp → Nat → Hp → V → Hp → Prop) : Prop := ∀ H1, Ex H H1 → ∀ R : It → Hp → Prop, (∀ J (G : Hp → Prop) H2 H', Ex H1 H2 → Ex H' H2 → Ext H H1 H' → (∀ H3, Ex H' H3 → G H3) → Walk J n G (Y H') → R J H2) → wi σ H1 R
section
variable {K : PySem.W.Frag} {σ : L2.St} {H : Hp} {te : TE}
/-- items of data -/
def YD (K : PySem.W.Frag) (ds : List PyData) : Hp → Nat → Hp → V → Hp → Prop := fun Hi i H v H' => H' = H ∧ ∃ d, ds[i]? = some d ∧ Dt K Hi v d
/-- signs of a text -/
def YS (z : Str) : Hp → Nat → Hp → V → Hp → Prop := fun _ i H v H' => H' = H ∧ ∃ c, z.cps[i]? = some c ∧ v = .str ⟨#[c]⟩
theorem ei_str {z : Str} (h : EvD K te σ H (.str z)) : EvI (iStr te) σ H z.cps.size (YS z) := fun H1 e1 R r =>
  h H1 e1 _ fun v H2 H' e2 e x dv => ⟨z, dv.str_eq, r _ (fun _ => True) H2 H' e2 e x (fun _ _ => trivial) walk_str⟩
theorem ei_range {ta : TA} {n : Int} (h : EvDs K ta σ H [.int n]) (h1 : -(2 ^ 62) ≤ n) (h2 : n < 2 ^ 62) : EvI (iRng1 ta) σ H n.toNat (fun _ => YFn fun i => .int (0 + i)) := fun H1 e1 R r =>
  h H1 e1 _ fun vs H2 H' e2 e x dv => ⟨n, by cases dv with | cons a b => cases b; rw [a.int_eq], h1, h2, r _ (fun _ => True) H2 H' e2 e x (fun _ _ => trivial) walk_range⟩
theorem ei_range2 {ta : TA} {m n : Int} (h : EvDs K ta σ H [.int m, .int n]) (h1 : -(2 ^ 62) ≤ m ∧ m < 2 ^ 62 ∧ -(2 ^ 62) ≤ n ∧ n < 2 ^ 62) : EvI (iRng2 ta) σ H (n - m).toNat (fun _ => YFn fun i => .int (m + i)) := fun H1 e1 R r =>
  h H1 e1 _ fun vs H2 H' e2 e x dv => ⟨m, n, by cases dv with | cons a b => cases b with | cons c f => cases f; rw [a.int_eq, c.int_eq], h1, r _ (fun _ => True) H2 H' e2 e x (fun _ _ => trivial) walk_range⟩
end
section
variable {K : PySem.W.Frag} {H0 H10 H H1 : Hp} {σ : L2.St} {ss : List SD} {te ta : TE} {tt : TT} {d : PyData} {D : Ends} {t1 t2 : TS}
/-- a for: k is asked where the walked thing is known; Pv by the turn, the slots and the heap -/
theorem st_for {wi : TI} {g : TG} {tb : TS} {n : Nat} {Y : Hp → Nat → Hp → V → Hp → Prop} (nw : Now H0 H10 H H1) (h : EvI wi σ H n Y)
    (k : ∀ Hb H2, Ex H Hb → Now H0 H10 Hb H2 → Ex H1 H2 → ∃ Pv : Nat → L2.St → Hp → Prop, Pv 0 σ H2 ∧ (∀ i σ' H3, Pv i σ' H3 → Ex Hb H3) ∧
      (∀ i x σ' H3 H4, i < n → Pv i σ' H3 → Y Hb i H3 x H4 → g x σ' H4 fun σ2 H5 => tb { D with nx := Pv (i + 1), ct := Pv (i + 1), bk := D.nx } σ2 H5) ∧ ∀ σ' H3, Pv n σ' H3 → D.nx σ' H3) : tFor wi g tb D σ H1 :=
  h H1 nw.ex _ fun J G H2 H' e2 e x hG w => by
    obtain ⟨Pv, p0, pe, pt, pd⟩ := k H' H2 x.ex (nw.on e2 e x) e2
    exact for_it (w.mono (G' := fun H3 => Ex H' H3) (fun H3 e3 => hG H3 e3) fun _ _ _ _ _ _ y => y) Pv p0 (fun i σ' H3 _ p => pe i σ' H3 p) (fun i y σ' H3 H4 hi p yy => pt i y σ' H3 H4 hi p yy) pd
/-- a while: W by a measure, the slots and the heap -/
theorem st_while {tb : TS} {tc : TT} (W : Nat → L2.St → Hp → Prop) (m0 : Nat) (h0 : W m0 σ H1)
    (hs : ∀ m σ' H', W m σ' H' → ∃ Hl b, Ex Hl H' ∧ EvB tc σ' Hl b ∧ (b = true → ∀ H2, Ex H' H2 → tb { D with nx := fun σ2 H3 => ∃ m', m' < m ∧ W m' σ2 H3, ct := fun σ2 H3 => ∃ m', m' < m ∧ W m' σ2 H3, bk := D.nx } σ' H2) ∧ (b = false → ∀ H2, Ex H' H2 → D.nx σ' H2)) : tWhile tc tb D σ H1 :=
  ⟨W, ⟨m0, h0⟩, fun m σ' H' w => by
    obtain ⟨Hl, b, e, eb, k1, k2⟩ := hs m σ' H' w
    refine eb H' e _ fun H2 e2 => ?_
    cases b with
    | true => exact ⟨_, fun _ _ z => z, k1 rfl H2 e2⟩
    | false => exact k2 rfl H2 e2⟩
/-! ### list comprehensions -/
/-- a target takes an item: the slots behind it -/
def EvG (g : TG) (x : V) (σ : L2.St) (H : Hp) (σ2 : L2.St) : Prop := ∀ Q : L2.St → Hp → Prop, Q σ2 H → g x σ H Q
theorem eg_name {j : Nat} {x : V} : EvG (gName j) x σ H (σ.set j (some x)) := fun _ q => q
theorem eg_nil : ∀ Q : L2.St → Hp → Prop, Q σ H → gNil [] σ H Q := fun _ q => ⟨rfl, q⟩
/-- (a, b) = a pair -/
theorem eg_pair {i j : Nat} {a : Addr} {x y : V} (h : SqT K H a [x, y]) : EvG (gTup K 2 (gCons (gName i) (gCons (gName j) gNil))) (.ref a) σ H ((σ.set i (some x)).set j (some y)) := fun _ q =>
  ⟨a, [x, y], rfl, h, rfl, x, [y], rfl, y, [], rfl, rfl, q⟩
theorem ed_lc {wi : TI} {g : TG} {tt : TT} {te : TE} {vs : List Nat} {n : Nat} {Y : Hp → Nat → Hp → V → Hp → Prop} (els : Nat → Option PyData) {out : List PyData} (hw : EvI wi σ H n Y)
    (ht : ∀ i, i < n → ∀ Hi Hb H2 x H3, Ex H Hi → Ex Hi Hb → Ex Hb H2 → Y Hi i H2 x H3 → ∃ Hc σ2, Ext Hb H2 Hc ∧ Ex Hc H3 ∧ Ex H2 H3 ∧ EvG g x (L2.wipe σ vs) H3 σ2 ∧ L2.wipe σ2 vs = L2.wipe σ vs ∧
      ∃ b, EvB tt σ2 Hc b ∧ (b = false → els i = none) ∧ (b = true → ∃ d, els i = some d ∧ EvD K te σ2 Hc d)) (hn : n ≤ 50000) (ho : out = (List.range n).filterMap els) : EvD K (tLc wi g tt te vs) σ H (.list out) := fun H1 e1 Q q =>
  hw H1 e1 _ fun J G H2 Hb e2 eb xb hG w Dl hD => by
    have hDb : Hb Dl = none := fresh_back eb hD
    have hD1 : H1 Dl = none := fresh_back e2 hD
    refine lc_it (w.mono (G' := fun H3 => Ex Hb H3) (fun H3 e3 => hG H3 e3) fun _ _ _ _ _ _ y => y)
      (fun i Hr => ∃ Hl acc, Ex Hb Hl ∧ Ex Hl Hr ∧ Ex H1 Hr ∧ Ext H H1 Hl ∧ Hl Dl = none ∧ Hr Dl = some (.lst acc) ∧ DtAll K Hl acc ((List.range i).filterMap els) ∧ acc.length ≤ i) ?_ ?_ ?_ ?_
    · exact ⟨Hb, [], Ex.refl _, eb.trans (Ex.new hD), e2.trans (Ex.new hD), xb, hDb, upd_same, .nil, Nat.le_refl _⟩
    · rintro i Hr hi ⟨Hl, acc, a1, a2, _⟩
      exact a1.trans a2
    · rintro i x Hr H3 hi ⟨Hl, acc, a1, a2, a3, a4, a5, a6, a7, a8⟩ y
      obtain ⟨Hc, σ2, c1, c2, c3, c4, c5, b, c6, c7, c8⟩ := ht i hi Hb Hl Hr x H3 xb.ex a1 a2 y
      refine c4 _ ⟨c5, c6 H3 c2 _ fun H4 e4 => ?_⟩
      have n1 : Hc Dl = none := c1.off a5 a6
      cases b with
      | false =>
        refine ⟨Hc, acc, a1.trans c1.ex, c2.trans e4, (a3.trans c3).trans e4, a4.trans a3 c1, n1, (c3.trans e4) Dl _ a6, ?_, Nat.le_succ_of_le a8⟩
        rw [List.range_succ, List.filterMap_append, List.filterMap_cons, c7 rfl]
        show DtAll K Hc acc (_ ++ [])
        rw [List.append_nil]
        exact DtAll.ex c1.ex a7
      | true =>
        obtain ⟨d, d1, d2⟩ := c8 rfl
        refine d2 H4 (c2.trans e4) _ fun v H5 Hd e5 ed xd dv => ?_
        have n2 : Hd Dl = none := xd.off n1 ((c3.trans e4) Dl _ a6)
        refine ⟨acc, (((c3.trans e4).trans e5) Dl _ a6), sz_lt (by omega), Hd, acc ++ [v], (a1.trans c1.ex).trans xd.ex, ex_off ed n2, ex_off (((a3.trans c3).trans e4).trans e5) hD1, (a4.trans a3 c1).trans ((a3.trans c3).trans e4) xd, n2, upd_same, ?_, ?_⟩
        · rw [List.range_succ, List.filterMap_append, List.filterMap_cons, d1]
          exact (DtAll.ex (c1.ex.trans xd.ex) a7).append (.cons dv .nil)
        · rw [List.length_append]
          exact Nat.succ_le_succ a8
    · rintro Hr ⟨Hl, acc, a1, a2, a3, a4, a5, a6, a7, a8⟩
      refine q _ Hr (upd Hl Dl (.lst acc)) a3 ?_ ⟨a4.ex.trans (Ex.new a5), fun b o hb => ?_⟩ ?_
      · intro b o hb
        by_cases z : b = Dl
        · subst z
          rw [upd_same] at hb
          cases hb
          exact a6
        · rw [upd_ne z] at hb
          exact a2 b o hb
      · by_cases z : b = Dl
        · subst z
          exact .inr hD1
        · rw [upd_ne z] at hb
          exact a4.fresh b o hb
      · rw [ho]
        exact .lst upd_same (DtAll.ex (Ex.new a5) a7)
theorem filterMap_range {α β : Type} (l : List α) (f : α → Option β) : (List.range l.length).filterMap (fun i => (l[i]?).bind f) = l.filterMap f := by
  induction l with
  | nil => rfl
  | cons a r ih =>
    rw [List.length_cons, List.range_succ_eq_map, List.filterMap_cons, List.filterMap_map]
    show (match (some a).bind f with | none => _ | some b => b :: _) = _
    rw [List.filterMap_cons]
    have e : (List.range r.length).filterMap ((fun i => ((a :: r)[i]?).bind f) ∘ Nat.succ) = r.filterMap f := by
      rw [← ih]
      apply congrArg (fun g => List.filterMap g (List.range r.length))
      funext i
      simp
    rw [e]
    rfl
end
end LR

/-! ### defs: promises over data, calls, walks of anything (own work) -/
namespace LR
open PySem PySem.Spec PyProof.Rows L2 Evl
/-- the way of exceptions: L2N's -/
abbrev CXL (P : Program) (w : World) : CXT := L2N.CX P w
theorem passN {X : Cx} : Passes (CXL X.prog X.w) X E0 := fun _ _ _ _ _ _ _ h => by
  obtain ⟨_, _, _, _, _, _, _, _, _, _, _, _, z⟩ := h
  exact z.elim
/-- a def that is called by its global name -/
structure Fx (P : Program) (w : World) (K : PySem.W.Frag) (mg : Str → Option Value) (base : Heap) (k : Nat) (x : Str) (ps : List Str) (sp : Sp) : Prop where
  ex : ∃ (f : Addr) (fd : FuncData), FnOk P w K mg base (CXL P w) k f fd ps sp ∧ mg x = some (.ref f) ∧ PySem.W.keepIn K (.ref f) = true ∧ Binds K fd ps []
theorem Fx.mono {P : Program} {w : World} {K : PySem.W.Frag} {mg : Str → Option Value} {base : Heap} {j k : Nat} {x : Str} {ps : List Str} {sp : Sp} (c : Fx P w K mg base j x ps sp) (h : j ≤ k) : Fx P w K mg base k x ps sp := by
  obtain ⟨f, fd, F, r⟩ := c.ex
  exact ⟨f, fd, F.mono h, r⟩
section
variable {X : Cx} {k j : Nat} {x : Str} {ps : List Str} {sp : Sp} {E : XK} {p pos : Pos} {e : Expr} {es : List Expr} {t : TA}
theorem pe_fx (c : Fx X.prog X.w X.K X.mg X.base k x ps sp) (hr : Room j X.A) (hk : k ≤ j) (hg : Gl X x) (hx : Passes (CXL X.prog X.w) X E) (ha : PA X (e :: es) t)
    (hdb : (x == ("__debug__" : Str)) = false := by decide) (he : starEach (e :: es) X.env = (false, eval e X.env) :: starEach es X.env := by rfl) (hpl : (backTo pos (starEach es X.env)).any (·.1) = false := by rfl) :
    PE X (.Call (.Name x p) (e :: es) [] pos) (tCall sp [] E t) := by
  obtain ⟨f, fd, F, hm, kp, b⟩ := c.ex
  exact pe_call F (hr.mono hk) hg hm kp b .nil hx ha hdb he hpl
/-- a for, a comprehension over a list, a tuple or a text -/
def iU (K : PySem.W.Frag) (tl : TE) : TI := fun σ H R => tl σ H fun x H1 => (∃ a, x = .ref a ∧ (∃ xs, SqL K H1 a xs) ∧ R (Itl K a) H1) ∨ (∃ a, x = .ref a ∧ (∃ xs, SqT K H1 a xs) ∧ R (Itt K a) H1) ∨ (∃ z, x = .str z ∧ R (Its z) H1)
theorem pi_U {tg l : Expr} {tl : TE} (hl : PE X l tl) : PI X tg l (iU X.K tl) := by
  refine ⟨fun pins s σ H R I h => ?_⟩
  refine thn (hl.run pins s σ H _ I h) fun v s1 ⟨x, H1, I1, r1, q1⟩ => ?_
  rcases q1 with ⟨a, e, ⟨xs, hq⟩, q⟩ | ⟨a, e, ⟨xs, hq⟩, q⟩ | ⟨z, e, q⟩
  · subst e
    cases r1
    obtain ⟨its, rv, p, hz⟩ := I1.list hq
    exact wpAny_pyIter_list p.isList (pi_one (tk := s1.toks) I1 _ (turn_list a _) ⟨_, Heap.get?_push_size _ rfl, rfl, rfl⟩ q)
  · subst e
    cases r1
    obtain ⟨its, rv, p, hz⟩ := I1.tuple hq
    exact wpAny_pyIter_tuple (show s1.heap.IsTuple a its.toArray from p) (pi_one (tk := s1.toks) I1 _ (turn_tuple a _) ⟨_, Heap.get?_push_size _ rfl, rfl, rfl⟩ q)
  · subst e
    obtain ⟨t, rfl⟩ := r1
    cases ha : z.cps.all (· < 128)
    · exact wpAny_pyIter_wide ha (pi_one (tk := s1.toks) I1 _ (turn_str _ z t "str_iterator" (.inr rfl)) ⟨_, Heap.get?_push_size _ rfl, rfl, rfl⟩ q)
    · exact wpAny_pyIter_ascii ha (pi_one (tk := s1.toks) I1 _ (turn_str _ z t "str_ascii_iterator" (.inl rfl)) ⟨_, Heap.get?_push_size _ rfl, rfl, rfl⟩ q)
end
section
variable {K : PySem.W.Frag} {σ : L2.St} {H : Hp} {te : TE} {ta : TA}
theorem eiU_str {z : Str} (h : EvD K te σ H (.str z)) : EvI (iU K te) σ H z.cps.size (YS z) := fun H1 e1 R r =>
  h H1 e1 _ fun v H2 H' e2 e x dv => .inr (.inr ⟨z, dv.str_eq, r _ (fun _ => True) H2 H' e2 e x (fun _ _ => trivial) walk_str⟩)
/-- items of data; what was known stays -/
theorem eiU_list {ds : List PyData} (h : EvD K te σ H (.list ds)) : EvI (iU K te) σ H ds.length (YD K ds) := fun H1 e1 R r =>
  h H1 e1 _ fun v H2 H' e2 e x dv => by
    obtain ⟨a, xs, rfl, ha, ra⟩ := dv.lst_eq
    refine .inl ⟨a, rfl, ⟨xs, sq_of (e a _ ha)⟩, r _ (fun H3 => Ex H' H3) H2 H' e2 e x (fun H3 e3 => e3) ?_⟩
    rw [← ra.length]
    exact (walk_list (K := K) (a := a) (xs := xs)).mono (fun H3 e3 => sq_of (e3 a _ ha)) fun i H3 y H4 hi e3 z => by
      obtain ⟨d, d1, d2⟩ := ra.get' z.2
      exact ⟨z.1, d, d1, d2⟩
theorem eiU_tup {ds : List PyData} (h : EvD K te σ H (.tuple ds)) : EvI (iU K te) σ H ds.length (YD K ds) := fun H1 e1 R r =>
  h H1 e1 _ fun v H2 H' e2 e x dv => by
    obtain ⟨a, xs, rfl, ha, ra⟩ := dv.tup_eq
    refine .inr (.inl ⟨a, rfl, ⟨xs, ex_t e ha⟩, r _ (fun H3 => Ex H' H3) H2 H' e2 e x (fun H3 e3 => e3) ?_⟩)
    rw [← ra.length]
    exact (walk_tup (K := K) (a := a) (xs := xs)).mono (fun H3 e3 => ex_t e3 ha) fun i H3 y H4 hi e3 z => by
      obtain ⟨d, d1, d2⟩ := ra.get' z.2
      exact ⟨z.1, d, d1, d2⟩
/-- the promise of a pure def: from data to data -/
def spR (K : PySem.W.Frag) (n : Nat) (R : List PyData → PyData → Prop) : Sp := fun vs H1 Q _ => ∃ H ds r, Ex H H1 ∧ DtAll K H vs ds ∧ ds.length = n ∧ R ds r ∧ KD K H H1 r Q
theorem spR_len {n : Nat} {R : List PyData → PyData → Prop} {vs : List V} {H1 : Hp} {Q : VK} {E : XK} (h : spR K n R vs H1 Q E) : vs.length = n := by
  obtain ⟨H, ds, r, _, da, hl, _⟩ := h
  rw [da.length, hl]
theorem ed_call {n : Nat} {R : List PyData → PyData → Prop} {E : XK} {ds : List PyData} {z : PyData} (ha : EvDs K ta σ H ds) (hR : R ds z) (hn : ds.length = n := by rfl) : EvD K (tCall (spR K n R) [] E ta) σ H z := fun H1 e1 Q q =>
  ha H1 e1 _ fun vs H2 Ha e2 ea xa da => by
    show spR K n R (vs ++ []) H2 Q E
    rw [List.append_nil]
    exact ⟨Ha, ds, z, ea, da, hn, hR, fun v H3 Hb e3 eb xb db => q v H3 Hb (e2.trans e3) eb (xa.trans e2 xb) db⟩
end
section
variable {P : Program} {w : World} {K : PySem.W.Frag} {mg : Str → Option Value} {base : Heap}
/-- a pure def of the text keeps its promise -/
theorem fn_pure {nm qual : Str} {st : Stmt} {f : Addr} {fd : FuncData} {N ps : List Str} {k n : Nat} {R : List PyData → PyData → Prop} (F : FunD K nm qual (defArgs st) (defBody st) (defScope st) [] [] f fd) (S : FnScope N ps (defScope st)) (hn : ps.length = n)
    (body : ∀ (cdv : Value) (A : Around) (outer : List Env) (s : Shared) (Hs : Hp) (E : XK), Room k (A.deeper (envOfC qual (defScope st) s.heap.objs.size f cdv)) → ∀ (ds : List PyData) (r : PyData), ds.length = n → R ds r →
      ∃ t, PSs (cxOf (CXL P w) P w K mg base N qual (defScope st) f cdv A outer s Hs E).nox (defBody st) t ∧
        ∀ (σ : L2.St) (H0 H10 : Hp) (Q : VK), Now H0 H10 H0 H10 → Sl K H0 σ (ds.map .dat ++ List.replicate (N.length - n) .unk) → KD K H0 H10 r Q → t { nx := fun _ H' => Q .non H', rt := Q } σ H10) :
    FnOk P w K mg base (CXL P w) (k + 1) f fd ps (spR K n R) := by
  refine F.ok S (fun vs H Q E h => ?_) (fun cdv A outer s H1 vs Q E hr h => ?_)
  · rw [hn]
    exact spR_len h
  · obtain ⟨H, ds, r, e, da, hl, hR, q⟩ := h
    obtain ⟨t, ht, hk⟩ := body cdv A outer s H1 E hr ds r hl hR
    refine ⟨t, ht.nox, hk _ H H1 Q (Now.start e) ?_ q⟩
    have z := sl_start (K := K) (H := H) (N.length - vs.length) da
    have lv : vs.length = n := da.length.trans hl
    rw [lv] at z
    unfold L2.start
    rw [lv]
    exact z
theorem fx_pure {x nm qual : Str} {st : Stmt} {f : Addr} {fd : FuncData} {N ps : List Str} {k n : Nat} {R : List PyData → PyData → Prop} (F : FunD K nm qual (defArgs st) (defBody st) (defScope st) [] [] f fd) (hm : mg x = some (.ref f)) (S : FnScope N ps (defScope st)) (hn : ps.length = n)
    (hb : ∀ (kV doc pm : Value) (an : Option Addr) (cdv ct : Value) (us : List Value), us.length = ps.length → bindArgs (PySem.W.fnOf nm qual (defArgs st) (defBody st) (defScope st) .none kV doc pm an cdv ct) ⟨us, []⟩ = pure (ps.zip us))
    (body : ∀ (cdv : Value) (A : Around) (outer : List Env) (s : Shared) (Hs : Hp) (E : XK), Room k (A.deeper (envOfC qual (defScope st) s.heap.objs.size f cdv)) → ∀ (ds : List PyData) (r : PyData), ds.length = n → R ds r →
      ∃ t, PSs (cxOf (CXL P w) P w K mg base N qual (defScope st) f cdv A outer s Hs E).nox (defBody st) t ∧
        ∀ (σ : L2.St) (H0 H10 : Hp) (Q : VK), Now H0 H10 H0 H10 → Sl K H0 σ (ds.map .dat ++ List.replicate (N.length - n) .unk) → KD K H0 H10 r Q → t { nx := fun _ H' => Q .non H', rt := Q } σ H10) :
    Fx P w K mg base (k + 1) x ps (spR K n R) := ⟨f, fd, fn_pure F S hn body, hm, F.kp, F.bindsN hb⟩
/-- the law's promise, at the end -/
theorem law_sp {H : Hp} {a : Addr} {ns : List Int} {R : List PyData → PyData → Prop} (hR : R [scrD ns] (.bool true)) (hS : SqL K H a (ns.map V.int)) : spR K 1 R [.ref a] H (fun v _ => v = .bl true) fun _ _ _ => False :=
  ⟨H, [scrD ns], .bool true, Ex.refl _, .cons (.scr ns hS) .nil, rfl, hR, fun _ _ _ _ _ _ dv => dv.bl_eq⟩
end
end LR

/-! ### rules with the written part by name (inside a comprehension the context is another, the written part is the same) -/
namespace LR
open PySem PySem.Spec PyProof.Rows L2 Evl
section
variable {X : Cx} {K : PySem.W.Frag}
theorem op_addK (h : X.K = K) : OpR X (binaryOp .Add) (rAddU K) := h ▸ op_addU
theorem op_mulK (h : X.K = K) : OpR X (binaryOp .Mult) (rMulU K) := h ▸ op_mulU
theorem op_eqK (h : X.K = K) (hu : X.A.units + 64 < cLine) : OpR X (compareOp .Eq) (rEqU K) := h ▸ op_eqU hu
theorem op_neK (h : X.K = K) (hu : X.A.units + 64 < cLine) : OpR X (compareOp .NotEq) (rNeU K) := h ▸ op_neU hu
theorem call_lenK (h : X.K = K) : CallR X (.builtin "len") (lenR K) := h ▸ call_len
theorem call_isK (h : X.K = K) : CallR X (.builtin "isinstance") (rIsi K) := h ▸ call_isi
theorem cr_allK (h : X.K = K) (hc : X.calm = true) : CallR X (.builtin "all") (rAll K) := h ▸ cr_all hc
theorem cr_anyK (h : X.K = K) (hc : X.calm = true) : CallR X (.builtin "any") (rAny K) := h ▸ cr_any hc
theorem cr_sumK (h : X.K = K) (hc : X.calm = true) : CallR X (.builtin "sum") (rSum K) := h ▸ cr_sum hc
theorem ix_K (h : X.K = K) : IxR X (rIx K) := h ▸ ix_seq
theorem sl_K (h : X.K = K) : SlR X (rSlU K) := h ▸ sl_U
theorem pi_K {tg l : Expr} {tl : TE} (h : X.K = K) (hl : PE X l tl) : PI X tg l (iU K tl) := h ▸ pi_U hl
theorem pg_tupK {es : List Expr} {k : Nat} {pos : Pos} {t : TGs} {n : Nat} (hK : X.K = K) (hc : X.calm = true) (h : PGs X es t)
    (hn : (assignEach es X.env).length = n := by rfl) (hst : (assignEach es X.env).findIdx? (·.1) = none := by rfl) : PG X (.Tuple es k pos) (gTup K n t) := hK ▸ pg_tup hc h hn hst
def rTupOf (K : PySem.W.Frag) : List V → Hp → VK → Prop := fun xs H Q => ∃ p ys, xs = [.ref p] ∧ ((SqL K H p ys ∧ ∀ l, H l = none → Q (.ref l) (upd H l (.tup ys))) ∨ (SqT K H p ys ∧ Q (.ref p) H))
theorem call_tupK (h : X.K = K) : CallR X (.type "tuple") (rTupOf K) := h ▸ call_tuple_of
def rLstOf (K : PySem.W.Frag) : List V → Hp → VK → Prop := fun xs H Q => ∃ p ys, xs = [.ref p] ∧ (SqL K H p ys ∨ SqT K H p ys) ∧ ∀ l, H l = none → Q (.ref l) (upd H l (.lst ys))
theorem call_lstK (h : X.K = K) : CallR X (.type "list") (rLstOf K) := h ▸ call_list_of
theorem pe_bmK {T : String} {name : Str} {id : String} {r : V → List V → Hp → VK → Prop} {o e : Expr} {es : List Expr} {to : TE} {t : TA} {apos cpos : Pos} (hK : X.K = K) (pa : PlainAttrs T) (slot : Slot T name id) (hty : typeOf (.builtin id) = pure (.type "method_descriptor")) (hm : MtR X id r) (ho : PE X o to) (ha : PA X (e :: es) t)
    (hbase : attributeBase o name X.env (eval o X.env) = eval o X.env := by rfl)
    (hfew : ((backTo cpos (starEach (e :: es) X.env)).all (fun x => !x.1) && (backToKw cpos (keywordEach [] X.env)).all (fun x => x.1.isSome)
      && decide ((e :: es).length + ([] : List Keyword).length + (if ([] : List Keyword).isEmpty then 0 else 1) < 30)) = true := by rfl)
    (hline : (apos.endLine == cpos.line) = true := by rfl) (he : starEach (e :: es) X.env = (false, eval e X.env) :: starEach es X.env := by rfl) (hpl : (backTo cpos (starEach es X.env)).any (·.1) = false := by rfl) :
    PE X (.Call (.Attribute o name apos) (e :: es) [] cpos) (tBM K T r to t) := hK ▸ pe_bm pa slot hty hm ho ha hbase hfew hline he hpl
def rJoin (K : PySem.W.Frag) : V → List V → Hp → VK → Prop := fun x xs H Q => ∃ a p, ∃ ys : List Str, x = .str a ∧ xs = [.ref p] ∧ (SqL K H p (ys.map V.str) ∨ SqT K H p (ys.map V.str)) ∧ (ys.map (·.length)).sum + ys.length * a.length ≤ 16777216 ∧ Q (.str (Txt.join a ys)) H
theorem mt_joinK (h : X.K = K) : MtR X "str.join" (rJoin K) := h ▸ mt_join
theorem pi_zipK {e e2 : Expr} {ta : TA} {p pos tpos : Pos} {elts : List Expr} {kk : Nat} (hK : X.K = K) (hg : Gl X "zip") (hm : X.mg "zip" = none) (ha : PA X [e, e2] ta)
    (hs : starEach [e, e2] X.env = (false, eval e X.env) :: starEach [e2] X.env := by rfl) (hpl : (backTo pos (starEach [e2] X.env)).any (·.1) = false := by rfl) :
    PI X (.Tuple elts kk tpos) (.Call (.Name "zip" p) [e, e2] [] pos) (RZ.iZipA K ta) := hK ▸ RZ.pi_zipA hg hm ha hs hpl
end
end LR

namespace LR
open PySem PySem.Spec PySem.W PySem.Calls PyProof.Rows L2
def top (i : Nat) : Stmt := PySem.Challenge.pw_leafroom_k01_keys_and_values.main.body.getD i (.Pass ⟨0, 0, 0, 0⟩)
abbrev s_is_key : Stmt := (top 5)
abbrev s_is_value : Stmt := (top 6)
abbrev s_law_pick : Stmt := (top 8)
abbrev s_law_odd : Stmt := (top 9)
abbrev s_law : Stmt := (top 10)
def d_is_key : He.DefD := ⟨("is_key", none), "is_key", "is_key", defArgs s_is_key, defBody s_is_key, defScope s_is_key, [], []⟩
def d_is_value : He.DefD := ⟨("is_value", none), "is_value", "is_value", defArgs s_is_value, defBody s_is_value, defScope s_is_value, [], []⟩
def d_law_pick : He.DefD := ⟨("_law_pick", none), "_law_pick", "_law_pick", defArgs s_law_pick, defBody s_law_pick, defScope s_law_pick, [], []⟩
def d_law_odd : He.DefD := ⟨("_law_odd", none), "_law_odd", "_law_odd", defArgs s_law_odd, defBody s_law_odd, defScope s_law_odd, [], []⟩
def d_law : He.DefD := ⟨("law", none), "law", "law", defArgs s_law, defBody s_law, defScope s_law, [], []⟩
def fn0 : List He.DefD := [d_is_key, d_is_value, d_law_pick, d_law_odd, d_law]
def fn : List He.DefD := fn0
def fa0 : List He.Fa := [.glo "is_key", .glo "is_value", .glo "_law_pick", .glo "_law_odd", .glo "law", .free "len", .free "isinstance", .free "str", .free "all", .free "max", .str "SMALL" "abcdefghijklmnopqrstuvwxyz", .str "FIGURES" "0123456789", .int "LONGEST_KEY" (10), .int "LONGEST_VALUE" (12)]
def fa : List He.Fa := fa0
def tf : List He.Defn := []
def ex (K : PySem.W.Frag) : Bool := true
def as0 : List Addr := [3, 19, 18, 24, 23, 31, 30, 38, 37, 45, 44]
def as : List Addr := as0
def nms0 : List PySem.Str := ["SMALL", "FIGURES", "LONGEST_KEY", "LONGEST_VALUE", "is_key", "is_value", "_law_pick", "_law_odd"]
def nms : List PySem.Str := nms0
abbrev R : PySem.W.OpenRow := PySem.W.OpenLaw.row PySem.Challenge.rw_leafroom_k01_keys_and_values
abbrev qv : Program := PySem.W.view R.prog [10]
abbrev hk : PySem.W.Hook := hookA as fa fn tf ex
def ob (s : PySem.W.SharedT) : ObA := obsA as fa fn tf ex (HandSHeadRun.getT s)
theorem ob_eq (s : PySem.W.SharedT) : ob s = hk.obs s.abs := obsA_eq (HandSHeadRun.getT_eq s)
theorem run_looksF (w : World) (os : OsState) : (HandSHeadRun.endF (HandSHeadRun.stepQ (HandSHeadRun.denQ HandSHeadRun.tabQ) R.prog (w.withFollow "special-get-raises" false)) 20000 R.prog (w.withFollow "special-get-raises" false) os).map (fun s => HandSHeadRun.looksF R.prog (boot_heap (w.withFollow "special-get-raises" false).params) s.abs) = some (true) := by
  kernel_rfl
theorem run_seenF (w : World) (os : OsState) : (HandSHeadRun.endF (HandSHeadRun.stepQ (HandSHeadRun.denQ HandSHeadRun.tabQ) R.prog (w.withFollow "special-get-raises" false)) 20000 R.prog (w.withFollow "special-get-raises" false) os).map (fun s => HandSHeadRun.seenQ qv nms (importedModules R.prog.main.body) (fun s => PySem.W.xlAt qv [] s && PySem.W.recOk R.toRowW.records s) s.abs) = some (PySem.W.openGood qv nms) := by
  kernel_rfl
theorem run_okAF (w : World) (os : OsState) : (HandSHeadRun.endF (HandSHeadRun.stepQ (HandSHeadRun.denQ HandSHeadRun.tabQ) R.prog (w.withFollow "special-get-raises" false)) 20000 R.prog (w.withFollow "special-get-raises" false) os).map (fun s => okA as fa (HandSHeadRun.getT s)) = some (true) := by
  kernel_rfl
theorem run_okDF (w : World) (os : OsState) : (HandSHeadRun.endF (HandSHeadRun.stepQ (HandSHeadRun.denQ HandSHeadRun.tabQ) R.prog (w.withFollow "special-get-raises" false)) 20000 R.prog (w.withFollow "special-get-raises" false) os).map (fun s => okD as fn (HandSHeadRun.getT s)) = some (true) := by
  kernel_rfl
theorem run_fnAF (w : World) (os : OsState) : (HandSHeadRun.endF (HandSHeadRun.stepQ (HandSHeadRun.denQ HandSHeadRun.tabQ) R.prog (w.withFollow "special-get-raises" false)) 20000 R.prog (w.withFollow "special-get-raises" false) os).map (fun s => fnA as fn (HandSHeadRun.getT s)) = some (fn.map He.DefD.val) := by
  kernel_rfl
theorem run_exF (w : World) (os : OsState) : (HandSHeadRun.endF (HandSHeadRun.stepQ (HandSHeadRun.denQ HandSHeadRun.tabQ) R.prog (w.withFollow "special-get-raises" false)) 20000 R.prog (w.withFollow "special-get-raises" false) os).map (fun s => ex (He.frG (HandSHeadRun.getT s) as) && tabA as tf (HandSHeadRun.getT s)) = some (true) := by
  kernel_rfl
theorem runF (w : World) : HandSHeadRun.RunEq R qv hk ob 20000 nms (w.withFollow "special-get-raises" false) := fun os => map_pair (run_looksF w os) (map_pair (run_seenF w os) (map_pair (run_okAF w os) (map_pair (run_okDF w os) (map_pair (run_fnAF w os) (run_exF w os)))))
theorem run_looksT (w : World) (os : OsState) : (HandSHeadRun.endF (HandSHeadRun.stepQ (HandSHeadRun.denQ HandSHeadRun.tabQ) R.prog (w.withFollow "special-get-raises" true)) 20000 R.prog (w.withFollow "special-get-raises" true) os).map (fun s => HandSHeadRun.looksF R.prog (boot_heap (w.withFollow "special-get-raises" true).params) s.abs) = some (true) := by
  kernel_rfl
theorem run_seenT (w : World) (os : OsState) : (HandSHeadRun.endF (HandSHeadRun.stepQ (HandSHeadRun.denQ HandSHeadRun.tabQ) R.prog (w.withFollow "special-get-raises" true)) 20000 R.prog (w.withFollow "special-get-raises" true) os).map (fun s => HandSHeadRun.seenQ qv nms (importedModules R.prog.main.body) (fun s => PySem.W.xlAt qv [] s && PySem.W.recOk R.toRowW.records s) s.abs) = some (PySem.W.openGood qv nms) := by
  kernel_rfl
theorem run_okAT (w : World) (os : OsState) : (HandSHeadRun.endF (HandSHeadRun.stepQ (HandSHeadRun.denQ HandSHeadRun.tabQ) R.prog (w.withFollow "special-get-raises" true)) 20000 R.prog (w.withFollow "special-get-raises" true) os).map (fun s => okA as fa (HandSHeadRun.getT s)) = some (true) := by
  kernel_rfl
theorem run_okDT (w : World) (os : OsState) : (HandSHeadRun.endF (HandSHeadRun.stepQ (HandSHeadRun.denQ HandSHeadRun.tabQ) R.prog (w.withFollow "special-get-raises" true)) 20000 R.prog (w.withFollow "special-get-raises" true) os).map (fun s => okD as fn (HandSHeadRun.getT s)) = some (true) := by
  kernel_rfl
theorem run_fnAT (w : World) (os : OsState) : (HandSHeadRun.endF (HandSHeadRun.stepQ (HandSHeadRun.denQ HandSHeadRun.tabQ) R.prog (w.withFollow "special-get-raises" true)) 20000 R.prog (w.withFollow "special-get-raises" true) os).map (fun s => fnA as fn (HandSHeadRun.getT s)) = some (fn.map He.DefD.val) := by
  kernel_rfl
theorem run_exT (w : World) (os : OsState) : (HandSHeadRun.endF (HandSHeadRun.stepQ (HandSHeadRun.denQ HandSHeadRun.tabQ) R.prog (w.withFollow "special-get-raises" true)) 20000 R.prog (w.withFollow "special-get-raises" true) os).map (fun s => ex (He.frG (HandSHeadRun.getT s) as) && tabA as tf (HandSHeadRun.getT s)) = some (true) := by
  kernel_rfl
theorem runT (w : World) : HandSHeadRun.RunEq R qv hk ob 20000 nms (w.withFollow "special-get-raises" true) := fun os => map_pair (run_looksT w os) (map_pair (run_seenT w os) (map_pair (run_okAT w os) (map_pair (run_okDT w os) (map_pair (run_fnAT w os) (run_exT w os)))))
theorem run (w : World) : HandSHeadRun.RunEq R qv hk ob 20000 nms w := PySem.W.byRow2 "special-get-raises" runF runT w
end LR
namespace LR
open PySem PySem.Spec PyProof.Rows L2 Evl
/-- what the walk asks of the module's names -/
structure Txt (mg : Str → Option Value) : Prop where
  m_len : mg "len" = none
  m_isinstance : mg "isinstance" = none
  m_str : mg "str" = none
  m_all : mg "all" = none
  m_max : mg "max" = none
  c_SMALL : ∃ u, mg "SMALL" = some u ∧ RelV (.str (Str.ofString "abcdefghijklmnopqrstuvwxyz")) u
  c_FIGURES : ∃ u, mg "FIGURES" = some u ∧ RelV (.str (Str.ofString "0123456789")) u
  c_LONGEST_KEY : ∃ u, mg "LONGEST_KEY" = some u ∧ RelV (.int 10) u
  c_LONGEST_VALUE : ∃ u, mg "LONGEST_VALUE" = some u ∧ RelV (.int 12) u
end LR
/-! ### signs: is_key, is_value -/
namespace LR
open PySem PySem.Spec PyProof.Rows L2 Evl
def strD : PyData → Bool
  | .str _ => true
  | _ => false
theorem kit_str (d : PyData) : kitB (tyD d) "str" = some (strD d) := by
  cases d with
  | none => exact (by decide +kernel : kitB "NoneType" "str" = some false)
  | bool _ => exact (by decide +kernel : kitB "bool" "str" = some false)
  | int _ => exact (by decide +kernel : kitB "int" "str" = some false)
  | str _ => exact (by decide +kernel : kitB "str" "str" = some true)
  | list _ => exact (by decide +kernel : kitB "list" "str" = some false)
  | tuple _ => exact (by decide +kernel : kitB "tuple" "str" = some false)
  | dict _ => exact (by decide +kernel : kitB "list" "str" = some false)
/-- the small letters, the figures -/
abbrev smallS : Str := "abcdefghijklmnopqrstuvwxyz"
abbrev figS : Str := "0123456789"
def isKeyS (z : Str) : Bool := decide (1 ≤ z.length) && decide (z.length ≤ 10) && z.cps.toList.all fun c => decide (c ∈ smallS.cps.toList)
def isValS (z : Str) : Bool := decide (z.length ≤ 12) && z.cps.toList.all fun c => decide (c ∈ (smallS ++ figS).cps.toList)
def isKeyD : PyData → Bool
  | .str z => isKeyS z
  | _ => false
def isValD : PyData → Bool
  | .str z => isValS z
  | _ => false
/-- texts are not without bound -/
def lenOk : PyData → Prop
  | .str z => z.length ≤ 50000
  | _ => True
def RisKey (ds : List PyData) (r : PyData) : Prop := ∃ d, ds = [d] ∧ lenOk d ∧ r = .bool (isKeyD d)
def RisVal (ds : List PyData) (r : PyData) : Prop := ∃ d, ds = [d] ∧ lenOk d ∧ r = .bool (isValD d)
theorem all_map_id (l : List Nat) (f : Nat → Bool) : (l.map f).all id = l.all f := by simp
theorem cps_get {z : Str} {i : Nat} {c : Nat} (h : z.cps[i]? = some c) : z.cps.toList[i]? = some c := by simpa using h
theorem small_len {z : Str} (h : z.length ≤ 50000) : z.length ≤ sizeLine := Nat.le_trans h (by decide)
section
variable {P : Program} {w : World} {K : PySem.W.Frag} {mg : Str → Option Value} {base : Heap} {f : Addr} {fd : FuncData}
/-- [c in .. for c in text] -/
theorem ed_signs {σ : L2.St} {H : Hp} {ti te : TE} {z : Str} {j : Nat} {ss : List SD} {vs : List Nat} (p : Nat → Bool) (hz : z.length ≤ 50000) (s : Sl K H σ ss) (hi : EvD K ti σ H (.str z)) (hv : vs = [j])
    (he : ∀ (σ2 : L2.St) (Hc : Hp) (c : Nat), Ex H Hc → Sl K Hc σ2 ((wipeS ss vs).set j (.dat (.str ⟨#[c]⟩))) → EvD K te σ2 Hc (.bool (p c))) :
    EvD K (tLc (iU K ti) (gName j) tYes te vs) σ H (.list ((z.cps.toList.map p).map .bool)) := by
  subst hv
  refine ed_lc (fun i => (z.cps.toList[i]?).bind fun c => some (.bool (p c))) (eiU_str hi) (fun i hi Hi Hb H2 x H3 e0 e1' e2 y => ?_) (by show z.cps.size ≤ 50000; exact hz) ?_
  · have e1 := e0.trans e1'
    obtain ⟨rfl, c, hc, rfl⟩ := y
    refine ⟨Hb, _, Ext.refl _ _, e2, Ex.refl _, eg_name, ?_, true, fun H1 _ Q q => q H1 (Ex.refl _), (fun h => nomatch h), fun _ => ⟨.bool (p c), ?_, ?_⟩⟩
    · show ((L2.wipe σ []).set j none |>.set j _).set j none = (L2.wipe σ []).set j none
      simp
    · rw [cps_get hc]
      rfl
    · exact he _ Hb c e1 (((s.ex e1).wipe [j]).set (s := .dat (.str ⟨#[c]⟩)) (o := some (.str ⟨#[c]⟩)) (.str _) j)
  · have e : z.cps.size = z.cps.toList.length := by simp
    rw [e, filterMap_range, List.map_map]
    clear e hi he hz
    induction z.cps.toList with
    | nil => rfl
    | cons c r ih => rw [List.filterMap_cons, List.map_cons, ← ih]; rfl
theorem sc_is_key : FnScope ["thing", "sign"] ["thing"] (defScope s_is_key) := ⟨rfl, rfl, rfl, by decide +kernel, rfl, by decide +kernel, by decide +kernel⟩
theorem fx_is_key (T : Txt mg) (F : FunD K "is_key" "is_key" (defArgs s_is_key) (defBody s_is_key) (defScope s_is_key) [] [] f fd) (hm : mg "is_key" = some (.ref f)) : Fx P w K mg base 1 "is_key" ["thing"] (spR K 1 RisKey) := by
  refine fx_pure F hm sc_is_key rfl (fun _ _ _ _ _ _ us hl => match us, hl with | [_], _ => rfl) fun cdv A outer s Hs E hr ds r hl hR => ?_
  refine ⟨_, (pss_one (ps_ret (pe_and (pe_callB (call_isK (K := K) rfl) (by rfl) T.m_isinstance (by decide +kernel) (pa_cons (pv 0) (pa_cons (pe_bltn (v := .ty "str") (by rfl) T.m_str (by decide +kernel) rfl) pa_nil))) (pe_and (pe_chain op_le op_le pe_int (pe_callB (call_lenK (K := K) rfl) (by rfl) T.m_len (by decide +kernel) (pa_cons (pv 0) pa_nil)) (C8.pe_gc (by rfl) T.c_LONGEST_KEY)) (pe_one (pe_callB (cr_allK (K := K) rfl rfl) (by rfl) T.m_all (by decide +kernel) (pa_cons (pe_lc (own := [("sign", 1)]) rfl sc_is_key.nd (pi_K (K := K) rfl (pv 0)) (blkOk_by (N := ["thing", "sign"]) (sc := defScope s_is_key) (by decide +kernel)) (fun _ _ _ _ _ => (pg_name (i := 1) sc_is_key.nd rfl (by first | exact Or.inl rfl | exact Or.inr rfl))) (fun _ _ _ _ _ => pts_nil) (fun _ _ _ _ _ => (pe_cmpR op_in_sign (pv 1) (C8.pe_gc (by rfl) T.c_SMALL) (by rfl)))) pa_nil))))))), ?_⟩
  obtain ⟨d, rfl, hd, rfl⟩ := hR
  intro σ H0 H10 Q n s q
  refine st_ret (d := .bool (isKeyD d)) n ?_ q
  refine ed_is (ed_and (b := isKeyD d) (ed_isi (ed_sl s rfl) (kit_str d)) fun h => ?_) ?_
  · cases d with
    | str z =>
      have hz : z.length ≤ 50000 := hd
      refine ed_is (ed_and (b := z.cps.toList.all fun c => decide (c ∈ smallS.cps.toList)) (ed_chain (a := decide ((1 : Int) ≤ z.length)) (b := decide ((z.length : Int) ≤ 10)) (ed_c (.int 1)) (ed_lenS (ed_sl s rfl) (small_len hz)) rd_IB (fun _ => ed_c (.int 10)) fun _ => rd_IB) fun _ => ?_) ?_
      · have z1 := ed_signs (K := K) (H := H0) (ti := tVar 0) (te := tOp rInS (tVar 1) (tC (.str smallS))) (vs := [1]) (fun c => decide (c ∈ smallS.cps.toList)) hz s (ed_sl s rfl) rfl (fun σ2 Hc c e1 s2 => ed_op (ed_sl s2 rfl) (ed_c (.str _)) rd_inS)
        refine ed_is (ed_all z1) ?_
        rw [all_map_id]
      · show PyData.bool _ = PyData.bool _
        unfold isKeyD isKeyS
        congr 1
        have e1 : decide ((1 : Int) ≤ (z.length : Int)) = decide (1 ≤ z.length) := decide_eq_decide.mpr (by omega)
        have e2 : decide ((z.length : Int) ≤ 10) = decide (z.length ≤ 10) := decide_eq_decide.mpr (by omega)
        rw [e1, e2]
    | _ => cases h
  · cases d with
    | str z => rfl
    | _ => rfl
theorem sc_is_value : FnScope ["thing", "sign"] ["thing"] (defScope s_is_value) := ⟨rfl, rfl, rfl, by decide +kernel, rfl, by decide +kernel, by decide +kernel⟩
theorem fx_is_value (T : Txt mg) (F : FunD K "is_value" "is_value" (defArgs s_is_value) (defBody s_is_value) (defScope s_is_value) [] [] f fd) (hm : mg "is_value" = some (.ref f)) : Fx P w K mg base 1 "is_value" ["thing"] (spR K 1 RisVal) := by
  refine fx_pure F hm sc_is_value rfl (fun _ _ _ _ _ _ us hl => match us, hl with | [_], _ => rfl) fun cdv A outer s Hs E hr ds r hl hR => ?_
  refine ⟨_, (pss_cons (ps_if (PW.pt (pw_or (pt_not (pt_val (pe_callB (call_isK (K := K) rfl) (by rfl) T.m_isinstance (by decide +kernel) (pa_cons (pv 0) (pa_cons (pe_bltn (v := .ty "str") (by rfl) T.m_str (by decide +kernel) rfl) pa_nil))))) (pw_or1 (pt_cmpR op_gt (pe_callB (call_lenK (K := K) rfl) (by rfl) T.m_len (by decide +kernel) (pa_cons (pv 0) pa_nil)) (C8.pe_gc (by rfl) T.c_LONGEST_VALUE) (nomark _))))) (pss_one (ps_ret pe_bl)) pss_nil) (pss_one (ps_ret (pe_callB (cr_allK (K := K) rfl rfl) (by rfl) T.m_all (by decide +kernel) (pa_cons (pe_lc (own := [("sign", 1)]) rfl sc_is_value.nd (pi_K (K := K) rfl (pv 0)) (blkOk_by (N := ["thing", "sign"]) (sc := defScope s_is_value) (by decide +kernel)) (fun _ _ _ _ _ => (pg_name (i := 1) sc_is_value.nd rfl (by first | exact Or.inl rfl | exact Or.inr rfl))) (fun _ _ _ _ _ => pts_nil) (fun _ _ _ _ _ => (pe_cmpR op_in_sign (pv 1) (pe_op (op_addK (K := K) rfl) (C8.pe_gc (by rfl) T.c_SMALL) (C8.pe_gc (by rfl) T.c_FIGURES)) (by rfl)))) pa_nil))))), ?_⟩
  obtain ⟨d, rfl, hd, rfl⟩ := hR
  intro σ H0 H10 Q n s q
  have key : ∀ z, d = .str z → EvD K (tCB (lenR K) (tCons (tVar 0) tNil)) σ H0 (.int z.length) := fun z e => by
    subst e
    exact ed_lenS (ed_sl s rfl) (small_len hd)
  cases d with
  | str z =>
    have hz : z.length ≤ 50000 := hd
    refine st_if n (eb_or (b := decide (12 < z.length)) (eb_not (eb_B (ed_isi (ed_sl s rfl) (kit_str _)))) fun _ => ?_) (fun h H2 n2 => ?_) (fun h H2 n2 => ?_)
    · refine eb_is (eb_test (ed_op (key z rfl) (ed_c (.int 12)) rd_IB)) ?_
      exact decide_eq_decide.mpr (by omega)
    · refine st_ret (K := K) (d := .bool false) n2 (ed_c (.bl false)) ?_
      have e : isValD (.str z) = false := by
        have h2 : 12 < z.length := by simpa [strD] using h
        show isValS z = false
        unfold isValS
        rw [decide_eq_false (show ¬ z.length ≤ 12 by omega)]
        rfl
      rw [e] at q
      exact q
    · have h2 : ¬ 12 < z.length := by simpa [strD] using h
      have z1 := ed_signs (K := K) (H := H0) (ti := tVar 0) (te := tOp rInS (tVar 1) (tOp (rAddU K) (tC (.str smallS)) (tC (.str figS)))) (vs := [1]) (fun c => decide (c ∈ (smallS ++ figS).cps.toList)) hz s (ed_sl s rfl) rfl (fun σ2 Hc c e1 s2 => ed_op (ed_sl s2 rfl) (ed_op (ed_c (.str _)) (ed_c (.str _)) (rd_addS (by decide))) rd_inS)
      refine st_ret n2 (ed_is (ed_all z1) ?_) q
      rw [all_map_id]
      show _ = PyData.bool (isValS z)
      unfold isValS
      rw [decide_eq_true (show z.length ≤ 12 by omega), Bool.true_and]
  | _ =>
    refine st_if n (eb_or (b := false) (eb_not (eb_B (ed_isi (ed_sl s rfl) (kit_str _)))) fun h => nomatch h) (fun h H2 n2 => ?_) (fun h H2 n2 => nomatch h)
    exact st_ret n2 (ed_c (.bl false)) q
end
end LR

/-! ### the law's draws -/
namespace LR
open PySem PySem.Spec PyProof.Rows L2 Evl
/-- the while of _law_pick -/
def pickLoop : Nat → Int → Int × Int
  | 0, r => (r, 0)
  | t + 1, r => if 0 < r then pickLoop t (r / 840) else (r, (t : Int) + 1)
def pickCell (ns : List Int) (k : Int) : Int := if ns.isEmpty then 0 else ns.getD (k % ns.length).toNat 0
def pickRest (ns : List Int) (k : Int) : Int := (pickLoop (k / (if 1 > (ns.length : Int) then 1 else (ns.length : Int))).toNat (pickCell ns k / 10 ^ 18)).1
def pickDrawn (ns : List Int) (k : Int) : Int := (pickCell ns k * 31 + 6151 * (k + 1)) * 40692 % 2147483399
/-- what _law_pick draws -/
def pick (ns : List Int) (k many : Int) : Int := if 0 < pickRest ns k then pickRest ns k % 840 % many else (pickDrawn ns k * pickDrawn ns k + pickDrawn ns k / 31) % 2147483629 % many
theorem pick_lo (ns : List Int) (k : Int) {many : Int} (h : 0 < many) : 0 ≤ pick ns k many := by
  unfold pick
  split
  · exact Int.emod_nonneg _ (by omega)
  · exact Int.emod_nonneg _ (by omega)
theorem pick_hi (ns : List Int) (k : Int) {many : Int} (h : 0 < many) : pick ns k many < many := by
  unfold pick
  split
  · exact Int.emod_lt_of_pos _ h
  · exact Int.emod_lt_of_pos _ h
theorem pickLoop_snd : ∀ (t : Nat) (r : Int), 0 ≤ (pickLoop t r).2 ∧ (0 < (pickLoop t r).1 → (pickLoop t r).2 = 0)
  | 0, r => ⟨Int.le_refl _, fun _ => rfl⟩
  | t + 1, r => by
    unfold pickLoop
    split
    · exact pickLoop_snd t _
    · exact ⟨by show (0 : Int) ≤ (t : Int) + 1; omega, fun h => absurd h (by assumption)⟩
def Rpick (ds : List PyData) (r : PyData) : Prop := ∃ (ns : List Int) (k many : Int), ds = [scrD ns, .int k, .int many] ∧ ns.length ≤ 63 ∧ 0 ≤ k ∧ k ≤ 1000000 ∧ 0 < many ∧ r = .int (pick ns k many)
theorem max2 (a b : Int) : (if b > a then b else a) = if b > a then b else a := rfl
theorem CMul_r {i j : Int} (h1 : -(2 ^ 64) < j) (h2 : j < 2 ^ 64) : CMul i j := .inr ⟨h1, h2⟩
theorem CMul_l {i j : Int} (h1 : -(2 ^ 64) < i) (h2 : i < 2 ^ 64) : CMul i j := .inl ⟨h1, h2⟩
section
variable {K : PySem.W.Frag} {σ : L2.St} {H H0 H10 H1 : Hp} {ta tb : TE} {ss : List SD} {D : Ends}
/-- a, b = x, y -/
theorem st_par {i j : Nat} {d e : PyData} {tA : TA} (n : Now H0 H10 H H1) (s : Sl K H σ ss) (h : EvDs K tA σ H [d, e]) (k : ∀ σ' H' H2, Ex H H' → Now H0 H10 H' H2 → Sl K H' σ' ((ss.set i (.dat d)).set j (.dat e)) → D.nx σ' H2) : tPar i j tA D σ H1 :=
  h H1 n.ex _ fun vs H2 H' e2 ex x dv => by
    cases dv with
    | cons a b =>
      cases b with
      | cons b c =>
        cases c
        exact ⟨_, _, rfl, k _ H' H2 x.ex (n.on e2 ex x) (((s.ex x.ex).set (s := .dat d) (o := some _) a i).set (s := .dat e) (o := some _) b j)⟩
theorem ed_max2 {a b : Int} {tA : TA} (h : EvDs K tA σ H [.int a, .int b]) : EvD K (tCB (fun xs H Q => ∃ i j, xs = [.int i, .int j] ∧ Q (.int (if j > i then j else i)) H) tA) σ H (.int (if b > a then b else a)) :=
  ed_cb h fun H' vs e dv H1 e1 Q q => by
    cases dv with
    | cons x y =>
      cases y with
      | cons y z =>
        cases z
        rw [x.int_eq, y.int_eq]
        exact ⟨a, b, rfl, q.val e1 fun _ => .int _⟩
end
section
variable {P : Program} {w : World} {K : PySem.W.Frag} {mg : Str → Option Value} {base : Heap} {f : Addr} {fd : FuncData}
theorem sc_law_pick : FnScope ["script", "k", "many", "cell", "drawn", "rest", "turn"] ["script", "k", "many"] (defScope s_law_pick) := ⟨rfl, rfl, rfl, by decide +kernel, rfl, by decide +kernel, by decide +kernel⟩
theorem fx_law_pick (T : Txt mg) (F : FunD K "_law_pick" "_law_pick" (defArgs s_law_pick) (defBody s_law_pick) (defScope s_law_pick) [] [] f fd) (hm : mg "_law_pick" = some (.ref f)) : Fx P w K mg base 1 "_law_pick" ["script", "k", "many"] (spR K 3 Rpick) := by
  refine fx_pure F hm sc_law_pick rfl (fun _ _ _ _ _ _ us hl => match us, hl with | [_, _, _], _ => rfl) fun cdv A outer s Hs E hr ds r hl hR => ?_
  refine ⟨_, (pss_cons (ps_set (i := 3) sc_law_pick.nd rfl (by first | exact Or.inl rfl | exact Or.inr rfl) (pe_ifExp (pt_cmpR (op_neK (K := K) rfl hr.units) (pv 0) (pe_lst pa_nil) (nomark _)) (pe_ix (ix_K (K := K) rfl) (pv 0) (pe_op op_mod (pv 1) (pe_callB (call_lenK (K := K) rfl) (by rfl) T.m_len (by decide +kernel) (pa_cons (pv 0) pa_nil))) (fun _ _ => rfl)) pe_int)) (pss_cons (ps_par (by rfl) sc_law_pick.nd (i := 5) (j := 6) rfl rfl (by decide) rfl rfl (pa_cons (pe_op op_fdivW (pv 3) (pe_op op_pow pe_int pe_int)) (pa_cons (pe_op op_fdivW (pv 1) (pe_callB (call_max2 rfl) (by rfl) T.m_max (by decide +kernel) (pa_cons (pe_callB (call_lenK (K := K) rfl) (by rfl) T.m_len (by decide +kernel) (pa_cons (pv 0) pa_nil)) (pa_cons pe_int pa_nil)))) pa_nil)) (by rfl)) (pss_cons (ps_while PassesOwn.never (PW.pt (pw_and (pt_cmpR op_gt (pv 5) pe_int (nomark _)) (pw_and1 (pt_cmpR op_gt (pv 6) pe_int (nomark _))))) (pss_one (ps_par (by rfl) sc_law_pick.nd (i := 5) (j := 6) rfl rfl (by decide) rfl rfl (pa_cons (pe_op op_fdivW (pv 5) pe_int) (pa_cons (pe_op op_sub (pv 6) pe_int) pa_nil)) (by rfl)))) (pss_cons (ps_if (pt_cmpR op_gt (pv 5) pe_int (nomark _)) (pss_one (ps_ret (pe_op op_mod (pe_op op_mod (pv 5) pe_int) (pv 2)))) pss_nil) (pss_cons (ps_set (i := 4) sc_law_pick.nd rfl (by first | exact Or.inl rfl | exact Or.inr rfl) (pe_op op_mod (pe_op (op_mulK (K := K) rfl) (pe_op (op_addK (K := K) rfl) (pe_op (op_mulK (K := K) rfl) (pv 3) pe_int) (pe_op (op_mulK (K := K) rfl) pe_int (pe_op (op_addK (K := K) rfl) (pv 1) pe_int))) pe_int) pe_int)) (pss_one (ps_ret (pe_op op_mod (pe_op op_mod (pe_op (op_addK (K := K) rfl) (pe_op (op_mulK (K := K) rfl) (pv 4) (pv 4)) (pe_op op_fdivW (pv 4) pe_int)) pe_int) (pv 2))))))))), ?_⟩
  obtain ⟨ns, k, many, rfl, hns, hk0, hk1, hmany, rfl⟩ := hR
  intro σ H0 H10 Q n s q
  have eLen : ∀ {σ' : L2.St} {H' : Hp} {ss : List SD}, Sl K H' σ' ss → ss[0]? = some (.dat (scrD ns)) → EvD K (tCB (lenR K) (tCons (tVar 0) tNil)) σ' H' (.int ns.length) := fun s h => ed_lenScr (ed_sl s h)
  -- cell = ..
  refine st_asg n s (d := .int (pickCell ns k)) (ed_if (eb_test (ed_op (ed_sl s rfl) (ed_lst eds_nil (by decide)) rd_neScr)) (fun h => ?_) (fun h => ?_)) ?_
  · have he : ns.isEmpty = false := by simpa using h
    have hpos : 0 < ns.length := by
      cases ns with
      | nil => cases he
      | cons _ _ => exact Nat.succ_pos _
    refine ed_op (ed_sl s rfl) (ed_op (ed_sl s rfl) (eLen s rfl) (rd_I (C := fun _ j => 0 < j) (g := fun i j => i % j) (by omega))) (rd_ixScr ?_)
    have h1 : 0 ≤ k % (ns.length : Int) := Int.emod_nonneg _ (by omega)
    have h2 : k % (ns.length : Int) < ns.length := Int.emod_lt_of_pos _ (by omega)
    obtain ⟨m, hm⟩ : ∃ m : Nat, k % (ns.length : Int) = m := ⟨(k % (ns.length : Int)).toNat, by omega⟩
    unfold atI pickCell
    rw [if_neg (by rw [he]; decide), hm, ixN_nat (by omega)]
    show ns[m]? = some (ns.getD (m : Int).toNat 0)
    rw [List.getD_eq_getElem?_getD, Int.toNat_natCast, List.getElem?_eq_getElem (by omega)]
    rfl
  · have he : ns.isEmpty = true := by simpa using h
    unfold pickCell
    rw [if_pos he]
    exact ed_c (.int 0)
  · intro σ1 H1 H11 ex1 n1 s1
    -- rest, turn = ..
    refine st_par n1 s1 (eds_cons (d := .int (pickCell ns k / 10 ^ 18)) (ed_op (ed_sl s1 rfl) (ed_op (ed_c (.int 10)) (ed_c (.int 18)) (rd_I (C := CPow) (g := fun i j => i ^ j.toNat) ⟨by decide, by decide, by decide⟩)) (rd_I (C := CDivW) (g := fun i j => i / j) ⟨by decide, by decide +kernel⟩))
      (eds_cons (d := .int (k / (if 1 > (ns.length : Int) then 1 else (ns.length : Int)))) (ed_op (ed_sl s1 rfl) (ed_max2 (eds_cons (eLen s1 rfl) (eds_cons (ed_c (.int 1)) eds_nil))) (rd_I (C := CDivW) (g := fun i j => i / j) ?_)) eds_nil)) ?_
    · have h1 : (0 : Int) < (if 1 > (ns.length : Int) then 1 else (ns.length : Int)) := by split <;> omega
      have h2 : (if 1 > (ns.length : Int) then 1 else (ns.length : Int)) ≤ 63 := by split <;> omega
      exact wide_div (b := 6) h1 (by omega) (by decide) (by decide)
    · intro σ2 H2 H21 ex2 n2 s2
      -- while
      refine st_while (fun m σ' Hr => ∃ (H' : Hp) (rest : Int) (t : Nat), t = m ∧ Now H0 H10 H' Hr ∧ (pickLoop t rest).1 = pickRest ns k ∧ t ≤ 1000000 ∧ Sl K H' σ' [.dat (scrD ns), .dat (.int k), .dat (.int many), .dat (.int (pickCell ns k)), .unk, .dat (.int rest), .dat (.int t)]) (k / (if 1 > (ns.length : Int) then 1 else (ns.length : Int))).toNat ?_ ?_
      · have h0 : 0 ≤ k / (if 1 > (ns.length : Int) then 1 else (ns.length : Int)) := Int.ediv_nonneg hk0 (by split <;> omega)
        have h1 : k / (if 1 > (ns.length : Int) then 1 else (ns.length : Int)) ≤ k := Int.ediv_le_self _ hk0
        refine ⟨H2, pickCell ns k / 10 ^ 18, _, rfl, n2, rfl, by omega, ?_⟩
        rw [Int.toNat_of_nonneg h0]
        exact s2
      · rintro m σ3 Hr ⟨H3, rest, t, rfl, n3, hp, ht, s3⟩
        refine ⟨H3, decide (0 < rest) && decide ((0 : Int) < t), n3.ex, eb_and (eb_test (ed_op (ed_sl s3 rfl) (ed_c (.int 0)) rd_IB)) (fun _ => eb_test (ed_op (ed_sl s3 rfl) (ed_c (.int 0)) rd_IB)), fun hb H4 e4 => ?_, fun hb H4 e4 => ?_⟩
        · simp only [Bool.and_eq_true, decide_eq_true_eq] at hb
          obtain ⟨t', rfl⟩ : ∃ t', t = t' + 1 := ⟨t - 1, by omega⟩
          have n4 : Now H0 H10 H3 H4 := ⟨n3.ex.trans e4, n3.ext, n3.grow.trans e4⟩
          refine st_par n4 s3 (eds_cons (d := .int (rest / 840)) (ed_op (ed_sl s3 rfl) (ed_c (.int 840)) (rd_I (C := CDivW) (g := fun i j => i / j) ⟨by decide, by decide +kernel⟩)) (eds_cons (d := .int (t' : Int)) (ed_is (ed_op (ed_sl s3 rfl) (ed_c (.int 1)) (rd_I0 (g := fun i j => i - j))) (by congr 1; omega)) eds_nil)) ?_
          intro σ5 H5 H51 ex5 n5 s5
          refine ⟨t', Nat.lt_succ_self _, H5, rest / 840, t', rfl, n5, ?_, by omega, s5⟩
          rw [← hp]
          show _ = (if 0 < rest then pickLoop t' (rest / 840) else (rest, (t' : Int) + 1)).1
          rw [if_pos hb.1]
        · have n4 : Now H0 H10 H3 H4 := ⟨n3.ex.trans e4, n3.ext, n3.grow.trans e4⟩
          have hrest : rest = pickRest ns k := by
            rw [← hp]
            cases t with
            | zero => rfl
            | succ t' =>
              have : ¬ 0 < rest := by
                intro h
                have h2 : ((0 : Int) < ((t' + 1 : Nat) : Int)) := by omega
                rw [decide_eq_true h, decide_eq_true h2] at hb
                cases hb
              show rest = (if 0 < rest then pickLoop t' (rest / 840) else (rest, (t' : Int) + 1)).1
              rw [if_neg this]
          subst hrest
          -- if rest > 0
          refine st_if n4 (eb_test (ed_op (ed_sl s3 rfl) (ed_c (.int 0)) rd_IB)) (fun h H5 n5 => ?_) (fun h H5 n5 => ?_)
          · have h0 : 0 < pickRest ns k := by simpa using h
            refine st_ret (K := K) n5 (ed_op (ed_op (ed_sl s3 rfl) (ed_c (.int 840)) (rd_I (C := fun _ j => 0 < j) (g := fun i j => i % j) (by decide))) (ed_sl s3 rfl) (rd_I (C := fun _ j => 0 < j) (g := fun i j => i % j) hmany)) ?_
            unfold pick at q
            rw [if_pos h0] at q
            exact q
          · have h0 : ¬ 0 < pickRest ns k := by simpa using h
            refine st_asg n5 s3 (d := .int (pickDrawn ns k)) (ed_op (ed_op (ed_op (ed_op (ed_sl s3 rfl) (ed_c (.int 31)) (rd_mulI (CMul_r (by decide) (by decide)))) (ed_op (ed_c (.int 6151)) (ed_op (ed_sl s3 rfl) (ed_c (.int 1)) rd_addI) (rd_mulI (CMul_l (by decide) (by decide)))) rd_addI) (ed_c (.int 40692)) (rd_mulI (CMul_r (by decide) (by decide)))) (ed_c (.int 2147483399)) (rd_I (C := fun _ j => 0 < j) (g := fun i j => i % j) (by decide))) ?_
            intro σ6 H6 H61 ex6 n6 s6
            have d0 : 0 ≤ pickDrawn ns k := Int.emod_nonneg _ (by decide)
            have d1 : pickDrawn ns k < 2147483399 := Int.emod_lt_of_pos _ (by decide)
            refine st_ret (K := K) n6 (ed_op (ed_op (ed_op (ed_op (ed_sl s6 rfl) (ed_sl s6 rfl) (rd_mulI (CMul_r (by omega) (by omega)))) (ed_op (ed_sl s6 rfl) (ed_c (.int 31)) (rd_I (C := CDivW) (g := fun i j => i / j) ⟨by decide, by decide +kernel⟩)) rd_addI) (ed_c (.int 2147483629)) (rd_I (C := fun _ j => 0 < j) (g := fun i j => i % j) (by decide))) (ed_sl s6 rfl) (rd_I (C := fun _ j => 0 < j) (g := fun i j => i % j) hmany)) ?_
            unfold pick at q
            rw [if_neg h0] at q
            exact q
end
end LR

/-! ### things that are none -/
namespace LR
open PySem PySem.Spec PyProof.Rows L2 Evl
def oddL (ns : List Int) (k : Int) : List PyData := [.none, .bool true, .str "A", .str "a-", .list [.int 1], .tuple [.int 1], .int (-1 - pick ns k 9), .str "abcdefghijklm", .list [.list [.str "a"]], .int (10 ^ 9)]
def Rodd (ds : List PyData) (r : PyData) : Prop := ∃ (ns : List Int) (k : Int), ds = [scrD ns, .int k] ∧ ns.length ≤ 63 ∧ 0 ≤ k ∧ k ≤ 1000000 ∧ r = .list (oddL ns k)
theorem rdu_neg {K : PySem.W.Frag} {H : Hp} {i : Int} : RDU K (rU fun i => .int (-i)) (.int i) H (.int (-i)) := fun H' x _ dx H1 e1 Q q => ⟨i, dx.int_eq, q.val e1 fun _ => .int _⟩
section
variable {P : Program} {w : World} {K : PySem.W.Frag} {mg : Str → Option Value} {base : Heap} {f : Addr} {fd : FuncData}
theorem sc_law_odd : FnScope ["script", "at"] ["script", "at"] (defScope s_law_odd) := ⟨rfl, rfl, rfl, by decide +kernel, rfl, by decide +kernel, by decide +kernel⟩
theorem fx_law_odd (T : Txt mg) (F : FunD K "_law_odd" "_law_odd" (defArgs s_law_odd) (defBody s_law_odd) (defScope s_law_odd) [] [] f fd) (hm : mg "_law_odd" = some (.ref f)) (g_law_pick : Fx P w K mg base 1 "_law_pick" ["script", "k", "many"] (spR K 3 Rpick)) : Fx P w K mg base 2 "_law_odd" ["script", "at"] (spR K 2 Rodd) := by
  refine fx_pure F hm sc_law_odd rfl (fun _ _ _ _ _ _ us hl => match us, hl with | [_, _], _ => rfl) fun cdv A outer s Hs E hr ds r hl hR => ?_
  refine ⟨_, (pss_one (ps_ret (pe_lst (pa_cons pe_non (pa_cons pe_bl (pa_cons pe_str (pa_cons pe_str (pa_cons (pe_lst (pa_cons pe_int pa_nil)) (pa_cons (pe_tup (pa_cons pe_int pa_nil)) (pa_cons (pe_op op_sub (pe_un un_neg pe_int) (pe_fx g_law_pick hr (by decide) (by rfl) passN (pa_cons (pv 0) (pa_cons (pv 1) (pa_cons pe_int pa_nil))))) (pa_cons pe_str (pa_cons (pe_lst (pa_cons (pe_lst (pa_cons pe_str pa_nil)) pa_nil)) (pa_cons (pe_op op_pow pe_int pe_int) pa_nil))))))))))))), ?_⟩
  obtain ⟨ns, k, rfl, hns, hk0, hk1, rfl⟩ := hR
  intro σ H0 H10 Q n s q
  refine st_ret (K := K) n (ed_lst ?_ (by show 10 ≤ 100000; decide)) q
  refine eds_cons (ed_c .non) (eds_cons (ed_c (.bl true)) (eds_cons (ed_c (.str _)) (eds_cons (ed_c (.str _)) (eds_cons (ed_lst (eds_cons (ed_c (.int 1)) eds_nil) (by decide)) (eds_cons (ed_tup (eds_cons (ed_c (.int 1)) eds_nil) (by decide))
    (eds_cons (ed_op (ed_un (ed_c (.int 1)) rdu_neg) (ed_call (eds_cons (ed_sl s rfl) (eds_cons (ed_sl s rfl) (eds_cons (ed_c (.int 9)) eds_nil))) ⟨ns, k, 9, rfl, hns, hk0, hk1, by decide, rfl⟩) (rd_I0 (g := fun i j => i - j)))
    (eds_cons (ed_c (.str _)) (eds_cons (ed_lst (eds_cons (ed_lst (eds_cons (ed_c (.str _)) eds_nil) (by decide)) eds_nil) (by decide))
    (eds_cons (ed_op (ed_c (.int 10)) (ed_c (.int 9)) (rd_I (C := CPow) (g := fun i j => i ^ j.toNat) ⟨by decide, by decide, by decide⟩)) eds_nil)))))))))
end
end LR

/-! ### the law k01 -/
namespace LR
open PySem PySem.Spec PyProof.Rows L2 Evl
def Rlaw (ds : List PyData) (r : PyData) : Prop := ∃ ns : List Int, ds = [scrD ns] ∧ ns.length ≤ 63 ∧ r = .bool true
def tx (m : Int) : Str := cutS "abcdefghijkl" none (some m)
theorem ten {m : Int} (h1 : 1 ≤ m) (h2 : m ≤ 10) : m = 1 ∨ m = 2 ∨ m = 3 ∨ m = 4 ∨ m = 5 ∨ m = 6 ∨ m = 7 ∨ m = 8 ∨ m = 9 ∨ m = 10 := by omega
def factsK1 (m : Int) : Bool := isKeyS (tx m) && !isKeyS (cutS (tx m) none (some (-1)) ++ "Z") && isValS (tx m ++ "09") && !isKeyS (tx m ++ "9") && decide ((tx m).length ≤ 10) && decide ((cutS (tx m) none (some (-1))).length ≤ 10) && (Str.ofString "A0 -_").cps.toList.all fun c => !isKeyS (cutS (tx m) none (some (-1)) ++ ⟨#[c]⟩)
theorem factsK1_ok {m : Int} (h1 : 1 ≤ m) (h2 : m ≤ 10) : factsK1 m = true := by
  rcases ten h1 h2 with h | h | h | h | h | h | h | h | h | h <;> (subst h; decide +kernel)
theorem odd_none (ns : List Int) (k : Int) : ∀ d ∈ oddL ns k, lenOk d ∧ isKeyD d = false ∧ isValD d = false := by
  intro d hd
  unfold oddL at hd
  simp only [List.mem_cons, List.not_mem_nil, or_false] at hd
  rcases hd with h | h | h | h | h | h | h | h | h | h <;> subst h <;> exact ⟨by first | trivial | (show Str.length _ ≤ 50000; decide +kernel), by first | rfl | (show isKeyS _ = false; decide +kernel), by first | rfl | (show isValS _ = false; decide +kernel)⟩
section
variable {P : Program} {w : World} {K : PySem.W.Frag} {mg : Str → Option Value} {base : Heap} {f : Addr} {fd : FuncData}
theorem callKey {σ : L2.St} {H : Hp} {te : TE} {d : PyData} {E : XK} (h : EvD K te σ H d) (hl : lenOk d) : EvD K (tCall (spR K 1 RisKey) [] E (tCons te tNil)) σ H (.bool (isKeyD d)) := ed_call (eds_cons h eds_nil) ⟨d, rfl, hl, rfl⟩
theorem callVal {σ : L2.St} {H : Hp} {te : TE} {d : PyData} {E : XK} (h : EvD K te σ H d) (hl : lenOk d) : EvD K (tCall (spR K 1 RisVal) [] E (tCons te tNil)) σ H (.bool (isValD d)) := ed_call (eds_cons h eds_nil) ⟨d, rfl, hl, rfl⟩
theorem sc_law : FnScope ["script", "many", "text", "thing", "sign"] ["script"] (defScope s_law) := ⟨rfl, rfl, rfl, by decide +kernel, rfl, by decide +kernel, by decide +kernel⟩
theorem ok_law (T : Txt mg) (F : FunD K "law" "law" (defArgs s_law) (defBody s_law) (defScope s_law) [] [] f fd) (g_law_pick : Fx P w K mg base 1 "_law_pick" ["script", "k", "many"] (spR K 3 Rpick)) (g_law_odd : Fx P w K mg base 2 "_law_odd" ["script", "at"] (spR K 2 Rodd))
    (g_is_key : Fx P w K mg base 1 "is_key" ["thing"] (spR K 1 RisKey)) (g_is_value : Fx P w K mg base 1 "is_value" ["thing"] (spR K 1 RisVal)) : FnOk P w K mg base (CXL P w) 3 f fd ["script"] (spR K 1 Rlaw) := by
  refine fn_pure F sc_law rfl fun cdv A outer s Hs E hr ds r hl hR => ?_
  refine ⟨_, (pss_cons (ps_set (i := 1) sc_law.nd rfl (by first | exact Or.inl rfl | exact Or.inr rfl) (pe_op (op_addK (K := K) rfl) pe_int (pe_fx g_law_pick hr (by decide) (by rfl) passN (pa_cons (pv 0) (pa_cons pe_int (pa_cons pe_int pa_nil)))))) (pss_cons (ps_set (i := 2) sc_law.nd rfl (by first | exact Or.inl rfl | exact Or.inr rfl) (pe_slice (sl_K (K := K) rfl) pe_str po_none (po_some (pv 1)))) (pss_cons (ps_if (pt_cmpR (op_neK (K := K) rfl hr.units) (pe_lst (pa_cons (pe_fx g_is_key hr (by decide) (by rfl) passN (pa_cons (pv 2) pa_nil)) (pa_cons (pe_fx g_is_key hr (by decide) (by rfl) passN (pa_cons (pe_op (op_mulK (K := K) rfl) pe_str pe_int) pa_nil)) (pa_cons (pe_fx g_is_key hr (by decide) (by rfl) passN (pa_cons (pe_op (op_addK (K := K) rfl) (pe_slice (sl_K (K := K) rfl) (pv 2) po_none (po_some (pe_un un_neg pe_int))) pe_str) pa_nil)) (pa_cons (pe_fx g_is_key hr (by decide) (by rfl) passN (pa_cons pe_str pa_nil)) pa_nil))))) (pe_lst (pa_cons pe_bl (pa_cons pe_bl (pa_cons pe_bl (pa_cons pe_bl pa_nil))))) (nomark _)) (pss_one (ps_ret pe_bl)) pss_nil) (pss_cons (ps_if (pt_cmpR (op_neK (K := K) rfl hr.units) (pe_lst (pa_cons (pe_fx g_is_value hr (by decide) (by rfl) passN (pa_cons (pe_op (op_addK (K := K) rfl) (pv 2) pe_str) pa_nil)) (pa_cons (pe_fx g_is_value hr (by decide) (by rfl) passN (pa_cons pe_str pa_nil)) (pa_cons (pe_fx g_is_value hr (by decide) (by rfl) passN (pa_cons (pe_op (op_mulK (K := K) rfl) pe_str pe_int) pa_nil)) (pa_cons (pe_fx g_is_value hr (by decide) (by rfl) passN (pa_cons pe_str pa_nil)) pa_nil))))) (pe_lst (pa_cons pe_bl (pa_cons pe_bl (pa_cons pe_bl (pa_cons pe_bl pa_nil))))) (nomark _)) (pss_one (ps_ret pe_bl)) pss_nil) (pss_cons (ps_for PassesOwn.never rfl (pi_K (K := K) rfl (pe_fx g_law_odd hr (by decide) (by rfl) passN (pa_cons (pv 0) (pa_cons pe_int pa_nil)))) (pg_name (i := 3) sc_law.nd rfl (by first | exact Or.inl rfl | exact Or.inr rfl)) (pss_one (ps_if (PW.pt (pw_or (pt_cmpR op_isnot_bl (pe_fx g_is_key hr (by decide) (by rfl) passN (pa_cons (pv 3) pa_nil)) pe_bl (nomark _)) (pw_or1 (pt_cmpR op_isnot_bl (pe_fx g_is_value hr (by decide) (by rfl) passN (pa_cons (pv 3) pa_nil)) pe_bl (nomark _))))) (pss_one (ps_ret pe_bl)) pss_nil))) (pss_cons (ps_for PassesOwn.never rfl (pi_K (K := K) rfl pe_str) (pg_name (i := 4) sc_law.nd rfl (by first | exact Or.inl rfl | exact Or.inr rfl)) (pss_one (ps_if (PW.pt (pw_or (pt_cmpR op_isnot_bl (pe_fx g_is_key hr (by decide) (by rfl) passN (pa_cons (pe_op (op_addK (K := K) rfl) (pe_slice (sl_K (K := K) rfl) (pv 2) po_none (po_some (pe_un un_neg pe_int))) (pv 4)) pa_nil)) pe_bl (nomark _)) (pw_or1 (pt_cmpR (op_neK (K := K) rfl hr.units) (pe_fx g_is_value hr (by decide) (by rfl) passN (pa_cons (pe_op (op_addK (K := K) rfl) pe_str (pv 4)) pa_nil)) (pe_cmpR (op_eqK (K := K) rfl hr.units) (pv 4) pe_str (nomark _)) (nomark _))))) (pss_one (ps_ret pe_bl)) pss_nil))) (pss_one (ps_ret (pe_and (pe_cmpR op_is_bl (pe_fx g_is_key hr (by decide) (by rfl) passN (pa_cons (pe_op (op_addK (K := K) rfl) (pv 2) pe_str) pa_nil)) pe_bl (nomark _)) (pe_one (pe_cmpR op_is_bl (pe_fx g_is_value hr (by decide) (by rfl) passN (pa_cons (pe_op (op_mulK (K := K) rfl) pe_str pe_int) pa_nil)) pe_bl (nomark _)))))))))))), ?_⟩
  obtain ⟨ns, rfl, hns, rfl⟩ := hR
  intro σ H0 H10 Q n s q
  have p0 := pick_lo ns 0 (many := 10) (by decide)
  have p1 := pick_hi ns 0 (many := 10) (by decide)
  refine st_asg n s (d := .int (1 + pick ns 0 10)) (ed_op (ed_c (.int 1)) (ed_call (eds_cons (ed_sl s rfl) (eds_cons (ed_c (.int 0)) (eds_cons (ed_c (.int 10)) eds_nil))) ⟨ns, 0, 10, rfl, hns, by decide, by decide, by decide, rfl⟩) rd_addI) ?_
  intro σ1 H1 H11 ex1 n1 s1
  generalize hm : 1 + pick ns 0 10 = m at s1
  have m1 : 1 ≤ m := by omega
  have m2 : m ≤ 10 := by omega
  have fk := factsK1_ok m1 m2
  unfold factsK1 at fk
  simp only [Bool.and_eq_true, Bool.not_eq_true', decide_eq_true_eq, List.all_eq_true] at fk
  obtain ⟨⟨⟨⟨⟨⟨f1, f2⟩, f3⟩, f4⟩, f5⟩, f6⟩, f7⟩ := fk
  refine st_asg n1 s1 (d := .str (tx m)) (ed_slS (ed_c (.str _)) eo_none (eo_some (K := K) (ed_sl s1 rfl)) (by decide +kernel)) ?_
  intro σ2 H2 H21 ex2 n2 s2
  have len1 : ∀ (a b : Str), a.length ≤ 10 → b.length ≤ 10 → a.length + b.length ≤ sizeLine := fun a b h1 h2 => Nat.le_trans (Nat.add_le_add h1 h2) (by decide)
  have lap : ∀ (a b : Str), (a ++ b).length = a.length + b.length := fun a b => by
    show (a.cps ++ b.cps).size = _
    rw [Array.size_append]
    rfl
  have lok : ∀ (a b : Str), a.length ≤ 10 → b.length ≤ 10 → lenOk (.str (a ++ b)) := fun a b h1 h2 => by
    show (a ++ b).length ≤ 50000
    rw [lap]
    omega
  have sl1 : EvD K (tSl (rSlU K) (tVar 2) tNoPart (tPart (tUn (rU fun i => .int (-i)) (tC (.int 1))))) σ2 H2 (.str (cutS (tx m) none (some (-1)))) := ed_slS (ed_sl s2 rfl) eo_none (eo_some (K := K) (ed_un (ed_c (.int 1)) rdu_neg)) (Nat.le_trans f5 (by decide))
  -- the first list
  refine st_if n2 (b := false) (eb_is (eb_test (ed_op (ed_lst (eds_cons (callKey (ed_sl s2 rfl) (Nat.le_trans f5 (by decide))) (eds_cons (callKey (ed_op (ed_c (.str _)) (ed_c (.int 11)) (rd_mulS (by decide) (by decide) (by decide +kernel))) (show Str.length _ ≤ 50000 by decide +kernel))
    (eds_cons (callKey (ed_op sl1 (ed_c (.str _)) (rd_addS (len1 _ _ f6 (by decide +kernel)))) (lok _ _ f6 (by decide +kernel))) (eds_cons (callKey (ed_c (.str _)) (show Str.length _ ≤ 50000 by decide +kernel)) eds_nil)))) (by show 4 ≤ 100000; decide)) (ed_lst (eds_cons (ed_c (.bl true)) (eds_cons (ed_c (.bl false)) (eds_cons (ed_c (.bl false)) (eds_cons (ed_c (.bl false)) eds_nil)))) (by show 4 ≤ 100000; decide)) (rd_neU (by rfl) (by rfl)))) ?_) (fun h => nomatch h) fun _ H3 n3 => ?_
  · have a1 : isKeyD (.str (tx m)) = true := f1
    have a2 : isKeyD (.str (cutS (tx m) none (some (-1)) ++ "Z")) = false := f2
    rw [a1, a2]
    decide +kernel
  -- the second list
  refine st_if n3 (b := false) (eb_is (eb_test (ed_op (ed_lst (eds_cons (callVal (ed_op (ed_sl s2 rfl) (ed_c (.str _)) (rd_addS (len1 _ _ f5 (by decide +kernel)))) (lok _ _ f5 (by decide +kernel))) (eds_cons (callVal (ed_c (.str _)) (show Str.length _ ≤ 50000 by decide +kernel))
    (eds_cons (callVal (ed_op (ed_c (.str _)) (ed_c (.int 13)) (rd_mulS (by decide) (by decide) (by decide +kernel))) (show Str.length _ ≤ 50000 by decide +kernel)) (eds_cons (callVal (ed_c (.str _)) (show Str.length _ ≤ 50000 by decide +kernel)) eds_nil)))) (by show 4 ≤ 100000; decide)) (ed_lst (eds_cons (ed_c (.bl true)) (eds_cons (ed_c (.bl true)) (eds_cons (ed_c (.bl false)) (eds_cons (ed_c (.bl false)) eds_nil)))) (by show 4 ≤ 100000; decide)) (rd_neU (by rfl) (by rfl)))) ?_) (fun h => nomatch h) fun _ H4 n4 => ?_
  · have a1 : isValD (.str (tx m ++ "09")) = true := f3
    rw [a1]
    decide +kernel
  -- things that are none
  refine st_for n4 (eiU_list (ed_call (eds_cons (ed_sl s2 rfl) (eds_cons (ed_c (.int 1)) eds_nil)) ⟨ns, 1, rfl, hns, by decide, by decide, rfl⟩)) fun Hb H5 exb n5 _ => ?_
  refine ⟨fun i σ' Hr => ∃ H', Ex Hb H' ∧ Now H0 H10 H' Hr ∧ Sl K H' σ' [.dat (scrD ns), .dat (.int m), .dat (.str (tx m)), .unk, .unk], ⟨Hb, Ex.refl _, n5, s2.ex exb⟩, fun i σ' Hr ⟨H', a, b, _⟩ => a.trans b.ex, ?_, ?_⟩
  · rintro i x σ3 Hr H6 hi ⟨H', a, b, c⟩ ⟨rfl, d, hd, dx⟩
    have hmem : d ∈ oddL ns 1 := List.mem_of_getElem? hd
    obtain ⟨o1, o2, o3⟩ := odd_none ns 1 d hmem
    have s3 : Sl K H' (σ3.set 3 (some x)) [.dat (scrD ns), .dat (.int m), .dat (.str (tx m)), .dat d, .unk] := c.set (s := .dat d) (o := some x) (Dt.ex a dx) 3
    refine st_if b (b := false) (eb_is (eb_or (eb_test (ed_op (callKey (ed_sl s3 rfl) o1) (ed_c (.bl false)) rd_isnotB)) fun _ => eb_test (ed_op (callVal (ed_sl s3 rfl) o1) (ed_c (.bl false)) rd_isnotB)) ?_) (fun h => nomatch h) fun _ H7 n7 => ?_
    · rw [o2, o3]
      rfl
    · exact ⟨H', a, n7, s3.forget 3⟩
  · rintro σ3 Hr ⟨H', a, b, c⟩
    -- signs
    refine st_for b (eiU_str (ed_c (.str _))) fun Hb2 H8 exb2 n8 _ => ?_
    refine ⟨fun i σ' Hr => ∃ H', Ex Hb2 H' ∧ Now H0 H10 H' Hr ∧ Sl K H' σ' [.dat (scrD ns), .dat (.int m), .dat (.str (tx m)), .unk, .unk], ⟨Hb2, Ex.refl _, n8, c.ex exb2⟩, fun i σ' Hr ⟨H', a, b, _⟩ => a.trans b.ex, ?_, ?_⟩
    · rintro i x σ4 Hr2 H9 hi ⟨H', a, b, c⟩ ⟨rfl, ch, hc, rfl⟩
      have hcm : ch ∈ (Str.ofString "A0 -_").cps.toList := List.mem_of_getElem? (cps_get hc)
      have s4 : Sl K H' (σ4.set 4 (some (.str ⟨#[ch]⟩))) [.dat (scrD ns), .dat (.int m), .dat (.str (tx m)), .unk, .dat (.str ⟨#[ch]⟩)] := c.set (s := .dat (.str ⟨#[ch]⟩)) (o := some (.str ⟨#[ch]⟩)) (.str _) 4
      have k1 := f7 ch hcm
      have k2 : isValS ("1" ++ ⟨#[ch]⟩) = decide ((⟨#[ch]⟩ : Str) = "0") := by
        have : ∀ ch ∈ (Str.ofString "A0 -_").cps.toList, isValS ("1" ++ ⟨#[ch]⟩) = decide ((⟨#[ch]⟩ : Str) = "0") := by decide +kernel
        exact this ch hcm
      have sl2 : EvD K (tSl (rSlU K) (tVar 2) tNoPart (tPart (tUn (rU fun i => .int (-i)) (tC (.int 1))))) (σ4.set 4 (some (.str ⟨#[ch]⟩))) H' (.str (cutS (tx m) none (some (-1)))) := ed_slS (ed_sl s4 rfl) eo_none (eo_some (K := K) (ed_un (ed_c (.int 1)) rdu_neg)) (Nat.le_trans f5 (by decide))
      have l1 : (⟨#[ch]⟩ : Str).length ≤ 10 := by show 1 ≤ 10; decide
      refine st_if b (b := false) (eb_is (eb_or (eb_test (ed_op (callKey (ed_op sl2 (ed_sl s4 rfl) (rd_addS (len1 _ _ f6 l1))) (lok _ _ f6 l1)) (ed_c (.bl false)) rd_isnotB)) fun _ => eb_test (ed_op (callVal (ed_op (ed_c (.str _)) (ed_sl s4 rfl) (rd_addS (len1 _ _ (by decide +kernel) l1))) (lok _ _ (by decide +kernel) l1)) (ed_op (ed_sl s4 rfl) (ed_c (.str _)) rd_eqS) rd_neB)) ?_) (fun h => nomatch h) fun _ H7 n7 => ?_
      · have a1 : isKeyD (.str (cutS (tx m) none (some (-1)) ++ ⟨#[ch]⟩)) = false := k1
        have a2 : isValD (.str ("1" ++ ⟨#[ch]⟩)) = decide ((⟨#[ch]⟩ : Str) = "0") := k2
        rw [a1, a2]
        simp
      · exact ⟨H', a, n7, s4.forget 4⟩
    · rintro σ4 Hr2 ⟨H', a, b, c⟩
      refine st_ret (K := K) b (ed_is (ed_and (ed_op (callKey (ed_op (ed_sl c rfl) (ed_c (.str _)) (rd_addS (len1 _ _ f5 (by decide +kernel)))) (lok _ _ f5 (by decide +kernel))) (ed_c (.bl false)) rd_isB) fun _ => ed_op (callVal (ed_op (ed_c (.str _)) (ed_c (.int 12)) (rd_mulS (by decide) (by decide) (by decide +kernel))) (show Str.length _ ≤ 50000 by decide +kernel)) (ed_c (.bl true)) rd_isB) ?_) q
      have a1 : isKeyD (.str (tx m ++ "9")) = false := f4
      rw [a1]
      exact congrArg PyData.bool (by decide +kernel)
end
end LR

set_option maxHeartbeats 0
namespace LR
open PySem PySem.Spec PyProof.Rows L2 Evl
theorem facts {P : Program} {w : World} {K : PySem.W.Frag} {h : Heap} {mg : Str → Option Value} {f : Addr} (X : K.In h) (G : h.Ns mainGlobals mg) (hfa : mg ("law" : Str) = some (.ref f)) (c : SaysA as fa fn tf ex h K) :
    ∃ fd : FuncData, (∀ (s : Shared) (v : Value), BindsTo s fd ⟨[v], []⟩ [("script", v)]) ∧ ∀ base : Heap, K.In base → base.Ns mainGlobals mg → FnOk P w K mg base (CXL P w) 3 f fd ["script"] (spR K 1 Rlaw) := by
  have T : Txt mg := ⟨c.free X G 5 rfl, c.free X G 6 rfl, c.free X G 7 rfl, c.free X G 8 rfl, c.free X G 9 rfl, c.str X G 10 rfl, c.str X G 11 rfl, c.int X G 12 rfl, c.int X G 13 rfl⟩
  obtain ⟨fd_is_key, F_is_key⟩ := c.fnAt 0 (d := d_is_key) rfl
  have m_is_key := c.glo X G 0 (x := "is_key") rfl
  obtain ⟨fd_is_value, F_is_value⟩ := c.fnAt 1 (d := d_is_value) rfl
  have m_is_value := c.glo X G 1 (x := "is_value") rfl
  obtain ⟨fd_law_pick, F_law_pick⟩ := c.fnAt 2 (d := d_law_pick) rfl
  have m_law_pick := c.glo X G 2 (x := "_law_pick") rfl
  obtain ⟨fd_law_odd, F_law_odd⟩ := c.fnAt 3 (d := d_law_odd) rfl
  have m_law_odd := c.glo X G 3 (x := "_law_odd") rfl
  obtain ⟨fd_law, F_law⟩ := c.fnAt 4 (d := d_law) rfl
  have m_law := c.glo X G 4 (x := "law") rfl
  have e := hfa.symm.trans m_law
  cases e
  refine ⟨fd_law, fun s v => FunD.bindsA (ps := ["script"]) F_law (fun _ _ _ _ _ _ us hl => match us, hl with | [_], _ => rfl) s [v] rfl, fun base _ _ => ?_⟩
  have g_is_key := fx_is_key (P := P) (w := w) (base := base) T F_is_key m_is_key 
  have g_is_value := fx_is_value (P := P) (w := w) (base := base) T F_is_value m_is_value 
  have g_law_pick := fx_law_pick (P := P) (w := w) (base := base) T F_law_pick m_law_pick 
  have g_law_odd := fx_law_odd (P := P) (w := w) (base := base) T F_law_odd m_law_odd g_law_pick
  exact ok_law T F_law g_law_pick g_law_odd g_is_key g_is_value
end LR
open PySem PySem.W PySem.Calls PyProof.Rows
theorem PySem.Challenge.cw_leafroom_k01_keys_and_values_holds : PySem.Challenge.rw_leafroom_k01_keys_and_values.Holds := by
  w_on; o_law
  refine HandSHeadRun.head_any (r := OpenLaw.row PySem.Challenge.rw_leafroom_k01_keys_and_values) (q := LR.qv) (H := LR.hk) (ob := LR.ob) (M := 20000) (loose := LR.nms) (d := HandSHeadRun.topDef (OpenLaw.row PySem.Challenge.rw_leafroom_k01_keys_and_values).prog 10) (kwd := []) LR.ob_eq
    (by kernel_rfl) (fun s => by kernel_rfl) LR.run (by kernel_rfl) (by kernel_rfl) (by kernel_rfl) (by rfl) (by first | assumption | decide +kernel) (by decide +kernel) ⟨rfl, rfl, rfl, rfl, rfl, by decide +kernel⟩ ?hw ?hc
  case hw => w_witness2
  case hc =>
    refine LamX.walk_ofTsE (l := PySem.Challenge.rw_leafroom_k01_keys_and_values) (n := 63) (k := 3) (x := "script") (CX := fun w => LR.CXL (PySem.Challenge.rw_leafroom_k01_keys_and_values).prog w) rfl (by decide) (by kernel_rfl) ⟨rfl, by decide, by decide⟩ ?F (fun w H s e s' z => ?cx)
    case cx =>
      obtain ⟨_, _, _, _, _, _, _, _, _, _, _, _, y⟩ := z
      exact y
    case F =>
      intro w mg fa h Y G hmg0
      obtain ⟨K, KX, c⟩ := Y
      have hmg : mg ("law" : PySem.Str) = some (.ref fa) := by
        have e : (HandSHeadRun.topDef (OpenLaw.row PySem.Challenge.rw_leafroom_k01_keys_and_values).prog 10).name = ("law" : PySem.Str) := by kernel_rfl
        rw [← e]
        exact hmg0
      obtain ⟨fd, hb, hF⟩ := LR.facts (P := (PySem.Challenge.rw_leafroom_k01_keys_and_values).prog) (w := w) KX G hmg c
      exact ⟨K, KX, fd, [], LR.spR K 1 LR.Rlaw, (fun _ z => nomatch z), (fun _ z => nomatch z), (fun _ z => nomatch z), hb, fun H a ns hl _ _ hS => LR.law_sp ⟨ns, rfl, hl, rfl⟩ hS, fun base k1 k2 _ => hF base k1 k2⟩
