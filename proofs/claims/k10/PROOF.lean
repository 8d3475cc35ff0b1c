import PyProof.Rows.All
import Wide.All
import OpenK.AllK
import Wide.FinOn
import HandS.ForMost
import HandS.Wide
import HandS.DeepEq
import HandS.StrMore
import HandS.SetFor
import HandS.DictComp
import HandS.WordsDict
import KE.KDictKeyed
import HandS.SortKw
import HandS.Exc
import HandS.ExcOwn
import KE.KSortKey
import KE.SortKeyHeap
import HandS.Replace
import HandS.NoneIn
import KE.KStateDown
import HandS.Base
import HandS.Call
import HandS.Defaults
import HandS.MakeKw
import HandS.MakeKwOnly
import HandS.Head0
import HandS.Head1
import HandS.Head2
import HandS.HeadEnd
import HandS.HeadHook1
import HandS.HeadHook2
import HandS.HeadHook3
import HandS.HeadHook4
import KE.KNestM
import HandS.EndTab
import HandS.ClsMeth
import HandS.ExcInit
import HandS.ExcField
import HandS.Lambda
import HandS.Style
import HandS.Steps
import HandS.IsInst
import HandS.Deep
import KE.LtSeq
import KE.KRevSl
import HandS.CallSlots
import HandS.FStr
import HandS.Text
import HandS.More
import HandS.WordsExc
import KE.KTryMore
import HandS.Dict
import KE.DataFind
import HandS.Codes
import PySem.Challenge.RW_gapstone_k10_words_and_calls
set_option Elab.async false
set_option linter.all false
set_option maxRecDepth 100000
namespace G
open PySem L2
theorem remove_loopAt (l : Addr) (items : Array Value) (n : Nat) (x : Value) (e : Nat → Bool) (j : Nat) (hj : j < items.size) (hit : e j = true) (hs1 : items.size ≤ sizeLine) : ∀ (k i : Nat), j - i = k → i ≤ j → (∀ m : Nat, i ≤ m → m < j → e m = false) →
    Meets (Builtin.«list.remove.loop» { pos := [Value.ref l, x, rawInt (i : Nat)] }) fun A R s =>
      s.heap.get? l = some { cls := Value.type "list", data := Data.seq items n } ∧ (∀ (m : Nat) (h : m < items.size), SeqAt.EqAt A.in1 s items[m] x (e m)) ∧
        R (Except.ok (Flow.ret Value.none)) { heap := s.heap.update l (Obj.mapSeq fun xs => xs.eraseIdxIfInBounds j), gens := s.gens, drawn := s.drawn, toks := s.toks, os := s.os } := by
  intro k
  induction k with
  | zero =>
    intro i hk hij hno prog w A R s h
    obtain ⟨hp, g, d, tk, os⟩ := s
    obtain ⟨hl, he, h⟩ := h
    have e0 : i = j := by omega
    subst e0
    have hi : items[((i : Nat) : Int).toNat]? = some items[i] := by
      rw [Int.toNat_natCast]
      exact Array.getElem?_eq_getElem hj
    refine wpAny_bind (wpAny_bind (wpAny_bind (wpAny_load' hl (wpAny_pure (wpAny_pure ?_)))))
    show wpAny _ _ (match items[((i : Nat) : Int).toNat]? with | none => _ | some x_1 => _) _ _ _
    rw [hi]
    refine wpAny_bind (he i hj prog w _ _ ?_)
    rw [hit]
    have hz' := Nat.le_trans (MeetsSeq.size_erased items i) (Nat.le_succ_of_le hs1)
    refine wpAny_ite_true rfl (wpAny_bind (wpAny_updateSeq hl rfl ?_ hs1 hz'))
    exact wpAny_pure h
  | succ k ih =>
    intro i hk hij hno prog w A R s h
    obtain ⟨hp, g, d, tk, os⟩ := s
    obtain ⟨hl, he, h⟩ := h
    have hlt : i < items.size := by omega
    have hi : items[((i : Nat) : Int).toNat]? = some items[i] := by
      rw [Int.toNat_natCast]
      exact Array.getElem?_eq_getElem hlt
    refine wpAny_bind (wpAny_bind (wpAny_bind (wpAny_load' hl (wpAny_pure (wpAny_pure ?_)))))
    show wpAny _ _ (match items[((i : Nat) : Int).toNat]? with | none => _ | some x_1 => _) _ _ _
    rw [hi]
    refine wpAny_bind (he i hlt prog w _ _ ?_)
    rw [hno i (Nat.le_refl _) (by omega)]
    refine wpAny_ite_false rfl (wpAny_pure ?_)
    have hc : ((i : Nat) : Int) + 1 = ((i + 1 : Nat) : Int) := by omega
    rw [hc]
    refine ⟨plainId_quiet MeetsSeq.plain_remove_loop _, codeAny_builtin MeetsSeq.entry_remove_loop ?_⟩
    rw [Around.under_plainId MeetsSeq.plain_remove_loop]
    exact ih (i + 1) (by omega) (by omega) (fun m h1 h2 => hno m (by omega) h2) prog w A R _ ⟨hl, he, h⟩
theorem list_removeAt (l : Addr) (items : Array Value) (n : Nat) (x : Value) (e : Nat → Bool) (j : Nat) (hj : j < items.size) (hit : e j = true) (hno : ∀ m : Nat, m < j → e m = false) (hs1 : items.size ≤ sizeLine) :
    Meets (Builtin.«list.remove» { pos := [Value.ref l, x] }) fun A R s =>
      s.heap.get? l = some { cls := Value.type "list", data := Data.seq items n } ∧ (∀ (m : Nat) (h : m < items.size), SeqAt.EqAt A.in1 s items[m] x (e m)) ∧
        R (Except.ok (Flow.ret Value.none)) { heap := s.heap.update l (Obj.mapSeq fun xs => xs.eraseIdxIfInBounds j), gens := s.gens, drawn := s.drawn, toks := s.toks, os := s.os } := by
  intro prog w A R s h
  obtain ⟨hp, g, d, tk, os⟩ := s
  obtain ⟨hl, he, h⟩ := h
  refine wpAny_bind (wpAny_bind (wpAny_ite_true rfl (wpAny_pure (wpAny_pure (wpAny_pure ?_)))))
  refine ⟨plainId_quiet MeetsSeq.plain_remove_loop _, codeAny_builtin MeetsSeq.entry_remove_loop ?_⟩
  rw [Around.under_plainId MeetsSeq.plain_remove_loop]
  exact remove_loopAt l items n x e j hj hit hs1 (j - 0) 0 rfl (Nat.zero_le j) (fun m _ h2 => hno m h2) prog w A R _ ⟨hl, he, h⟩
def rRemD (K : PySem.W.Frag) (x : V) (xs : List V) (H : Hp) (Q : VK) : Prop := ∃ (l : Addr) (ys : List V) (y : V) (dy : PyData) (ds : List PyData) (j : Nat), x = .ref l ∧ xs = [y] ∧ H l = some (.lst ys) ∧ Dp K H y dy ∧ DpAll K H ys ds ∧ SeqAt.shaped dy = true ∧ (∀ d ∈ ds, SeqAt.shaped d = true) ∧ (∃ d, ds[j]? = some d ∧ PyData.eqv d dy = true) ∧ (∀ (m : Nat) (d : PyData), m < j → ds[m]? = some d → PyData.eqv d dy = false) ∧ Q .non (upd H l (.lst (ys.eraseIdx j)))
theorem dpAll_get {K : PySem.W.Frag} {H : Hp} : ∀ {vs : List V} {ds : List PyData}, DpAll K H vs ds → vs.length = ds.length ∧ ∀ (i : Nat) (v : V) (d : PyData), vs[i]? = some v → ds[i]? = some d → Dp K H v d
  | _, _, .nil => ⟨rfl, fun i v d h => by simp at h⟩
  | _, _, .cons a b => by
    obtain ⟨h1, h2⟩ := dpAll_get b
    refine ⟨by simp [h1], fun i v d hv hd => ?_⟩
    cases i with
    | zero =>
      simp only [List.getElem?_cons_zero, Option.some.injEq] at hv hd
      subst hv hd
      exact a
    | succ i =>
      simp only [List.getElem?_cons_succ] at hv hd
      exact h2 i v d hv hd
theorem vals_get : ∀ {xs : List V} {us : List Value}, Vals xs us → ∀ (i : Nat) (x : V) (u : Value), xs[i]? = some x → us[i]? = some u → RelV x u
  | _, _, .nil, i, x, u, h, _ => by simp at h
  | _, _, .cons a b, i, x, u, h1, h2 => by
    cases i with
    | zero =>
      simp only [List.getElem?_cons_zero, Option.some.injEq] at h1 h2
      subst h1 h2
      exact a
    | succ i =>
      simp only [List.getElem?_cons_succ] at h1 h2
      exact vals_get b i x u h1 h2
theorem mt_removeD {X : Cx} (hu : X.A.units + 65 < cLine) : MtM X "list.remove" (rRemD X.K) := by
  intro pins s σ H x xs v us Q I rx rxs h
  obtain ⟨l, ys, y, dy, ds, j, rfl, rfl, hH, hy, hds, sy, sds, ⟨dj, hdj, hjt⟩, hno, q⟩ := h
  cases rx
  obtain ⟨u, rfl, ru⟩ := Vals.one rxs
  obtain ⟨z, its, n, r, hl, e⟩ := Inv.lstM I hH
  obtain ⟨l1, g1⟩ := dpAll_get hds
  have ljd : j < ds.length := (List.getElem?_eq_some_iff.mp hdj).1
  have hjl : j < its.toArray.size := by
    rw [List.size_toArray]
    omega
  have sz : its.toArray.size ≤ sizeLine := by
    rw [List.size_toArray]
    omega
  obtain ⟨as, ra⟩ := Dp.reads I dy y u hy ru
  have shy : dy.canLay0 = true ∧ dy.depth ≤ 64 := by simpa [SeqAt.shaped] using sy
  let ev : Nat → Bool := fun m => match ds[m]? with
    | some d => PyData.eqv d dy
    | none => false
  have hit : ev j = true := by
    show (match ds[j]? with | some d => PyData.eqv d dy | none => false) = true
    rw [hdj]
    exact hjt
  have hno' : ∀ m : Nat, m < j → ev m = false := fun m hm => by
    have lm : m < ds.length := by omega
    show (match ds[m]? with | some d => PyData.eqv d dy | none => false) = false
    rw [List.getElem?_eq_getElem lm]
    exact hno m _ hm (List.getElem?_eq_getElem lm)
  refine call_meets PySem.F.slot_list_remove ⟨_, e, rfl⟩ PySem.F.entry_list_remove (PySem.F.args_list_remove_2 (Value.ref l) u) (list_removeAt l its.toArray n u ev j hjl hit hno' sz) ⟨e, fun m hm => ?_, ?_⟩
  · rw [List.size_toArray] at hm
    have lm : m < ds.length := by omega
    have ly : m < ys.length := by omega
    have eg : its.toArray[m]'(by rw [List.size_toArray]; exact hm) = its[m] := by simp
    rw [eg]
    have rv := vals_get r m ys[m] its[m] (List.getElem?_eq_getElem ly) (List.getElem?_eq_getElem hm)
    have dp := g1 m ys[m] ds[m] (List.getElem?_eq_getElem ly) (List.getElem?_eq_getElem lm)
    obtain ⟨bs, rb⟩ := Dp.reads I ds[m] ys[m] its[m] dp rv
    have sm := sds ds[m] (List.getElem_mem _)
    have shm : ds[m].canLay0 = true ∧ ds[m].depth ≤ 64 := by simpa [SeqAt.shaped] using sm
    have ee : ev m = PyData.eqv ds[m] dy := by
      show (match ds[m]? with | some d => PyData.eqv d dy | none => false) = _
      rw [List.getElem?_eq_getElem lm]
    rw [ee]
    refine SeqAt.eqAt_reads ds[m] dy X.A.in1 s its[m] u bs as rb ra shm.1 shy.1 ?_
    show X.A.units + 1 + min ds[m].depth dy.depth < cLine
    have := Nat.min_le_left ds[m].depth dy.depth
    omega
  · have z2 := len_erase ys j
    refine ⟨.non, upd H l (.lst (ys.eraseIdx j)), ?_, rfl, q⟩
    exact Inv.lset I hH e (List.eraseIdxIfInBounds_toArray its j) (Vals.eraseIdx j r) (by omega)
end G
set_option Elab.async false
set_option linter.all false
set_option maxRecDepth 100000
set_option maxHeartbeats 0
namespace G
open PySem PySem.Spec PyProof.Rows L2
mutual
/-- a thing is that key -/
inductive NkH (K : PySem.W.Frag) (H : Hp) : NestedKey → V → Prop
  | non : NkH K H .none .non
  | int (i : Int) : NkH K H (.num i) (.int i)
  | str (z : Str) : NkH K H (.text z) (.str z)
  | tup {a : Addr} {xs : List V} {ks : List NestedKey} : SqT K H a xs → NkHs K H ks xs → NkH K H (.tup ks) (.ref a)
inductive NkHs (K : PySem.W.Frag) (H : Hp) : List NestedKey → List V → Prop
  | nil : NkHs K H [] []
  | cons {k : NestedKey} {ks : List NestedKey} {v : V} {vs : List V} : NkH K H k v → NkHs K H ks vs → NkHs K H (k :: ks) (v :: vs)
end
/-- what a dict's one object holds: its entries, in order; which keys they are is told of their tuples -/
def KdF (w : World) (D : Addr) (xs : List (NestedKey × Addr × Value)) : Heap → Prop := fun h =>
  (D == sysModules) = false ∧ (xs.map (·.1)).Nodup ∧ xs.length ≤ sizeLine ∧ ∃ o es ep, h.get? D = some o ∧ o.ExactDict ∧ o.data = .dict es ep ∧ es.toList = xs.map fun x => (⟨x.1.hash w, .ref x.2.1, x.2.2⟩ : DictEntry)
def kdO (w : World) (D : Addr) (xs : List (NestedKey × Addr × Value)) : HO := .ext (KdF w D xs)
/-- the entries' keys -/
def KdK (K : PySem.W.Frag) (H : Hp) (xs : List (NestedKey × Addr × Value)) : Prop := ∀ x ∈ xs, NkH K H x.1 (.ref x.2.1) ∧ x.1.depth ≤ 8
section
variable {X : Cx} {pins : List (Addr × Obj)} {σ : L2.St} {H : Hp} {s : Shared}
mutual
theorem nested_at (I : Inv X pins σ H s) : ∀ {k : NestedKey} {v : V} {u : Value}, NkH X.K H k v → RelV v u → NestedIs s.heap k u
  | _, _, _, .non, r => by cases r; exact .none
  | _, _, _, .int i, r => by obtain ⟨t, rfl⟩ := r; exact .int i t
  | _, _, _, .str z, r => by obtain ⟨t, rfl⟩ := r; exact .text z t
  | _, _, _, .tup h r', r => by
    obtain rfl : _ = Value.ref _ := r
    obtain ⟨its, rv, ⟨o, e, c, n, d⟩, _⟩ := I.tuple h
    exact .tup e c d (by simpa using nesteds_at I r' rv)
theorem nesteds_at (I : Inv X pins σ H s) : ∀ {ks : List NestedKey} {vs : List V} {us : List Value}, NkHs X.K H ks vs → Vals vs us → NestedAll s.heap ks us
  | _, _, _, .nil, .nil => .nil
  | _, _, _, .cons a b, .cons r t => .cons (nested_at I a r) (nesteds_at I b t)
end
theorem kd_of {D : Addr} {xs : List (NestedKey × Addr × Value)} (I : Inv X pins σ H s) (hD : H D = some (kdO X.w D xs)) (hk : KdK X.K H xs) : (D == sysModules) = false ∧ xs.length ≤ sizeLine ∧ s.heap.DictOfH (nestedKind X.prog X.w) D xs := by
  obtain ⟨⟨h1, h2, h3, o, es, ep, e1, e2, e3, e4⟩, _⟩ := (show ObjOk X.prog X.w H s.heap D (.ext (KdF X.w D xs)) from I.hok D _ hD)
  exact ⟨h1, h3, o, es, ep, e1, e2, e3, e4, fun x hx => ⟨nested_at I (hk x hx).1 rfl, (hk x hx).2⟩, h2⟩
theorem kd_new {P : Program} {w : World} {H : Hp} {h : Heap} {D : Addr} {xs : List (NestedKey × Addr × Value)} (h1 : (D == sysModules) = false) (h3 : xs.length ≤ sizeLine) (d : h.DictOfH (nestedKind P w) D xs) : ObjOk P w H h D (kdO w D xs) := by
  obtain ⟨o, es, ep, e1, e2, e3, e4, _, h2⟩ := d
  refine ⟨⟨h1, h2, h3, o, es, ep, e1, e2, e3, e4⟩, ⟨o, e1⟩, ?_⟩
  rintro ha hb ⟨k1, k2, k3, o', es', ep', f1, f2⟩ st
  exact ⟨k1, k2, k3, o', es', ep', st _ f1, f2⟩
/-- d[k] = True by a comprehension -/
theorem kd_set {E : Value → Shared → Prop} {D a : Addr} {xs : List (NestedKey × Addr × Value)} {k : NestedKey} {Q : Unit → Shared → Prop} (hu : X.A.units + 8 < cLine) (I : Inv X pins σ H s) (hD : H D = some (kdO X.w D xs)) (hz : xs.length < sizeLine) (hk : KdK X.K H xs)
    (hn : NkH X.K H k (.ref a)) (hd : k.depth ≤ 8) (h : ∀ s', Inv X pins σ (upd H D (kdO X.w D (storedH xs k a (.bool true)))) s' → Q () s') : wpAny (model X.prog X.w) X.A (dictSet D (.ref a) (.bool true)) Q E s := by
  obtain ⟨h1, h2, dd⟩ := kd_of I hD hk
  refine wpAny_dictSet_heap (hsz := h2) (knd := nestedKind X.prog X.w) hu ⟨nested_at I hn rfl, hd⟩ dd fun h' dd' hs => h _ ?_
  have he : ∃ q, h'.get? D = some q := let ⟨q, _, _, hq, _⟩ := dd'; ⟨q, hq⟩
  have hl := storedH_length xs k a (.bool true)
  exact d_write I (by rw [hD]; exact True.intro) hs he (kd_new h1 (by omega) dd')
/-- the new dict -/
theorem kd_empty (h : Heap) (P : Program) (w : World) (H : Hp) (hb : (h.objs.size == sysModules) = false) : ObjOk P w H (h.push { cls := .type "dict", data := .dict #[] }) h.objs.size (kdO w h.objs.size []) :=
  kd_new hb (Nat.zero_le _) (Heap.DictOfH.new h)
end
section
variable {X : Cx}
/-- {k: True for target in iter}: D the new dict -/
def tKc (K : PySem.W.Frag) (w : World) (wi : TI) (g : TG) (tk : TE) (vs : List Nat) : TE := fun σ H Q => wi σ H fun J H1 => ∀ D, H1 D = none → ∃ W : Nat → Nat → Hp → Prop, (∃ m, W 0 m (upd H1 D (kdO w D []))) ∧ ∀ i m H, W i m H →
  (J.stop i H ∧ Q (.ref D) H) ∨ (J.go i H ∧ ∃ Nx : Hp → Prop, (∀ H', Nx H' → ∃ m', m' < m ∧ W (i + 1) m' H') ∧ ∀ x H', J.yld i H x H' → g x (wipe σ vs) H' fun σ2 H2 => wipe σ2 vs = wipe σ vs ∧
    tk σ2 H2 fun y H4 => ∃ xs k a, y = .ref a ∧ NkH K H4 k y ∧ k.depth ≤ 8 ∧ H4 D = some (kdO w D xs) ∧ KdK K H4 xs ∧ xs.length < sizeLine ∧ Nx (upd H4 D (kdO w D (storedH xs k a (.bool true)))))
/-- one turn's end: back to the block's own names -/
theorem kc_back {Y : Cx} {own : List (Str × Nat)} {σ σ8 : L2.St} {fp : List Addr} {h7 : Heap} {H' : Hp} {s' : Shared} (hw : wipe σ8 (own.map (·.2)) = wipe σ (own.map (·.2))) (I' : Inv Y ([] ++ pinsAt fp h7) σ8 H' s') : Inv Y [] (wipe σ (own.map (·.2))) H' s' := by
  refine (I'.unpinned (pins := [])).weak (by rw [← hw, wipe_length]) fun j v e => ?_
  rw [← hw] at e
  exact (wipe_some e).1
theorem kc_core {pins : List (Addr × Obj)} {s : Shared} {σ : L2.St} {H : Hp} {Q : VK} {kx tg iter : Expr} {vk : Nat} {vp : Pos} {scope : Scope} {own : List (Str × Nat)} {pos pos' : Pos} {wi : TI} {g : TG} {tk : TE} {use : Option (Value → Sem Unit)} {Qf : Value → Shared → Prop}
    (hc : X.calm = true) (hu : X.A.units + 8 < cLine) (hN : X.N.Nodup) (I : Inv X pins σ H s) (hi : PI X tg iter wi) (ok : BlkOk X.N X.env.scope scope own)
    (hg : ∀ (s : Shared) (H : Hp) (C : Addr) (cl : List (Str × Addr)) (fp : List Addr), PG (X.blk s H scope (compEnvC scope cl C X.env) fp) tg g)
    (hk : ∀ (s : Shared) (H : Hp) (C : Addr) (cl : List (Str × Addr)) (fp : List Addr), PE (X.blk s H scope (compEnvC scope cl C X.env) fp) kx tk) (hs : ∀ x, foldedSetIterable iter X.env x = pure x)
    (h : tKc X.K X.w wi g tk (own.map (·.2)) σ H Q)
    (hRR : ∀ D C s' m H', Inv X pins σ H' s' → Q (.ref D) H' → s'.heap.Ns C m → FpOk X pins H' C → compPost (model X.prog X.w) X.A X.xe use Qf (.ref D) C (.ok .next) s') :
    wpAny (model X.prog X.w) X.A (comprehension (.DictComp kx (.Constant (.bool true) vk vp) [⟨tg, iter, [], 0⟩] scope pos) scope X.env pos' newDict false (eval iter X.env) use) Qf X.xe s := by
  have hfree : ∀ y ∈ scope.names, y.2 = .free → ∃ c, X.env.cells.lookup y.1 = some c := fun y hy e => (ok.free y hy e).elim (fun k => I.ok.has _ (.inl k)) fun k => I.ok.has _ (.inr k)
  refine wpAny_comprehension_free (use := use) rfl hs (closure_ok hfree) ok.kind (fun y hy e => by rw [ok.uniq y hy, e])
    (thn (hi.run pins s σ H _ I h) fun xv s1 hx => thn hx fun itv s2 h2 => ?_)
  obtain ⟨it, fp, tn, J, H2, rfl, I2, T, st2, f2, q⟩ := h2
  refine wpAny_newObj_type (newEnv_comp ?_)
  obtain ⟨W, ⟨m0, w0⟩, turn⟩ := q s2.heap.objs.size (I2.hok.fresh (Nat.le_refl _))
  -- the dict lies there
  have I3 : Inv X pins σ (upd H2 s2.heap.objs.size (kdO X.w s2.heap.objs.size [])) { s2 with heap := s2.heap.push { cls := .type "dict", data := .dict #[] } } :=
    I2.laid (t' := s2.toks) (fun b o e => Heap.get?_push_of_some _ e) (Nat.le_refl _) (kd_empty s2.heap _ _ _ (by
      have := I2.big
      obtain ⟨_, z, _⟩ := (show ObjOk X.prog X.w H2 (s2.heap.push { cls := .type "dict", data := .dict #[] }) s2.heap.objs.size (.dK []) from dk_empty s2.heap I2.big)
      exact z))
  generalize hD : s2.heap.objs.size = D at *
  generalize hs3 : ({ s2 with heap := s2.heap.push { cls := .type "dict", data := .dict #[] } } : Shared) = s3 at I3
  have h3 : s3.heap = s2.heap.push { cls := .type "dict", data := .dict #[] } := by rw [← hs3]
  have f3 : ∀ b ∈ fp, FpOk X pins (upd H2 D (kdO X.w D [])) b ∧ b < s3.heap.objs.size := fun b hb => by
    obtain ⟨o, e, _⟩ := T.obj _ _ st2 b hb
    have hlt := Heap.lt_size e
    exact ⟨⟨by rw [upd_ne (by rw [← hD]; exact Nat.ne_of_lt hlt)]; exact (f2 b hb).1, (f2 b hb).2⟩, by rw [h3, Heap.size_push]; exact Nat.lt_succ_of_lt hlt⟩
  have st3 : tn 0 s3.heap := T.keep _ _ _ st2 fun b _ o e => by rw [h3]; exact Heap.get?_push_of_some _ e
  have I4 := block_start I3 ok hN f3
  have pg := hg s3 (upd H2 D (kdO X.w D [])) s3.heap.objs.size (cellsFrom (s3.heap.objs.size + 1) scope.names (cloFrom X.env.cells scope.names [])) fp
  have pk := hk s3 (upd H2 D (kdO X.w D [])) s3.heap.objs.size (cellsFrom (s3.heap.objs.size + 1) scope.names (cloFrom X.env.cells scope.names [])) fp
  have nfp : ∀ b ∈ fp, (upd H2 D (kdO X.w D [])) b = none := fun b hb => (f3 b hb).1.1
  show codeAny _ _ (.compStart _ 0 (.ref it) (.ref D) (compEnvC scope (cellsFrom (s3.heap.objs.size + 1) scope.names (cloFrom X.env.cells scope.names [])) s3.heap.objs.size X.env)) (compPost (model X.prog X.w) X.A X.xe use Qf (.ref D) s3.heap.objs.size) { s3 with heap := pushCells (s3.heap.push { cls := .type "dict", data := .dict #[] }) scope.names }
  generalize hce : compEnvC scope (cellsFrom (s3.heap.objs.size + 1) scope.names (cloFrom X.env.cells scope.names [])) s3.heap.objs.size X.env = ce at I4 pg pk ⊢
  have cL : ce.locals = s3.heap.objs.size := by subst hce; rfl
  generalize hH3 : upd H2 D (kdO X.w D []) = H3 at I3 I4 pg pk w0 nfp f3
  generalize hs4 : ({ s3 with heap := pushCells (s3.heap.push { cls := .type "dict", data := .dict #[] }) scope.names } : Shared) = s4 at I4 ⊢
  have st4 : tn 0 s4.heap := T.keep _ _ _ st3 fun b _ o e => by rw [← hs4]; exact pushCells_keeps _ _ _ _ (Heap.get?_push_of_some _ e)
  have stat : ∀ {σ' : L2.St} {H' : Hp} {s' : Shared}, Inv (X.blk s3 H3 scope ce fp) [] σ' H' s' → (∀ b ∈ fp, H' b = none) → ∀ b ∈ fp, FpOk (X.blk s3 H3 scope ce fp) [] H' b := fun {σ' H' s'} I' hn b hb =>
    ⟨hn b hb, (I'.ok.exf b hb).1, I'.ok.exfs b hb, .inl hb, fun x c e => (I'.ok.exf b hb).2 x c e, fun p hp => absurd (show p ∈ ([] : List (Addr × Obj)) ++ [] from hp) (by simp)⟩
  have loop : codeAny (model X.prog X.w) X.A (.compLoop (.DictComp kx (.Constant (.bool true) vk vp) [⟨tg, iter, [], 0⟩] scope pos) 0 (.ref it) (.ref D) ce) (compPost (model X.prog X.w) X.A X.xe use Qf (.ref D) s3.heap.objs.size) s4 := by
    refine compLoop_anyD (fun n s' => ∃ i H', Inv (X.blk s3 H3 scope ce fp) [] (wipe σ (own.map (·.2))) H' s' ∧ tn i s'.heap ∧ (∀ b ∈ fp, H' b = none) ∧ W i n H') ?_ m0 ⟨0, H3, I4, st4, nfp, w0⟩
    rintro n s5 ⟨i, H5, I5, st5, n5, w5⟩
    rcases turn i n H5 w5 with ⟨stop, qq⟩ | ⟨go, Nx, hNx, step⟩
    · -- no more: back in the def
      refine thnF (T.done (X.blk s3 H3 scope ce fp) rfl rfl rfl hc i [] s5 _ H5 (fun _ _ => False) I5 (stat I5 n5) st5 stop) fun r s6 ⟨hr, I6⟩ => ?_
      subst hr
      have I7 : Inv X pins σ H5 s6 := I3.call' (ch := fp) I6.os I6.base I6.hok I6.bare fun b hb => ⟨(f3 b hb).1.2.2.2.1, (f3 b hb).1.2.1, (f3 b hb).1.2.2.2.2.1, (f3 b hb).1.2.2.2.2.2⟩
      have nC : H5 s3.heap.objs.size = none := cL ▸ (show H5 ce.locals = none from I6.free)
      obtain ⟨m, hn, _⟩ := I6.loc
      exact hRR D s3.heap.objs.size s6 m H5 I7 qq (cL ▸ (show s6.heap.Ns ce.locals m from hn)) (I3.fpOk (Nat.le_refl _) nC)
    · refine thnF (T.item (X.blk s3 H3 scope ce fp) rfl rfl rfl hc i [] s5 _ H5 (fun _ _ => False) I5 (stat I5 n5) st5 go) fun r s6 ⟨u, hr, h6⟩ => ?_
      subst hr
      refine thnF h6 fun _ s7 ⟨x, H7, I7, r7, y7, st7, n7⟩ => ?_
      refine thnF (pg.run _ s7 _ H7 x u _ (I7.pinned (stat I7 n7) (T.obj _ _ st7)) r7 (step x H7 y7)) fun _ s8 ⟨σ8, H8, I8, hw8, q8⟩ => ?_
      refine thnF ((pts_nil (X := X.blk s3 H3 scope ce fp)).run _ s8 σ8 H8 (fun b H' => b = true ∧ H' = H8) I8 (by exact ⟨rfl, rfl⟩)) fun b s9 ⟨H9, I9, e9, e9'⟩ => ?_
      subst e9 e9'
      simp only [if_true]
      refine thnF (pk.run _ s9 σ8 _ _ I9 q8) fun z s10 ⟨yk, H10, I10, r10, xs, k, a, ek, k1, k2, k3, k4, k5, nx⟩ => ?_
      subst ek
      obtain rfl : z = Value.ref a := r10
      refine thnF ((pe_bl (X := X.blk s3 H3 scope ce fp) (b := true) (j := vk) (pos := vp)).run _ s10 σ8 H10 (fun v H' => v = .bl true ∧ H' = H10) I10 (by exact ⟨rfl, rfl⟩)) fun z2 s11 ⟨yv, H11, I11, r11, e1, e2⟩ => ?_
      subst e1 e2
      obtain rfl : z2 = Value.bool true := r11
      refine kd_set (X := X.blk s3 H3 scope ce fp) hu I11 k3 k5 k4 k1 k2 fun s12 I12 => ?_
      obtain ⟨m', hm, w'⟩ := hNx _ nx
      have pin' : ∀ b ∈ fp, ∀ o, s7.heap.get? b = some o → s12.heap.get? b = some o ∧ (upd _ D _) b = none := fun b hb o e =>
        let z := I12.pin (b, o) (List.mem_append_right _ (List.mem_append_right _ (mem_pinsAt hb e)))
        ⟨z.1, z.2.1⟩
      refine ⟨m', hm, i + 1, _, kc_back hw8 I12, T.keep _ _ _ st7 fun b hb o e => (pin' b hb o e).1, fun b hb => ?_, w'⟩
      obtain ⟨o, e, _⟩ := T.obj _ _ st7 b hb
      exact (pin' b hb o e).2
  exact codeAny_compStart_dict loop (T.self X.A 0 _ _ _ st4 loop)
/-- as a value -/
theorem pe_kc {kx tg iter : Expr} {vk : Nat} {vp : Pos} {scope : Scope} {own : List (Str × Nat)} {pos : Pos} {wi : TI} {g : TG} {tk : TE} (hc : X.calm = true) (hu : X.A.units + 8 < cLine) (hN : X.N.Nodup) (hi : PI X tg iter wi) (ok : BlkOk X.N X.env.scope scope own)
    (hg : ∀ (s : Shared) (H : Hp) (C : Addr) (cl : List (Str × Addr)) (fp : List Addr), PG (X.blk s H scope (compEnvC scope cl C X.env) fp) tg g)
    (hk : ∀ (s : Shared) (H : Hp) (C : Addr) (cl : List (Str × Addr)) (fp : List Addr), PE (X.blk s H scope (compEnvC scope cl C X.env) fp) kx tk) (hs : ∀ x, foldedSetIterable iter X.env x = pure x) :
    PE X (.DictComp kx (.Constant (.bool true) vk vp) [⟨tg, iter, [], 0⟩] scope pos) (tKc X.K X.w wi g tk (own.map (·.2))) := by
  refine ⟨fun pins s σ H Q I h => ?_⟩
  rw [arm_eval_DictComp]
  refine kc_core hc hu hN I hi ok hg hk hs h fun D C s' m H' I' q hn f => ⟨m, hn, fun h'' sb => ?_⟩
  obtain ⟨f0, f1, f2, f3, f4, f5⟩ := f
  exact ⟨.ref D, H', I'.turned (t' := s'.toks) (fun b o hb e => (sb.2 b hb).trans e) f0 f1 f3 f4 f5, rfl, q⟩
/-- a name is given it -/
theorem ps_setKc {i : Nat} {y : Str} {py spos : Pos} {kx tg iter : Expr} {vk : Nat} {vp : Pos} {scope : Scope} {own : List (Str × Nat)} {pos : Pos} {wi : TI} {g : TG} {tk : TE} (hc : X.calm = true) (hu : X.A.units + 8 < cLine) (hN : X.N.Nodup) (hy : X.N[i]? = some y) (hyl : X.env.scope.names.lookup y = some .local)
    (hsw : swapsWith (.DictComp kx (.Constant (.bool true) vk vp) [⟨tg, iter, [], 0⟩] scope pos) (some (.Name y py)) spos.line X.env = pure true) (hi : PI X tg iter wi) (ok : BlkOk X.N X.env.scope scope own)
    (hg : ∀ (s : Shared) (H : Hp) (C : Addr) (cl : List (Str × Addr)) (fp : List Addr), PG (X.blk s H scope (compEnvC scope cl C X.env) fp) tg g)
    (hk : ∀ (s : Shared) (H : Hp) (C : Addr) (cl : List (Str × Addr)) (fp : List Addr), PE (X.blk s H scope (compEnvC scope cl C X.env) fp) kx tk) (hs : ∀ x, foldedSetIterable iter X.env x = pure x) :
    PS X (.Assign [.Name y py] (.DictComp kx (.Constant (.bool true) vk vp) [⟨tg, iter, [], 0⟩] scope pos) spos) (tAsg (tKc X.K X.w wi g tk (own.map (·.2))) (gName i)) := by
  refine ⟨fun pins s σ H D I h => ?_⟩
  rw [exec_Assign_Name_used _ _ _ _ hsw]
  refine wpAny_bind (wpAny_standAt (wpAny_bind ?_))
  show wpAny _ X.A (do let _ ← comprehension (.DictComp kx (.Constant (.bool true) vk vp) [⟨tg, iter, [], 0⟩] scope pos) scope X.env (firstIterPos [⟨tg, iter, [], 0⟩] pos) newDict false (eval iter X.env) (some (assign (.Name y py) X.env))) _ _ s
  have h : tKc X.K X.w wi g tk (own.map (·.2)) σ H (fun x H1 => gName i x σ H1 D.nx) := h
  refine wpAny_bind (thn (kc_core (Qf := fun _ s' => SP X pins D .next s') hc hu hN I hi ok hg hk hs h fun L C s' m H' I' q hn f => ?_) fun _ s' hq => wpAny_pure (wpAny_pure hq))
  show wpAny _ _ (assign (.Name y py) X.env (.ref L)) _ _ _
  obtain ⟨f0, f1, f2, f3, f4, f5⟩ := f
  refine wpAny_assign_Name (store_ok2 (v := V.ref L) I' hN hy (.inl hyl) rfl (fun s2 I2 ⟨a, sb, ha⟩ => ?_) (.inr hyl))
  have haC : C ≠ a := ha.elim (fun z => by rw [z]; exact f1) fun z e => f4 y a z e.symm
  exact ⟨m, hn.sameBut sb haC, fun h3 sb3 => ⟨_, H', I2.turned (t' := s2.toks) (fun b o hb e => (sb3.2 b hb).trans e) f0 f1 f3 f4 f5, q⟩⟩
/-- a key is in it, or not -/
def rKin (K : PySem.W.Frag) (w : World) (ng : Bool) : R2 := fun x y H Q => ∃ a D xs k, x = .ref a ∧ y = .ref D ∧ H D = some (kdO w D xs) ∧ KdK K H xs ∧ NkH K H k x ∧ k.depth ≤ 8 ∧ Q (.bl ((xs.map (·.1)).contains k != ng)) H
theorem atKey_has {xs : List (NestedKey × Addr × Value)} {k : NestedKey} : (valueAt (pairsH xs) k).isSome = (xs.map (·.1)).contains k := by
  rw [valueAt_pairsH, Option.isSome_map, ← any_pairsH]
  induction xs with
  | nil => rfl
  | cons x xs ih =>
    simp only [pairsH, List.map_cons, List.any_cons, List.contains_cons] at ih ⊢
    rw [ih]
    congr 1
    by_cases e : x.1 = k
    · simp [e]
    · simp [e, Ne.symm e]
theorem in1_room {A : Around} (hu : A.units + 65 < cLine) : A.in1.units + 8 < cLine := by
  have e : A.in1.units = A.units + 1 := rfl
  omega
theorem op_kin (hu : X.A.units + 65 < cLine) : OpR X (compareOp .In) (rKin X.K X.w false) := by
  intro pins s σ H x y v u Q I rx ry h
  obtain ⟨a, D, xs, k, rfl, rfl, hD, hk, hn, hd, q⟩ := h
  obtain rfl : v = Value.ref a := rx
  obtain rfl : u = Value.ref D := ry
  obtain ⟨h1, h2, dd⟩ := kd_of I hD hk
  refine in_keyed (knd := nestedKind X.prog X.w) (k := k) (in1_room hu) ⟨nested_at I hn rfl, hd⟩ h1 ⟨xs, dd, rfl⟩ ?_
  rw [atKey_has]
  rw [Bool.bne_false] at q
  exact ⟨.bl _, H, I.tok _, rfl, q⟩
theorem op_nkin (hu : X.A.units + 65 < cLine) : OpR X (compareOp .NotIn) (rKin X.K X.w true) := by
  intro pins s σ H x y v u Q I rx ry h
  obtain ⟨a, D, xs, k, rfl, rfl, hD, hk, hn, hd, q⟩ := h
  obtain rfl : v = Value.ref a := rx
  obtain rfl : u = Value.ref D := ry
  obtain ⟨h1, h2, dd⟩ := kd_of I hD hk
  refine notIn_keyed (knd := nestedKind X.prog X.w) (k := k) (in1_room hu) ⟨nested_at I hn rfl, hd⟩ h1 ⟨xs, dd, rfl⟩ ?_
  rw [atKey_has]
  rw [Bool.bne_true] at q
  exact ⟨.bl _, H, I.tok _, rfl, q⟩
/-- how many there are -/
theorem call_klen (hu : X.A.units + 65 < cLine) : CallR X (.builtin "len") (fun xs H Q => ∃ D ys, xs = [V.ref D] ∧ H D = some (kdO X.w D ys) ∧ KdK X.K H ys ∧ Q (.int ys.length) H) := by
  intro pins s σ H xs us Q I r h
  obtain ⟨D, ys, rfl, hD, hk, q⟩ := h
  obtain ⟨u, rfl, ru⟩ := vals1 r
  obtain rfl : u = Value.ref D := ru
  obtain ⟨h1, h2, dd⟩ := kd_of I hD hk
  have hn := line63
  have hl : (pairsH ys).length = ys.length := pairsH_length ys
  exact PyProof.Rows.call_len_slot (n := (pairsH ys).length) dd.typeIs F.slot_dict_len (fun Q' hq => len_keyed h1 ⟨ys, dd, rfl⟩ hq) (by omega) (by omega) ⟨.int ys.length, H, I.tok _, ⟨_, by rw [hl]⟩, q⟩
end
end G
set_option Elab.async false
set_option linter.all false
set_option maxRecDepth 100000
set_option maxHeartbeats 0
namespace G
open PySem PySem.Spec PyProof.Rows PySem.W L2
/-- a list whose one object stays as it is -/
def exO (a : Addr) (o : Obj) : HO := .ext fun h => h.get? a = some o
section
variable {X : Cx}
/-- the items in the order of their keys, equal ones as they stood -/
def byKey (vs : List V) (kz : List PyData) : List V := ((vs.zip kz).mergeSort (dataLe false (·.2))).map (·.1)
/-- W i ks H: i items' keys are ks -/
def rSortK (X : Cx) : List V → List V → Hp → VK → Prop := fun xs zs H Q => ∃ (a : Addr) (vs : List V) (f : Addr) (fd : FuncData) (ps : List Str) (sp : Sp) (k : Nat), xs = [.ref a] ∧ zs = [.ref f] ∧ SqL X.K H a vs ∧ vs.length ≤ sizeLine ∧
  FnOk X.prog X.w X.K X.mg X.base (L2.CX X.prog X.w) k f fd ps sp ∧ Room k X.A.in1.in1 ∧ Binds X.K fd ps [] ∧ ∀ (D : Addr) (e : Nat), H D = none → ∃ W : Nat → List V → Hp → Prop, W 0 [] (upd H D (exO D (seqObj "list" #[] e))) ∧
    (∀ i ks H', W i ks H' → H' D = some (exO D (seqObj "list" #[] e))) ∧ (∀ i ks H' v, W i ks H' → vs[i]? = some v → sp [v] H' (fun kv H'' => W (i + 1) (ks ++ [kv]) H'') fun _ _ _ => False) ∧
    ∀ ks H', W vs.length ks H' → ∃ kz : List PyData, DpAll X.K H' ks kz ∧ AllAlike kz ∧ Sortable kz ∧ (∀ d ∈ kz, d.depth ≤ 8) ∧ Q (.ref D) (upd H' D (.lst (byKey vs kz)))
theorem each_dp {pins : List (Addr × Obj)} {σ : L2.St} {H : Hp} {s : Shared} (I : Inv X pins σ H s) : ∀ {ks : List V} {kz : List PyData} {us : List Value}, DpAll X.K H ks kz → Vals ks us → EachIs (fun v d => ∃ as, Reads s.heap v d as) us kz
  | _, _, _, .nil, .nil => .nil
  | _, _, _, .cons a b, .cons r t => .cons (Dp.reads I _ _ _ a r) (each_dp I b t)
theorem each_zip : ∀ {vs : List V} {us : List Value} {kz : List PyData}, Vals vs us → kz.length = vs.length → EachIs (fun (u : Value) (x : V × PyData) => RelV x.1 u) us (vs.zip kz)
  | _, _, [], .nil, _ => .nil
  | _, _, [], .cons _ _, h => by simp at h
  | _, _, d :: kz, .nil, h => by simp at h
  | _, _, d :: kz, .cons r t, h => .cons r (each_zip t (by simpa using h))
theorem vals_each : ∀ {out : List Value} {xs : List (V × PyData)}, EachIs (fun (u : Value) (x : V × PyData) => RelV x.1 u) out xs → Vals (xs.map (·.1)) out
  | _, _, .nil => .nil
  | _, _, .cons r t => .cons r (vals_each t)
theorem cr_sortK : CallRK X (.builtin "sorted") [Str.ofString "key"] (rSortK X) := by
  intro pins s σ H xs zs us ws Q I r rz h
  obtain ⟨a, vs, f, fd, ps, sp, k, rfl, rfl, hs, hvl, F, hr, hb, hW⟩ := h
  obtain rfl := Vals.ref1 r
  obtain rfl := Vals.ref1 rz
  obtain ⟨its, rv, pl, hz⟩ := I.list hs
  have hlen := rv.length
  refine sorted_of_sort (vs := its) pl.isList (by rw [← hlen]; exact hz) (ksk_s1 _ _) (fun _ => ksk_l1 _ _) fun E' => ?_
  show wpAny _ _ (Builtin.«list.sort» ⟨[.ref (s.heap.objs.size + 1)], [(Str.ofString "key", .ref f)]⟩) _ _ _
  rw [ksk_t1]
  generalize hD : s.heap.objs.size + 1 = D
  have ho : (copyHeap s.heap its).get? D = some (seqObj "list" its.toArray 0) := by rw [← hD]; exact copyHeap_at s.heap its
  obtain ⟨e1, ho1⟩ : ∃ e1, ((copyHeap s.heap its).update D (Obj.mapSeq fun _ => (#[] : Array Value))).get? D = some (seqObj "list" #[] e1) := ⟨_, get?_update_seq ho fun _ => #[]⟩
  have hDn : H D = none := I.hok.fresh (by omega)
  obtain ⟨W, w0, wD, wS, wE⟩ := hW D e1 hDn
  have hkS : (((copyHeap s.heap its).update D (Obj.mapSeq fun _ => (#[] : Array Value))).push (seqObj "tuple" its.toArray 0)).objs.size = (copyHeap s.heap its).objs.size + 1 := by rw [size_push', Heap.size_update]
  have hzi : its.length ≤ sizeLine := by rw [← hlen]; exact hz
  unfold ksk_tree
  refine wpAny_bind (listItems_at ho rfl ?_)
  refine wpAny_bind (listUpdate_at ho rfl ?_ (by rw [List.size_toArray]; exact hzi) (Nat.zero_le _))
  refine wpAny_bind (seqEpoch_at ho1 rfl ?_)
  refine wpAny_bind (wpAny_newTuple ?_ (by show its.length ≤ _; exact hzi))
  refine wpAny_bind (wpAny_newList ?_ (Nat.zero_le _))
  refine wpAny_holding ?_
  obtain ⟨kS, hK⟩ : ∃ kS, kS = (copyHeap s.heap its).objs.size + 1 := ⟨_, rfl⟩
  rw [← hK] at hkS
  have qD : @LT.lt Nat _ D (copyHeap s.heap its).objs.size := Heap.lt_size ho
  have qD' : @Eq Nat (s.heap.objs.size + 1) D := hD
  have qK : @Eq Nat kS ((copyHeap s.heap its).objs.size + 1) := hK
  have hKs : @LE.le Nat _ s.heap.objs.size kS := by omega
  have hKD : kS ≠ D := by
    intro z
    have z : @Eq Nat kS D := z
    omega
  -- the heap where the calls begin
  have keep : ∀ b o, s.heap.get? b = some o → (sortingHeap (copyHeap s.heap its) D its).get? b = some o := fun b o e =>
    sortingHeap_old (by
      have q : @LT.lt Nat _ b s.heap.objs.size := Heap.lt_size e
      intro z
      have z : @Eq Nat b D := z
      omega) (copyHeap_old e)
  have atD : (sortingHeap (copyHeap s.heap its) D its).get? D = some (seqObj "list" #[] e1) := Heap.get?_push_of_some _ (Heap.get?_push_of_some _ ho1)
  have atK : (sortingHeap (copyHeap s.heap its) D its).get? kS = some (seqObj "list" #[] 0) := by
    rw [← hkS]
    exact Heap.get?_push_size _ rfl
  have I3 : Inv X pins σ (upd H D (exO D (seqObj "list" #[] e1))) { s with heap := sortingHeap (copyHeap s.heap its) D its } :=
    I.laid (t' := s.toks) keep (by omega) ⟨atD, ⟨_, atD⟩, fun h1 h2 q st => st _ q⟩
  have nK : (upd H D (exO D (seqObj "list" #[] e1))) kS = none := by
    rw [upd_ne hKD]
    exact I.hok.fresh hKs
  obtain ⟨_, f1, f2, f3, f4, f5⟩ := I.fpOk (H' := upd H D (exO D (seqObj "list" #[] e1))) hKs nK
  have fpk : ∀ {H' : Hp}, H' kS = none → ∀ b ∈ [kS], FpOk X pins H' b := fun {H'} hn b hb => by
    rw [List.mem_singleton.mp hb]
    exact ⟨hn, f1, f2, f3, f4, f5⟩
  have I4 := I3.pinned (fp := [kS]) (fpk nK) (fun b hb => by
    rw [List.mem_singleton.mp hb]
    exact ⟨_, atK, fun v z => nomatch z⟩)
  rw [hkS]
  show wpAny _ _ (ksk_rest D (.ref f) false its.toArray e1 (.ref kS)) _ _ { s with heap := sortingHeap (copyHeap s.heap its) D its }
  unfold ksk_rest
  refine wpAny_bind (wpAny_rule ?_)
  rw [List.forIn_toArray]
  refine wpAny_bind (ksk_fold (fun i s' => ∃ ks H' kA e, Inv X (pins ++ pinsAt [kS] s'.heap) σ H' s' ∧ s'.heap.get? kS = some (seqObj "list" kA e) ∧ H' kS = none ∧ Vals ks kA.toList ∧ ks.length = i ∧ W i ks H') its 0 _ ⟨[], _, #[], 0, I4, atK, nK, .nil, rfl, w0⟩ ?step ?done)
  case step =>
    rintro j x s' hx ⟨ks, H', kA, e, I', atK', nK', rk, hkl, w'⟩
    simp only [Nat.zero_add] at hkl w' ⊢
    have hj' : j < vs.length := by
      have := (List.getElem?_eq_some_iff.mp hx).1
      omega
    obtain ⟨u0, hu0, rx⟩ := Vals.get rv (List.getElem?_eq_getElem hj')
    rw [hx] at hu0
    cases hu0
    have hv := List.getElem?_eq_getElem hj'
    generalize vs[j] = v at rx hv
    have hj : j < its.length := (List.getElem?_eq_some_iff.mp hx).1
    have hsp := wS j ks H' v w' hv
    have hl := F.len _ _ _ _ hsp
    have kAl : kA.size ≤ its.length := by
      have h3 : kA.size = ks.length := by simpa using (Vals.length rk).symm
      rw [h3, hkl]
      exact Nat.le_of_lt hj
    refine wpAny_bind (wpAny_attempt (wpAny_mono (Q := fun u s'' => EP X (pins ++ pinsAt [kS] s'.heap) σ (fun kv H'' => W (j + 1) (ks ++ [kv]) H'') u s'') (E := fun _ _ => False) ?_ (fun u s'' he => ?_) fun _ _ hF => hF.elim))
    · refine wpAny_call (codeAny_mono (F.run X.A.in1.in1 X.stack s' H' ⟨[x], []⟩ [x] [v] _ _ hr I'.env0.in1.in1 (by
        have := hb s' [x] I'.kIn (by simpa using hl)
        simpa using this) (.cons rx .nil) hsp) fun r s'' hq => ?_)
      cases r with
      | error e => exact False.elim (let ⟨_, _, _, _, _, _, _, _, _, _, _, _, z⟩ := hq; z)
      | ok fl =>
        cases fl with
        | ret u => exact I'.after hq
        | next => exact False.elim hq
        | brk => exact False.elim hq
        | cont => exact False.elim hq
    · obtain ⟨kv, H'', I'', ru, w''⟩ := he
      obtain ⟨atK'', nK'', _⟩ := I''.pin (kS, seqObj "list" kA e) (List.mem_append_right _ (List.mem_append_right _ (mem_pinsAt (List.mem_singleton.mpr rfl) atK')))
      simp only at atK'' nK''
      have s1 := Heap.SameBut.update s''.heap kS (Obj.mapSeq (·.push u))
      obtain ⟨c2, hc2⟩ : ∃ c2, (s''.heap.update kS (Obj.mapSeq (·.push u))).get? kS = some (seqObj "list" (kA.push u) c2) := ⟨_, get?_update_seq atK'' (·.push u)⟩
      try dsimp only
      refine wpAny_bind (listUpdate_at atK'' rfl ?_ (Nat.le_trans kAl hzi) (Nat.le_trans (Nat.le_of_eq (Array.size_push ..)) (Nat.succ_le_succ (Nat.le_trans kAl hzi))))
      have J : Inv X pins σ H'' { s'' with heap := s''.heap.update kS (Obj.mapSeq (·.push u)) } := (I''.unpinned).turned (t' := s''.toks) (fun b o hb e => (s1.2 b hb).trans e) nK'' f1 f3 f4 f5
      refine wpAny_pure ⟨rfl, ks ++ [kv], H'', kA.push u, c2, J.pinned (fp := [kS]) (fpk nK'') (fun b hb => ?_), hc2, nK'', ?_, by rw [List.length_append, hkl]; rfl, w''⟩
      · rw [List.mem_singleton.mp hb]
        exact ⟨_, hc2, fun v z => nomatch z⟩
      · rw [Array.toList_push]
        exact rk.append (.cons ru .nil)
  case done =>
    rintro s' ⟨ks, H', kA, e, I', atK', nK', rk, hkl, w'⟩
    rw [Nat.zero_add, ← hlen] at w' hkl
    obtain ⟨kz, dp, hal, hsk, hdp, q⟩ := wE ks H' w'
    have hD' := wD _ _ _ w'
    have atD' : s'.heap.get? D = some (seqObj "list" #[] e1) := (show ObjOk X.prog X.w H' s'.heap D (exO D (seqObj "list" #[] e1)) from I'.hok D _ hD').1
    have hk' := each_dp I' dp rk
    have hkz : kz.length = vs.length := by
      have h1 := hk'.length
      have h2 := Vals.length rk
      rw [← hkl, h2, h1]
    have hsz : kA.size = its.length := by
      have h2 := Vals.length rk
      rw [Array.length_toList] at h2
      rw [← hlen, ← hkl]
      exact h2.symm
    refine wpAny_bind (listItems_at atK' rfl ?_)
    refine keyH_end (κ := dataKind s'.heap kz) (h₁ := hideAll s'.heap [kS]) (fun b o _ e => of_hideAll _ e) (hideAll_none _ (List.mem_singleton.mpr rfl)) atK' atD' hKD
      (SortsAt.data (s := s') hk' hal hsk fun d hd => ?_) hsz hzi fun h' tk c kp hc => ⟨rfl, ?_⟩
    · have := hdp d hd
      have := hr.un
      omega
    · have out := keyedOut_each (R := fun (u : Value) (x : V × PyData) => RelV x.1 u) (bs := vs.zip kz) (k := (·.2)) (rev := false) (vs := its) (out := sortVals (dataKind s'.heap kz) false kA.toList its) (by
        have : (vs.zip kz).map (·.2) = kz := List.map_snd_zip (by omega)
        rw [this]
        exact ⟨s'.heap, kA.toList, hal, rfl, hk'⟩) (each_zip rv hkz)
      have ov := vals_each out
      have J0 : Inv X pins σ H' { s' with heap := hideAll s'.heap [kS] } := (I'.unpinned).turned (t' := s'.toks) (fun b o hb e => hideAll_get _ e (fun z => hb (List.mem_singleton.mp z))) nK' f1 f3 f4 f5
      have lz : (byKey vs kz).length ≤ sizeLine := by
        unfold byKey
        rw [List.length_map, List.length_mergeSort, List.length_zip]
        omega
      have J1 : Inv X pins σ (upd H' D (.lst (byKey vs kz))) { s' with heap := h', toks := tk } :=
        J0.write (x := D) (e := D) (t' := tk) (by rw [hD']; exact True.intro) (.inl rfl) (fun b u hb e => kp b u hb e) ⟨_, hc⟩ ⟨lz, _, c, ov, hc⟩
      exact ⟨.ref D, _, J1, rfl, q⟩
end
end G
set_option Elab.async false
set_option linter.all false
set_option maxRecDepth 100000
namespace G
open PySem L2
/-- a text, by its code points -/
abbrev T := List Nat
def tS (t : T) : Str := ⟨t.toArray⟩
/-- data: trees; ref n is the n-th cell of the store -/
inductive D where
  | non | bl (b : Bool) | int (i : Int) | str (s : T)
  | tup (xs : List D) | lst (xs : List D) | scr (ns : List Int)
  | ins (c : Nat) (fs : List D)
  | ref (n : Nat)
  | dfn (f : Nat)
inductive Cell where
  | lst (xs : List D)
  | ins (c : Nat) (fs : List D)
  | dct (kvs : List (T × D))
  | key (ks : List D)
abbrev Stt := List Cell
abbrev Env := List (Option D)
/-- an expression's end -/
inductive R (α : Type) where
  | ok (a : α) (s : Stt)
  | exc (c : Nat) (fs : List D) (s : Stt)
  | stuck
def R.bind {α β : Type} (r : R α) (f : α → Stt → R β) : R β := match r with
  | .ok a s => f a s
  | .exc c fs s => .exc c fs s
  | .stuck => .stuck
def R.of {α : Type} (o : Option α) (s : Stt) : R α := match o with
  | some a => .ok a s
  | none => .stuck
/-- a statement's end -/
inductive RS where
  | nx (ρ : Env) (s : Stt)
  | rt (d : D) (s : Stt)
  | bk (ρ : Env) (s : Stt)
  | ct (ρ : Env) (s : Stt)
  | exc (c : Nat) (fs : List D) (ρ : Env) (s : Stt)
  | stuck
def RS.seq (r : RS) (f : Env → Stt → RS) : RS := match r with
  | .nx ρ s => f ρ s
  | r => r
/-- an expression within a statement -/
def R.st {α : Type} (r : R α) (ρ : Env) (f : α → Stt → RS) : RS := match r with
  | .ok a s => f a s
  | .exc c fs s => .exc c fs ρ s
  | .stuck => .stuck
inductive Bin | add | sub | mul | fdiv | mod | pow
  deriving DecidableEq
inductive Cmp | eq | ne | lt | le | gt | ge | isN | isnN | isB | isnB | in_ | nin
  deriving DecidableEq
/-- built-ins by their name -/
inductive Bi | len | abs | list | tuple | int | str | all | any | sum | min | max
  deriving DecidableEq
/-- built-in methods -/
inductive Me | append | pop | popAt | index | rfind | upper | lower | lindex | join | split | part | reverse | clear | insert | remove | count
  deriving DecidableEq
/-- what is walked -/
inductive It | seq | range1 | range2 | range3 | enum
  deriving DecidableEq
inductive E where
  | var (i : Nat)
  | int (i : Int) | bl (b : Bool) | non | str (s : T)
  | glob (g : Nat)
  | bin (o : Bin) (a b : E)
  | neg (a : E) | not (a : E)
  | cmp (o : Cmp) (a b : E)
  | chain (o o' : Cmp) (a b c : E)
  | and (as : List E) | or (as : List E)
  | ite (c a b : E)
  | tup (as : List E)
  | lst (cell : Bool) (as : List E)
  | ix (a i : E)
  | sl (a : E) (lo hi : Option E)
  | call (f : Nat) (as : List E)
  | callk (j : Nat) (as ks : List E)
  | bi (b : Bi) (a : E)
  | isi (a : E) (many : Bool) (ts : List String)
  | met (m : Me) (a : E) (as : List E)
  | rev (a : E)
  | mk (a : E)
  | comp (cell : Bool) (e : E) (own : List Nat) (tg : List Nat) (k : It) (src : List E) (c : Option E)
  | told (j : Nat) (e : E)
  | fstr (ps : List E)
  | fmt (e : E)
  | new (c : Nat) (as : List E)
  | fld (a : E) (f : Str)
  | mth (a : E) (m : Str) (as : List E)
  | isc (a : E) (c : Nat)
  | eqo (a b : E)
  | compc (e : E) (own : List Nat) (tg : List Nat) (src : E) (c : Option E)
  | max2 (a b : E)
  | dget (d k : E)
  | dhas (ng : Bool) (k d : E)
  | dct1 (k v : E)
  | kcomp (e : E) (own : List Nat) (tg : List Nat) (src : List E)
  | khas (ng : Bool) (k d : E)
  | klen (a : E)
  | sortk (f : Nat) (a : E)
  | revc (a : E)
  | catc (a b : E)
  | revk (a : E)
  | cmps (ng : Bool) (a b : E)
  | compe (e : E) (own : List Nat) (tg : List Nat) (src : List E) (c : Option E)
  | slc (a : E) (lo hi : Option E)
inductive S where
  | set (i : Nat) (e : E)
  | par (is : List Nat) (es : List E)
  | unp (is : List Nat) (e : E)
  | unpl (is : List Nat) (e : E)
  | setix (o i e : E)
  | dset (d k e : E)
  | aug (i : Nat) (o : Bin) (e : E)
  | expr (e : E)
  | ret (e : E) | retN
  | ite (c : E) (a b : List S)
  | for (tg : List Nat) (k : It) (src : List E) (b : List S)
  | while (c : E) (b : List S)
  | pass | brk | cont
  | raise (c : Nat) (as : List E)
  | setfld (o : E) (f : Str) (e : E)
  | unpfld (i : Nat) (fs : List Str) (e : E)
  | forc (tg : List Nat) (e : E) (b : List S)
  | fore (tg : List Nat) (src : List E) (b : List S)
  | scope (b : List S)
  | fresh (b : List S)
  | never
structure Def where
  name : Str
  pos : Bool
  ps : List Str
  N : List Str
  body : List S
  keep : Bool
  lam : Bool := false
  /-- the class whose method it is -/
  own : Option Str := none
/-- an own class: its name, the fields in the order in which they are set, its __init__, its methods -/
structure OCls where
  name : Str
  fs : List Str
  init : Nat
  meths : List (Str × Nat)
/-- a call with keywords: the def, how many by place, the names, where each parameter comes from (inl j: the j-th value of all that are written; inr: a default) -/
structure Shape where
  f : Nat
  n : Nat
  ks : List Str
  src : List (Sum Nat D)
/-- an exception's class: its name, the fields behind called -/
structure XCls where
  name : T
  fs : List Str
/-- a def that calls what it got and tells how that ended: its name, its parameter, which classes are caught, what is told of them -/
structure Told where
  name : Str
  par : Str
  as_ : Str
  hs : List (List Str × List Nat × List Str)
structure Prog where
  defs : List Def
  shapes : List Shape
  consts : List (Str × D)
  xcls : List XCls := []
  tolds : List Told := []
  cls : List OCls := []
/-- an exception's fields: called ahead -/
def XCls.all (x : XCls) : List Str := "called" :: x.fs
def tellF (x : XCls) (fs : List D) : List Str → Option (List D)
  | [] => some []
  | n :: ns => match (x.all.zip fs).lookup n, tellF x fs ns with
    | some d, some ds => some (d :: ds)
    | _, _ => none
def tellH (x : XCls) (c : Nat) (fs : List D) : List (List Str × List Nat × List Str) → Option D
  | [] => none
  | (_, cs, ns) :: r => if cs.contains c = true then (tellF x fs ns).map .tup else tellH x c fs r
/-- what is told of an exception -/
def toldD (P : Prog) (j c : Nat) (fs : List D) : Option D := match P.tolds[j]?, P.xcls[c]? with
  | some td, some x => tellH x c fs td.hs
  | _, _ => none
def toldT : T := [116, 111, 108, 100]
mutual
def D.toP : D → Option PyData
  | .non => some .none
  | .bl b => some (.bool b)
  | .int i => some (.int i)
  | .str s => some (.str (tS s))
  | .tup xs => (D.toPs xs).map .tuple
  | .lst xs => (D.toPs xs).map .list
  | _ => none
def D.toPs : List D → Option (List PyData)
  | [] => some []
  | x :: xs => match D.toP x, D.toPs xs with
    | some p, some ps => some (p :: ps)
    | _, _ => none
end
mutual
def D.under (n : Nat) : D → Bool
  | .tup xs => D.unders n xs
  | .lst xs => D.unders n xs
  | .ins _ xs => D.unders n xs
  | .ref m => decide (m < n)
  | _ => true
def D.unders (n : Nat) : List D → Bool
  | [] => true
  | x :: xs => D.under n x && D.unders n xs
end
def Cell.under (n : Nat) : Cell → Bool
  | .lst xs => D.unders n xs
  | .ins _ xs => D.unders n xs
  | .dct kvs => D.unders n (kvs.map (·.2))
  | .key ks => D.unders n ks
mutual
def D.freeze1 (n : Nat) (s : Stt) : D → Option D
  | .tup xs => (D.freezes1 n s xs).map .tup
  | .lst xs => (D.freezes1 n s xs).map .lst
  | .ins c xs => (D.freezes1 n s xs).map (.ins c)
  | .ref m => if m < n then some (.ref m) else match s[m]? with
    | some (.lst xs) => if D.unders n xs then some (.lst xs) else none
    | _ => none
  | d => some d
def D.freezes1 (n : Nat) (s : Stt) : List D → Option (List D)
  | [] => some []
  | x :: xs => match D.freeze1 n s x, D.freezes1 n s xs with
    | some p, some ps => some (p :: ps)
    | _, _ => none
end
mutual
def D.freeze (n : Nat) (s : Stt) : D → Option D
  | .tup xs => (D.freezes n s xs).map .tup
  | .lst xs => (D.freezes n s xs).map .lst
  | .ins c xs => (D.freezes n s xs).map (.ins c)
  | .ref m => if m < n then some (.ref m) else match s[m]? with
    | some (.lst xs) => if D.unders n xs then some (.lst xs) else (D.freezes1 n s xs).map .lst
    | _ => none
  | d => some d
def D.freezes (n : Nat) (s : Stt) : List D → Option (List D)
  | [] => some []
  | x :: xs => match D.freeze n s x, D.freezes n s xs with
    | some p, some ps => some (p :: ps)
    | _, _ => none
end
def cut {α : Type} (xs : List α) (lo hi : Option Int) : List α := (xs.drop (HT.sIx xs.length 0 lo)).take (HT.sIx xs.length xs.length hi - HT.sIx xs.length 0 lo)
def binF (o : Bin) (a b : D) : Option D := match o, a, b with
  | .add, .int i, .int j => some (.int (i + j))
  | .add, .str s, .str t => if s.length + t.length ≤ sizeLine then some (.str (s ++ t)) else none
  | .add, .tup s, .tup t => if s.length + t.length ≤ sizeLine then some (.tup (s ++ t)) else none
  | .add, .lst s, .lst t => if s.length + t.length ≤ sizeLine then some (.lst (s ++ t)) else none
  | .sub, .int i, .int j => some (.int (i - j))
  | .mul, .int i, .int j => if i.natAbs.log2 + j.natAbs.log2 < 1000000 then some (.int (i * j)) else none
  | .mul, .str t, .int n => if 2 ≤ n ∧ n < 2 ^ 62 ∧ t.length ≠ 0 ∧ t.length * n.toNat ≤ sizeLine then some (.str (List.replicate n.toNat t).flatten) else none
  | .mul, .lst xs, .int j => if -(2 ^ 63) ≤ j ∧ j < 2 ^ 63 ∧ xs.length * j.toNat ≤ sizeLine then some (.lst (List.replicate j.toNat xs).flatten) else none
  | .fdiv, .int i, .int j => if 0 < j ∧ Builtin.divisionGoesByPylong i j = false then some (.int (i / j)) else none
  | .mod, .int i, .int j => if 0 < j then some (.int (i % j)) else none
  | .pow, .int i, .int j => if 0 ≤ j ∧ j ≤ 1000000 ∧ i.natAbs < 2 ^ 64 then some (.int (i ^ j.toNat)) else none
  | _, _, _ => none
def augF (o : Bin) (a b : D) : Option D := match o, a, b with
  | .add, .int a, .int b => some (.int (a + b))
  | .add, .str a, .str b => if a.length + b.length ≤ sizeLine then some (.str (a ++ b)) else none
  | _, _, _ => none
def eqF (a b : D) : Option Bool := match a.toP, b.toP with
  | some p, some q => if SeqAt.shaped p = true ∧ SeqAt.shaped q = true then some (PyData.eqv p q) else none
  | _, _ => none
def strsD : List D → Option (List T)
  | [] => some []
  | .str b :: xs => (strsD xs).map (b :: ·)
  | _ :: _ => none
def intsF : List D → Option (List Int)
  | [] => some []
  | .int b :: xs => (intsF xs).map (b :: ·)
  | _ :: _ => none
/-- which are None, among numbers and texts -/
def nonsF : List D → Option (List Bool)
  | [] => some []
  | .non :: xs => (nonsF xs).map (true :: ·)
  | .int _ :: xs => (nonsF xs).map (false :: ·)
  | .str _ :: xs => (nonsF xs).map (false :: ·)
  | _ :: _ => none
/-- a text in a text -/
def inT (i j : T) : Bool := match i with
  | [c] => decide (c ∈ j)
  | i => !(Builtin.Str.occurrences (tS j) (tS i) 0 (tS j).length 1).isEmpty
/-- a text or a number in a row of such -/
def inF (a : D) (xs : List D) : Option Bool := match a with
  | .str t => (strsD xs).map fun ts => decide (t ∈ ts)
  | .int i => (intsF xs).map fun is => decide (i ∈ is)
  | .non => (nonsF xs).map fun bs => bs.any id
  | _ => none
/-- data in a list of data -/
def inL (a : D) (xs : List D) : Option Bool := match a.toP, D.toPs xs with
  | some d, some ds => if SeqAt.shaped d = true ∧ SeqAt.shaped (.list ds) = true then some (ds.any fun z => PyData.eqv z d) else none
  | _, _ => none
def inD (a b : D) : Option Bool := match a, b with
  | .str i, .str j => some (inT i j)
  | a, .tup xs => match inF a xs with
    | some k => some k
    | none => inL a xs
  | a, .lst xs => match inF a xs with
    | some k => some k
    | none => inL a xs
  | _, _ => none
def cmpF (o : Cmp) (a b : D) : Option D := match o, a, b with
  | .eq, a, b => (eqF a b).map .bl
  | .ne, a, b => (eqF a b).map fun k => .bl (!k)
  | .lt, .int i, .int j => some (.bl (decide (i < j)))
  | .lt, .tup [.int i, .str s], .tup [.int j, .str t] => some (.bl (if i = j then (if s = t then false else decide (s < t)) else decide (i < j)))
  | .le, .int i, .int j => some (.bl (decide (i ≤ j)))
  | .gt, .int i, .int j => some (.bl (decide (j < i)))
  | .ge, .int i, .int j => some (.bl (decide (j ≤ i)))
  | .isN, a, .non => match a with
    | .non => some (.bl true)
    | _ => some (.bl false)
  | .isnN, a, .non => match a with
    | .non => some (.bl false)
    | _ => some (.bl true)
  | .isB, .bl i, .bl j => some (.bl (decide (i = j)))
  | .isnB, .bl i, .bl j => some (.bl (!decide (i = j)))
  | .in_, a, b => (inD a b).map .bl
  | .nin, a, b => (inD a b).map fun k => .bl (!k)
  | _, _, _ => none
def truF (s : Stt) : D → Option Bool
  | .non => some false
  | .bl b => some b
  | .int i => some (i != 0)
  | .str t => if t.length ≤ sizeLine then some ((t.length : Int) != 0) else none
  | .tup xs => some (!xs.isEmpty)
  | .lst xs => some (!xs.isEmpty)
  | .ref n => match s[n]? with
    | some (.lst xs) => some (!xs.isEmpty)
    | _ => none
  | _ => none
def ixF (s : Stt) (a i : D) : Option D := match a, i with
  | .tup xs, .int i => atI xs i
  | .lst xs, .int i => atI xs i
  | .str t, .int i => if t.length ≤ sizeLine then (atI t i).map fun c => .str [c] else none
  | .ref n, .int i => match s[n]? with
    | some (.lst xs) => atI xs i
    | _ => none
  | _, _ => none
def slF (a : D) (lo hi : Option Int) : Option D := match a with
  | .lst xs => some (.lst (cut xs lo hi))
  | .scr ns => some (.lst ((cut ns lo hi).map .int))
  | .tup xs => if HT.sIx xs.length 0 lo = 0 ∧ HT.sIx xs.length xs.length hi = xs.length then none else some (.tup (cut xs lo hi))
  | .str t => if t.length ≤ sizeLine then some (.str (cut t lo hi)) else none
  | _ => none
/-- turned about -/
def revF : D → Option D
  | .str t => if t.length ≤ sizeLine then some (.str t.reverse) else none
  | .lst xs => some (.lst xs.reverse)
  | _ => none
def bools : List D → Option (List Bool)
  | [] => some []
  | .bl b :: xs => (bools xs).map (b :: ·)
  | _ :: _ => none
def intsD : List D → Option (List Int)
  | [] => some []
  | .int b :: xs => (intsD xs).map (b :: ·)
  | _ :: _ => none
/-- a list, a tuple or a cell, as it stands -/
def itemsF (s : Stt) : D → Option (List D)
  | .lst xs => some xs
  | .tup xs => some xs
  | .ref n => match s[n]? with
    | some (.lst xs) => some xs
    | _ => none
  | _ => none
def listF (s : Stt) : D → Option (List D)
  | .lst xs => some xs
  | .ref n => match s[n]? with
    | some (.lst xs) => some xs
    | _ => none
  | _ => none
/-- a number's figures -/
def intT (i : Int) : T := (Str.ofString (toString i)).cps.toList
/-- a value as a text within a text -/
def fmtF : D → Option D
  | .str t => if t.length ≤ sizeLine then some (.str t) else none
  | .int i => if i.natAbs.log2 < 1920 then some (.str (intT i)) else none
  | _ => none
def biF (b : Bi) (s : Stt) (a : D) : Option D := match b, a with
  | .len, .str t => if t.length ≤ sizeLine then some (.int t.length) else none
  | .len, a => (itemsF s a).map fun xs => .int xs.length
  | .abs, .int i => some (.int (if i < 0 then -i else i))
  | .list, a => (itemsF s a).map .lst
  | .int, .int i => some (.int i)
  | .int, .bl k => some (.int (if k then 1 else 0))
  | .int, .str t => if t.length ≤ 640 then (PySem.intText? (tS t)).map .int else none
  | .str, .int i => if i.natAbs.log2 < 1920 then some (.str (intT i)) else none
  | .all, a => (listF s a).bind fun xs => (bools xs).map fun bs => .bl (bs.all id)
  | .any, a => (listF s a).bind fun xs => (bools xs).map fun bs => .bl (bs.any id)
  | .sum, a => (listF s a).bind fun xs => (intsD xs).map fun bs => .int bs.sum
  | .tuple, .tup xs => some (.tup xs)
  | .tuple, a => (listF s a).map .tup
  | .min, a => (listF s a).bind fun xs => (intsD xs).bind fun bs => bs.min?.map .int
  | .max, a => (listF s a).bind fun xs => (intsD xs).bind fun bs => bs.max?.map .int
  | _, _ => none
/-- data as it stands, a cell of data too -/
def D.toPS (s : Stt) : D → Option PyData
  | .ref n => match s[n]? with
    | some (.lst xs) => (D.toPs xs).map .list
    | _ => none
  | d => d.toP
def eqFs (s : Stt) (a b : D) : Option Bool := match D.toPS s a, D.toPS s b with
  | some p, some q => if SeqAt.shaped p = true ∧ SeqAt.shaped q = true then some (PyData.eqv p q) else none
  | _, _ => none
/-- two lists behind one another -/
def catF (s : Stt) (x y : D) : Option (List D) := match listF s x, listF s y with
  | some xs, some ys => if xs.length + ys.length ≤ sizeLine then some (xs ++ ys) else none
  | _, _ => none
/-- a cell, turned about -/
def revC (s : Stt) : D → Option D
  | .ref n => match s[n]? with
    | some (.lst xs) => some (.lst xs.reverse)
    | _ => none
  | _ => none
def dget (kvs : List (T × D)) (t : T) : Option D := (kvs.find? fun kv => decide (kv.1 = t)).map (·.2)
def dput (kvs : List (T × D)) (t : T) (y : D) : List (T × D) := if kvs.any (fun kv => decide (kv.1 = t)) then kvs.map (fun kv => if kv.1 = t then (kv.1, y) else kv) else kvs ++ [(t, y)]
def dgetF (s : Stt) : D → D → Option D
  | .ref n, .str t => match s[n]? with
    | some (.dct kvs) => dget kvs t
    | _ => none
  | _, _ => none
/-- x in d (ng: not in) -/
def dhasF (ng : Bool) (s : Stt) : D → D → Option D
  | .str t, .ref n => match s[n]? with
    | some (.dct kvs) => some (.bl ((dget kvs t).isSome != ng))
    | _ => none
  | _, _ => none
mutual
def nkey : D → Option NestedKey
  | .non => some .none
  | .int i => some (.num i)
  | .str t => some (.text (tS t))
  | .tup xs => (nkeys xs).map .tup
  | _ => none
def nkeys : List D → Option (List NestedKey)
  | [] => some []
  | x :: xs => match nkey x, nkeys xs with
    | some k, some ks => some (k :: ks)
    | _, _ => none
end
def tkey : D → Option NestedKey
  | .tup xs => match nkey (.tup xs) with
    | some k => if k.depth ≤ 8 then some k else none
    | none => none
  | _ => none
def khas (ks : List D) (k : NestedKey) : Bool := (ks.map tkey).contains (some k)
def kput (ks : List D) (y : D) : Option (List D) := match tkey y with
  | some k => some (if khas ks k = true then ks else ks ++ [y])
  | none => none
/-- x in d (ng: not in) -/
def khasF (ng : Bool) (s : Stt) : D → D → Option D
  | x, .ref n => match s[n]?, tkey x with
    | some (.key ks), some k => some (.bl (khas ks k != ng))
    | _, _ => none
  | _, _ => none
def klenF (s : Stt) : D → Option D
  | .ref n => match s[n]? with
    | some (.key ks) => some (.int ks.length)
    | _ => none
  | _ => none
def allAlikeB (ks : List PyData) : Bool := ks.all fun d => ks.all fun e => PySem.W.alike d e
def sortableB (ks : List PyData) : Bool := (ks.all fun d => match d with | .tuple (_ :: _) => true | _ => false) || ks.all fun d => match d with | .none => false | .tuple _ => false | _ => true
def byKeyD (xs : List D) (kz : List PyData) : List D := ((xs.zip kz).mergeSort (PySem.W.dataLe false (·.2))).map (·.1)
def sortD (xs ks : List D) : Option (List D) := match D.toPs ks with
  | some kz => if xs.length ≤ sizeLine ∧ kz.length = xs.length ∧ allAlikeB kz = true ∧ sortableB kz = true ∧ (kz.all fun d => decide (d.depth ≤ 8)) = true then some (byKeyD xs kz) else none
  | none => none
/-- the greater of two numbers -/
def max2F : D → D → Option D
  | .int i, .int j => some (.int (if j > i then j else i))
  | _, _ => none
def tyN : D → Option String
  | .non => some "NoneType"
  | .bl _ => some "bool"
  | .int _ => some "int"
  | .str _ => some "str"
  | .tup _ => some "tuple"
  | .lst _ => some "list"
  | _ => none
/-- a built-in type's heirs among those in use -/
def heir (a b : String) : Bool := a == b || (a == "bool" && b == "int")
def isiF (a : D) (ts : List String) : Option D := (tyN a).map fun n => .bl (ts.any (heir n))
/-- of a cell, too -/
def isiS (s : Stt) (x : D) (ts : List String) : Option D := match x with
  | .ref n => match s[n]? with
    | some (.lst _) => some (.bl (ts.any (heir "list")))
    | _ => none
  | x => isiF x ts
/-- where d stands first in a row of data -/
def remF (d : D) (xs : List D) : Option Nat := match d.toP, D.toPs xs with
  | some p, some ps => if SeqAt.shaped p = true ∧ ps.all SeqAt.shaped = true then ps.findIdx? fun q => PyData.eqv q p else none
  | _, _ => none
/-- a list's method: what it tells, the list behind it -/
def lmF (m : Me) (xs ys : List D) : Option (D × List D) := match m, ys with
  | .append, [d] => if xs.length < sizeLine then some (.non, xs ++ [d]) else none
  | .pop, [] => match xs[xs.length - 1]? with
    | some y => some (y, xs.dropLast)
    | none => none
  | .popAt, [.int i] => if -(2 ^ 63) ≤ i ∧ i < 2 ^ 63 then (match ixN xs.length i with
    | some k => (match xs[k]? with
      | some y => some (y, xs.eraseIdx k)
      | none => none)
    | none => none) else none
  | .reverse, [] => some (.non, xs.reverse)
  | .clear, [] => some (.non, [])
  | .insert, [.int i, d] => if 0 ≤ i ∧ i < 2 ^ 63 ∧ xs.length < sizeLine then some (.non, xs.take i.toNat ++ [d] ++ xs.drop i.toNat) else none
  | .remove, [d] => (remF d xs).map fun j => (.non, xs.eraseIdx j)
  | _, _ => none
/-- a method of a cell or a value -/
def meF (m : Me) (s : Stt) (a : D) (as : List D) : R D := match a with
  | .ref n => match s[n]? with
    | some (.lst xs) => match lmF m xs as with
      | some (z, xs') => .ok z (s.set n (.lst xs'))
      | none => .stuck
    | _ => .stuck
  | .str t => match m, as with
    | .rfind, [.str u] => .ok (.int (Txt.rfind (tS t) (tS u))) s
    | .index, [.str u] => match Builtin.Str.occurrences (tS t) (tS u) 0 (tS t).length 1 with
      | i :: _ => .ok (.int (i : Nat)) s
      | [] => .stuck
    | .upper, [] => if t.length ≤ 5592405 then .ok (.str (Txt.upper (tS t)).cps.toList) s else .stuck
    | .lower, [] => if t.length ≤ 5592405 then .ok (.str (Txt.lower (tS t)).cps.toList) s else .stuck
    | .join, [d] => match (itemsF s d).bind strsD with
      | some ts => if (ts.map List.length).sum + ts.length * t.length ≤ 16777216 then .ok (.str (Txt.join (tS t) (ts.map tS)).cps.toList) s else .stuck
      | none => .stuck
    | .split, [.str u] => if u.length ≠ 0 ∧ t.length + 2 ≤ sizeLine then .ok (.lst ((Txt.split (tS t) (tS u)).map fun z => .str z.cps.toList)) s else .stuck
    | .part, [.str u] => if u.length ≠ 0 ∧ t.length ≤ sizeLine then .ok (.tup [.str (Txt.partition (tS t) (tS u)).1.cps.toList, .str (Txt.partition (tS t) (tS u)).2.1.cps.toList, .str (Txt.partition (tS t) (tS u)).2.2.cps.toList]) s else .stuck
    | _, _ => .stuck
  | .lst xs => match m, as with
    | .lindex, [.bl b] => match bools xs with
      | some bs => match bs.findIdx? (· == b) with
        | some j => .ok (.int (j : Nat)) s
        | none => .stuck
      | none => .stuck
    | .count, [.str t] => match strsD xs with
      | some ts => .ok (.int (ts.countP fun y => decide (y = t) : Nat)) s
      | none => .stuck
    | _, _ => .stuck
  | _ => .stuck
/-- the receiver is of the method's type -/
def isCell (s : Stt) : D → Bool
  | .ref n => match s[n]? with
    | some (.lst _) => true
    | _ => false
  | _ => false
def meOk (m : Me) (s : Stt) (x : D) : Bool := match m, x with
  | .append, x => isCell s x
  | .pop, x => isCell s x
  | .popAt, x => isCell s x
  | .reverse, x => isCell s x
  | .clear, x => isCell s x
  | .insert, x => isCell s x
  | .remove, x => isCell s x
  | .join, .str _ => true
  | .split, .str _ => true
  | .part, .str _ => true
  | .index, .str _ => true
  | .rfind, .str _ => true
  | .upper, .str _ => true
  | .lower, .str _ => true
  | .lindex, .lst _ => true
  | .count, .lst _ => true
  | _, _ => false
/-- what is walked, item by item -/
def srcF (k : It) (s : Stt) (ds : List D) : Option (List D) := match k, ds with
  | .seq, [.lst xs] => some xs
  | .seq, [.tup xs] => some xs
  | .seq, [.str t] => some (t.map fun c => .str [c])
  | .range1, [.int j] => if -(2 ^ 62) ≤ j ∧ j < 2 ^ 62 then some ((List.range j.toNat).map fun i => .int (i : Nat)) else none
  | .range2, [.int i, .int j] => if -(2 ^ 62) ≤ i ∧ i < 2 ^ 62 ∧ -(2 ^ 62) ≤ j ∧ j < 2 ^ 62 then some ((List.range (j - i).toNat).map fun n => .int (i + (n : Nat))) else none
  | .range3, [.int i, .int j, .int c] => if c = -1 ∧ -(2 ^ 62) ≤ i ∧ i < 2 ^ 62 ∧ -(2 ^ 62) ≤ j ∧ j < 2 ^ 62 then some ((List.range (i - j).toNat).map fun n => .int (i - (n : Nat))) else none
  | .enum, [.lst xs] => some (xs.mapIdx fun i x => .tup [.int i, x])
  | .enum, [.str t] => some (t.mapIdx fun i c => .tup [.int i, .str [c]])
  | _, _ => none
def wipeE (ρ : Env) : List Nat → Env
  | [] => ρ
  | v :: vs => (wipeE ρ vs).set v none
/-- one name, or several of a tuple -/
def tgF (tg : List Nat) (d : D) (ρ : Env) : Option Env := match tg, d with
  | [i], d => some (ρ.set i (some d))
  | is, .tup ds => if is.length = ds.length then some ((is.zip ds).foldl (fun ρ p => ρ.set p.1 (some p.2)) ρ) else none
  | _, _ => none
abbrev CallS := Nat → List D → Stt → R D
/-- the keys of the items, one by one -/
def keysF (g : List D → Stt → R D) : List D → List D → Stt → R (List D)
  | [], acc, s => .ok acc s
  | x :: xs, acc, s => match g [x] s with
    | .ok d s' => keysF g xs (acc ++ [d]) s'
    | _ => .stuck
/-- a comprehension's turns -/
def loopC (body : D → List D → Stt → R (List D)) : List D → List D → Stt → R (List D)
  | [], acc, s => .ok acc s
  | d :: ds, acc, s => match body d acc s with
    | .ok acc' s' => loopC body ds acc' s'
    | _ => .stuck
def loopF (body : D → Env → Stt → RS) : List D → Env → Stt → RS
  | [], ρ, s => .nx ρ s
  | d :: ds, ρ, s => match body d ρ s with
    | .nx ρ' s' => loopF body ds ρ' s'
    | .ct ρ' s' => loopF body ds ρ' s'
    | .bk ρ' s' => .nx ρ' s'
    | .rt d s' => .rt d s'
    | .exc c fs ρ' s' => .exc c fs ρ' s'
    | .stuck => .stuck
mutual
def D.eqb : D → D → Bool
  | .non, .non => true
  | .bl a, .bl b => a == b
  | .int a, .int b => a == b
  | .str a, .str b => a == b
  | .tup a, .tup b => D.eqbs a b
  | .lst a, .lst b => D.eqbs a b
  | .scr a, .scr b => a == b
  | .ins c a, .ins d b => c == d && D.eqbs a b
  | .ref a, .ref b => a == b
  | .dfn a, .dfn b => a == b
  | _, _ => false
def D.eqbs : List D → List D → Bool
  | [], [] => true
  | a :: as, b :: bs => D.eqb a b && D.eqbs as bs
  | _, _ => false
end
mutual
theorem D.eqb_eq : ∀ {a b : D}, D.eqb a b = true → a = b
  | .non, b, h => by cases b <;> simp_all [D.eqb]
  | .bl x, b, h => by cases b <;> simp_all [D.eqb]
  | .int x, b, h => by cases b <;> simp_all [D.eqb]
  | .str x, b, h => by cases b <;> simp_all [D.eqb]
  | .tup x, b, h => by
    cases b <;> simp only [D.eqb, Bool.false_eq_true] at h
    rw [D.eqbs_eq h]
  | .lst x, b, h => by
    cases b <;> simp only [D.eqb, Bool.false_eq_true] at h
    rw [D.eqbs_eq h]
  | .scr x, b, h => by cases b <;> simp_all [D.eqb]
  | .ins c x, b, h => by
    cases b <;> simp only [D.eqb, Bool.false_eq_true, Bool.and_eq_true] at h
    rw [D.eqbs_eq h.2, eq_of_beq h.1]
  | .ref x, b, h => by cases b <;> simp_all [D.eqb]
  | .dfn x, b, h => by cases b <;> simp_all [D.eqb]
theorem D.eqbs_eq : ∀ {a b : List D}, D.eqbs a b = true → a = b
  | [], b, h => by cases b <;> simp_all [D.eqbs]
  | x :: xs, b, h => by
    cases b with
    | nil => simp [D.eqbs] at h
    | cons y ys =>
      simp only [D.eqbs, Bool.and_eq_true] at h
      rw [D.eqb_eq h.1, D.eqbs_eq h.2]
end
mutual
theorem D.eqb_refl : ∀ a : D, D.eqb a a = true
  | .non => rfl
  | .bl x => by simp [D.eqb]
  | .int x => by simp [D.eqb]
  | .str x => by simp [D.eqb]
  | .tup x => by rw [D.eqb]; exact D.eqbs_refl x
  | .lst x => by rw [D.eqb]; exact D.eqbs_refl x
  | .scr x => by simp [D.eqb]
  | .ins c x => by rw [D.eqb, D.eqbs_refl x]; simp
  | .ref x => by simp [D.eqb]
  | .dfn x => by simp [D.eqb]
theorem D.eqbs_refl : ∀ a : List D, D.eqbs a a = true
  | [] => rfl
  | x :: xs => by rw [D.eqbs, D.eqb_refl x, D.eqbs_refl xs]; rfl
end
/-- the cell n still holds ys -/
def sameC (s : Stt) (n : Nat) (ys : List D) : Bool := match s[n]? with
  | some (.lst zs) => D.eqbs zs ys
  | _ => false
theorem sameC_iff {s : Stt} {n : Nat} {ys : List D} : sameC s n ys = true ↔ s[n]? = some (.lst ys) := by
  unfold sameC
  constructor
  · intro h
    split at h
    · rename_i zs e
      rw [e, D.eqbs_eq h]
    · cases h
  · intro h
    rw [h]
    exact D.eqbs_refl ys
/-- a comprehension's turns over a cell that stays as it is -/
def loopCc (n : Nat) (ys : List D) (body : D → List D → Stt → R (List D)) : List D → List D → Stt → R (List D)
  | [], acc, s => if sameC s n ys = true then .ok acc s else .stuck
  | d :: ds, acc, s => if sameC s n ys = true then (match body d acc s with
    | .ok acc' s' => loopCc n ys body ds acc' s'
    | _ => .stuck) else .stuck
/-- with its places -/
def enumD (xs : List D) : List D := xs.mapIdx fun i x => .tup [.int i, x]
/-- a walk over a cell that stays as it is -/
def loopFc (n : Nat) (ys : List D) (body : D → Env → Stt → RS) : List D → Env → Stt → RS
  | [], ρ, s => if sameC s n ys = true then .nx ρ s else .stuck
  | d :: ds, ρ, s => if sameC s n ys = true then (match body d ρ s with
    | .nx ρ' s' => loopFc n ys body ds ρ' s'
    | .ct ρ' s' => loopFc n ys body ds ρ' s'
    | .bk ρ' s' => .nx ρ' s'
    | .rt d s' => .rt d s'
    | .exc c fs ρ' s' => .exc c fs ρ' s'
    | .stuck => .stuck) else .stuck
def loopW (c : Env → Stt → R Bool) (body : Env → Stt → RS) : Nat → Env → Stt → RS
  | 0, _, _ => .stuck
  | n + 1, ρ, s => (c ρ s).st ρ fun b s' => if b = true then (match body ρ s' with
    | .nx ρ' s' => loopW c body n ρ' s'
    | .ct ρ' s' => loopW c body n ρ' s'
    | .bk ρ' s' => .nx ρ' s'
    | .rt d s' => .rt d s'
    | .exc c fs ρ' s' => .exc c fs ρ' s'
    | .stuck => .stuck) else .nx ρ s'
/-- a shape's arguments -/
def srcs (src : List (Sum Nat D)) (ds : List D) : Option (List D) := src.mapM fun
  | .inl j => ds[j]?
  | .inr d => some d
def callK (sh : Shape) (g : List D → Stt → R D) (xs ys : List D) (s : Stt) : R D := if xs.length = sh.n ∧ ys.length = sh.ks.length then (match srcs sh.src (xs ++ ys) with
      | some zs => g zs s
      | none => .stuck) else .stuck
/-- an instance: its class, its fields -/
def insF (s : Stt) : D → Option (Nat × List D)
  | .ins c fs => some (c, fs)
  | .ref n => match s[n]? with
    | some (.ins c fs) => some (c, fs)
    | _ => none
  | _ => none
/-- o.f -/
def fldF (P : Prog) (s : Stt) (x : D) (f : Str) : Option D := match insF s x with
  | some (c, fs) => match P.cls[c]? with
    | some oc => (oc.fs.zip fs).lookup f
    | none => none
  | none => none
/-- which def o.m is -/
def mthF (P : Prog) (s : Stt) (x : D) (m : Str) : Option Nat := match insF s x with
  | some (c, _) => match P.cls[c]? with
    | some oc => oc.meths.lookup m
    | none => none
  | none => none
/-- the next field is set -/
def setF (P : Prog) (s : Stt) (n : Nat) (f : Str) (y : D) : Option Stt := match s[n]? with
  | some (.ins c fs) => match P.cls[c]? with
    | some oc => if oc.fs[fs.length]? = some f then some (s.set n (.ins c (fs ++ [y]))) else none
    | none => none
  | _ => none
def setsF (P : Prog) (n : Nat) : Stt → List Str → List D → Option Stt
  | s, [], [] => some s
  | s, f :: fs, y :: ys => match setF P s n f y with
    | some s' => setsF P n s' fs ys
    | none => none
  | _, _, _ => none
/-- isinstance(x, C) of an own class -/
def iscF (x : D) (c : Nat) : Option D := match x with
  | .ins c' _ => if c' = c then some (.bl true) else none
  | x => (tyN x).map fun _ => .bl false
/-- the __eq__ of x, where y is of the same class -/
def eqoF (P : Prog) (s : Stt) (x y : D) : Option Nat := match insF s x, insF s y with
  | some (c, _), some (c', _) => if c = c' then mthF P s x "__eq__" else none
  | _, _ => none
def eqoR (g : List D → Stt → R D) (x y : D) (s : Stt) : R D := match g [x, y] s with
  | .ok (.bl k) s => .ok (.bl k) s
  | _ => .stuck
/-- what is told of a call ends without the cells behind n -/
def leaveX (n : Nat) (c : Nat) (fs : List D) (s : Stt) : R D :=
  if s.length = n then .exc c fs s else match D.freezes n s fs with
    | some fs' => if (s.take n).all (·.under n) then .exc c fs' (s.take n) else .stuck
    | none => .stuck
/-- a new instance: a cell while __init__ sets its fields; then it stays as it is -/
def newD (oc : OCls) (c : Nat) (g : List D → Stt → R D) (xs : List D) (s : Stt) : R D := match g (.ref s.length :: xs) (s ++ [.ins c []]) with
  | .ok .non s' => match s'[s.length]? with
    | some (.ins c' fs) => if c' = c ∧ fs.length = oc.fs.length ∧ D.unders s.length fs = true ∧ (s'.take s.length).all (·.under s.length) = true then .ok (.ins c fs) (s'.take s.length) else .stuck
    | _ => .stuck
  | .ok _ _ => .stuck
  | .exc x fs s' => leaveX s.length x fs s'
  | .stuck => .stuck
section
variable (P : Prog) (call : CallS)
mutual
def evE : E → Env → Stt → R D
  | .var i, ρ, s => R.of (ρ[i]?.join) s
  | .int i, _, s => .ok (.int i) s
  | .bl b, _, s => .ok (.bl b) s
  | .non, _, s => .ok .non s
  | .str t, _, s => .ok (.str t) s
  | .glob g, _, s => R.of (P.consts[g]?.map (·.2)) s
  | .bin o a b, ρ, s => (evE a ρ s).bind fun x s => (evE b ρ s).bind fun y s => R.of (binF o x y) s
  | .neg a, ρ, s => (evE a ρ s).bind fun x s => match x with
    | .int i => .ok (.int (-i)) s
    | _ => .stuck
  | .not a, ρ, s => (evE a ρ s).bind fun x s => match x with
    | .bl k => .ok (.bl (!k)) s
    | _ => .stuck
  | .cmp o a b, ρ, s => (evE a ρ s).bind fun x s => (evE b ρ s).bind fun y s => R.of (cmpF o x y) s
  | .chain o o' a b c, ρ, s => (evE a ρ s).bind fun x s => (evE b ρ s).bind fun y s => (R.of (cmpF o x y) s).bind fun z s => match z with
    | .bl true => (evE c ρ s).bind fun w s => R.of (cmpF o' y w) s
    | .bl false => .ok (.bl false) s
    | _ => .stuck
  | .and as, ρ, s => evAnd as ρ s
  | .or as, ρ, s => evOr as ρ s
  | .ite c a b, ρ, s => (evT c ρ s).bind fun k s => if k = true then evE a ρ s else evE b ρ s
  | .tup as, ρ, s => (evEs as ρ s).bind fun xs s => if xs.length ≤ sizeLine then .ok (.tup xs) s else .stuck
  | .lst false as, ρ, s => (evEs as ρ s).bind fun xs s => if xs.length ≤ sizeLine then .ok (.lst xs) s else .stuck
  | .lst true as, ρ, s => (evEs as ρ s).bind fun xs s => if xs.length ≤ sizeLine then .ok (.ref s.length) (s ++ [.lst xs]) else .stuck
  | .ix a i, ρ, s => (evE a ρ s).bind fun x s => (evE i ρ s).bind fun y s => R.of (ixF s x y) s
  | .sl a lo hi, ρ, s => (evE a ρ s).bind fun x s => (evO lo ρ s).bind fun l s => (evO hi ρ s).bind fun h s => R.of (slF x l h) s
  | .call f as, ρ, s => (evEs as ρ s).bind fun xs s => call f xs s
  | .callk j as ks, ρ, s => match P.shapes[j]? with
    | some sh => (evEs as ρ s).bind fun xs s => (evEs ks ρ s).bind fun ys s => callK sh (call sh.f) xs ys s
    | none => .stuck
  | .bi b a, ρ, s => (evE a ρ s).bind fun x s => R.of (biF b s x) s
  | .isi a _ ts, ρ, s => (evE a ρ s).bind fun x s => R.of (isiS s x ts) s
  | .met m a as, ρ, s => (evE a ρ s).bind fun x s => if meOk m s x = true then (evEs as ρ s).bind fun ys s => meF m s x ys else .stuck
  | .rev a, ρ, s => (evE a ρ s).bind fun x s => R.of (revF x) s
  | .mk a, ρ, s => (evE a ρ s).bind fun x s => match itemsF s x with
    | some xs => .ok (.ref s.length) (s ++ [.lst xs])
    | none => .stuck
  | .comp cell e own tg k src c, ρ, s => ((evEs src ρ s).bind fun ds s => R.of (srcF k s ds) s).bind fun xs s =>
    (loopC (fun d acc s => match tgF tg d (wipeE ρ own) with
      | none => .stuck
      | some ρ' => (evC c ρ' s).bind fun k s => if k = true then (evE e ρ' s).bind fun y s => if acc.length < sizeLine then .ok (acc ++ [y]) s else .stuck else .ok acc s) xs [] s).bind fun acc s =>
    if cell = true then .ok (.ref s.length) (s ++ [.lst acc]) else .ok (.lst acc) s
  | .compc e own tg a c, ρ, s => (evE a ρ s).bind fun x s => match x with
    | .ref n => match s[n]? with
      | some (.lst xs) => (loopCc n xs (fun d acc s => match tgF tg d (wipeE ρ own) with
        | none => .stuck
        | some ρ' => (evC c ρ' s).bind fun k s => if k = true then (evE e ρ' s).bind fun y s => if acc.length < sizeLine then .ok (acc ++ [y]) s else .stuck else .ok acc s) xs [] s).bind fun acc s => .ok (.lst acc) s
      | _ => .stuck
    | _ => .stuck
  | .compe e own tg src c, ρ, s => (evEs src ρ s).bind fun ds s => match ds with
    | [.ref n] => match s[n]? with
      | some (.lst xs) => (loopCc n xs (fun d acc s => match tgF tg d (wipeE ρ own) with
        | none => .stuck
        | some ρ' => (evC c ρ' s).bind fun k s => if k = true then (evE e ρ' s).bind fun y s => if acc.length < sizeLine then .ok (acc ++ [y]) s else .stuck else .ok acc s) (enumD xs) [] s).bind fun acc s => .ok (.lst acc) s
      | _ => .stuck
    | _ => .stuck
  | .slc a lo hi, ρ, s => (evE a ρ s).bind fun x s => (evO lo ρ s).bind fun l s => (evO hi ρ s).bind fun h s => R.of ((listF s x).map fun xs => .lst (cut xs l h)) s
  | .dget a b, ρ, s => (evE a ρ s).bind fun x s => (evE b ρ s).bind fun y s => R.of (dgetF s x y) s
  | .dhas ng a b, ρ, s => (evE a ρ s).bind fun x s => (evE b ρ s).bind fun y s => R.of (dhasF ng s x y) s
  | .cmps ng a b, ρ, s => (evE a ρ s).bind fun x s => (evE b ρ s).bind fun y s => R.of ((eqFs s x y).map fun k => .bl (k != ng)) s
  | .revk a, ρ, s => (evE a ρ s).bind fun x s => match listF s x with
    | some xs => .ok (.ref s.length) (s ++ [.lst xs.reverse])
    | none => .stuck
  | .catc a b, ρ, s => (evE a ρ s).bind fun x s => (evE b ρ s).bind fun y s => match catF s x y with
    | some xs => .ok (.ref s.length) (s ++ [.lst xs])
    | none => .stuck
  | .revc a, ρ, s => (evE a ρ s).bind fun x s => R.of (revC s x) s
  | .dct1 a b, ρ, s => (evE a ρ s).bind fun x s => (evE b ρ s).bind fun y s => match x with
    | .str t => .ok (.ref s.length) (s ++ [.dct [(t, y)]])
    | _ => .stuck
  | .kcomp e own tg src, ρ, s => ((evEs src ρ s).bind fun ds s => R.of (srcF .seq s ds) s).bind fun xs s =>
    (loopC (fun d acc s => match tgF tg d (wipeE ρ own) with
      | none => .stuck
      | some ρ' => (evE e ρ' s).bind fun y s => if acc.length < sizeLine then R.of (kput acc y) s else .stuck) xs [] s).bind fun acc s => .ok (.ref s.length) (s ++ [.key acc])
  | .khas ng a b, ρ, s => (evE a ρ s).bind fun x s => (evE b ρ s).bind fun y s => R.of (khasF ng s x y) s
  | .klen a, ρ, s => (evE a ρ s).bind fun x s => R.of (klenF s x) s
  | .sortk f a, ρ, s => (evE a ρ s).bind fun x s => match listF s x with
    | some xs => (keysF (call f) xs [] s).bind fun ks s => R.of ((sortD xs ks).map .lst) s
    | none => .stuck
  | .max2 a b, ρ, s => (evE a ρ s).bind fun x s => (evE b ρ s).bind fun y s => R.of (max2F x y) s
  | .fstr ps, ρ, s => evFs ps [] ρ s
  | .fmt e, ρ, s => (evE e ρ s).bind fun x s => R.of (fmtF x) s
  | .told j e, ρ, s => match evE e ρ s with
    | .ok v s => .ok (.tup [.str toldT, v]) s
    | .exc c fs s => R.of (toldD P j c fs) s
    | .stuck => .stuck
  | .new c as, ρ, s => match P.cls[c]? with
    | some oc => (evEs as ρ s).bind fun xs s => newD oc c (call oc.init) xs s
    | none => .stuck
  | .fld a f, ρ, s => (evE a ρ s).bind fun x s => R.of (fldF P s x f) s
  | .mth a m as, ρ, s => (evE a ρ s).bind fun x s => match mthF P s x m with
    | some g => (evEs as ρ s).bind fun xs s => call g (x :: xs) s
    | none => .stuck
  | .isc a c, ρ, s => (evE a ρ s).bind fun x s => R.of (iscF x c) s
  | .eqo a b, ρ, s => (evE a ρ s).bind fun x s => (evE b ρ s).bind fun y s => match eqoF P s x y with
    | some g => eqoR (call g) x y s
    | none => .stuck
/-- as a test -/
def evT : E → Env → Stt → R Bool
  | .not a, ρ, s => (evT a ρ s).bind fun k s => .ok (!k) s
  | .and as, ρ, s => evTAnd as ρ s
  | .or as, ρ, s => evTOr as ρ s
  | .cmp o a b, ρ, s => (evE a ρ s).bind fun x s => (evE b ρ s).bind fun y s => (R.of (cmpF o x y) s).bind fun z s => match z with
    | .bl k => .ok k s
    | _ => .stuck
  | .chain o o' a b c, ρ, s => (evE a ρ s).bind fun x s => (evE b ρ s).bind fun y s => (R.of (cmpF o x y) s).bind fun z s => match z with
    | .bl true => (evE c ρ s).bind fun w s => (R.of (cmpF o' y w) s).bind fun z s => match z with
      | .bl k => .ok k s
      | _ => .stuck
    | .bl false => .ok false s
    | _ => .stuck
  | .var i, ρ, s => (R.of (ρ[i]?.join) s).bind fun x s => R.of (truF s x) s
  | .call f as, ρ, s => ((evEs as ρ s).bind fun xs s => call f xs s).bind fun x s => R.of (truF s x) s
  | .bi b a, ρ, s => ((evE a ρ s).bind fun x s => R.of (biF b s x) s).bind fun x s => R.of (truF s x) s
  | .isi a _ ts, ρ, s => ((evE a ρ s).bind fun x s => R.of (isiS s x ts) s).bind fun x s => R.of (truF s x) s
  | .bl b, _, s => .ok b s
  | .dhas ng a b, ρ, s => (evE a ρ s).bind fun x s => (evE b ρ s).bind fun y s => (R.of (dhasF ng s x y) s).bind fun z s => match z with
    | .bl k => .ok k s
    | _ => .stuck
  | .cmps ng a b, ρ, s => (evE a ρ s).bind fun x s => (evE b ρ s).bind fun y s => (R.of ((eqFs s x y).map fun k => D.bl (k != ng)) s).bind fun z s => match z with
    | .bl k => .ok k s
    | _ => .stuck
  | .mth a m as, ρ, s => ((evE a ρ s).bind fun x s => match mthF P s x m with
    | some g => (evEs as ρ s).bind fun xs s => call g (x :: xs) s
    | none => .stuck).bind fun x s => R.of (truF s x) s
  | .isc a c, ρ, s => ((evE a ρ s).bind fun x s => R.of (iscF x c) s).bind fun x s => R.of (truF s x) s
  | .eqo a b, ρ, s => ((evE a ρ s).bind fun x s => (evE b ρ s).bind fun y s => match eqoF P s x y with
    | some g => eqoR (call g) x y s
    | none => .stuck).bind fun x s => R.of (truF s x) s
  | _, _, _ => .stuck
def evEs : List E → Env → Stt → R (List D)
  | [], _, s => .ok [] s
  | e :: es, ρ, s => (evE e ρ s).bind fun x s => (evEs es ρ s).bind fun xs s => .ok (x :: xs) s
def evFs : List E → T → Env → Stt → R D
  | [], acc, _, s => .ok (.str acc) s
  | p :: ps, acc, ρ, s => (evE p ρ s).bind fun x s => match x with
    | .str y => if (acc ++ y).length ≤ sizeLine then evFs ps (acc ++ y) ρ s else .stuck
    | _ => .stuck
def evO : Option E → Env → Stt → R (Option Int)
  | none, _, s => .ok none s
  | some e, ρ, s => (evE e ρ s).bind fun x s => match x with
    | .int i => .ok (some i) s
    | _ => .stuck
def evC : Option E → Env → Stt → R Bool
  | none, _, s => .ok true s
  | some e, ρ, s => evT e ρ s
def evAnd : List E → Env → Stt → R D
  | [], _, _ => .stuck
  | [a], ρ, s => evE a ρ s
  | a :: b :: r, ρ, s => (evE a ρ s).bind fun x s => match x with
    | .bl true => evAnd (b :: r) ρ s
    | .bl false => .ok (.bl false) s
    | _ => .stuck
def evOr : List E → Env → Stt → R D
  | [], _, _ => .stuck
  | [a], ρ, s => evE a ρ s
  | a :: b :: r, ρ, s => (evE a ρ s).bind fun x s => match x with
    | .bl false => evOr (b :: r) ρ s
    | .bl true => .ok (.bl true) s
    | _ => .stuck
def evTAnd : List E → Env → Stt → R Bool
  | [], _, _ => .stuck
  | [a], ρ, s => evT a ρ s
  | a :: b :: r, ρ, s => (evT a ρ s).bind fun k s => if k = true then evTAnd (b :: r) ρ s else .ok false s
def evTOr : List E → Env → Stt → R Bool
  | [], _, _ => .stuck
  | [a], ρ, s => evT a ρ s
  | a :: b :: r, ρ, s => (evT a ρ s).bind fun k s => if k = true then .ok true s else evTOr (b :: r) ρ s
end
/-- how often a while may turn: more than any measure here -/
def WF : Nat := 2 ^ 1000000
/-- what is told is a list of its own: of the cells that were made it alone stays -/
def freshS (n : Nat) : RS → RS
  | .rt (.ref m) s => if n ≤ m then (match s[m]? with
    | some (.lst xs) => if D.unders n xs = true ∧ (s.take n).all (·.under n) = true then .rt (.ref n) (s.take n ++ [.lst xs]) else .stuck
    | _ => .stuck) else .stuck
  | .rt _ _ => .stuck
  | r => r
/-- behind a row of statements: the cells that it made go -/
def cleanS (n : Nat) : RS → RS
  | .nx ρ s => if s.length = n then .nx ρ s else if (s.take n).all (·.under n) = true then .nx (ρ.map fun o => o.bind (D.freeze n s)) (s.take n) else .stuck
  | r => r
mutual
def evS : S → Env → Stt → RS
  | .set i e, ρ, s => (evE P call e ρ s).st ρ fun x s => .nx (ρ.set i (some x)) s
  | .par is es, ρ, s => (evEs P call es ρ s).st ρ fun xs s => if is.length = xs.length then .nx ((is.zip xs).foldl (fun ρ p => ρ.set p.1 (some p.2)) ρ) s else .stuck
  | .unp is e, ρ, s => (evE P call e ρ s).st ρ fun x s => match x with
    | .tup xs => if is.length = xs.length then .nx ((is.zip xs).foldl (fun ρ p => ρ.set p.1 (some p.2)) ρ) s else .stuck
    | _ => .stuck
  | .unpl is e, ρ, s => (evE P call e ρ s).st ρ fun x s => match listF s x with
    | some xs => if is.length = xs.length then .nx ((is.zip xs).foldl (fun ρ p => ρ.set p.1 (some p.2)) ρ) s else .stuck
    | none => .stuck
  | .setix o i e, ρ, s => (evE P call e ρ s).st ρ fun y s => (evE P call o ρ s).st ρ fun x s => (evE P call i ρ s).st ρ fun z s => match x, z with
    | .ref n, .int i => match s[n]? with
      | some (.lst xs) => match ixN xs.length i with
        | some j => .nx ρ (s.set n (.lst (xs.set j y)))
        | none => .stuck
      | _ => .stuck
    | _, _ => .stuck
  | .dset o i e, ρ, s => (evE P call e ρ s).st ρ fun y s => (evE P call o ρ s).st ρ fun x s => (evE P call i ρ s).st ρ fun z s => match x, z with
    | .ref n, .str t => match s[n]? with
      | some (.dct kvs) => if kvs.length < sizeLine then .nx ρ (s.set n (.dct (dput kvs t y))) else .stuck
      | _ => .stuck
    | _, _ => .stuck
  | .aug i o e, ρ, s => (R.of (ρ[i]?.join) s).st ρ fun x s => (evE P call e ρ s).st ρ fun y s => (R.of (augF o x y) s).st ρ fun z s => .nx (ρ.set i (some z)) s
  | .expr e, ρ, s => (evE P call e ρ s).st ρ fun _ s => .nx ρ s
  | .ret e, ρ, s => (evE P call e ρ s).st ρ fun x s => .rt x s
  | .retN, _, s => .rt .non s
  | .ite c a b, ρ, s => (evT P call c ρ s).st ρ fun k s => if k = true then evSs a ρ s else evSs b ρ s
  | .for tg k src b, ρ, s => ((evEs P call src ρ s).bind fun ds s => R.of (srcF k s ds) s).st ρ fun xs s =>
    loopF (fun d ρ s => match tgF tg d ρ with
      | none => .stuck
      | some ρ' => evSs b ρ' s) xs ρ s
  | .while c b, ρ, s => loopW (evT P call c) (evSs b) WF ρ s
  | .pass, ρ, s => .nx ρ s
  | .brk, ρ, s => .bk ρ s
  | .cont, ρ, s => .ct ρ s
  | .raise c as, ρ, s => (evEs P call as ρ s).st ρ fun xs s => match P.xcls[c]? with
    | some x => if xs.length = x.fs.length then .exc c (.str x.name :: xs) ρ s else .stuck
    | none => .stuck
  | .setfld o f e, ρ, s => (evE P call e ρ s).st ρ fun y s => (evE P call o ρ s).st ρ fun x s => match x with
    | .ref n => match setF P s n f y with
      | some s' => .nx ρ s'
      | none => .stuck
    | _ => .stuck
  | .unpfld i fs e, ρ, s => (evE P call e ρ s).st ρ fun x s => match x with
    | .tup xs => (R.of (ρ[i]?.join) s).st ρ fun x s => match x with
      | .ref n => match setsF P n s fs xs with
        | some s' => .nx ρ s'
        | none => .stuck
      | _ => .stuck
    | _ => .stuck
  | .forc tg e b, ρ, s => (evE P call e ρ s).st ρ fun x s => match x with
    | .ref n => match s[n]? with
      | some (.lst xs) => loopFc n xs (fun d ρ s => match tgF tg d ρ with
        | none => .stuck
        | some ρ' => evSs b ρ' s) xs ρ s
      | _ => .stuck
    | _ => .stuck
  | .fore tg src b, ρ, s => (evEs P call src ρ s).st ρ fun ds s => match ds with
    | [.ref n] => match s[n]? with
      | some (.lst xs) => loopFc n xs (fun d ρ s => match tgF tg d ρ with
        | none => .stuck
        | some ρ' => evSs b ρ' s) (enumD xs) ρ s
      | _ => .stuck
    | _ => .stuck
  | .scope b, ρ, s => cleanS s.length (evSs b ρ s)
  | .fresh b, ρ, s => freshS s.length (evSs b ρ s)
  | .never, _, _ => .stuck
def evSs : List S → Env → Stt → RS
  | [], ρ, s => .nx ρ s
  | a :: r, ρ, s => (evS a ρ s).seq fun ρ s => evSs r ρ s
end
end
/-- a call's end: the cells that it made go; what it tells is told as it stands -/
def leave (keep : Bool) (n : Nat) (d : D) (s : Stt) : R D :=
  if keep = true then .ok d s else if s.length = n then .ok d s else match d.freeze n s with
    | some d' => if (s.take n).all (·.under n) then .ok d' (s.take n) else .stuck
    | none => .stuck
def callD (P : Prog) : Nat → CallS
  | 0, _, _, _ => .stuck
  | k + 1, f, ds, s => match P.defs[f]? with
    | none => .stuck
    | some df => if ds.length = df.ps.length then (match evSs P (callD P k) df.body (ds.map some ++ List.replicate (df.N.length - ds.length) none) s with
      | .rt d s' => leave df.keep s.length d s'
      | .nx _ s' => leave df.keep s.length .non s'
      | .exc c fs _ s' => leaveX s.length c fs s'
      | _ => .stuck) else .stuck
end G
set_option Elab.async false
set_option linter.all false
set_option maxRecDepth 100000
set_option maxHeartbeats 0
namespace G
open PySem L2
/-- the built-ins that may be called -/
def bnames : List Str := ["len", "abs", "list", "tuple", "int", "str", "all", "any", "sum", "min", "max", "isinstance", "range", "enumerate", "bool", "sorted", "zip", "ValueError", "LookupError"]
def isTab : Obj → Bool
  | ⟨.none, none, .fields vs, sl⟩ => vs.isEmpty && sl.isEmpty
  | _ => false
theorem isTab_ok {o : Obj} (h : isTab o = true) : o = PySem.W.tabObj #[] := by
  unfold isTab at h
  split at h
  · rename_i vs sl
    simp only [Bool.and_eq_true, Array.isEmpty_iff] at h
    obtain ⟨rfl, rfl⟩ := h
    rfl
  · cases h
theorem isTab_tab : isTab (PySem.W.tabObj #[]) = true := rfl
/-- what is read, the tables left out -/
def noTab (g : Addr → Option Obj) (a : Addr) : Option Obj := match g a with
  | some o => if isTab o = true then none else some o
  | none => none
theorem noTab_at {g : Addr → Option Obj} {a : Addr} {o : Obj} (h : noTab g a = some o) : g a = some o ∧ isTab o = false := by
  unfold noTab at h
  split at h
  · rename_i o' e
    split at h
    · cases h
    · rename_i q
      cases h
      exact ⟨e, by simpa using q⟩
  · cases h
def tabOk (g : Addr → Option Obj) (K : PySem.W.Frag) (x : Str) : Bool := match PySem.W.tabIn K x with
  | some (c, P) => PySem.W.codeHdIn K c P && (match g P with | some o => isTab o | none => false)
  | none => false
abbrev AlG : Type := He.AlD × Bool
def vOf : Value → V
  | .bool b => .bl b
  | .int i _ => .int i
  | .str x _ => .str x
  | .ref a => .ref a
  | _ => .non
mutual
def repB (K : PySem.W.Frag) : D → Value → Bool
  | .non, .none => true
  | .bl b, .bool c => b == c
  | .int i, .int j _ => decide (i = j)
  | .str t, .str x _ => decide (x = tS t)
  | .tup ds, .ref a => match K.lookup a with
    | some ⟨.type c, _, .seq its _, _⟩ => decide (c = "tuple") && (decide (its.size ≤ sizeLine) && repsB K ds its.toList)
    | _ => false
  | _, _ => false
def repsB (K : PySem.W.Frag) : List D → List Value → Bool
  | [], [] => true
  | d :: ds, u :: us => repB K d u && repsB K ds us
  | _, _ => false
end
def conB (K : PySem.W.Frag) (x : Str) (d : D) : Bool := match PySem.W.nsIn K mainGlobals x with
  | some (some u) => repB K d u
  | _ => false
def dvB (K : PySem.W.Frag) (dv : He.Dv) (d : D) : Bool := match dv, d with
  | .non, .non => true
  | .bl b, .bl c => b == c
  | .int i, .int j => decide (i = j)
  | .str x, .str t => decide (x = tS t)
  | .glo x, .tup ds => (match PySem.W.nsIn K mainGlobals x with
    | some (some (.ref a)) => repB K (.tup ds) (.ref a)
    | _ => false)
  | _, _ => false
/-- the tables of the defs in lam, by what is looked at -/
def csOf (K : PySem.W.Frag) (lam : List Str) : List (Addr × Addr) := lam.filterMap fun x => PySem.W.tabIn K x
def tOf (K : PySem.W.Frag) (lam : List Str) : List (Addr × Str) := lam.filterMap fun x => (PySem.W.tabIn K x).map fun q => (q.2, (x ++ ".<locals>.") ++ "<lambda>")
/-- no two defs share a table -/
def tabsU (K : PySem.W.Frag) : List Str → Bool
  | [] => true
  | x :: r => (match PySem.W.tabIn K x with
    | some q => r.all fun y => match PySem.W.tabIn K y with
      | some p => !(p.2 == q.2)
      | none => true
    | none => true) && tabsU K r
def addrM (K : PySem.W.Frag) (z m : Str) : Addr := He.ma K (He.ga K z) m
/-- what of an own class is asked of the written part -/
def clB (P : Prog) (K : PySem.W.Frag) (oc : OCls) : Bool := He.eqO (PySem.W.nsIn K mainGlobals oc.name) (some (some (.ref (He.ga K oc.name)))) &&
  PySem.W.plainGet K (He.ga K oc.name) Str.empty && PySem.W.hasDictIn K (He.ga K oc.name) && PySem.W.plainOver K (He.ga K oc.name) && He.eqO (PySem.W.findIn K (.ref (He.ga K oc.name)) "__setattr__") (some (some (.builtin "object.__setattr__"))) &&
  (oc.fs.all fun f => He.eqO (PySem.W.findIn K (.ref (He.ga K oc.name)) f) (some none)) && PySem.W.makesIn K (He.ga K oc.name) && PySem.W.keepIn K (.ref (He.ga K oc.name)) &&
  decide (oc.fs.Nodup) && decide (oc.fs.length < 1000) &&
  ((["NoneType", "bool", "int", "str", "tuple", "list"] : List String).all fun t => decide (PySem.W.kitOne K (.type t) (.ref (He.ga K oc.name)) = some false)) &&
  He.eqO (PySem.W.findIn K (.ref (He.ga K oc.name)) "__class__") (some (some (.builtin "object.__class__"))) && He.eqO (PySem.W.specialIn K (.builtin "object.__class__") "__get__") (some (some (.builtin "getset_descriptor.__get__"))) && decide (PySem.W.takesIn K (.builtin "object.__class__") = some true) && decide (PySem.W.mroIn K (He.ga K oc.name) (.type "object") = some true) &&
  (match P.defs[oc.init]? with | some df => df.pos && decide (df.own = some oc.name) && decide (df.name = "__init__") | none => false) &&
  (oc.meths.all fun q => !(oc.fs.contains q.1) && (match P.defs[q.2]? with | some df => df.pos && decide (df.own = some oc.name) && decide (df.name = q.1) | none => false))
/-- what of a method is asked -/
def mtB (K : PySem.W.Frag) (z m : Str) : Bool := He.eqO (PySem.W.nsIn K mainGlobals z) (some (some (.ref (He.ga K z)))) && He.eqO (PySem.W.findIn K (.ref (He.ga K z)) m) (some (some (.ref (addrM K z m)))) && PySem.W.isFn K (.ref (addrM K z m))
def mtsB (P : Prog) (K : PySem.W.Frag) : Bool := P.defs.all fun df => match df.own with
  | some z => mtB K z df.name
  | none => true
def oexB (K : PySem.W.Frag) (C : Addr) : Bool := match K.lookup C with
  | some ⟨.type t, _, .cls cd, sl⟩ => decide (t = "type") && (match cd.mro, sl.toList with
    | .ref C' :: bm, [_, _, _, _, some (.builtin n), _] => C' == C && n == "ValueError.__new__" && !cd.hasDel && cd.hasDict && PySem.HandSPX.refsVE bm
    | _, _ => false)
  | _ => false
def xcB (K : PySem.W.Frag) (x : XCls) : Bool := He.eqO (PySem.W.nsIn K mainGlobals (tS x.name)) (some (some (.ref (He.ga K (tS x.name))))) && oexB K (He.ga K (tS x.name)) &&
  He.eqO (PySem.W.findIn K (.ref (He.ga K (tS x.name))) "__setattr__") (some (some (.builtin "object.__setattr__"))) && decide (PySem.W.subIn K (.ref (He.ga K (tS x.name))) (.type "BaseException") = some true) &&
  decide (PySem.W.typeIn K (.ref (He.ga K (tS x.name))) = some (.type "type")) && PySem.W.keepIn K (.ref (He.ga K (tS x.name))) && xfB K (He.ga K (tS x.name)) && (x.all.all fun f => He.eqO (PySem.W.findIn K (.ref (He.ga K (tS x.name))) f) (some none)) &&
  He.eqO (PySem.W.findIn K (.ref (He.ga K (tS x.name))) "__init__") (some (some (.ref (He.ma K (He.ga K (tS x.name)) "__init__")))) && decide (PySem.W.typeIn K (.ref (He.ma K (He.ga K (tS x.name)) "__init__")) = some (.type "function")) && decide (x.fs.length ≤ 100)
def fcRef (K : PySem.W.Frag) (C : Addr) (m : Str) (f : Addr) : Bool := match PySem.W.findCls K (.ref C) (.type "type") m with
  | some (.val (.ref a)) => decide (a = f)
  | _ => false
def fcVE (K : PySem.W.Frag) : Bool := match PySem.W.findCls K (.type "ValueError") (.type "type") "__init__" with
  | some (.val (.builtin z)) => decide (z = "ValueError.__init__")
  | _ => false
/-- of the class above all -/
def stB (K : PySem.W.Frag) : Bool := He.eqO (PySem.W.nsIn K mainGlobals "StoneError") (some (some (.ref (He.ga K "StoneError")))) && PySem.W.readsIn K (He.ga K "StoneError") (.type "type") && He.eqO (PySem.W.specialIn K (.ref (He.ga K "StoneError")) "__getattribute__") (some (some (.builtin "type.__getattribute__"))) &&
  fcRef K (He.ga K "StoneError") "__init__" (He.ma K (He.ga K "StoneError") "__init__") && fcVE K
def clOf (K : PySem.W.Frag) (x : Str) : Value := .ref (He.ga K x)
def tdB (P : Prog) (K : PySem.W.Frag) (td : Told) : Bool := td.hs.all fun h => (h.1.all fun n => He.eqO (PySem.W.nsIn K mainGlobals n) (some (some (clOf K n)))) &&
  ((List.range P.xcls.length).all fun c => match P.xcls[c]? with
    | some x => decide (PySem.W.exmAny K (.ref (He.ga K (tS x.name))) (h.1.map (clOf K)) = some (h.2.1.contains c))
    | none => true)
def exG (P : Prog) (dv : List (He.Dv × D)) (lam : List Str) (K : PySem.W.Frag) : Bool := (P.consts.all fun q => conB K q.1 q.2) && (dv.all fun q => dvB K q.1 q.2) && (P.xcls.all fun x => xcB K x) && (P.xcls.isEmpty || stB K) && (P.tolds.all fun td => tdB P K td) && tabsU K lam && (P.cls.all fun oc => clB P K oc) && mtsB P K
def SaysG (fa : List He.Fa) (fn : List He.DefD) (ex : PySem.W.Frag → Bool) (K : PySem.W.Frag) : Prop := He.SaysD fa fn K ∧ ex K = true
/-- the tables at the head -/
def TabsG (lam : List Str) (K : PySem.W.Frag) (h : Heap) : Prop := ∀ x ∈ lam, ∃ c P, PySem.W.tabIn K x = some (c, P) ∧ PySem.W.codeHdIn K c P = true ∧ h.get? P = some (PySem.W.tabObj #[]) ∧ K.lookup P = none
def ddOf (x : Str) (st : Stmt) (dfl : List He.Dv) (kwd : List (Str × He.Dv)) : He.DefD := ⟨(x, none), x, x, defArgs st, defBody st, defScope st, dfl, kwd⟩
def faOf (P : Prog) : List He.Fa := (((P.defs.filter fun d => d.own.isNone).map fun d => .glo d.name) ++ P.tolds.map fun d => .glo d.name) ++ bnames.map .free
end G
set_option Elab.async false
set_option linter.all false
set_option maxRecDepth 100000
set_option maxHeartbeats 0
namespace G
open PySem L2
/-- what hangs at a place: a def's code and defaults, a class's names, a row's items -/
def deepS (g : Addr → Option Obj) : Nat → Addr → List Addr
  | 0, a => [a]
  | n + 1, a => a :: match g a with
    | some o => match o.data with
      | .func fd => He.refV fd.code ++ (He.refV fd.defaults ++ He.refV fd.kwdefaults).flatMap (deepS g n)
      | .cls cd => cd.ns :: match g cd.ns with
        | some o => match o.data with
          | .dict es _ => es.toList.flatMap fun e => (He.refV e.val).flatMap (deepS g n)
          | _ => []
        | none => []
      | .seq its _ => its.toList.flatMap fun v => (He.refV v).flatMap (deepS g n)
      | .dict es _ => es.toList.flatMap fun e => (He.refV e.val).flatMap (deepS g n)
      | _ => []
    | none => []
def asS (g : Addr → Option Obj) (n : Nat) : List Addr := PySem.mainGlobals :: PySem.cStatics :: match g PySem.mainGlobals with
  | some o => match o.data with
    | .dict es _ => es.toList.flatMap fun e => (He.refV e.val).flatMap (deepS g n)
    | _ => []
  | none => []
def frS (n : Nat) (g : Addr → Option Obj) : PySem.W.Frag := He.frG (noTab g) (asS g n)
theorem frS_in {n : Nat} {h : Heap} : (frS n h.get?).In h := fun _ _ e => (noTab_at (He.frG_at _ e)).1
def obsS (n : Nat) (fa : List He.Fa) (fn : List He.DefD) (ex : PySem.W.Frag → Bool) (lam : List Str) (g : Addr → Option Obj) : AlG := (He.obsD fa fn (frS n g), ex (frS n g) && lam.all fun x => tabOk g (frS n g) x)
def hookS (n : Nat) (fa : List He.Fa) (fn : List He.DefD) (ex : PySem.W.Frag → Bool) (lam : List Str) : PySem.W.Hook where
  α := AlG
  obs := fun s => obsS n fa fn ex lam s.heap.get?
  val := fun _ => (He.valD fn, true)
  says := fun _ h => ∃ K : PySem.W.Frag, K.In h ∧ SaysG fa fn ex K ∧ TabsG lam K h
  of := fun _ s e => by
    have e2 : (ex (frS n s.heap.get?) && lam.all fun x => tabOk s.heap.get? (frS n s.heap.get?) x) = true := congrArg Prod.snd e
    rw [Bool.and_eq_true, List.all_eq_true] at e2
    refine ⟨_, frS_in, ⟨congrArg Prod.fst e, e2.1⟩, fun x hx => ?_⟩
    have q := e2.2 x hx
    unfold tabOk at q
    split at q
    · rename_i c P e3
      rw [Bool.and_eq_true] at q
      obtain ⟨q1, q2⟩ := q
      split at q2
      · rename_i o e4
        have e5 := isTab_ok q2
        subst e5
        refine ⟨c, P, e3, q1, e4, ?_⟩
        cases hk : (frS n s.heap.get?).lookup P with
        | none => rfl
        | some o =>
          obtain ⟨k1, k2⟩ := noTab_at (He.frG_at _ hk)
          rw [e4] at k1
          cases k1
          rw [isTab_tab] at k2
          cases k2
      · cases q2
    · cases q
  keeps := fun _ _ _ ⟨K, hK, c, t⟩ k => ⟨K, PySem.W.Frag.In.keeps hK k, c, fun x hx => let ⟨c, P, h1, h2, h3, h4⟩ := t x hx; ⟨c, P, h1, h2, k _ _ h3, h4⟩⟩
theorem obsS_eq {n : Nat} {fa : List He.Fa} {fn : List He.DefD} {ex : PySem.W.Frag → Bool} {lam : List Str} {g : Addr → Option Obj} {s : Shared} (h : ∀ a, g a = s.heap.get? a) : obsS n fa fn ex lam g = (hookS n fa fn ex lam).obs s := by
  have e : g = s.heap.get? := funext h
  rw [e] <;> rfl
end G
set_option Elab.async false
set_option linter.all false
set_option maxRecDepth 100000
set_option maxHeartbeats 0
namespace K10
open PySem PySem.Spec PyProof.Rows L2 G
abbrev i_flaw_in : Nat := 0
abbrev i_is_word : Nat := 1
abbrev i_is_call : Nat := 2
abbrev i_call_key : Nat := 3
abbrev i_law_bag : Nat := 4
abbrev i_law_pull : Nat := 5
abbrev i_law_of : Nat := 6
abbrev i_law_shuffled : Nat := 7
abbrev i_law_same : Nat := 8
abbrev i_law_word : Nat := 9
abbrev i_law_odd_word : Nat := 10
abbrev i_law_word_flaw : Nat := 11
abbrev i_law_is_call : Nat := 12
abbrev i_law : Nat := 13
abbrev c_LETTERS : Nat := 0
abbrev c_GREAT : Nat := 1
abbrev c_MOST_WORD : Nat := 2
def b_flaw_in : List S := [.for [1, 2] .enum [.var 0] [.ite (.or [.cmp .nin (.var 2) (.glob c_LETTERS), .and [.cmp .gt (.var 1) (.int 0), .cmp .eq (.ix (.var 0) (.bin .sub (.var 1) (.int 1))) (.var 2)]]) [.ret (.var 1)] []], .ret (.ite (.cmp .gt (.bi .len (.var 0)) (.glob c_MOST_WORD)) (.glob c_MOST_WORD) (.non))]
def d_flaw_in : Def := ⟨"flaw_in", true, ["text"], ["text", "at", "sign"], b_flaw_in, false, false, none⟩
def b_is_word : List S := [.ret (.cmp .isN (.call i_flaw_in [.var 0]) (.non))]
def d_is_word : Def := ⟨"is_word", true, ["text"], ["text"], b_is_word, false, false, none⟩
def b_is_call : List S := [.ret (.or [.and [.cmp .eq (.bi .len (.var 0)) (.int 1), .cmp .in_ (.var 0) (.glob c_GREAT)], .and [.cmp .ne (.var 0) (.str []), .call i_is_word [.var 0]]])]
def d_is_call : Def := ⟨"is_call", true, ["text"], ["text"], b_is_call, false, false, none⟩
def b_call_key : List S := [.ret (.tup [.bi .len (.var 0), .var 0])]
def d_call_key : Def := ⟨"call_key", true, ["call"], ["call"], b_call_key, false, false, none⟩
def b_law_bag : List S := [.set 1 (.int 9146), .for [2] .seq [.sl (.var 0) none (some (.int 63))] [.set 1 (.bin .mod (.bin .add (.bin .add (.bin .mul (.var 1) (.int 48271)) (.bin .mod (.var 2) (.int 2147483629))) (.int 17)) (.int 2147483647))], .ret (.lst true [.bi .list (.sl (.var 0) none (some (.int 63))), .int 0, .int 0, .var 1])]
def d_law_bag : Def := ⟨"_law_bag", true, ["_law_script"], ["_law_script", "_law_salt", "_law_cell"], b_law_bag, true, false, none⟩
def b_law_pull : List S := [.ite (.and [.cmp .eq (.ix (.var 0) (.int 2)) (.int 0), .cmp .lt (.ix (.var 0) (.int 1)) (.bi .len (.ix (.var 0) (.int 0)))]) [.set 2 (.ix (.ix (.var 0) (.int 0)) (.ix (.var 0) (.int 1))), .setix (.var 0) (.int 1) (.bin .add (.ix (.var 0) (.int 1)) (.int 1)), .ite (.cmp .ge (.var 2) (.bin .pow (.int 10) (.int 18))) [.setix (.var 0) (.int 2) (.var 2)] [.setix (.var 0) (.int 3) (.bin .mod (.bin .add (.bin .add (.bin .mul (.ix (.var 0) (.int 3)) (.int 69621)) (.bin .mul (.bin .mod (.var 2) (.int 2147483629)) (.int 48271))) (.int 7)) (.int 2147483647))]] [], .ite (.cmp .gt (.ix (.var 0) (.int 2)) (.int 0)) [.set 3 (.bin .mod (.ix (.var 0) (.int 2)) (.var 1)), .setix (.var 0) (.int 2) (.bin .fdiv (.ix (.var 0) (.int 2)) (.var 1)), .ret (.var 3)] [], .set 4 (.ix (.var 0) (.int 3)), .set 4 (.bin .mod (.bin .add (.bin .add (.bin .mul (.bin .mod (.bin .mul (.var 4) (.var 4)) (.int 2147483587)) (.int 5)) (.bin .mul (.var 4) (.int 16807))) (.int 1013904229)) (.int 2147483647)), .setix (.var 0) (.int 3) (.var 4), .ret (.bin .mod (.bin .add (.bin .fdiv (.var 4) (.int 53)) (.bin .mul (.bin .mod (.var 4) (.int 8191)) (.int 31))) (.var 1))]
def d_law_pull : Def := ⟨"_law_pull", true, ["_law_bag_here", "_law_many"], ["_law_bag_here", "_law_many", "_law_cell", "_law_got", "_law_seed"], b_law_pull, false, false, none⟩
def b_law_of : List S := [.ret (.ix (.var 1) (.call i_law_pull [.var 0, .bi .len (.var 1)]))]
def d_law_of : Def := ⟨"_law_of", true, ["_law_bag_here", "_law_things"], ["_law_bag_here", "_law_things"], b_law_of, false, false, none⟩
def b_law_shuffled : List S := [.set 2 (.mk (.var 1)), .ret (.comp false (.met .popAt (.var 2) [.call i_law_pull [.var 0, .bi .len (.var 2)]]) [3] [3] .range1 [.bi .len (.var 1)] none)]
def d_law_shuffled : Def := ⟨"_law_shuffled", true, ["_law_bag_here", "_law_things"], ["_law_bag_here", "_law_things", "_law_left", "_law_k"], b_law_shuffled, false, false, none⟩
def b_law_same : List S := [.ite (.isi (.var 1) true ["list", "tuple"]) [.ite (.or [.cmp .ne (.isi (.var 0) false ["list"]) (.isi (.var 1) false ["list"]), .cmp .ne (.isi (.var 0) false ["tuple"]) (.isi (.var 1) false ["tuple"])]) [.ret (.bl false)] [], .ret (.and [.cmp .eq (.bi .len (.var 0)) (.bi .len (.var 1)), .bi .all (.comp false (.call i_law_same [.ix (.var 0) (.var 2), .ix (.var 1) (.var 2)]) [2] [2] .range1 [.bi .len (.var 1)] none)])] [], .ite (.or [.cmp .isN (.var 1) (.non), .cmp .isN (.var 0) (.non)]) [.ret (.and [.cmp .isN (.var 1) (.non), .cmp .isN (.var 0) (.non)])] [], .ite (.or [.cmp .ne (.isi (.var 0) false ["bool"]) (.isi (.var 1) false ["bool"]), .cmp .ne (.isi (.var 0) false ["int"]) (.isi (.var 1) false ["int"])]) [.ret (.bl false)] [], .ret (.and [.cmp .eq (.isi (.var 0) false ["str"]) (.isi (.var 1) false ["str"]), .cmp .eq (.var 0) (.var 1)])]
def d_law_same : Def := ⟨"_law_same", true, ["_law_told", "_law_due"], ["_law_told", "_law_due", "_law_k"], b_law_same, false, false, none⟩
def b_law_word : List S := [.set 2 (.str []), .for [3] .range1 [.call i_law_pull [.var 0, .bin .add (.var 1) (.int 1)]] [.set 2 (.bin .add (.var 2) (.call i_law_of [.var 0, .comp false (.var 4) [4] [4] .seq [.str [97, 98, 99, 100]] (some (.cmp .ne (.var 4) (.sl (.var 2) (some (.neg (.int 1))) none)))]))], .ret (.var 2)]
def d_law_word : Def := ⟨"_law_word", true, ["_law_bag_here", "_law_most"], ["_law_bag_here", "_law_most", "_law_text", "_law_k", "_law_sign"], b_law_word, false, false, none⟩
def b_law_odd_word : List S := [.set 2 (.call i_law_word [.var 0, .var 1]), .set 3 (.call i_law_pull [.var 0, .bin .add (.bi .len (.var 2)) (.int 1)]), .set 4 (.call i_law_pull [.var 0, .int 5]), .ite (.cmp .eq (.var 4) (.int 0)) [.ret (.bin .add (.bin .add (.sl (.var 2) none (some (.var 3))) (.call i_law_of [.var 0, .lst false [.str [101], .str [65], .str [32], .str [49], .str [122]]])) (.sl (.var 2) (some (.var 3)) none))] [], .ite (.and [.cmp .eq (.var 4) (.int 1), .cmp .ne (.var 2) (.str [])]) [.ret (.bin .add (.bin .add (.sl (.var 2) none (some (.var 3))) (.sl (.var 2) (some (.bin .sub (.var 3) (.int 1))) (some (.var 3)))) (.sl (.var 2) (some (.bin .sub (.var 3) (.int 1))) none))] [], .ite (.cmp .eq (.var 4) (.int 2)) [.ret (.bin .add (.var 2) (.bin .mul (.call i_law_of [.var 0, .lst false [.str [97, 98], .str [99, 100], .str [100, 98, 97]]]) (.bin .add (.int 14) (.call i_law_pull [.var 0, .int 9]))))] [], .ret (.var 2)]
def d_law_odd_word : Def := ⟨"_law_odd_word", true, ["_law_bag_here", "_law_most"], ["_law_bag_here", "_law_most", "_law_text", "_law_at", "_law_fork"], b_law_odd_word, false, false, none⟩
def b_law_word_flaw : List S := [.for [1] .range1 [.bi .len (.var 0)] [.ite (.or [.cmp .nin (.ix (.var 0) (.var 1)) (.str [97, 98, 99, 100]), .and [.cmp .gt (.var 1) (.int 0), .cmp .eq (.ix (.var 0) (.bin .sub (.var 1) (.int 1))) (.ix (.var 0) (.var 1))]]) [.ret (.var 1)] []], .ret (.ite (.cmp .gt (.bi .len (.var 0)) (.int 40)) (.int 40) (.non))]
def d_law_word_flaw : Def := ⟨"_law_word_flaw", true, ["_law_text"], ["_law_text", "_law_at"], b_law_word_flaw, false, false, none⟩
def b_law_is_call : List S := [.ret (.or [.cmp .in_ (.var 0) (.tup [.str [65], .str [66], .str [67], .str [68]]), .and [.cmp .ne (.var 0) (.str []), .cmp .isN (.call i_law_word_flaw [.var 0]) (.non)]])]
def d_law_is_call : Def := ⟨"_law_is_call", true, ["_law_text"], ["_law_text"], b_law_is_call, false, false, none⟩
def b_law : List S := [.set 1 (.call i_law_bag [.var 0]), .for [2] .range1 [.int 8] [.set 3 (.call i_law_odd_word [.var 1, .int 38]), .ite (.cmp .eq (.call i_law_pull [.var 1, .int 5]) (.int 0)) [.set 3 (.call i_law_of [.var 1, .lst false [.str [], .str [65], .str [68], .str [65, 66], .str [69], .str [97], .str [97, 65]]])] [], .set 4 (.lst false [.cmp .isN (.call i_law_word_flaw [.var 3]) (.non), .call i_law_is_call [.var 3]]), .ite (.not (.call i_law_same [.lst false [.call i_is_word [.var 3], .call i_is_call [.var 3]], .var 4])) [.ret (.bl false)] []], .set 5 (.lst false [.str [100], .str [65], .str [97, 98], .str [68], .str [98, 97], .str [97, 98, 99], .str [97, 98, 97]]), .set 6 (.sortk i_call_key (.call i_law_shuffled [.var 1, .var 5])), .set 4 (.lst false [.str [65], .str [68], .str [100], .str [97, 98], .str [98, 97], .str [97, 98, 97], .str [97, 98, 99]]), .ret (.and [.cmp .eq (.var 6) (.var 4), .call i_law_same [.lst false [.glob c_LETTERS, .glob c_GREAT, .glob c_MOST_WORD], .lst false [.str [97, 98, 99, 100], .str [65, 66, 67, 68], .int 40]]])]
def d_law : Def := ⟨"law", true, ["_law_script"], ["_law_script", "_law_bag_here", "_law_turn", "_law_text", "_law_due", "_law_calls", "_law_told"], b_law, false, false, none⟩
abbrev lam : List Str := []
def P : Prog := ⟨[d_flaw_in, d_is_word, d_is_call, d_call_key, d_law_bag, d_law_pull, d_law_of, d_law_shuffled, d_law_same, d_law_word, d_law_odd_word, d_law_word_flaw, d_law_is_call, d_law], [], [("LETTERS", .str [97, 98, 99, 100]), ("GREAT", .str [65, 66, 67, 68]), ("MOST_WORD", .int 40)], [], [], []⟩
theorem g_LETTERS : P.consts[c_LETTERS]? = some (("LETTERS" : Str), (.str [97, 98, 99, 100] : D)) := rfl
theorem g_GREAT : P.consts[c_GREAT]? = some (("GREAT" : Str), (.str [65, 66, 67, 68] : D)) := rfl
theorem g_MOST_WORD : P.consts[c_MOST_WORD]? = some (("MOST_WORD" : Str), (.int 40 : D)) := rfl
theorem p_flaw_in : P.defs[i_flaw_in]? = some d_flaw_in := rfl
theorem p_is_word : P.defs[i_is_word]? = some d_is_word := rfl
theorem p_is_call : P.defs[i_is_call]? = some d_is_call := rfl
theorem p_call_key : P.defs[i_call_key]? = some d_call_key := rfl
theorem p_law_bag : P.defs[i_law_bag]? = some d_law_bag := rfl
theorem p_law_pull : P.defs[i_law_pull]? = some d_law_pull := rfl
theorem p_law_of : P.defs[i_law_of]? = some d_law_of := rfl
theorem p_law_shuffled : P.defs[i_law_shuffled]? = some d_law_shuffled := rfl
theorem p_law_same : P.defs[i_law_same]? = some d_law_same := rfl
theorem p_law_word : P.defs[i_law_word]? = some d_law_word := rfl
theorem p_law_odd_word : P.defs[i_law_odd_word]? = some d_law_odd_word := rfl
theorem p_law_word_flaw : P.defs[i_law_word_flaw]? = some d_law_word_flaw := rfl
theorem p_law_is_call : P.defs[i_law_is_call]? = some d_law_is_call := rfl
theorem p_law : P.defs[i_law]? = some d_law := rfl
def top (i : Nat) : Stmt := PySem.Challenge.pw_gapstone_k10_words_and_calls.main.body.getD i (.Pass ⟨0, 0, 0, 0⟩)
abbrev s_flaw_in : Stmt := top 4
abbrev s_is_word : Stmt := top 5
abbrev s_is_call : Stmt := top 6
abbrev s_call_key : Stmt := top 7
abbrev s_law_bag : Stmt := top 9
abbrev s_law_pull : Stmt := top 10
abbrev s_law_of : Stmt := top 11
abbrev s_law_shuffled : Stmt := top 12
abbrev s_law_same : Stmt := top 13
abbrev s_law_word : Stmt := top 14
abbrev s_law_odd_word : Stmt := top 15
abbrev s_law_word_flaw : Stmt := top 16
abbrev s_law_is_call : Stmt := top 17
abbrev s_law : Stmt := top 18
def fn : List He.DefD := [ddOf "flaw_in" s_flaw_in [] [], ddOf "is_word" s_is_word [] [], ddOf "is_call" s_is_call [] [], ddOf "call_key" s_call_key [] [], ddOf "_law_bag" s_law_bag [] [], ddOf "_law_pull" s_law_pull [] [], ddOf "_law_of" s_law_of [] [], ddOf "_law_shuffled" s_law_shuffled [] [], ddOf "_law_same" s_law_same [] [], ddOf "_law_word" s_law_word [] [], ddOf "_law_odd_word" s_law_odd_word [] [], ddOf "_law_word_flaw" s_law_word_flaw [] [], ddOf "_law_is_call" s_law_is_call [] [], ddOf "law" s_law [] []]
abbrev dvl : List (He.Dv × D) := []
abbrev ex : PySem.W.Frag → Bool := exG P dvl lam
abbrev R0 : PySem.W.OpenRow := PySem.W.OpenLaw.row PySem.Challenge.rw_gapstone_k10_words_and_calls
abbrev hk : PySem.W.Hook := hookS 3 (faOf P) fn ex lam
def ob (s : PySem.W.SharedT) : He.AlD × Bool := obsS 3 (faOf P) fn ex lam (HandSHeadRun.getT s)
theorem ob_eq (s : PySem.W.SharedT) : ob s = hk.obs s.abs := obsS_eq (HandSHeadRun.getT_eq s)
theorem run (w : World) : HandSHeadRun.RunEq R0 (PySem.W.view R0.prog [18]) hk ob 8000 ["flaw_in", "is_word", "is_call", "call_key", "_law_bag", "_law_pull", "_law_of", "_law_shuffled", "_law_same", "_law_word", "_law_odd_word", "_law_word_flaw", "_law_is_call", "LETTERS", "GREAT", "MOST_WORD"] w := by
  intro os
  kernel_rfl
end K10
set_option Elab.async false
set_option linter.all false
set_option maxRecDepth 100000
namespace G
open PySem L2
/-- what of the text is known: the written part, the classes' addresses with their fields, the defs' addresses, the exceptions' classes -/
structure Gm where
  K : PySem.W.Frag
  cls : Nat → Option (Addr × List Str)
  dfn : Nat → Option Addr
  xcl : Nat → Option (Addr × List Str)
  /-- the tables of code objects, with their lambdas' name -/
  T : List (Addr × Str)
  /-- the world, by which texts are hashed -/
  w : World
/-- no table of code objects -/
def NoT (o : HO) : Prop := ∀ ps, o ≠ .tbl ps
/-- nothing but a table stands there -/
def Nn (H : Hp) (a : Addr) : Prop := ∀ o, H a = some o → ∃ ps, o = .tbl ps
theorem Nn.of {H : Hp} {a : Addr} (h : H a = none) : Nn H a := fun o e => by rw [h] at e; cases e
theorem Nn.no {H : Hp} {a : Addr} {o : HO} (h : Nn H a) (e : H a = some o) (n : NoT o) : False := let ⟨ps, z⟩ := h o e; n ps z
theorem not_lst {xs : List V} : NoT (.lst xs) := fun _ z => nomatch z
theorem not_ins {C dx : Addr} {fs : List (Str × V)} : NoT (.ins C dx fs) := fun _ z => nomatch z
theorem not_dk {kvs : List (Key × V)} : NoT (.dK kvs) := fun _ z => nomatch z
/-- a list, an instance or a dict -/
def Cellish (o : HO) : Prop := (∃ xs, o = .lst xs) ∨ (∃ C dx fs, o = .ins C dx fs) ∨ (∃ kvs, o = .dK kvs) ∨ ∃ w D xs, o = kdO w D xs
theorem not_kd {w : World} {D : Addr} {xs : List (NestedKey × Addr × Value)} : NoT (kdO w D xs) := fun _ z => nomatch z
theorem kd_code {w : World} {D : Addr} {xs : List (NestedKey × Addr × Value)} {c : Addr} {q : Str} : kdO w D xs ≠ LamX.CodeO c q := fun e => by
  unfold kdO LamX.CodeO at e
  injection e with e
  obtain ⟨o0, ho0⟩ : ∃ o0 : Obj, o0 = { cls := .none, data := .fields #[.none, .str q 0] } := ⟨_, rfl⟩
  obtain ⟨h0, hh0⟩ : ∃ h0 : Heap, h0 = { objs := Array.replicate (c + 1) o0 } := ⟨_, rfl⟩
  have g : ∀ b o, h0.get? b = some o → o = o0 := fun b o hb => by
    unfold Heap.get? at hb
    by_cases hlt : b < c + 1
    · have z : h0.objs[b]? = some o0 := by rw [hh0]; simp [Array.getElem?_replicate, hlt]
      rw [z, ho0] at hb
      rw [ho0]
      exact (Option.some.inj hb).symm
    · have z : h0.objs[b]? = none := by rw [hh0]; simp [Array.getElem?_replicate, hlt]
      rw [z] at hb
      cases hb
  have gc : h0.get? c = some o0 := by
    unfold Heap.get?
    have z : h0.objs[c]? = some o0 := by rw [hh0]; simp [Array.getElem?_replicate]
    rw [z, ho0]
  have k : KdF w D xs h0 := by
    rw [e]
    exact ⟨o0, #[.none, .str q 0], 0, gc, by rw [ho0], rfl⟩
  obtain ⟨_, _, _, o, es, ep, e1, e2, e3, _⟩ := k
  rw [g D o e1, ho0] at e3
  cases e3
theorem Cellish.nt {o : HO} (h : Cellish o) : NoT o := by
  rcases h with ⟨_, rfl⟩ | ⟨_, _, _, rfl⟩ | ⟨_, rfl⟩ | ⟨_, _, _, rfl⟩
  · exact not_lst
  · exact not_ins
  · exact not_dk
  · exact not_kd
theorem Cellish.l {xs : List V} : Cellish (.lst xs) := .inl ⟨_, rfl⟩
theorem Cellish.i {C dx : Addr} {fs : List (Str × V)} : Cellish (.ins C dx fs) := .inr (.inl ⟨_, _, _, rfl⟩)
theorem Cellish.d {kvs : List (Key × V)} : Cellish (.dK kvs) := .inr (.inr (.inl ⟨_, rfl⟩))
theorem Cellish.k {w : World} {D : Addr} {xs : List (NestedKey × Addr × Value)} : Cellish (kdO w D xs) := .inr (.inr (.inr ⟨_, _, _, rfl⟩))
theorem tabs_write {H : Hp} {p : Addr} {o o0 : HO} (h : H p = some o0) (c : Cellish o0) {T : List (Addr × Str)} (t : LamX.Tabs T H) : LamX.Tabs T (upd H p o) := fun q hq => by
  obtain ⟨ps, h1, h2, h3⟩ := t q hq
  have n1 : q.1 ≠ p := fun z => by
    rw [z, h] at h1
    exact c.nt ps (Option.some.inj h1)
  refine ⟨ps, by rw [upd_ne n1]; exact h1, h2, fun pos cv hc => ?_⟩
  obtain ⟨c', e1, e2⟩ := h3 pos cv hc
  refine ⟨c', e1, ?_⟩
  have n2 : c' ≠ p := fun z => by
    rw [z, h] at e2
    have e3 := Option.some.inj e2
    rcases c with ⟨_, e⟩ | ⟨_, _, _, e⟩ | ⟨_, e⟩ | ⟨_, _, _, e⟩
    · rw [e] at e3; unfold LamX.CodeO at e3; cases e3
    · rw [e] at e3; unfold LamX.CodeO at e3; cases e3
    · rw [e] at e3; unfold LamX.CodeO at e3; cases e3
    · rw [e] at e3; exact kd_code e3
  rw [upd_ne n2]
  exact e2
/-- the cells' addresses; those of lists that are being made -/
structure Fx where
  cs : List Addr
  hd : List Addr
def Fx.out (φ : Fx) (a : Addr) : Prop := a ∉ φ.cs ∧ a ∉ φ.hd
mutual
inductive Rep (Γ : Gm) (φ : Fx) (H : Hp) : V → D → Prop
  | non : Rep Γ φ H .non .non
  | bl (b : Bool) : Rep Γ φ H (.bl b) (.bl b)
  | int (i : Int) : Rep Γ φ H (.int i) (.int i)
  | str (t : T) : Rep Γ φ H (.str (tS t)) (.str t)
  | tup {a : Addr} {xs : List V} {ds : List D} : SqT Γ.K H a xs → Reps Γ φ H xs ds → Rep Γ φ H (.ref a) (.tup ds)
  | lst {a : Addr} {xs : List V} {ds : List D} : H a = some (.lst xs) → φ.out a → Reps Γ φ H xs ds → Rep Γ φ H (.ref a) (.lst ds)
  | scr {a : Addr} {ns : List Int} : (∃ o, H a = some (.frz o (.lst (ns.map V.int)))) ∨ (∃ (o : Obj) (its : Array Value) (n : Nat), Γ.K.lookup a = some o ∧ o.cls = .type "list" ∧ o.dict = none ∧ o.data = .seq its n ∧ its.size ≤ sizeLine ∧ Vals (ns.map V.int) its.toList) → Rep Γ φ H (.ref a) (.scr ns)
  | scrL {a : Addr} {ns : List Int} : H a = some (.lst (ns.map V.int)) → φ.out a → Rep Γ φ H (.ref a) (.scr ns)
  | ins {a C dx : Addr} {c : Nat} {fn : List Str} {xs : List V} {ds : List D} : Γ.cls c = some (C, fn) → H a = some (.ins C dx (fn.zip xs)) → xs.length = fn.length → φ.out a → Reps Γ φ H xs ds → Rep Γ φ H (.ref a) (.ins c ds)
  | ref {a : Addr} {n : Nat} : φ.cs[n]? = some a → Rep Γ φ H (.ref a) (.ref n)
  | dfn {a : Addr} {f : Nat} : Γ.dfn f = some a → Rep Γ φ H (.ref a) (.dfn f)
inductive Reps (Γ : Gm) (φ : Fx) (H : Hp) : List V → List D → Prop
  | nil : Reps Γ φ H [] []
  | cons {v : V} {vs : List V} {d : D} {ds : List D} : Rep Γ φ H v d → Reps Γ φ H vs ds → Reps Γ φ H (v :: vs) (d :: ds)
end
/-- a dict's keys with its values -/
def dkv : List (T × D) → List V → List (Key × V)
  | kv :: r, v :: vs => (.inr (tS kv.1), v) :: dkv r vs
  | _, _ => []
def CellRep (Γ : Gm) (φ : Fx) (H : Hp) (a : Addr) : Cell → Prop
  | .lst ds => ∃ xs, H a = some (.lst xs) ∧ Reps Γ φ H xs ds
  | .ins c ds => ∃ C fn dx xs, Γ.cls c = some (C, fn) ∧ H a = some (.ins C dx (fn.zip xs)) ∧ xs.length ≤ fn.length ∧ Reps Γ φ H xs ds
  | .dct kvs => ∃ vs, H a = some (.dK (dkv kvs vs)) ∧ Reps Γ φ H vs (kvs.map (·.2))
  | .key ks => ∃ xs, H a = some (kdO Γ.w a xs) ∧ Reps Γ φ H (xs.map fun x => V.ref x.2.1) ks ∧ ks.map tkey = xs.map fun x => some x.1
structure Rel (Γ : Gm) (φ : Fx) (H : Hp) (s : Stt) : Prop where
  len : φ.cs.length = s.length
  nd : φ.cs.Nodup
  dis : ∀ a ∈ φ.cs, a ∉ φ.hd
  hid : ∀ a ∈ φ.hd, ∃ o, H a = some o ∧ NoT o
  cell : ∀ (n : Nat) a c, φ.cs[n]? = some a → s[n]? = some c → CellRep Γ φ H a c
  tab : LamX.Tabs Γ.T H
/-- from one heap to a later one: new cells behind the old ones, all but the cells kept -/
structure After (φ : Fx) (H : Hp) (φ' : Fx) (H' : Hp) : Prop where
  grow : ∃ ψ, φ'.cs = φ.cs ++ ψ ∧ ∀ a ∈ ψ, Nn H a
  hid : (∀ a ∈ φ.hd, a ∈ φ'.hd) ∧ ∀ a ∈ φ'.hd, a ∈ φ.hd ∨ Nn H a
  keep : ∀ a o, H a = some o → NoT o → a ∉ φ.cs → H' a = some o
  tups : ∀ a xs, H a = some (.tup xs) → H' a = some (.tup xs)
  frzs : ∀ a o u, H a = some (.frz o u) → H' a = some (.frz o u)
  there : ∀ a o, H a = some o → NoT o → ∃ o', H' a = some o' ∧ NoT o'
theorem After.refl (φ : Fx) (H : Hp) : After φ H φ H := ⟨⟨[], by simp, fun _ h => nomatch h⟩, ⟨fun _ h => h, fun _ h => .inl h⟩, fun _ _ h _ _ => h, fun _ _ h => h, fun _ _ _ h => h, fun a o h n => ⟨o, h, n⟩⟩
theorem After.nn {φ φ' : Fx} {H H' : Hp} (x : After φ H φ' H') {a : Addr} (h : Nn H' a) : Nn H a := fun o e => Classical.byContradiction fun q => by
  obtain ⟨o', e', n⟩ := x.there a o e fun ps z => q ⟨ps, z⟩
  exact h.no e' n
theorem After.trans {φ φ1 φ2 : Fx} {H H1 H2 : Hp} (x : After φ H φ1 H1) (y : After φ1 H1 φ2 H2) : After φ H φ2 H2 := by
  obtain ⟨ψ1, e1, f1⟩ := x.grow
  obtain ⟨ψ2, e2, f2⟩ := y.grow
  refine ⟨⟨ψ1 ++ ψ2, by rw [e2, e1, List.append_assoc], fun a ha => ?_⟩, ⟨fun a h => y.hid.1 a (x.hid.1 a h), fun a h => ?_⟩, fun a o h nt n => y.keep a o (x.keep a o h nt n) nt fun q => ?_, fun a xs h => y.tups a xs (x.tups a xs h), fun a o u h => y.frzs a o u (x.frzs a o u h), fun a o h nt => ?_⟩
  · rcases List.mem_append.mp ha with h | h
    · exact f1 a h
    · exact x.nn (f2 a h)
  · rcases y.hid.2 a h with h | h
    · exact x.hid.2 a h
    · exact .inr (x.nn h)
  · rw [e1] at q
    rcases List.mem_append.mp q with q | q
    · exact n q
    · exact (f1 a q).no h nt
  · obtain ⟨o1, h1, n1⟩ := x.there a o h nt
    exact y.there a o1 h1 n1
theorem keep_upd {H : Hp} {p : Addr} {o : HO} (h : H p = none) : ∀ b u, H b = some u → upd H p o b = some u := fun b u e => by rw [upd_ne (ne_of_none e h)]; exact e
/-- a new object, no cell -/
theorem After.fresh {φ : Fx} {H : Hp} {p : Addr} {o : HO} (h : H p = none) : After φ H φ (upd H p o) :=
  ⟨⟨[], by simp, fun _ h => nomatch h⟩, ⟨fun _ h => h, fun _ h => .inl h⟩, fun a o' e _ _ => keep_upd h _ _ e, fun a xs e => keep_upd h _ _ e, fun a u xs e => keep_upd h _ _ e,
    fun a o' e n => ⟨o', keep_upd h _ _ e, n⟩⟩
/-- a new object that is a cell -/
theorem After.cell {φ : Fx} {H : Hp} {p : Addr} {o : HO} (h : H p = none) : After φ H ⟨φ.cs ++ [p], φ.hd⟩ (upd H p o) :=
  ⟨⟨[p], rfl, fun a q => by rw [List.mem_singleton.mp q]; exact .of h⟩, ⟨fun _ h => h, fun _ h => .inl h⟩, fun a o' e _ _ => keep_upd h _ _ e, fun a xs e => keep_upd h _ _ e, fun a u xs e => keep_upd h _ _ e,
    fun a o' e n => ⟨o', keep_upd h _ _ e, n⟩⟩
/-- a cell is written -/
theorem After.write {φ : Fx} {H : Hp} {p : Addr} {o : HO} (hp : p ∈ φ.cs) (h : ∃ o, H p = some o ∧ Cellish o) (ho : NoT o) : After φ H φ (upd H p o) := by
  obtain ⟨o0, e0, c0⟩ := h
  refine ⟨⟨[], by simp, fun _ h => nomatch h⟩, ⟨fun _ h => h, fun _ h => .inl h⟩, fun a o' e _ n => ?_, fun a xs e => ?_, fun a u xs e => ?_, fun a o' e nt => ?_⟩
  · rw [upd_ne (fun q => n (by rw [q]; exact hp))]; exact e
  · rw [upd_ne (fun q => by rw [q, e0] at e; cases e; rcases c0 with ⟨_, z⟩ | ⟨_, _, _, z⟩ | ⟨_, z⟩ | ⟨_, _, _, z⟩ <;> cases z)]; exact e
  · rw [upd_ne (fun q => by rw [q, e0] at e; cases e; rcases c0 with ⟨_, z⟩ | ⟨_, _, _, z⟩ | ⟨_, z⟩ | ⟨_, _, _, z⟩ <;> cases z)]; exact e
  · by_cases q : a = p
    · exact ⟨o, by rw [q, upd_same], ho⟩
    · exact ⟨o', by rw [upd_ne q]; exact e, nt⟩
theorem After.get {φ φ' : Fx} {H H' : Hp} (x : After φ H φ' H') {n : Nat} {a : Addr} (h : φ.cs[n]? = some a) : φ'.cs[n]? = some a := by
  obtain ⟨ψ, e, _⟩ := x.grow
  rw [e, List.getElem?_append_left (List.getElem?_eq_some_iff.mp h).1]
  exact h
theorem After.out {φ φ' : Fx} {H H' : Hp} (x : After φ H φ' H') {a : Addr} {o : HO} (n : φ.out a) (h : H a = some o) (nt : NoT o) : φ'.out a := by
  refine ⟨fun q => ?_, fun q => (x.hid.2 a q).elim n.2 fun z => z.no h nt⟩
  obtain ⟨ψ, e, f⟩ := x.grow
  rw [e] at q
  rcases List.mem_append.mp q with q | q
  · exact n.1 q
  · exact (f a q).no h nt
theorem SqT.mono {K : PySem.W.Frag} {φ φ' : Fx} {H H' : Hp} (x : After φ H φ' H') {a : Addr} {xs : List V} (h : SqT K H a xs) : SqT K H' a xs := by
  rcases h with (h | ⟨o, h⟩) | h
  · exact .inl (.inl (x.tups _ _ h))
  · exact .inl (.inr ⟨o, x.frzs _ _ _ h⟩)
  · exact .inr h
section
variable {Γ : Gm} {φ φ' : Fx} {H H' : Hp}
mutual
theorem Rep.mono (x : After φ H φ' H') : ∀ {v : V} {d : D}, Rep Γ φ H v d → Rep Γ φ' H' v d
  | _, _, .non => .non
  | _, _, .bl b => .bl b
  | _, _, .int i => .int i
  | _, _, .str t => .str t
  | _, _, .tup h r => .tup (SqT.mono x h) (Reps.mono x r)
  | _, _, .lst h n r => .lst (x.keep _ _ h not_lst n.1) (x.out n h not_lst) (Reps.mono x r)
  | _, _, .scr h => .scr (by
    rcases h with ⟨o, h⟩ | h
    · exact .inl ⟨o, x.frzs _ _ _ h⟩
    · exact .inr h)
  | _, _, .scrL h n => .scrL (x.keep _ _ h not_lst n.1) (x.out n h not_lst)
  | _, _, .ins a1 a2 a3 a4 r => .ins a1 (x.keep _ _ a2 not_ins a4.1) a3 (x.out a4 a2 not_ins) (Reps.mono x r)
  | _, _, .ref h => .ref (x.get h)
  | _, _, .dfn h => .dfn h
theorem Reps.mono (x : After φ H φ' H') : ∀ {v : List V} {d : List D}, Reps Γ φ H v d → Reps Γ φ' H' v d
  | _, _, .nil => .nil
  | _, _, .cons a b => .cons (Rep.mono x a) (Reps.mono x b)
end
end
section
variable {Γ : Gm} {φ φ' : Fx} {H H' : Hp}
theorem Reps.len : ∀ {vs : List V} {ds : List D}, Reps Γ φ H vs ds → vs.length = ds.length
  | _, _, .nil => rfl
  | _, _, .cons _ r => by simp [Reps.len r]
theorem Reps.get : ∀ {vs : List V} {ds : List D} {i : Nat} {d : D}, Reps Γ φ H vs ds → ds[i]? = some d → ∃ v, vs[i]? = some v ∧ Rep Γ φ H v d
  | _, _, _, _, .nil, h => by simp at h
  | _, _, 0, _, .cons a _, h => by simp at h; subst h; exact ⟨_, rfl, a⟩
  | _, _, i + 1, _, .cons _ r, h => by
    obtain ⟨v, h1, h2⟩ := Reps.get (i := i) r (by simpa using h)
    exact ⟨v, by simpa using h1, h2⟩
theorem Reps.append : ∀ {vs ws : List V} {ds es : List D}, Reps Γ φ H vs ds → Reps Γ φ H ws es → Reps Γ φ H (vs ++ ws) (ds ++ es)
  | _, _, _, _, .nil, r => r
  | _, _, _, _, .cons a b, r => .cons a (Reps.append b r)
theorem Reps.take : ∀ {vs : List V} {ds : List D} (n : Nat), Reps Γ φ H vs ds → Reps Γ φ H (vs.take n) (ds.take n)
  | _, _, 0, _ => by simpa using .nil
  | _, _, n + 1, .nil => by simpa using .nil
  | _, _, n + 1, .cons a r => by simpa using .cons a (Reps.take n r)
theorem Reps.drop : ∀ {vs : List V} {ds : List D} (n : Nat), Reps Γ φ H vs ds → Reps Γ φ H (vs.drop n) (ds.drop n)
  | _, _, 0, r => by simpa using r
  | _, _, n + 1, .nil => by simpa using .nil
  | _, _, n + 1, .cons a r => by simpa using Reps.drop n r
theorem Reps.set {v : V} {d : D} (h : Rep Γ φ H v d) : ∀ {vs : List V} {ds : List D} (n : Nat), Reps Γ φ H vs ds → Reps Γ φ H (vs.set n v) (ds.set n d)
  | _, _, _, .nil => by simpa using .nil
  | _, _, 0, .cons _ r => by simpa using .cons h r
  | _, _, n + 1, .cons a r => by simpa using .cons a (Reps.set h n r)
theorem Reps.erase : ∀ {vs : List V} {ds : List D} (n : Nat), Reps Γ φ H vs ds → Reps Γ φ H (vs.eraseIdx n) (ds.eraseIdx n)
  | _, _, _, .nil => by simpa using .nil
  | _, _, 0, .cons _ r => by simpa using r
  | _, _, n + 1, .cons a r => by simpa using .cons a (Reps.erase n r)
theorem Reps.dropLast {vs : List V} {ds : List D} (r : Reps Γ φ H vs ds) : Reps Γ φ H vs.dropLast ds.dropLast := by
  rw [List.dropLast_eq_take, List.dropLast_eq_take, r.len]
  exact r.take _
theorem Reps.cut {vs : List V} {ds : List D} (r : Reps Γ φ H vs ds) (lo hi : Option Int) : Reps Γ φ H (cutV vs lo hi) (cut ds lo hi) := by
  unfold cutV G.cut
  rw [r.len]
  exact (r.drop _).take _
theorem Reps.intsL : ∀ (ns : List Int), Reps Γ φ H (ns.map V.int) (ns.map D.int)
  | [] => .nil
  | n :: ns => .cons (.int n) (Reps.intsL ns)
theorem Reps.ne_nil {vs : List V} {ds : List D} (r : Reps Γ φ H vs ds) (h : ds ≠ []) : vs ≠ [] := fun q => by
  subst q
  cases r
  exact h rfl
theorem Reps.isEmpty {vs : List V} {ds : List D} (r : Reps Γ φ H vs ds) : vs.isEmpty = ds.isEmpty := by cases r <;> rfl
theorem Reps.bools : ∀ {vs : List V} {ds : List D} {bs : List Bool}, Reps Γ φ H vs ds → G.bools ds = some bs → vs = bs.map V.bl
  | _, _, _, .nil, h => by simp [G.bools] at h; subst h; rfl
  | _, _, _, .cons (d := d) a r, h => by
    cases d <;> simp only [G.bools, Option.map_eq_some_iff, reduceCtorEq] at h
    obtain ⟨bs', h1, rfl⟩ := h
    cases a
    rw [Reps.bools r h1]
    rfl
theorem Reps.ints : ∀ {vs : List V} {ds : List D} {bs : List Int}, Reps Γ φ H vs ds → G.intsD ds = some bs → vs = bs.map V.int
  | _, _, _, .nil, h => by simp [G.intsD] at h; subst h; rfl
  | _, _, _, .cons (d := d) a r, h => by
    cases d <;> simp only [G.intsD, Option.map_eq_some_iff, reduceCtorEq] at h
    obtain ⟨bs', h1, rfl⟩ := h
    cases a
    rw [Reps.ints r h1]
    rfl
mutual
theorem Rep.dp : ∀ {v : V} {d : D} {p : PyData}, Rep Γ φ H v d → d.toP = some p → Dp Γ.K H v p
  | _, _, _, .non, h => by simp [D.toP] at h; subst h; exact .non
  | _, _, _, .bl b, h => by simp [D.toP] at h; subst h; exact .bl b
  | _, _, _, .int b, h => by simp [D.toP] at h; subst h; exact .int b
  | _, _, _, .str b, h => by simp [D.toP] at h; subst h; exact .str _
  | _, _, _, .tup s r, h => by
    simp only [D.toP, Option.map_eq_some_iff] at h
    obtain ⟨ps, h1, rfl⟩ := h
    exact .tup s (Reps.dp r h1)
  | _, _, _, .lst s n r, h => by
    simp only [D.toP, Option.map_eq_some_iff] at h
    obtain ⟨ps, h1, rfl⟩ := h
    exact .lst (SqL.of s) (Reps.dp r h1)
  | _, _, _, .scr _, h => by simp [D.toP] at h
  | _, _, _, .scrL _ _, h => by simp [D.toP] at h
  | _, _, _, .ins .., h => by simp [D.toP] at h
  | _, _, _, .ref _, h => by simp [D.toP] at h
  | _, _, _, .dfn _, h => by simp [D.toP] at h
theorem Reps.dp : ∀ {v : List V} {d : List D} {p : List PyData}, Reps Γ φ H v d → D.toPs d = some p → DpAll Γ.K H v p
  | _, _, _, .nil, h => by simp [D.toPs] at h; subst h; exact .nil
  | _, d :: ds, _, .cons a b, h => by
    simp only [D.toPs] at h
    cases e1 : d.toP with
    | none => simp [e1] at h
    | some q =>
      cases e2 : D.toPs ds with
      | none => simp [e1, e2] at h
      | some qs =>
        simp [e1, e2] at h
        subst h
        exact .cons (Rep.dp a e1) (Reps.dp b e2)
end
theorem CellRep.mono {a : Addr} {c : Cell} (x : After φ H φ' H') (h : CellRep Γ φ H a c) (e : H' a = H a) : CellRep Γ φ' H' a c := by
  cases c with
  | lst ds =>
    obtain ⟨xs, h1, r⟩ := h
    exact ⟨xs, e.trans h1, r.mono x⟩
  | ins c ds =>
    obtain ⟨C, fn, dx, xs, h0, h1, l, r⟩ := h
    exact ⟨C, fn, dx, xs, h0, e.trans h1, l, r.mono x⟩
  | dct kvs =>
    obtain ⟨vs, h1, r⟩ := h
    exact ⟨vs, e.trans h1, r.mono x⟩
  | key ks =>
    obtain ⟨xs, h1, r, h2⟩ := h
    exact ⟨xs, e.trans h1, r.mono x, h2⟩
theorem CellRep.there {a : Addr} {c : Cell} (h : CellRep Γ φ H a c) : ∃ o, H a = some o ∧ Cellish o := by
  cases c with
  | lst ds =>
    obtain ⟨xs, h1, r⟩ := h
    exact ⟨_, h1, .l⟩
  | ins c ds =>
    obtain ⟨C, fn, dx, xs, h0, h1, l, r⟩ := h
    exact ⟨_, h1, .i⟩
  | dct kvs =>
    obtain ⟨vs, h1, r⟩ := h
    exact ⟨_, h1, .d⟩
  | key ks =>
    obtain ⟨xs, h1, r⟩ := h
    exact ⟨_, h1, .k⟩
theorem Rel.at_ {s : Stt} (r : Rel Γ φ H s) {n : Nat} {c : Cell} (h : s[n]? = some c) : ∃ a, φ.cs[n]? = some a ∧ CellRep Γ φ H a c := by
  have hn := (List.getElem?_eq_some_iff.mp h).1
  have : n < φ.cs.length := by rw [r.len]; exact hn
  exact ⟨φ.cs[n], List.getElem?_eq_getElem this, r.cell n _ c (List.getElem?_eq_getElem this) h⟩
theorem Rel.there {s : Stt} (r : Rel Γ φ H s) {n : Nat} {a : Addr} (h : φ.cs[n]? = some a) : ∃ c, s[n]? = some c ∧ CellRep Γ φ H a c := by
  have hn := (List.getElem?_eq_some_iff.mp h).1
  have : n < s.length := by rw [← r.len]; exact hn
  exact ⟨s[n], List.getElem?_eq_getElem this, r.cell n _ _ h (List.getElem?_eq_getElem this)⟩
theorem Rel.fresh {s : Stt} {p : Addr} {o : HO} (r : Rel Γ φ H s) (h : H p = none) : Rel Γ φ (upd H p o) s :=
  ⟨r.len, r.nd, r.dis, fun a ha => let ⟨o, e, n⟩ := r.hid a ha; (After.fresh (φ := φ) h).there a o e n, fun n a c h1 h2 => by
    have q := r.cell n a c h1 h2
    obtain ⟨o', e, _⟩ := q.there
    exact q.mono (After.fresh h) (by rw [upd_ne (ne_of_none e h)]), r.tab.ext (keep_upd h)⟩
theorem Rel.push {s : Stt} {p : Addr} {xs : List V} {ds : List D} (r : Rel Γ φ H s) (h : H p = none) (q : Reps Γ φ H xs ds) : Rel Γ ⟨φ.cs ++ [p], φ.hd⟩ (upd H p (.lst xs)) (s ++ [.lst ds]) := by
  refine ⟨by simp [r.len], ?_, fun a ha hb => ?_, fun a ha => let ⟨o, e, n⟩ := r.hid a ha; (After.fresh (φ := φ) h).there a o e n, fun n a c h1 h2 => ?_, r.tab.ext (keep_upd h)⟩
  · refine List.nodup_append.mpr ⟨r.nd, by simp, fun a ha b hb e => ?_⟩
    rw [List.mem_singleton.mp hb] at e
    obtain ⟨n, hn⟩ := List.getElem?_of_mem ha
    obtain ⟨c, _, hc⟩ := r.there hn
    obtain ⟨o, e', _⟩ := hc.there
    rw [e, h] at e'
    cases e'
  · rcases List.mem_append.mp ha with ha | ha
    · exact r.dis a ha hb
    · rw [List.mem_singleton.mp ha] at hb
      obtain ⟨o, e, _⟩ := r.hid p hb
      rw [h] at e
      cases e
  · have A : After φ H ⟨φ.cs ++ [p], φ.hd⟩ (upd H p (.lst xs)) := After.cell h
    by_cases hn : n < φ.cs.length
    · rw [List.getElem?_append_left hn] at h1
      rw [List.getElem?_append_left (by rw [← r.len]; exact hn)] at h2
      have q := r.cell n a c h1 h2
      obtain ⟨o', e, _⟩ := q.there
      exact q.mono A (by rw [upd_ne (ne_of_none e h)])
    · have l1 := (List.getElem?_eq_some_iff.mp h1).1
      have e : n = φ.cs.length := by simp at l1; omega
      subst e
      have e1 : a = p := by simpa using h1.symm
      have e2 : c = .lst ds := by rw [r.len] at h2; simpa using h2.symm
      subst e1 e2
      exact ⟨xs, upd_same, q.mono A⟩
theorem nodup_ixN {l : List Addr} (hN : l.Nodup) {i j : Nat} {x : Addr} (a : l[i]? = some x) (b : l[j]? = some x) : i = j := by
  obtain ⟨h1, e1⟩ := List.getElem?_eq_some_iff.mp a
  obtain ⟨h2, e2⟩ := List.getElem?_eq_some_iff.mp b
  exact (List.getElem_inj hN).mp (e1.trans e2.symm)
theorem Rel.write {s : Stt} {p : Addr} {n : Nat} {xs : List V} {ds : List D} (r : Rel Γ φ H s) (h : φ.cs[n]? = some p) (q : Reps Γ φ H xs ds) : Rel Γ φ (upd H p (.lst xs)) (s.set n (.lst ds)) := by
  obtain ⟨c0, hc0, hr0⟩ := r.there h
  have A : After φ H φ (upd H p (.lst xs)) := After.write (List.mem_of_getElem? h) hr0.there not_lst
  refine ⟨by simp [r.len], r.nd, r.dis, fun a ha => let ⟨o, e, n⟩ := r.hid a ha; A.there a o e n, fun m a c h1 h2 => ?_, let ⟨_, e0, c0⟩ := hr0.there; tabs_write e0 c0 r.tab⟩
  by_cases e : m = n
  · subst e
    rw [h] at h1
    cases h1
    rw [List.getElem?_set_self (List.getElem?_eq_some_iff.mp hc0).1] at h2
    cases h2
    exact ⟨xs, upd_same, q.mono A⟩
  · rw [List.getElem?_set_ne (Ne.symm e)] at h2
    refine (r.cell m a c h1 h2).mono A (upd_ne fun z => e ?_)
    subst z
    exact nodup_ixN r.nd h1 h
def Fx.hide (φ : Fx) (p : Addr) : Fx := ⟨φ.cs, p :: φ.hd⟩
theorem After.hide {p : Addr} {o : HO} (h : H p = none) : After φ H (φ.hide p) (upd H p o) :=
  ⟨⟨[], by simp [Fx.hide], fun _ h => nomatch h⟩, ⟨fun a q => List.mem_cons_of_mem _ q, fun a q => (List.mem_cons.mp q).elim (fun e => .inr (by rw [e]; exact .of h)) .inl⟩, fun a o' e _ _ => keep_upd h _ _ e, fun a xs e => keep_upd h _ _ e, fun a u xs e => keep_upd h _ _ e,
    fun a o' e n => ⟨o', keep_upd h _ _ e, n⟩⟩
theorem Rel.hide {s : Stt} {p : Addr} {o : HO} (r : Rel Γ φ H s) (h : H p = none) (ho : NoT o) : Rel Γ (φ.hide p) (upd H p o) s :=
  ⟨r.len, r.nd, fun a ha hb => by
    rcases List.mem_cons.mp hb with e | e
    · obtain ⟨n, hn⟩ := List.getElem?_of_mem ha
      obtain ⟨c, _, hc⟩ := r.there hn
      obtain ⟨o, e', _⟩ := hc.there
      rw [e, h] at e'
      cases e'
    · exact r.dis a ha e, fun a ha => by
    rcases List.mem_cons.mp ha with e | e
    · exact ⟨o, by rw [e, upd_same], ho⟩
    · obtain ⟨o', q, n⟩ := r.hid a e
      exact ⟨o', keep_upd h _ _ q, n⟩, fun n a c h1 h2 => by
    have q := r.cell n a c h1 h2
    obtain ⟨o', e, _⟩ := q.there
    exact q.mono (After.hide h) (by rw [upd_ne (ne_of_none e h)]), r.tab.ext (keep_upd h)⟩
mutual
theorem Rep.hidW {p : Addr} {xs0 : List V} {o : HO} (hp : p ∈ φ.hd) (h0 : H p = some (.lst xs0)) : ∀ {v : V} {d : D}, Rep Γ φ H v d → Rep Γ φ (upd H p o) v d
  | _, _, .non => .non
  | _, _, .bl b => .bl b
  | _, _, .int i => .int i
  | _, _, .str t => .str t
  | _, _, .tup h r => .tup (by
    rcases h with (h | ⟨o, h⟩) | h
    · exact .inl (.inl (by rw [upd_ne (ne_of h h0 (fun z => nomatch z))]; exact h))
    · exact .inl (.inr ⟨o, by rw [upd_ne (ne_of h h0 (fun z => nomatch z))]; exact h⟩)
    · exact .inr h) (Reps.hidW hp h0 r)
  | _, _, .lst h n r => .lst (by rw [upd_ne (fun z => n.2 (by rw [z]; exact hp))]; exact h) n (Reps.hidW hp h0 r)
  | _, _, .scr h => .scr (by
    rcases h with ⟨o, h⟩ | h
    · exact .inl ⟨o, by rw [upd_ne (ne_of h h0 (fun z => nomatch z))]; exact h⟩
    · exact .inr h)
  | _, _, .scrL h n => .scrL (by rw [upd_ne (fun z => n.2 (by rw [z]; exact hp))]; exact h) n
  | _, _, .ins a1 a2 a3 a4 r => .ins a1 (by rw [upd_ne (fun z => a4.2 (by rw [z]; exact hp))]; exact a2) a3 a4 (Reps.hidW hp h0 r)
  | _, _, .ref h => .ref h
  | _, _, .dfn h => .dfn h
theorem Reps.hidW {p : Addr} {xs0 : List V} {o : HO} (hp : p ∈ φ.hd) (h0 : H p = some (.lst xs0)) : ∀ {v : List V} {d : List D}, Reps Γ φ H v d → Reps Γ φ (upd H p o) v d
  | _, _, .nil => .nil
  | _, _, .cons a b => .cons (Rep.hidW hp h0 a) (Reps.hidW hp h0 b)
end
mutual
theorem Rep.less {φ φ' : Fx} (x : ∀ (n : Nat) a, φ.cs[n]? = some a → φ'.cs[n]? = some a) (y : ∀ a, φ.out a → φ'.out a) : ∀ {v : V} {d : D}, Rep Γ φ H v d → Rep Γ φ' H v d
  | _, _, .non => .non
  | _, _, .bl b => .bl b
  | _, _, .int i => .int i
  | _, _, .str t => .str t
  | _, _, .tup h r => .tup h (Reps.less x y r)
  | _, _, .lst h n r => .lst h (y _ n) (Reps.less x y r)
  | _, _, .scr h => .scr h
  | _, _, .scrL h n => .scrL h (y _ n)
  | _, _, .ins a1 a2 a3 a4 r => .ins a1 a2 a3 (y _ a4) (Reps.less x y r)
  | _, _, .ref h => .ref (x _ _ h)
  | _, _, .dfn h => .dfn h
theorem Reps.less {φ φ' : Fx} (x : ∀ (n : Nat) a, φ.cs[n]? = some a → φ'.cs[n]? = some a) (y : ∀ a, φ.out a → φ'.out a) : ∀ {v : List V} {d : List D}, Reps Γ φ H v d → Reps Γ φ' H v d
  | _, _, .nil => .nil
  | _, _, .cons a b => .cons (Rep.less x y a) (Reps.less x y b)
end
theorem Rel.hidW {s : Stt} {p : Addr} {xs0 xs1 : List V} (r : Rel Γ φ H s) (hp : p ∈ φ.hd) (h0 : H p = some (.lst xs0)) (hc : p ∉ φ.cs) : Rel Γ φ (upd H p (.lst xs1)) s := by
  refine ⟨r.len, r.nd, r.dis, fun a ha => ?_, fun n a c h1 h2 => ?_, tabs_write h0 .l r.tab⟩
  · by_cases e : a = p
    · exact ⟨_, by rw [e, upd_same], not_lst⟩
    · obtain ⟨o, q, n⟩ := r.hid a ha
      exact ⟨o, by rw [upd_ne e]; exact q, n⟩
  · have ne : a ≠ p := fun e => hc (by rw [← e]; exact List.mem_of_getElem? h1)
    have q := r.cell n a c h1 h2
    cases c with
    | lst ds =>
      obtain ⟨xs, e, r'⟩ := q
      exact ⟨xs, by rw [upd_ne ne]; exact e, r'.hidW hp h0⟩
    | ins c ds =>
      obtain ⟨C, fn, dx, xs, h0', e, l, r'⟩ := q
      exact ⟨C, fn, dx, xs, h0', by rw [upd_ne ne]; exact e, l, r'.hidW hp h0⟩
    | dct kvs =>
      obtain ⟨vs, e, r'⟩ := q
      exact ⟨vs, by rw [upd_ne ne]; exact e, r'.hidW hp h0⟩
    | key ks =>
      obtain ⟨xs, e, r', e2⟩ := q
      exact ⟨xs, by rw [upd_ne ne]; exact e, r'.hidW hp h0, e2⟩
theorem Rel.show {s : Stt} {hd : List Addr} (r : Rel Γ φ H s) (h : ∀ a ∈ hd, a ∈ φ.hd) : Rel Γ ⟨φ.cs, hd⟩ H s :=
  ⟨r.len, r.nd, fun a ha hb => r.dis a ha (h a hb), fun a ha => r.hid a (h a ha), fun n a c h1 h2 => by
    have q := r.cell n a c h1 h2
    have L : ∀ a, φ.out a → (⟨φ.cs, hd⟩ : Fx).out a := fun a ⟨x, y⟩ => ⟨x, fun z => y (h a z)⟩
    cases c with
    | lst ds =>
      obtain ⟨xs, e, r'⟩ := q
      exact ⟨xs, e, Reps.less (φ := φ) (φ' := ⟨φ.cs, hd⟩) (fun _ _ h => h) L r'⟩
    | ins c ds =>
      obtain ⟨C, fn, dx, xs, h0', e, l, r'⟩ := q
      exact ⟨C, fn, dx, xs, h0', e, l, Reps.less (φ := φ) (φ' := ⟨φ.cs, hd⟩) (fun _ _ h => h) L r'⟩
    | dct kvs =>
      obtain ⟨vs, e, r'⟩ := q
      exact ⟨vs, e, Reps.less (φ := φ) (φ' := ⟨φ.cs, hd⟩) (fun _ _ h => h) L r'⟩
    | key ks =>
      obtain ⟨xs, e, r', e2⟩ := q
      exact ⟨xs, e, Reps.less (φ := φ) (φ' := ⟨φ.cs, hd⟩) (fun _ _ h => h) L r', e2⟩, r.tab⟩
/-- the tables grow -/
theorem After.extN (e : LamX.ExtN H H') : After φ H φ H' :=
  ⟨⟨[], by simp, fun _ h => nomatch h⟩, ⟨fun _ h => h, fun _ h => .inl h⟩, fun a o h n _ => e a o h n, fun a xs h => e a _ h (fun _ z => nomatch z), fun a o u h => e a _ h (fun _ z => nomatch z), fun a o h n => ⟨o, e a o h n, n⟩⟩
theorem Rel.extN {s : Stt} (r : Rel Γ φ H s) (e : LamX.ExtN H H') (t : LamX.Tabs Γ.T H') : Rel Γ φ H' s :=
  ⟨r.len, r.nd, r.dis, fun a ha => let ⟨o, q, n⟩ := r.hid a ha; ⟨o, e a o q n, n⟩, fun n a c h1 h2 => by
    have q := r.cell n a c h1 h2
    obtain ⟨o', q', c'⟩ := q.there
    exact q.mono (After.extN e) (by rw [e a _ q' c'.nt, q']), t⟩
structure ER (Γ : Gm) (φ : Fx) (H : Hp) (σ : St) (ρ : G.Env) : Prop where
  len : σ.length = ρ.length
  get : ∀ (i : Nat) d, ρ[i]? = some (some d) → ∃ v, σ[i]? = some (some v) ∧ Rep Γ φ H v d
theorem ER.mono {σ : St} {ρ : G.Env} (x : After φ H φ' H') (r : ER Γ φ H σ ρ) : ER Γ φ' H' σ ρ :=
  ⟨r.len, fun i d h => let ⟨v, h1, h2⟩ := r.get i d h; ⟨v, h1, h2.mono x⟩⟩
theorem ER.set {σ : St} {ρ : G.Env} {v : V} {d : D} (r : ER Γ φ H σ ρ) (h : Rep Γ φ H v d) (i : Nat) : ER Γ φ H (σ.set i (some v)) (ρ.set i (some d)) :=
  ⟨by simp [r.len], fun j e h1 => by
    by_cases q : j = i
    · subst q
      by_cases l : j < ρ.length
      · rw [List.getElem?_set_self l] at h1
        cases h1
        exact ⟨v, List.getElem?_set_self (by rw [r.len]; exact l), h⟩
      · rw [List.getElem?_eq_none (by simpa using l)] at h1
        cases h1
    · rw [List.getElem?_set_ne (Ne.symm q)] at h1 ⊢
      exact r.get j e h1⟩
theorem ER.clear {σ : St} {ρ : G.Env} (r : ER Γ φ H σ ρ) (i : Nat) : ER Γ φ H (σ.set i none) (ρ.set i none) :=
  ⟨by simp [r.len], fun j e h1 => by
    by_cases q : j = i
    · subst q
      by_cases l : j < ρ.length
      · rw [List.getElem?_set_self l] at h1
        cases h1
      · rw [List.getElem?_eq_none (by simpa using l)] at h1
        cases h1
    · rw [List.getElem?_set_ne (Ne.symm q)] at h1 ⊢
      exact r.get j e h1⟩
theorem ER.wipe {σ : St} {ρ : G.Env} (r : ER Γ φ H σ ρ) : ∀ vs : List Nat, ER Γ φ H (L2.wipe σ vs) (wipeE ρ vs)
  | [] => r
  | v :: vs => (ER.wipe r vs).clear v
theorem ER.var {σ : St} {ρ : G.Env} (r : ER Γ φ H σ ρ) {i : Nat} {d : D} (h : ρ[i]?.join = some d) : ∃ v, σ[i]? = some (some v) ∧ Rep Γ φ H v d := r.get i d (by
  cases q : ρ[i]? with
  | none => rw [q] at h; cases h
  | some o => rw [q] at h; exact congrArg some h)
def XR (Γ : Gm) (φ : Fx) (H : Hp) (cls : Value) (dd : Option Addr) (c : Nat) (fs : List D) : Prop :=
  ∃ C fn d l, Γ.xcl c = some (C, fn) ∧ cls = .ref C ∧ dd = some d ∧ H d = some (.xd l) ∧ fn.length = fs.length ∧ ∀ (i : Nat) f e, fn[i]? = some f → fs[i]? = some e → ∃ v, l.lookup f = some v ∧ Rep Γ φ H v e
def Go (Γ : Gm) (W : WX) (φ : Fx) (H : Hp) (σ : St) {α : Type} (r : R α) (K : α → Stt → Fx → Hp → Prop) : Prop := match r with
  | .ok a s => ∀ φ' H', After φ H φ' H' → Rel Γ φ' H' s → K a s φ' H'
  | .exc c fs s => ∀ φ' H' cls dd, After φ H φ' H' → Rel Γ φ' H' s → XR Γ φ' H' cls dd c fs → W cls dd σ H'
  | .stuck => False
theorem Go.imp {W : WX} {σ : St} {α : Type} {r : R α} {K K' : α → Stt → Fx → Hp → Prop} (h : Go Γ W φ H σ r K) (f : ∀ a s φ' H', After φ H φ' H' → Rel Γ φ' H' s → K a s φ' H' → K' a s φ' H') : Go Γ W φ H σ r K' := by
  cases r with
  | ok a s => exact fun φ' H' x y => f a s φ' H' x y (h φ' H' x y)
  | exc c fs s => exact h
  | stuck => exact h
theorem Go.bind {W : WX} {σ : St} {α β : Type} {r : R α} {f : α → Stt → R β} {K : β → Stt → Fx → Hp → Prop} (h : Go Γ W φ H σ (r.bind f) K) : Go Γ W φ H σ r fun a s φ1 H1 => Go Γ W φ1 H1 σ (f a s) K := by
  cases r with
  | ok a s =>
    intro φ1 H1 x y
    have h : Go Γ W φ H σ (f a s) K := h
    cases e : f a s with
    | ok b s2 => rw [e] at h; exact fun φ2 H2 x2 y2 => h φ2 H2 (x.trans x2) y2
    | exc c fs s2 => rw [e] at h; exact fun φ2 H2 cls dd x2 y2 q => h φ2 H2 cls dd (x.trans x2) y2 q
    | stuck => rw [e] at h; exact h
  | exc c fs s => exact h
  | stuck => exact h
def GoS (Γ : Gm) (W : WX) (φ : Fx) (H : Hp) (r : RS) (D : Ends) : Prop := match r with
  | .nx ρ s => ∀ φ' H' σ', After φ H φ' H' → Rel Γ φ' H' s → ER Γ φ' H' σ' ρ → D.nx σ' H'
  | .bk ρ s => ∀ φ' H' σ', After φ H φ' H' → Rel Γ φ' H' s → ER Γ φ' H' σ' ρ → D.bk σ' H'
  | .ct ρ s => ∀ φ' H' σ', After φ H φ' H' → Rel Γ φ' H' s → ER Γ φ' H' σ' ρ → D.ct σ' H'
  | .rt d s => ∀ φ' H' v, After φ H φ' H' → Rel Γ φ' H' s → Rep Γ φ' H' v d → D.rt v H'
  | .exc c fs ρ s => ∀ φ' H' σ' cls dd, After φ H φ' H' → Rel Γ φ' H' s → ER Γ φ' H' σ' ρ → XR Γ φ' H' cls dd c fs → W cls dd σ' H'
  | .stuck => False
/-- an earlier ground -/
theorem GoS.from {W : WX} {r : RS} {D : Ends} (x : After φ H φ' H') (h : GoS Γ W φ H r D) : GoS Γ W φ' H' r D := by
  cases r with
  | nx ρ s => exact fun φ2 H2 σ2 x2 => h φ2 H2 σ2 (x.trans x2)
  | bk ρ s => exact fun φ2 H2 σ2 x2 => h φ2 H2 σ2 (x.trans x2)
  | ct ρ s => exact fun φ2 H2 σ2 x2 => h φ2 H2 σ2 (x.trans x2)
  | rt d s => exact fun φ2 H2 σ2 x2 => h φ2 H2 σ2 (x.trans x2)
  | exc c fs ρ s => exact fun φ2 H2 σ2 cls dd x2 => h φ2 H2 σ2 cls dd (x.trans x2)
  | stuck => exact h
theorem Go.from {W : WX} {σ : St} {α : Type} {r : R α} {K : α → Stt → Fx → Hp → Prop} (x : After φ H φ' H') (h : Go Γ W φ H σ r K) : Go Γ W φ' H' σ r K := by
  cases r with
  | ok a s => exact fun φ2 H2 x2 => h φ2 H2 (x.trans x2)
  | exc c fs s => exact fun φ2 H2 cls dd x2 => h φ2 H2 cls dd (x.trans x2)
  | stuck => exact h
theorem GoS.st {W : WX} {σ : St} {ρ : G.Env} {α : Type} {r : R α} {f : α → Stt → RS} {D : Ends} (e : ER Γ φ H σ ρ) (h : GoS Γ W φ H (r.st ρ f) D) : Go Γ W φ H σ r fun a s φ1 H1 => GoS Γ W φ1 H1 (f a s) D := by
  cases r with
  | ok a s => exact fun φ1 H1 x y => GoS.from x h
  | exc c fs s => exact fun φ1 H1 cls dd x y q => h φ1 H1 σ cls dd x y (e.mono x) q
  | stuck => exact h
theorem GoS.seq {W : WX} {r : RS} {f : G.Env → Stt → RS} {D : Ends} (h : GoS Γ W φ H (r.seq f) D) : GoS Γ W φ H r { D with nx := fun σ1 H1 => ∃ ρ s φ1, ER Γ φ1 H1 σ1 ρ ∧ Rel Γ φ1 H1 s ∧ GoS Γ W φ1 H1 (f ρ s) D } := by
  cases r with
  | nx ρ s => exact fun φ1 H1 σ1 x y e => ⟨ρ, s, φ1, e, y, GoS.from x h⟩
  | bk ρ s => exact h
  | ct ρ s => exact h
  | rt d s => exact h
  | exc c fs ρ s => exact h
  | stuck => exact h
/-- the readings -/
def dE (Γ : Gm) (W : WX) (g : G.Env → Stt → R D) : TE := fun σ H Q => ∃ φ ρ s, ER Γ φ H σ ρ ∧ Rel Γ φ H s ∧ Go Γ W φ H σ (g ρ s) fun d s' φ' H' => ∀ v, Rep Γ φ' H' v d → Q v H'
def dT (Γ : Gm) (W : WX) (g : G.Env → Stt → R Bool) : TT := fun σ H Q => ∃ φ ρ s, ER Γ φ H σ ρ ∧ Rel Γ φ H s ∧ Go Γ W φ H σ (g ρ s) fun k s' φ' H' => Q k H'
def dA (Γ : Gm) (W : WX) (g : G.Env → Stt → R (List D)) : TA := fun σ H Q => ∃ φ ρ s, ER Γ φ H σ ρ ∧ Rel Γ φ H s ∧ Go Γ W φ H σ (g ρ s) fun ds s' φ' H' => ∀ vs, Reps Γ φ' H' vs ds → Q vs H'
def dS (Γ : Gm) (W : WX) (g : G.Env → Stt → RS) : TS := fun D σ H => ∃ φ ρ s, ER Γ φ H σ ρ ∧ Rel Γ φ H s ∧ GoS Γ W φ H (g ρ s) D
end
section
variable {X : Cx} {e : Expr} {es : List Expr} {st : Stmt} {sts : List Stmt}
theorem _root_.L2.PE.mono {t t' : TE} (h : PE X e t) (f : ∀ σ H Q, t' σ H Q → t σ H Q) : PE X e t' := ⟨fun pins s σ H Q I q => h.run pins s σ H Q I (f _ _ _ q)⟩
theorem _root_.L2.PT.mono {t t' : TT} (h : PT X e t) (f : ∀ σ H Q, t' σ H Q → t σ H Q) : PT X e t' := ⟨fun pins s σ H Q I q => h.run pins s σ H Q I (f _ _ _ q)⟩
theorem _root_.L2.PW.mono {t t' : TT} (h : PW X e t) (f : ∀ σ H Q, t' σ H Q → t σ H Q) : PW X e t' := ⟨fun wh pins s σ H Q I q => h.run wh pins s σ H Q I (f _ _ _ q)⟩
theorem _root_.L2.PA.mono {t t' : TA} (h : PA X es t) (f : ∀ σ H Q, t' σ H Q → t σ H Q) : PA X es t' := ⟨fun pos pins s σ H Q I q => h.run pos pins s σ H Q I (f _ _ _ q)⟩
theorem _root_.L2.PS.mono {t t' : TS} (h : PS X st t) (f : ∀ D σ H, t' D σ H → t D σ H) : PS X st t' := ⟨fun pins s σ H D I q => h.run pins s σ H D I (f _ _ _ q)⟩
theorem _root_.L2.PSs.mono {t t' : TS} (h : PSs X sts t) (f : ∀ D σ H, t' D σ H → t D σ H) : PSs X sts t' := ⟨fun pins s σ H D I q => h.run pins s σ H D I (f _ _ _ q)⟩
theorem _root_.L2.PI.mono {tg it : Expr} {t t' : TI} (h : PI X tg it t) (f : ∀ σ H R, t' σ H R → t σ H R) : PI X tg it t' := ⟨fun pins s σ H R I q => h.run pins s σ H R I (f _ _ _ q)⟩
theorem _root_.L2.PI.or {tg it : Expr} {t t' : TI} (h : PI X tg it t) (h' : PI X tg it t') : PI X tg it (fun σ H R => t σ H R ∨ t' σ H R) := ⟨fun pins s σ H R I q => q.elim (h.run pins s σ H R I) (h'.run pins s σ H R I)⟩
end
end G
set_option Elab.async false
set_option linter.all false
set_option maxRecDepth 100000
namespace G
open PySem L2
theorem tS_inj {s t : T} (h : tS s = tS t) : s = t := congrArg (fun z : Str => z.cps.toList) h
theorem tS_app (s t : T) : tS (s ++ t) = tS s ++ tS t := by
  show (⟨(s ++ t).toArray⟩ : Str) = ⟨s.toArray ++ t.toArray⟩
  rw [List.append_toArray]
theorem tS_len (s : T) : (tS s).length = s.length := by simp [tS, Str.length]
section
variable {Γ : Gm} {φ φ' : Fx} {H H' : Hp} {s : Stt} {X : Cx}
/-- what follows a value: at this heap, or at one with a new object -/
abbrev Ko (Γ : Gm) (φ : Fx) (H : Hp) (s : Stt) (d : D) (Q : VK) : Prop := ∀ φ' H', After φ H φ' H' → Rel Γ φ' H' s → ∀ v, Rep Γ φ' H' v d → Q v H'
theorem Ko.here {d : D} {Q : VK} {v : V} (k : Ko Γ φ H s d Q) (r : Rel Γ φ H s) (h : Rep Γ φ H v d) : Q v H := k φ H (.refl _ _) r v h
theorem Ko.tup {ds : List D} {Q : VK} {p : Addr} {xs : List V} (k : Ko Γ φ H s (.tup ds) Q) (r : Rel Γ φ H s) (h : Reps Γ φ H xs ds) (hp : H p = none) : Q (.ref p) (upd H p (.tup xs)) :=
  k φ _ (.fresh hp) (r.fresh hp) _ (.tup (SqT.of upd_same) (h.mono (.fresh hp)))
theorem Rel.out (r : Rel Γ φ H s) {p : Addr} (hp : H p = none) : φ.out p := by
  refine ⟨fun q => ?_, fun q => ?_⟩
  · obtain ⟨n, hn⟩ := List.getElem?_of_mem q
    obtain ⟨c, _, hc⟩ := r.there hn
    obtain ⟨o, e, _⟩ := hc.there
    rw [hp] at e
    cases e
  · obtain ⟨o, e, _⟩ := r.hid p q
    rw [hp] at e
    cases e
theorem Ko.lst {ds : List D} {Q : VK} {p : Addr} {xs : List V} (k : Ko Γ φ H s (.lst ds) Q) (r : Rel Γ φ H s) (h : Reps Γ φ H xs ds) (hp : H p = none) : Q (.ref p) (upd H p (.lst xs)) := by
  exact k φ _ (.fresh hp) (r.fresh hp) _ (.lst upd_same (r.out hp) (h.mono (.fresh hp)))
def Bin.op : Bin → Operator
  | .add => .Add | .sub => .Sub | .mul => .Mult | .fdiv => .FloorDiv | .mod => .Mod | .pow => .Pow
/-- () + t is t -/
theorem tuple_addW0 (l b : Addr) (items items2 : Array Value) (n n2 : Nat) (dd dd2 : Option Addr) (sl sl2 : Array (Option Value)) (hc0 : items.isEmpty = true) :
    Meets (Builtin.«tuple.__add__» ⟨[.ref l, .ref b], []⟩) (fun _ R s => s.heap.get? l = some { cls := .type "tuple", dict := dd, data := .seq items n, slots := sl } ∧ s.heap.get? b = some { cls := .type "tuple", dict := dd2, data := .seq items2 n2, slots := sl2 } ∧ R (.ok (.ret (Value.ref b))) { s with heap := s.heap, toks := s.toks }) :=
  .of_wp fun prog w A R s h => by obtain ⟨hp, g, d, tk, os⟩ := s; obtain ⟨hl, hb, h⟩ := h; have f1 := AutoSeq1.idx_int; have f2 := AutoSeq1.sub_tuple_tuple; have f3 := AutoSeq1.sub_list_list; have f4 := AutoSeq1.sub_tuple_list; have f5 := AutoSeq1.sub_list_tuple; wp_walk using wpAny_loadPart' hl, wpAny_loadPart' hb; exact ⟨_, rfl, h⟩
def rCatT0 (K : PySem.W.Frag) : R2 := fun x y H Q => ∃ a b ys, x = .ref a ∧ y = .ref b ∧ SqT K H a [] ∧ SqT K H b ys ∧ Q (.ref b) H
theorem op_catT0 : OpR X (binaryOp .Add) (rCatT0 X.K) := by
  intro pins s σ H x y v u Q I rx ry h
  obtain ⟨a, b, ys, rfl, rfl, ha, hb, q⟩ := h
  cases rx
  cases ry
  obtain ⟨its, r1, p1, _⟩ := I.tuple ha
  obtain ⟨its2, r2, p2, _⟩ := I.tuple hb
  cases r1
  obtain ⟨⟨cls, dd, data, sl⟩, ho, hc, n, hd⟩ := id p1
  obtain ⟨⟨cls2, dd2, data2, sl2⟩, ho2, hc2, n2, hd2⟩ := id p2
  simp only at hc hd hc2 hd2
  subst hc hd hc2 hd2
  exact PySem.concat_meets ⟨_, ho, rfl⟩ ⟨_, ho2, rfl⟩ PySem.noFill_tuple_add PySem.seq_tuple_add PySem.F.slot_tuple_add PySem.F.entry_tuple_add (PySem.F.args_tuple_add_2 _ _)
      (tuple_addW0 a b #[] its2.toArray n n2 dd dd2 sl sl2 rfl) ⟨ho, ho2, ⟨.ref b, H, I, rfl, q⟩⟩
/-- a text several times -/
def rRepS : R2 := fun x y H Q => ∃ (t : T) (n : Int), x = .str (tS t) ∧ y = .int n ∧ 2 ≤ n ∧ n < 2 ^ 62 ∧ t.length ≠ 0 ∧ t.length * n.toNat ≤ sizeLine ∧ Q (.str (tS (List.replicate n.toNat t).flatten)) H
theorem fold_rep (t : T) : ∀ (m : Nat) (acc : T), (List.replicate m t.toArray).foldl (fun x1 x2 => x1 ++ x2) acc.toArray = (acc ++ (List.replicate m t).flatten).toArray
  | 0, acc => by simp
  | m + 1, acc => by
    rw [List.replicate_succ, List.replicate_succ, List.foldl_cons, List.flatten_cons]
    have : acc.toArray ++ t.toArray = (acc ++ t).toArray := by simp
    rw [this, fold_rep t m (acc ++ t), List.append_assoc]
theorem op_repS : OpR X (binaryOp .Mult) rRepS := by
  intro pins s σ H x y v u Q I rx ry h
  obtain ⟨t, n, rfl, rfl, h1, h2, h3, h4, q⟩ := h
  obtain ⟨tk, rfl⟩ := rx
  obtain ⟨tk2, rfl⟩ := ry
  have sl : (sizeLine : Nat) = 16777216 := sizeLine_eq
  have hlen : (tS t).length = t.length := tS_len t
  refine PySem.P.mul_str ?_ (fun _ _ => ?_) (fun _ _ => ?_) ?_
  · have a1 : ¬ n < -(2 ^ 63 : Int) := by omega
    have a2 : ¬ n ≥ 2 ^ 63 := by omega
    rw [decide_eq_false a1, decide_eq_false a2]
    rfl
  · rw [hlen]
    have h6 : ((n.toNat : Nat) : Int) = n := Int.toNat_of_nonneg (by omega)
    have h5 : ((t.length * n.toNat : Nat) : Int) ≤ 16777216 := by
      have h4' := h4
      rw [sl] at h4'
      exact Int.ofNat_le.mpr h4'
    have this : (t.length : Int) * n ≤ 16777216 := by
      rw [Int.natCast_mul, h6] at h5
      exact h5
    have h7 : (t.length : Int) ≤ (2 ^ 63 - 1) / n := by
      refine Int.le_ediv_of_mul_le (by omega) ?_
      omega
    omega
  · rw [hlen]
    unfold Builtin.Str.tooLong
    rw [decide_eq_false]
    omega
  · rw [if_neg (by omega), if_neg ?_]
    · have e : (⟨(List.replicate n.toNat (tS t).cps).foldl (fun x1 x2 => x1 ++ x2) #[]⟩ : Str) = tS (List.replicate n.toNat t).flatten := by
        have := fold_rep t n.toNat []
        rw [List.nil_append] at this
        unfold tS
        rw [← this]
      rw [e]
      refine ⟨?_, .str _, H, I.tok _, ⟨_, rfl⟩, q⟩
      rw [tS_len, List.length_flatten, List.map_replicate, List.sum_replicate_nat]
      rw [Nat.mul_comm]
      omega
    · rw [hlen]
      simp
      refine ⟨by omega, ?_⟩
      intro z
      exact h3 (by rw [z]; rfl)
/-- // by a divisor above nought, where no _pylong is asked -/
def CDivP (i j : Int) : Prop := 0 < j ∧ Builtin.divisionGoesByPylong i j = false
theorem op_fdivP : OpR X (binaryOp .FloorDiv) (rI CDivP fun i j => .int (i / j)) := opI fun i j _ _ _ _ _ hc q => by
  have h1 : (0 : Int) < j := hc.1
  exact PyProof.Rows.floordiv_int (by omega) (by rw [Int.fdiv_eq_ediv_of_nonneg i (by omega)]; exact q) (.inl hc.2)
def rBin (K : PySem.W.Frag) : Bin → R2
  | .add => fun x y H Q => rI0 (fun i j => .int (i + j)) x y H Q ∨ (∃ i j, x = .str i ∧ y = .str j ∧ i.length + j.length ≤ sizeLine ∧ Q (.str (i ++ j)) H) ∨ rCat x y H Q ∨ rCatT K x y H Q ∨ rCatT0 K x y H Q
  | .sub => rI0 fun i j => .int (i - j)
  | .mul => fun x y H Q => rI CMulW (fun i j => .int (i * j)) x y H Q ∨ rRep x y H Q ∨ rRepS x y H Q
  | .fdiv => rI CDivP fun i j => .int (i / j)
  | .mod => rI (fun _ j => 0 < j) fun i j => .int (i % j)
  | .pow => rI CPow fun i j => .int (i ^ j.toNat)
theorem op_bin : ∀ o : Bin, OpR X (binaryOp o.op) (rBin X.K o)
  | .add => op_add.or (op_add_str.or (op_cat.or (op_catT.or op_catT0)))
  | .sub => op_sub
  | .mul => op_mulW.or (op_rep.or op_repS)
  | .fdiv => op_fdivP
  | .mod => op_mod
  | .pow => op_pow
theorem Reps.rep {φ : Fx} {H : Hp} {vs : List V} {ds : List D} (h : Reps Γ φ H vs ds) : ∀ n : Nat, Reps Γ φ H (List.replicate n vs).flatten (List.replicate n ds).flatten
  | 0 => .nil
  | n + 1 => by
    rw [List.replicate_succ, List.replicate_succ, List.flatten_cons, List.flatten_cons]
    exact h.append (Reps.rep h n)
theorem binF_ok {o : Bin} {x y z : D} {v u : V} {Q : VK} (e : binF o x y = some z) (hx : Rep Γ φ H v x) (hy : Rep Γ φ H u y) (r : Rel Γ φ H s) (k : Ko Γ φ H s z Q) : rBin Γ.K o v u H Q := by
  unfold binF at e
  split at e
  · cases e; cases hx; cases hy
    exact .inl ⟨_, _, rfl, rfl, k.here r (.int _)⟩
  · split at e
    · rename_i s1 t1 hl
      cases e; cases hx; cases hy
      exact .inr (.inl ⟨_, _, rfl, rfl, by rw [tS_len, tS_len]; exact hl, by rw [← tS_app]; exact k.here r (.str _)⟩)
    · cases e
  · split at e
    · rename_i s1 t1 hl
      cases e
      cases hx with
      | tup a1 r1 =>
        cases hy with
        | tup a2 r2 =>
          by_cases h1 : s1 = []
          · subst h1
            cases r1
            exact .inr (.inr (.inr (.inr ⟨_, _, _, rfl, rfl, a1, a2, k.here r (.tup a2 r2)⟩)))
          · refine .inr (.inr (.inr (.inl ⟨_, _, _, _, rfl, rfl, a1, a2, r1.ne_nil h1, by rw [r1.len, r2.len]; exact hl, fun z => ?_, fun z p hp => ?_⟩)))
            · subst z
              cases r2
              rw [List.append_nil] at k
              exact k.here r (.tup a1 r1)
            · exact k.tup r (r1.append r2) hp
    · cases e
  · split at e
    · rename_i s1 t1 hl
      cases e
      cases hx with
      | lst a1 n1 r1 =>
        cases hy with
        | lst a2 n2 r2 =>
          exact .inr (.inr (.inl ⟨_, _, _, _, rfl, rfl, a1, a2, by rw [r1.len, r2.len]; exact hl, fun p hp => k.lst r (r1.append r2) hp⟩))
    · cases e
  · cases e; cases hx; cases hy
    exact ⟨_, _, rfl, rfl, k.here r (.int _)⟩
  · split at e
    · cases e; cases hx; cases hy
      exact .inl ⟨_, _, rfl, rfl, by assumption, k.here r (.int _)⟩
    · cases e
  · split at e
    · rename_i hb
      cases e; cases hx; cases hy
      exact .inr (.inr ⟨_, _, rfl, rfl, hb.1, hb.2.1, hb.2.2.1, hb.2.2.2, k.here r (.str _)⟩)
    · cases e
  · split at e
    · rename_i hb
      cases e
      cases hy
      cases hx with
      | lst a1 n1 r1 => exact .inr (.inl ⟨_, _, _, rfl, rfl, a1, hb.1, hb.2.1, by rw [r1.len]; exact hb.2.2, fun p hp => k.lst r (r1.rep _) hp⟩)
    · cases e
  · split at e
    · cases e; cases hx; cases hy
      exact ⟨_, _, rfl, rfl, by assumption, k.here r (.int _)⟩
    · cases e
  · split at e
    · cases e; cases hx; cases hy
      exact ⟨_, _, rfl, rfl, by assumption, k.here r (.int _)⟩
    · cases e
  · split at e
    · cases e; cases hx; cases hy
      exact ⟨_, _, rfl, rfl, by assumption, k.here r (.int _)⟩
    · cases e
  · cases e
def Cmp.op : Cmp → CmpOp
  | .eq => .Eq | .ne => .NotEq | .lt => .Lt | .le => .LtE | .gt => .Gt | .ge => .GtE | .isN => .Is | .isnN => .IsNot | .isB => .Is | .isnB => .IsNot | .in_ => .In | .nin => .NotIn
def rInDT (K : PySem.W.Frag) : R2 := fun x y H Q => ∃ d ds, Dp K H x d ∧ Dp K H y (.tuple ds) ∧ SeqAt.shaped d = true ∧ SeqAt.shaped (.list ds) = true ∧ Q (.bl (ds.any fun z => PyData.eqv z d)) H
def rNotInDT (K : PySem.W.Frag) : R2 := fun x y H Q => ∃ d ds, Dp K H x d ∧ Dp K H y (.tuple ds) ∧ SeqAt.shaped d = true ∧ SeqAt.shaped (.list ds) = true ∧ Q (.bl (!ds.any fun z => PyData.eqv z d)) H
theorem op_inDT (hu : X.A.units + 65 < cLine) : OpR X (compareOp .In) (rInDT X.K) := by
  intro pins s σ H x y v u Q I rx ry h
  obtain ⟨d, ds, hd, he, sd, se, q⟩ := h
  obtain ⟨as, r1⟩ := Dp.reads I d x v hd rx
  obtain ⟨bs, r2⟩ := Dp.reads I (.tuple ds) y u he ry
  exact SeqAt.in_tuple_reads r2 r1 (SeqAt.canLay_of_shaped se) (SeqAt.canLay_of_shaped sd) (PyProof.Rows.room_in_shaped sd hu) ⟨.bl _, H, I, rfl, q⟩
theorem op_notInDT (hu : X.A.units + 65 < cLine) : OpR X (compareOp .NotIn) (rNotInDT X.K) := by
  intro pins s σ H x y v u Q I rx ry h
  obtain ⟨d, ds, hd, he, sd, se, q⟩ := h
  obtain ⟨as, r1⟩ := Dp.reads I d x v hd rx
  obtain ⟨bs, r2⟩ := Dp.reads I (.tuple ds) y u he ry
  exact SeqAt.notIn_tuple_reads r2 r1 (SeqAt.canLay_of_shaped se) (SeqAt.canLay_of_shaped sd) (PyProof.Rows.room_in_shaped sd hu) ⟨.bl _, H, I, rfl, q⟩
def rLtIT (K : PySem.W.Frag) : R2 := fun x y H Q => ∃ a b i j p q, x = .ref a ∧ y = .ref b ∧ SqT K H a [.int i, .str p] ∧ SqT K H b [.int j, .str q] ∧ Q (.bl (if i = j then (if p = q then false else decide (p.cps.toList < q.cps.toList)) else decide (i < j))) H
theorem op_ltIT (hu : X.A.units < cLine) : OpR X (compareOp .Lt) (rLtIT X.K) := by
  intro pins s σ H x y v u Q I rx ry h
  obtain ⟨a, b, i, j, p, q, rfl, rfl, ha, hb, q'⟩ := h
  cases rx
  cases ry
  obtain ⟨its, r1, p1, _⟩ := I.tuple ha
  obtain ⟨its2, r2, p2, _⟩ := I.tuple hb
  cases r1 with
  | cons v1 r1 =>
  cases r1 with
  | cons v2 r1 =>
  cases r1
  cases r2 with
  | cons w1 r2 =>
  cases r2 with
  | cons w2 r2 =>
  cases r2
  obtain ⟨t1, rfl⟩ := v1
  obtain ⟨t2, rfl⟩ := v2
  obtain ⟨t3, rfl⟩ := w1
  obtain ⟨t4, rfl⟩ := w2
  have key := PySem.SeqAt.RcLt.tuples (A := X.A) (s := s) (e := fun k => if k = 0 then i == j else p == q) (r := fun k => if k = 0 then decide (i < j) else decide (p.cps.toList < q.cps.toList)) p1 p2 hu (fun k h1 h2 => by
    match k, h1, h2 with
    | 0, _, _ => exact PySem.SeqAt.EqAt.int_int _ _ _ _
    | 1, _, _ => exact PySem.SeqAt.EqAt.str_str _ _ _ _
    | _ + 2, h1, _ => exact absurd h1 (by simp)) (fun k h1 h2 _ => by
    match k, h1, h2 with
    | 0, _, _ => exact fun _ _ _ _ h => PyProof.Rows.lt_int h
    | 1, _, _ => exact fun _ _ _ _ h => PyProof.Rows.lt_str h
    | _ + 2, h1, _ => exact absurd h1 (by simp))
  have e : PySem.SeqAt.firstLt (fun k => if k = 0 then i == j else p == q) (fun k => if k = 0 then decide (i < j) else decide (p.cps.toList < q.cps.toList)) (decide (2 < 2)) [0, 1] = (if i = j then (if p = q then false else decide (p.cps.toList < q.cps.toList)) else decide (i < j)) := by
    by_cases c : i = j
    · by_cases d : p = q
      · simp [PySem.SeqAt.firstLt, c, d]
      · simp [PySem.SeqAt.firstLt, c, d]
    · simp [PySem.SeqAt.firstLt, c]
  rw [← e] at q'
  exact key _ _ _ _ ⟨.bl (PySem.SeqAt.firstLt (fun k => if k = 0 then i == j else p == q) (fun k => if k = 0 then decide (i < j) else decide (p.cps.toList < q.cps.toList)) (decide (2 < 2)) [0, 1]), H, I, rfl, q'⟩
def rCmp (K : PySem.W.Frag) : Cmp → R2
  | .eq => rEqD K
  | .ne => rNeD K
  | .lt => fun x y H Q => rI0 (fun i j => .bl (decide (i < j))) x y H Q ∨ rLtIT K x y H Q
  | .le => rI0 fun i j => .bl (decide (i ≤ j))
  | .gt => rI0 fun i j => .bl (decide (j < i))
  | .ge => rI0 fun i j => .bl (decide (j ≤ i))
  | .isN => fun x y H Q => y = .non ∧ Q (.bl (decide (x = .non))) H
  | .isnN => fun x y H Q => y = .non ∧ Q (.bl (!decide (x = .non))) H
  | .isB => rIsB
  | .isnB => rNotB
  | .in_ => fun x y H Q => rInS x y H Q ∨ (∃ i j, x = .str i ∧ y = .str j ∧ Q (.bl (!(Builtin.Str.occurrences j i 0 j.length 1).isEmpty)) H) ∨ rIn K false x y H Q ∨ rInD K x y H Q ∨ rInDT K x y H Q
  | .nin => fun x y H Q => rNotInS x y H Q ∨ (∃ i j, x = .str i ∧ y = .str j ∧ Q (.bl (!(!(Builtin.Str.occurrences j i 0 j.length 1).isEmpty))) H) ∨ rIn K true x y H Q ∨ rNotInD K x y H Q ∨ rNotInDT K x y H Q
theorem op_cmp (hu : X.A.units + 65 < cLine) : ∀ o : Cmp, OpR X (compareOp o.op) (rCmp X.K o)
  | .eq => op_eqD (by omega)
  | .ne => op_neD (by omega)
  | .lt => op_lt.or (op_ltIT (by omega))
  | .le => op_le
  | .gt => op_gt
  | .ge => op_ge
  | .isN => op_isN
  | .isnN => op_notN
  | .isB => op_isBl
  | .isnB => op_notBl
  | .in_ => op_inS.or (op_in_str.or (op_in_seq.or ((op_inD hu).or (op_inDT hu))))
  | .nin => op_notInS.or (op_notIn_str.or (op_notIn_seq.or ((op_notInD hu).or (op_notInDT hu))))
theorem eqF_ok {x y : D} {v u : V} {b : Bool} (e : eqF x y = some b) (hx : Rep Γ φ H v x) (hy : Rep Γ φ H u y) : ∃ p q, Dp Γ.K H v p ∧ Dp Γ.K H u q ∧ SeqAt.shaped p = true ∧ SeqAt.shaped q = true ∧ PyData.eqv p q = b := by
  unfold eqF at e
  cases e1 : x.toP with
  | none => simp [e1] at e
  | some p =>
    cases e2 : y.toP with
    | none => simp [e1, e2] at e
    | some q =>
      simp only [e1, e2] at e
      split at e
      · rename_i h
        cases e
        exact ⟨p, q, hx.dp e1, hy.dp e2, h.1, h.2, rfl⟩
      · cases e
theorem mem_cps {c : Nat} {t : T} : decide (c ∈ (tS t).cps.toList) = decide (c ∈ t) := by
  rw [decide_eq_decide]
  simp [tS]
theorem strsD_in {φ : Fx} {H : Hp} {t : T} : ∀ {vs : List V} {xs : List D} {ts : List T}, strsD xs = some ts → Reps Γ φ H vs xs → vs.all flatV = true ∧ inV (.str (tS t)) vs = decide (t ∈ ts)
  | [], [], _, e, _ => by
    simp [strsD] at e
    subst e
    exact ⟨rfl, by simp [inV]⟩
  | _ :: _, x :: xs, ts, e, .cons h r => by
    unfold strsD at e
    split at e
    · cases ‹_ :: _ = []›
    · rename_i b ys e1
      cases e1
      obtain ⟨us, h1, rfl⟩ := Option.map_eq_some_iff.mp e
      obtain ⟨h2, h3⟩ := strsD_in (t := t) h1 r
      cases h
      refine ⟨by simp [flatV, h2], ?_⟩
      unfold inV at h3 ⊢
      rw [List.any_cons, h3]
      by_cases q : t = b
      · subst q
        simp [eqV]
      · have : ¬ tS b = tS t := fun z => q (tS_inj z).symm
        simp [eqV, q, this]
    · cases e
theorem intsF_in {φ : Fx} {H : Hp} {t : Int} : ∀ {vs : List V} {xs : List D} {ts : List Int}, intsF xs = some ts → Reps Γ φ H vs xs → vs.all flatV = true ∧ inV (.int t) vs = decide (t ∈ ts)
  | [], [], _, e, _ => by
    simp [intsF] at e
    subst e
    exact ⟨rfl, by simp [inV]⟩
  | _ :: _, x :: xs, ts, e, .cons h r => by
    unfold intsF at e
    split at e
    · cases ‹_ :: _ = []›
    · rename_i b ys e1
      cases e1
      obtain ⟨us, h1, rfl⟩ := Option.map_eq_some_iff.mp e
      obtain ⟨h2, h3⟩ := intsF_in (t := t) h1 r
      cases h
      refine ⟨by simp [flatV, h2], ?_⟩
      unfold inV at h3 ⊢
      rw [List.any_cons, h3]
      by_cases q : t = b
      · subst q
        simp [eqV]
      · have : ¬ b = t := fun z => q z.symm
        simp [eqV, q, this]
    · cases e
theorem nonsF_in {φ : Fx} {H : Hp} : ∀ {vs : List V} {xs : List D} {bs : List Bool}, nonsF xs = some bs → Reps Γ φ H vs xs → vs.all flatV = true ∧ inV .non vs = bs.any id
  | [], [], _, e, _ => by
    simp [nonsF] at e
    subst e
    exact ⟨rfl, by simp [inV]⟩
  | _ :: _, x :: xs, bs, e, .cons h r => by
    unfold nonsF at e
    split at e
    · cases ‹_ :: _ = []›
    · rename_i ys e1
      cases e1
      obtain ⟨us, h1, rfl⟩ := Option.map_eq_some_iff.mp e
      obtain ⟨h2, h3⟩ := nonsF_in h1 r
      cases h
      refine ⟨by simp [flatV, h2], ?_⟩
      unfold inV at h3 ⊢
      rw [List.any_cons, h3]
      simp [eqV]
    · rename_i b ys e1
      cases e1
      obtain ⟨us, h1, rfl⟩ := Option.map_eq_some_iff.mp e
      obtain ⟨h2, h3⟩ := nonsF_in h1 r
      cases h
      refine ⟨by simp [flatV, h2], ?_⟩
      unfold inV at h3 ⊢
      rw [List.any_cons, h3]
      simp [eqV]
    · rename_i b ys e1
      cases e1
      obtain ⟨us, h1, rfl⟩ := Option.map_eq_some_iff.mp e
      obtain ⟨h2, h3⟩ := nonsF_in h1 r
      cases h
      refine ⟨by simp [flatV, h2], ?_⟩
      unfold inV at h3 ⊢
      rw [List.any_cons, h3]
      simp [eqV]
    · cases e
theorem inF_ok {φ : Fx} {H : Hp} {a : D} {v : V} {vs : List V} {xs : List D} {b : Bool} (e : inF a xs = some b) (hv : Rep Γ φ H v a) (r : Reps Γ φ H vs xs) : flatV v = true ∧ vs.all flatV = true ∧ inV v vs = b := by
  unfold inF at e
  split at e
  · obtain ⟨ts, h1, rfl⟩ := Option.map_eq_some_iff.mp e
    cases hv
    obtain ⟨h2, h3⟩ := strsD_in h1 r
    exact ⟨rfl, h2, h3⟩
  · obtain ⟨ts, h1, rfl⟩ := Option.map_eq_some_iff.mp e
    cases hv
    obtain ⟨h2, h3⟩ := intsF_in h1 r
    exact ⟨rfl, h2, h3⟩
  · obtain ⟨ts, h1, rfl⟩ := Option.map_eq_some_iff.mp e
    cases hv
    obtain ⟨h2, h3⟩ := nonsF_in h1 r
    exact ⟨rfl, h2, h3⟩
  · cases e
theorem inD_ok {φ : Fx} {H : Hp} {x y : D} {v u : V} {b : Bool} (e : inD x y = some b) (hx : Rep Γ φ H v x) (hy : Rep Γ φ H u y) :
    (∃ (c : Nat) (z : Str), v = .str ⟨#[c]⟩ ∧ u = .str z ∧ decide (c ∈ z.cps.toList) = b) ∨ (∃ i j, v = .str i ∧ u = .str j ∧ (!(Builtin.Str.occurrences j i 0 j.length 1).isEmpty) = b) ∨ (∃ p xs, u = .ref p ∧ (SqL Γ.K H p xs ∨ SqT Γ.K H p xs) ∧ flatV v = true ∧ xs.all flatV = true ∧ inV v xs = b) ∨ (∃ d ds, Dp Γ.K H v d ∧ Dp Γ.K H u (.list ds) ∧ SeqAt.shaped d = true ∧ SeqAt.shaped (.list ds) = true ∧ (ds.any fun z => PyData.eqv z d) = b) ∨ ∃ d ds, Dp Γ.K H v d ∧ Dp Γ.K H u (.tuple ds) ∧ SeqAt.shaped d = true ∧ SeqAt.shaped (.list ds) = true ∧ (ds.any fun z => PyData.eqv z d) = b := by
  unfold inD at e
  split at e
  · cases e
    cases hx
    cases hy
    unfold inT
    split
    · exact .inl ⟨_, _, rfl, rfl, mem_cps⟩
    · exact .inr (.inl ⟨_, _, rfl, rfl, rfl⟩)
  · split at e
    · rename_i k q
      cases e
      cases hy with
      | tup a1 r1 =>
        obtain ⟨h1, h2, h3⟩ := inF_ok q hx r1
        exact .inr (.inr (.inl ⟨_, _, rfl, .inr a1, h1, h2, h3⟩))
    · rename_i xs _ _
      unfold inL at e
      split at e
      · rename_i d ds e1 e2
        split at e
        · rename_i h
          cases e
          exact .inr (.inr (.inr (.inr ⟨d, ds, hx.dp e1, hy.dp (by simp [D.toP, e2]), h.1, h.2, rfl⟩)))
        · cases e
      · cases e
  · split at e
    · rename_i k q
      cases e
      cases hy with
      | lst a1 n1 r1 =>
        obtain ⟨h1, h2, h3⟩ := inF_ok q hx r1
        exact .inr (.inr (.inl ⟨_, _, rfl, .inl (SqL.of a1), h1, h2, h3⟩))
    · rename_i xs _ _
      unfold inL at e
      split at e
      · rename_i d ds e1 e2
        split at e
        · rename_i h
          cases e
          exact .inr (.inr (.inr (.inl ⟨d, ds, hx.dp e1, hy.dp (by simp [D.toP, e2]), h.1, h.2, rfl⟩)))
        · cases e
      · cases e
  · cases e
theorem cmpF_ok {o : Cmp} {x y z : D} {v u : V} {Q : VK} (e : cmpF o x y = some z) (hx : Rep Γ φ H v x) (hy : Rep Γ φ H u y) (r : Rel Γ φ H s) (k : Ko Γ φ H s z Q) : rCmp Γ.K o v u H Q := by
  unfold cmpF at e
  split at e
  · obtain ⟨b, h, rfl⟩ := Option.map_eq_some_iff.mp e
    obtain ⟨p, q, h1, h2, h3, h4, rfl⟩ := eqF_ok h hx hy
    exact ⟨p, q, h1, h2, h3, h4, k.here r (.bl _)⟩
  · obtain ⟨b, h, rfl⟩ := Option.map_eq_some_iff.mp e
    obtain ⟨p, q, h1, h2, h3, h4, rfl⟩ := eqF_ok h hx hy
    exact ⟨p, q, h1, h2, h3, h4, k.here r (.bl _)⟩
  · cases e; cases hx; cases hy
    exact .inl ⟨_, _, rfl, rfl, k.here r (.bl _)⟩
  · rename_i i s1 j t1
    cases e
    cases hx with
    | tup a1 r1 =>
    cases hy with
    | tup a2 r2 =>
    cases r1 with
    | cons p1 r1 =>
    cases r1 with
    | cons p2 r1 =>
    cases r1
    cases r2 with
    | cons q1 r2 =>
    cases r2 with
    | cons q2 r2 =>
    cases r2
    cases p1
    cases p2
    cases q1
    cases q2
    refine .inr ⟨_, _, i, j, tS s1, tS t1, rfl, rfl, a1, a2, ?_⟩
    have ee : (if i = j then (if tS s1 = tS t1 then false else decide ((tS s1).cps.toList < (tS t1).cps.toList)) else decide (i < j)) = (if i = j then (if s1 = t1 then false else decide (s1 < t1)) else decide (i < j)) := by
      by_cases c : s1 = t1
      · subst c
        rw [if_pos rfl, if_pos rfl]
      · rw [if_neg c, if_neg (fun h => c (tS_inj h))]
        rfl
    rw [ee]
    exact k.here r (.bl _)
  · cases e; cases hx; cases hy
    exact ⟨_, _, rfl, rfl, k.here r (.bl _)⟩
  · cases e; cases hx; cases hy
    exact ⟨_, _, rfl, rfl, k.here r (.bl _)⟩
  · cases e; cases hx; cases hy
    exact ⟨_, _, rfl, rfl, k.here r (.bl _)⟩
  · cases hy
    split at e
    · cases e; cases hx
      exact ⟨rfl, k.here r (.bl true)⟩
    · rename_i n
      cases e
      have : decide (v = V.non) = false := by
        cases hx <;> first | exact absurd rfl n | simp
      exact ⟨rfl, by rw [this]; exact k.here r (.bl _)⟩
  · cases hy
    split at e
    · cases e; cases hx
      exact ⟨rfl, k.here r (.bl false)⟩
    · rename_i n
      cases e
      have : decide (v = V.non) = false := by
        cases hx <;> first | exact absurd rfl n | simp
      exact ⟨rfl, by rw [this]; exact k.here r (.bl _)⟩
  · cases e; cases hx; cases hy
    exact ⟨_, _, rfl, rfl, k.here r (.bl _)⟩
  · cases e; cases hx; cases hy
    exact ⟨_, _, rfl, rfl, k.here r (.bl _)⟩
  · obtain ⟨b, h, rfl⟩ := Option.map_eq_some_iff.mp e
    rcases inD_ok h hx hy with ⟨c, z, e1, e2, e3⟩ | ⟨i, j, e1, e2, e3⟩ | ⟨p, xs, e1, e2, e3, e4, e5⟩ | ⟨d, ds, e1, e2, e3, e4, e5⟩ | ⟨d, ds, e1, e2, e3, e4, e5⟩
    · exact .inl ⟨c, z, e1, e2, by rw [e3]; exact k.here r (.bl _)⟩
    · exact .inr (.inl ⟨i, j, e1, e2, by rw [e3]; exact k.here r (.bl _)⟩)
    · exact .inr (.inr (.inl ⟨p, xs, e1, e2, e3, e4, by rw [e5]; exact k.here r (.bl _)⟩))
    · exact .inr (.inr (.inr (.inl ⟨d, ds, e1, e2, e3, e4, by rw [e5]; exact k.here r (.bl _)⟩)))
    · exact .inr (.inr (.inr (.inr ⟨d, ds, e1, e2, e3, e4, by rw [e5]; exact k.here r (.bl _)⟩)))
  · obtain ⟨b, h, rfl⟩ := Option.map_eq_some_iff.mp e
    rcases inD_ok h hx hy with ⟨c, z, e1, e2, e3⟩ | ⟨i, j, e1, e2, e3⟩ | ⟨p, xs, e1, e2, e3, e4, e5⟩ | ⟨d, ds, e1, e2, e3, e4, e5⟩ | ⟨d, ds, e1, e2, e3, e4, e5⟩
    · exact .inl ⟨c, z, e1, e2, by rw [e3]; exact k.here r (.bl _)⟩
    · exact .inr (.inl ⟨i, j, e1, e2, by rw [e3]; exact k.here r (.bl _)⟩)
    · exact .inr (.inr (.inl ⟨p, xs, e1, e2, e3, e4, by rw [e5]; exact k.here r (.bl _)⟩))
    · exact .inr (.inr (.inr (.inl ⟨d, ds, e1, e2, e3, e4, by rw [e5]; exact k.here r (.bl _)⟩)))
    · exact .inr (.inr (.inr (.inr ⟨d, ds, e1, e2, e3, e4, by rw [e5]; exact k.here r (.bl _)⟩)))
  · cases e
theorem truF_ok {x : D} {v : V} {k : Bool} (e : truF s x = some k) (hx : Rep Γ φ H v x) (r : Rel Γ φ H s) : TruV Γ.K v H k := by
  unfold truF at e
  split at e
  · cases e; cases hx; rfl
  · cases e; cases hx; rfl
  · cases e; cases hx; rfl
  · split at e
    · rename_i h
      cases e; cases hx
      exact ⟨by rw [tS_len]; exact h, by rw [tS_len]⟩
    · cases e
  · cases e
    cases hx with
    | tup a1 r1 => exact .inr (.inl ⟨_, a1, by rw [r1.isEmpty]⟩)
  · cases e
    cases hx with
    | lst a1 n1 r1 => exact .inl ⟨_, SqL.of a1, by rw [r1.isEmpty]⟩
  · split at e
    · rename_i h
      cases e
      cases hx with
      | ref h' =>
        obtain ⟨vs, h1, h2⟩ := r.cell _ _ _ h' h
        exact .inl ⟨vs, SqL.of h1, by rw [h2.isEmpty]⟩
    · cases e
  · cases e
theorem Reps.at {vs : List V} {ds : List D} {i : Int} {d : D} (r : Reps Γ φ H vs ds) (h : atI ds i = some d) : ∃ v, atI vs i = some v ∧ Rep Γ φ H v d := by
  unfold atI at h ⊢
  rw [r.len]
  cases e : ixN ds.length i with
  | none => rw [e] at h; cases h
  | some j =>
    rw [e] at h
    obtain ⟨v, h1, h2⟩ := r.get (i := j) h
    exact ⟨v, h1, h2⟩
theorem ixF_ok {x y z : D} {v u : V} {Q : VK} (e : ixF s x y = some z) (hx : Rep Γ φ H v x) (hy : Rep Γ φ H u y) (r : Rel Γ φ H s) (k : Ko Γ φ H s z Q) : rIx Γ.K v u H Q := by
  unfold ixF at e
  split at e
  · cases hy
    cases hx with
    | tup a1 r1 =>
      obtain ⟨w, h1, h2⟩ := r1.at e
      exact .inr (.inl ⟨_, _, _, _, rfl, rfl, a1, h1, k.here r h2⟩)
  · cases hy
    cases hx with
    | lst a1 n1 r1 =>
      obtain ⟨w, h1, h2⟩ := r1.at e
      exact .inl ⟨_, _, _, _, rfl, rfl, SqL.of a1, h1, k.here r h2⟩
  · split at e
    · rename_i h
      obtain ⟨c, h1, rfl⟩ := Option.map_eq_some_iff.mp e
      cases hx; cases hy
      exact .inr (.inr ⟨_, _, c, rfl, rfl, by rw [tS_len]; exact h, h1, k.here r (.str [c])⟩)
    · cases e
  · split at e
    · rename_i h
      cases hy
      cases hx with
      | ref h' =>
        obtain ⟨vs, h1, h2⟩ := r.cell _ _ _ h' h
        obtain ⟨w, h3, h4⟩ := h2.at e
        exact .inl ⟨_, _, _, _, rfl, rfl, SqL.of h1, h3, k.here r h4⟩
    · cases e
  · cases e
theorem cutV_map {α : Type} (f : α → V) (xs : List α) (lo hi : Option Int) : cutV (xs.map f) lo hi = (cut xs lo hi).map f := by
  unfold cutV cut
  rw [List.length_map, List.map_take, List.map_drop]
theorem cutS_tS (t : T) (lo hi : Option Int) : cutS (tS t) lo hi = tS (cut t lo hi) := by
  unfold cutS cut
  rw [tS_len]
  rfl
def rSl (K : PySem.W.Frag) : V → Option Int → Option Int → Hp → VK → Prop := fun x lo hi H Q => rSlL K x lo hi H Q ∨ rSlT K x lo hi H Q ∨ rSlS x lo hi H Q
theorem sl_any : SlR X (rSl X.K) := sl_list.or (sl_tup.or sl_str)
theorem scr_sq {a : Addr} {ns : List Int} (h : (∃ o, H a = some (.frz o (.lst (ns.map V.int)))) ∨ (∃ (o : Obj) (its : Array Value) (n : Nat), Γ.K.lookup a = some o ∧ o.cls = .type "list" ∧ o.dict = none ∧ o.data = .seq its n ∧ its.size ≤ sizeLine ∧ Vals (ns.map V.int) its.toList)) : SqL Γ.K H a (ns.map V.int) := by
  rcases h with ⟨o, h⟩ | h
  · exact .inl (.inr ⟨o, h⟩)
  · exact .inr h
theorem slF_ok {x z : D} {v : V} {lo hi : Option Int} {Q : VK} (e : slF x lo hi = some z) (hx : Rep Γ φ H v x) (r : Rel Γ φ H s) (k : Ko Γ φ H s z Q) : rSl Γ.K v lo hi H Q := by
  unfold slF at e
  split at e
  · cases e
    cases hx with
    | lst a1 n1 r1 => exact .inl ⟨_, _, rfl, SqL.of a1, fun p hp => k.lst r (r1.cut lo hi) hp⟩
  · cases e
    cases hx with
    | scr h =>
      refine .inl ⟨_, _, rfl, scr_sq h, fun p hp => ?_⟩
      rw [cutV_map]
      exact k.lst r (Reps.intsL _) hp
    | scrL h n =>
      refine .inl ⟨_, _, rfl, SqL.of h, fun p hp => ?_⟩
      rw [cutV_map]
      exact k.lst r (Reps.intsL _) hp
  · split at e
    · cases e
    · rename_i h
      cases e
      cases hx with
      | tup a1 r1 => exact .inr (.inl ⟨_, _, rfl, a1, by rw [r1.len]; exact h, fun p hp => k.tup r (r1.cut lo hi) hp⟩)
  · split at e
    · rename_i h
      cases e; cases hx
      exact .inr (.inr ⟨_, rfl, by rw [tS_len]; exact h, by rw [cutS_tS]; exact k.here r (.str _)⟩)
    · cases e
  · cases e
def Bi.nm : Bi → Str
  | .len => "len" | .abs => "abs" | .list => "list" | .tuple => "tuple" | .int => "int" | .str => "str" | .all => "all" | .any => "any" | .sum => "sum" | .min => "min" | .max => "max"
/-- the built-in's value: a function or a type -/
def Bi.ty : Bi → Bool
  | .list => true | .tuple => true | .int => true | .str => true | _ => false
def Bi.id : Bi → String
  | .len => "len" | .abs => "abs" | .list => "list" | .tuple => "tuple" | .int => "int" | .str => "str" | .all => "all" | .any => "any" | .sum => "sum" | .min => "min" | .max => "max"
def Bi.val (b : Bi) : Value := if b.ty = true then .type b.id else .builtin b.id
def rBi (K : PySem.W.Frag) : Bi → List V → Hp → VK → Prop
  | .len => fun xs H Q => ∃ x n, xs = [x] ∧ LenV K x H n ∧ Q (.int n) H
  | .abs => fun xs H Q => ∃ i, xs = [.int i] ∧ Q (.int (if i < 0 then -i else i)) H
  | .list => fun xs H Q => ∃ p ys, xs = [.ref p] ∧ (SqL K H p ys ∨ SqT K H p ys) ∧ ∀ l, H l = none → Q (.ref l) (upd H l (.lst ys))
  | .int => fun xs H Q => ((∃ i, xs = [.int i] ∧ Q (.int i) H) ∨ ∃ k, xs = [.bl k] ∧ Q (.int (if k then 1 else 0)) H) ∨ ∃ a n, xs = [.str a] ∧ PySem.intText? a = some n ∧ a.length ≤ 640 ∧ Q (.int n) H
  | .str => fun xs H Q => ∃ i : Int, xs = [.int i] ∧ i.natAbs.log2 < 1920 ∧ Q (.str (toString i)) H
  | .all => rAll K
  | .any => rAny K
  | .sum => rSum K
  | .tuple => fun xs H Q => ∃ p ys, xs = [.ref p] ∧ ((SqL K H p ys ∧ ∀ l, H l = none → Q (.ref l) (upd H l (.tup ys))) ∨ (SqT K H p ys ∧ Q (.ref p) H))
  | .min => rMin K
  | .max => rMax K
theorem _root_.L2.CallR.or' {f : Value} {r r' : List V → Hp → VK → Prop} (h : CallR X f r) (h' : CallR X f r') : CallR X f (fun xs H Q => r xs H Q ∨ r' xs H Q) := by
  intro pins s σ H xs us Q I rx q
  rcases q with q | q
  · exact h pins s σ H xs us Q I rx q
  · exact h' pins s σ H xs us Q I rx q
theorem tS_intT (i : Int) : tS (intT i) = Str.ofString (toString i) := rfl
theorem op_bi (hc : X.calm = true) : ∀ b : Bi, CallR X b.val (rBi X.K b)
  | .len => call_len
  | .abs => call_abs
  | .list => call_list_of
  | .tuple => call_tuple_of
  | .int => call_int1.or' call_int_str
  | .str => call_str_int
  | .all => cr_all hc
  | .any => cr_any hc
  | .sum => cr_sum hc
  | .min => cr_min hc
  | .max => cr_max hc
theorem Bi.boot : ∀ b : Bi, bootBuiltins b.nm = some b.val
  | .len => PySem.boot_len
  | .abs => by decide +kernel
  | .list => by decide +kernel
  | .tuple => by decide +kernel
  | .int => by decide +kernel
  | .str => by decide +kernel
  | .all => by decide +kernel
  | .any => by decide +kernel
  | .sum => by decide +kernel
  | .min => by decide +kernel
  | .max => by decide +kernel
theorem itemsF_ok {x : D} {v : V} {ds : List D} (e : itemsF s x = some ds) (hx : Rep Γ φ H v x) (r : Rel Γ φ H s) : ∃ a vs, v = .ref a ∧ (SqL Γ.K H a vs ∨ SqT Γ.K H a vs) ∧ Reps Γ φ H vs ds := by
  unfold itemsF at e
  split at e
  · cases e
    cases hx with
    | lst a1 n1 r1 => exact ⟨_, _, rfl, .inl (SqL.of a1), r1⟩
  · cases e
    cases hx with
    | tup a1 r1 => exact ⟨_, _, rfl, .inr a1, r1⟩
  · split at e
    · rename_i h
      cases e
      cases hx with
      | ref h' =>
        obtain ⟨vs, h1, h2⟩ := r.cell _ _ _ h' h
        exact ⟨_, vs, rfl, .inl (SqL.of h1), h2⟩
    · cases e
  · cases e
theorem listF_ok {x : D} {v : V} {ds : List D} (e : listF s x = some ds) (hx : Rep Γ φ H v x) (r : Rel Γ φ H s) : ∃ a vs, v = .ref a ∧ H a = some (.lst vs) ∧ Reps Γ φ H vs ds := by
  unfold listF at e
  split at e
  · cases e
    cases hx with
    | lst a1 n1 r1 => exact ⟨_, _, rfl, a1, r1⟩
  · split at e
    · rename_i h
      cases e
      cases hx with
      | ref h' =>
        obtain ⟨vs, h1, h2⟩ := r.cell _ _ _ h' h
        exact ⟨_, vs, rfl, h1, h2⟩
    · cases e
  · cases e
theorem biF_ok {b : Bi} {x z : D} {v : V} {Q : VK} (e : biF b s x = some z) (hx : Rep Γ φ H v x) (r : Rel Γ φ H s) (k : Ko Γ φ H s z Q) : rBi Γ.K b [v] H Q := by
  unfold biF at e
  split at e
  · split at e
    · rename_i h
      cases e; cases hx
      exact ⟨_, _, rfl, ⟨by rw [tS_len]; exact h, rfl⟩, by rw [tS_len]; exact k.here r (.int _)⟩
    · cases e
  · obtain ⟨ds, h, rfl⟩ := Option.map_eq_some_iff.mp e
    obtain ⟨a, vs, rfl, h1, h2⟩ := itemsF_ok h hx r
    refine ⟨_, ds.length, rfl, ?_, k.here r (.int _)⟩
    rcases h1 with h1 | h1
    · exact .inl ⟨vs, h1, h2.len.symm⟩
    · exact .inr ⟨vs, h1, h2.len.symm⟩
  · cases e; cases hx
    exact ⟨_, rfl, k.here r (.int _)⟩
  · obtain ⟨ds, h, rfl⟩ := Option.map_eq_some_iff.mp e
    obtain ⟨a, vs, rfl, h1, h2⟩ := itemsF_ok h hx r
    exact ⟨_, vs, rfl, h1, fun l hl => k.lst r h2 hl⟩
  · cases e; cases hx
    exact .inl (.inl ⟨_, rfl, k.here r (.int _)⟩)
  · cases e; cases hx
    exact .inl (.inr ⟨_, rfl, k.here r (.int _)⟩)
  · split at e
    · rename_i h
      obtain ⟨n, hn, rfl⟩ := Option.map_eq_some_iff.mp e
      cases hx
      exact .inr ⟨_, n, rfl, hn, by rw [tS_len]; exact h, k.here r (.int _)⟩
    · cases e
  · split at e
    · rename_i h
      cases e
      cases hx
      refine ⟨_, rfl, h, ?_⟩
      have := k.here r (.str (intT _))
      rw [tS_intT] at this
      exact this
    · cases e
  · obtain ⟨ds, h, e⟩ := Option.bind_eq_some_iff.mp e
    obtain ⟨bs, hb, rfl⟩ := Option.map_eq_some_iff.mp e
    obtain ⟨a, vs, rfl, h1, h2⟩ := listF_ok h hx r
    exact ⟨_, bs, rfl, by rw [← h2.bools hb]; exact SqL.of h1, k.here r (.bl _)⟩
  · obtain ⟨ds, h, e⟩ := Option.bind_eq_some_iff.mp e
    obtain ⟨bs, hb, rfl⟩ := Option.map_eq_some_iff.mp e
    obtain ⟨a, vs, rfl, h1, h2⟩ := listF_ok h hx r
    exact ⟨_, bs, rfl, by rw [← h2.bools hb]; exact SqL.of h1, k.here r (.bl _)⟩
  · obtain ⟨ds, h, e⟩ := Option.bind_eq_some_iff.mp e
    obtain ⟨bs, hb, rfl⟩ := Option.map_eq_some_iff.mp e
    obtain ⟨a, vs, rfl, h1, h2⟩ := listF_ok h hx r
    exact ⟨_, bs, rfl, by rw [← h2.ints hb]; exact SqL.of h1, k.here r (.int _)⟩
  · cases e
    cases hx with
    | tup a1 r1 => exact ⟨_, _, rfl, .inr ⟨a1, k.here r (.tup a1 r1)⟩⟩
  · obtain ⟨ds, h, rfl⟩ := Option.map_eq_some_iff.mp e
    obtain ⟨a, vs, rfl, h1, h2⟩ := listF_ok h hx r
    exact ⟨_, vs, rfl, .inl ⟨SqL.of h1, fun l hl => k.tup r h2 hl⟩⟩
  · obtain ⟨ds, h, e⟩ := Option.bind_eq_some_iff.mp e
    obtain ⟨bs, hb, e⟩ := Option.bind_eq_some_iff.mp e
    obtain ⟨m, hm, rfl⟩ := Option.map_eq_some_iff.mp e
    obtain ⟨a, vs, rfl, h1, h2⟩ := listF_ok h hx r
    obtain ⟨m1, m2⟩ := List.min?_eq_some_iff.mp hm
    refine ⟨_, bs, rfl, by rw [← h2.ints hb]; exact SqL.of h1, List.length_pos_of_mem m1, fun m' h3 h4 => ?_⟩
    have e2 : m' = m := Int.le_antisymm (h4 m m1) (m2 m' h3)
    rw [e2]
    exact k.here r (.int _)
  · obtain ⟨ds, h, e⟩ := Option.bind_eq_some_iff.mp e
    obtain ⟨bs, hb, e⟩ := Option.bind_eq_some_iff.mp e
    obtain ⟨m, hm, rfl⟩ := Option.map_eq_some_iff.mp e
    obtain ⟨a, vs, rfl, h1, h2⟩ := listF_ok h hx r
    obtain ⟨m1, m2⟩ := List.max?_eq_some_iff.mp hm
    refine ⟨_, bs, rfl, by rw [← h2.ints hb]; exact SqL.of h1, List.length_pos_of_mem m1, fun m' h3 h4 => ?_⟩
    have e2 : m' = m := Int.le_antisymm (m2 m' h3) (h4 m m1)
    rw [e2]
    exact k.here r (.int _)
  · cases e
theorem tyN_ok {x : D} {v : V} {n : String} (e : tyN x = some n) (hx : Rep Γ φ H v x) : TyX Γ.K H v (.type n) := by
  cases hx <;> simp only [tyN, Option.some.injEq, reduceCtorEq] at e <;> subst e
  · exact .base .non
  · exact .base (.bl _)
  · exact .base (.int _)
  · exact .base (.str _)
  · rename_i a xs ds h r
    rcases h with (h | ⟨o, h⟩) | ⟨o, its, n, h1, h2, _⟩
    · exact .base (.tup h)
    · exact .fTuple h
    · exact .kTuple h1 h2
  · exact .base (.lst (by assumption))
theorem tyN_in {x : D} {n : String} (e : tyN x = some n) : n = "NoneType" ∨ n = "bool" ∨ n = "int" ∨ n = "str" ∨ n = "tuple" ∨ n = "list" := by
  cases x <;> simp [tyN] at e <;> subst e <;> simp
/-- the classes that are asked for -/
def isTy (t : String) : Bool := t == "bool" || t == "int" || t == "str" || t == "tuple" || t == "list"
theorem heir_ok {n t : String} (h : n = "NoneType" ∨ n = "bool" ∨ n = "int" ∨ n = "str" ∨ n = "tuple" ∨ n = "list") (ht : isTy t = true) : kitB n t = some (heir n t) := by
  unfold isTy at ht
  simp only [Bool.or_eq_true, beq_iff_eq] at ht
  rcases ht with (((rfl | rfl) | rfl) | rfl) | rfl <;> rcases h with rfl | rfl | rfl | rfl | rfl | rfl <;> decide +kernel
theorem kitAny_ok {K : PySem.W.Frag} {n : String} (h : n = "NoneType" ∨ n = "bool" ∨ n = "int" ∨ n = "str" ∨ n = "tuple" ∨ n = "list") : ∀ ts : List String, ts.all isTy = true → PySem.W.kitAny K (.type n) (ts.map Value.type) = some (ts.any (heir n))
  | [], _ => kitAny_nil
  | t :: ts, ht => by
    simp only [List.all_cons, Bool.and_eq_true] at ht
    rw [List.map_cons, List.any_cons]
    exact kitAny_cons (b := heir n t) (kit_ty (heir_ok h ht.1)) (fun q => by rw [q, Bool.false_or]; exact kitAny_ok h ts ht.2) (fun q => by rw [q]; rfl)
theorem Paired_ty : ∀ ts : List String, Paired ClsV (ts.map V.ty) (ts.map Value.type)
  | [] => .nil
  | t :: ts => .cons (.ty t) (Paired_ty ts)
end
end G
set_option Elab.async false
set_option linter.all false
set_option maxRecDepth 100000
namespace G
open PySem L2
section
variable {Γ : Gm} {W : WX} {X : Cx} {pos : Pos} {a b c e : Expr} {ga gb gc : G.Env → Stt → R D} {es : List Expr}
theorem dE_ok {x : D} {v : V} {g : G.Env → Stt → R D} {σ : St} {H : Hp} {Q : VK} (hg : ∀ ρ s, g ρ s = .ok x s) (hv : ∀ φ H, Rep Γ φ H v x) (h : dE Γ W g σ H Q) : Q v H := by
  obtain ⟨φ, ρ, s, er, rel, go⟩ := h
  rw [hg] at go
  exact go φ H (.refl _ _) rel v (hv φ H)
theorem s_int {i : Int} {j} : PE X (.Constant (.int i) j pos) (dE Γ W fun _ s => .ok (.int i) s) := pe_int.mono fun _ _ _ h => dE_ok (fun _ _ => rfl) (fun _ _ => .int i) h
theorem s_bl {i : Bool} {j} : PE X (.Constant (.bool i) j pos) (dE Γ W fun _ s => .ok (.bl i) s) := pe_bl.mono fun _ _ _ h => dE_ok (fun _ _ => rfl) (fun _ _ => .bl i) h
theorem s_non {j} : PE X (.Constant .none j pos) (dE Γ W fun _ s => .ok .non s) := pe_non.mono fun _ _ _ h => dE_ok (fun _ _ => rfl) (fun _ _ => .non) h
theorem s_str {t : T} {j} : PE X (.Constant (.str (tS t)) j pos) (dE Γ W fun _ s => .ok (.str t) s) := pe_str.mono fun _ _ _ h => dE_ok (fun _ _ => rfl) (fun _ _ => .str t) h
theorem Go.of {φ : Fx} {H : Hp} {σ : St} {s : Stt} {α : Type} {o : Option α} {K : α → Stt → Fx → Hp → Prop} (h : Go Γ W φ H σ (R.of o s) K) : ∃ z, o = some z ∧ ∀ φ' H', After φ H φ' H' → Rel Γ φ' H' s → K z s φ' H' := by
  cases o with
  | none => exact h.elim
  | some z => exact ⟨z, rfl, h⟩
theorem s_var {i : Nat} (h : PE X e (tVar i)) : PE X e (dE Γ W fun ρ s => R.of (ρ[i]?.join) s) := h.mono fun σ H Q ⟨φ, ρ, s, er, rel, go⟩ => by
  obtain ⟨d, hd, k⟩ := go.of
  obtain ⟨v, h1, h2⟩ := er.var hd
  exact ⟨v, h1, k φ H (.refl _ _) rel v h2⟩
theorem s_op2 {r : R2} {F : Stt → D → D → Option D} (h : PE X e (tOp r (dE Γ W ga) (dE Γ W gb)))
    (ok : ∀ {φ H s x y z v u} {Q : VK}, F s x y = some z → Rep Γ φ H v x → Rep Γ φ H u y → Rel Γ φ H s → Ko Γ φ H s z Q → r v u H Q) :
    PE X e (dE Γ W fun ρ s => (ga ρ s).bind fun x s => (gb ρ s).bind fun y s => R.of (F s x y) s) := h.mono fun σ H Q ⟨φ, ρ, s, er, rel, go⟩ => by
  refine ⟨φ, ρ, s, er, rel, go.bind.imp fun x s1 φ1 H1 a1 r1 go1 v hv => ?_⟩
  refine ⟨φ1, ρ, s1, er.mono a1, r1, go1.bind.imp fun y s2 φ2 H2 a2 r2 go2 u hu => ?_⟩
  obtain ⟨z, hz, k⟩ := go2.of
  exact ok hz (hv.mono a2) hu r2 k
theorem s_bin {o : G.Bin} (hK : X.K = Γ.K) (ha : PE X a (dE Γ W ga)) (hb : PE X b (dE Γ W gb)) :
    PE X (.BinOp a o.op b pos) (dE Γ W fun ρ s => (ga ρ s).bind fun x s => (gb ρ s).bind fun y s => R.of (binF o x y) s) :=
  s_op2 (F := fun _ => binF o) (pe_op (hK ▸ op_bin o) ha hb) fun e hx hy r k => binF_ok e hx hy r k
theorem s_cmp {o : Cmp} (hK : X.K = Γ.K) (hu : X.A.units + 65 < cLine) (hm : behindInMarks o.op b = false) (ha : PE X a (dE Γ W ga)) (hb : PE X b (dE Γ W gb)) :
    PE X (.Compare a [o.op] [b] pos) (dE Γ W fun ρ s => (ga ρ s).bind fun x s => (gb ρ s).bind fun y s => R.of (cmpF o x y) s) :=
  s_op2 (F := fun _ => cmpF o) (pe_cmpR (hK ▸ op_cmp hu o) ha hb hm) fun e hx hy r k => cmpF_ok e hx hy r k
theorem s_ix (hK : X.K = Γ.K) (hp : PlainIx b) (ha : PE X a (dE Γ W ga)) (hb : PE X b (dE Γ W gb)) :
    PE X (.Subscript a b pos) (dE Γ W fun ρ s => (ga ρ s).bind fun x s => (gb ρ s).bind fun y s => R.of (ixF s x y) s) :=
  s_op2 (F := ixF) (pe_ix (hK ▸ ix_seq) ha hb hp) fun e hx hy r k => ixF_ok e hx hy r k
theorem s_neg (ha : PE X a (dE Γ W ga)) : PE X (.UnaryOp .USub a pos) (dE Γ W fun ρ s => (ga ρ s).bind fun x s => match x with
    | .int i => .ok (.int (-i)) s
    | _ => .stuck) := (pe_un un_neg ha).mono fun σ H Q ⟨φ, ρ, s, er, rel, go⟩ => by
  refine ⟨φ, ρ, s, er, rel, go.bind.imp fun x s1 φ1 H1 a1 r1 go1 v hv => ?_⟩
  cases x <;> first | exact go1.elim | (cases hv; exact ⟨_, rfl, go1 φ1 H1 (.refl _ _) r1 _ (.int _)⟩)
theorem s_not (ha : PE X a (dE Γ W ga)) : PE X (.UnaryOp .Not a pos) (dE Γ W fun ρ s => (ga ρ s).bind fun x s => match x with
    | .bl i => .ok (.bl (!i)) s
    | _ => .stuck) := (pe_not ha).mono fun σ H Q ⟨φ, ρ, s, er, rel, go⟩ => by
  refine ⟨φ, ρ, s, er, rel, go.bind.imp fun x s1 φ1 H1 a1 r1 go1 v hv => ?_⟩
  cases x <;> first | exact go1.elim | (cases hv; exact ⟨_, rfl, go1 φ1 H1 (.refl _ _) r1 _ (.bl _)⟩)
theorem s_one {o} {g : G.Env → Stt → R D} (ha : PE X a (dE Γ W g)) : PE X (.BoolOp o [a] pos) (dE Γ W g) := pe_one ha
theorem s_and {r : List Expr} (ha : PE X a (dE Γ W ga)) (hb : PE X (.BoolOp .And (b :: r) pos) (dE Γ W gb)) : PE X (.BoolOp .And (a :: b :: r) pos) (dE Γ W fun ρ s => (ga ρ s).bind fun x s => match x with
    | .bl true => gb ρ s
    | .bl false => .ok (.bl false) s
    | _ => .stuck) := (pe_and ha hb).mono fun σ H Q ⟨φ, ρ, s, er, rel, go⟩ => by
  refine ⟨φ, ρ, s, er, rel, go.bind.imp fun x s1 φ1 H1 a1 r1 go1 v hv => ?_⟩
  cases x <;> try exact go1.elim
  cases hv
  rename_i k
  cases k with
  | true => exact ⟨true, rfl, by rw [if_pos rfl]; exact ⟨φ1, ρ, s1, er.mono a1, r1, go1⟩⟩
  | false => exact ⟨false, rfl, by rw [if_neg Bool.false_ne_true]; exact go1 φ1 H1 (.refl _ _) r1 _ (.bl _)⟩
theorem s_or {r : List Expr} (ha : PE X a (dE Γ W ga)) (hb : PE X (.BoolOp .Or (b :: r) pos) (dE Γ W gb)) : PE X (.BoolOp .Or (a :: b :: r) pos) (dE Γ W fun ρ s => (ga ρ s).bind fun x s => match x with
    | .bl false => gb ρ s
    | .bl true => .ok (.bl true) s
    | _ => .stuck) := (pe_or ha hb).mono fun σ H Q ⟨φ, ρ, s, er, rel, go⟩ => by
  refine ⟨φ, ρ, s, er, rel, go.bind.imp fun x s1 φ1 H1 a1 r1 go1 v hv => ?_⟩
  cases x <;> try exact go1.elim
  cases hv
  rename_i k
  cases k with
  | false => exact ⟨false, rfl, by rw [if_neg Bool.false_ne_true]; exact ⟨φ1, ρ, s1, er.mono a1, r1, go1⟩⟩
  | true => exact ⟨true, rfl, by rw [if_pos rfl]; exact go1 φ1 H1 (.refl _ _) r1 _ (.bl _)⟩
theorem s_ite {gt : G.Env → Stt → R Bool} (hc : PT X c (dT Γ W gt)) (ha : PE X a (dE Γ W ga)) (hb : PE X b (dE Γ W gb)) : PE X (.IfExp c a b pos) (dE Γ W fun ρ s => (gt ρ s).bind fun k s => if k = true then ga ρ s else gb ρ s) := (pe_ifExp hc ha hb).mono fun σ H Q ⟨φ, ρ, s, er, rel, go⟩ => by
  refine ⟨φ, ρ, s, er, rel, go.bind.imp fun k s1 φ1 H1 a1 r1 go1 => ?_⟩
  cases k with
  | true => exact ⟨φ1, ρ, s1, er.mono a1, r1, go1⟩
  | false => exact ⟨φ1, ρ, s1, er.mono a1, r1, go1⟩
def ns : Expr → Bool
  | .Starred _ _ => false
  | _ => true
theorem star_ns {env : PySem.Env} (h : ns e = true) : starEach (e :: es) env = (false, eval e env) :: starEach es env := by
  cases e <;> first | rfl | exact nomatch h
theorem s_nil : PA X [] (dA Γ W fun _ s => .ok [] s) := pa_nil.mono fun σ H Q ⟨φ, ρ, s, er, rel, go⟩ => go φ H (.refl _ _) rel [] .nil
theorem s_cons {gr : G.Env → Stt → R (List D)} (h : ns e = true) (ha : PE X e (dE Γ W ga)) (hr : PA X es (dA Γ W gr)) : PA X (e :: es) (dA Γ W fun ρ s => (ga ρ s).bind fun x s => (gr ρ s).bind fun xs s => .ok (x :: xs) s) :=
  (pa_cons ha hr (star_ns h)).mono fun σ H Q ⟨φ, ρ, s, er, rel, go⟩ => by
  refine ⟨φ, ρ, s, er, rel, go.bind.imp fun x s1 φ1 H1 a1 r1 go1 v hv => ?_⟩
  refine ⟨φ1, ρ, s1, er.mono a1, r1, go1.bind.imp fun xs s2 φ2 H2 a2 r2 go2 vs hvs => ?_⟩
  exact go2 φ2 H2 (.refl _ _) r2 _ (.cons (hv.mono a2) hvs)
theorem s_tup {k} {gr : G.Env → Stt → R (List D)} (h : PA X es (dA Γ W gr)) : PE X (.Tuple es k pos) (dE Γ W fun ρ s => (gr ρ s).bind fun xs s => if xs.length ≤ sizeLine then .ok (.tup xs) s else .stuck) := (pe_tup h).mono fun σ H Q ⟨φ, ρ, s, er, rel, go⟩ => by
  refine ⟨φ, ρ, s, er, rel, go.bind.imp fun x s1 φ1 H1 a1 r1 go1 vs hvs => ?_⟩
  split at go1
  · rename_i hl
    exact ⟨by rw [hvs.len]; exact hl, fun p hp => Ko.tup (s := s1) go1 r1 hvs hp⟩
  · exact go1.elim
theorem s_lst {gr : G.Env → Stt → R (List D)} (h : PA X es (dA Γ W gr)) : PE X (.List es pos) (dE Γ W fun ρ s => (gr ρ s).bind fun xs s => if xs.length ≤ sizeLine then .ok (.lst xs) s else .stuck) := (pe_lst h).mono fun σ H Q ⟨φ, ρ, s, er, rel, go⟩ => by
  refine ⟨φ, ρ, s, er, rel, go.bind.imp fun x s1 φ1 H1 a1 r1 go1 vs hvs => ?_⟩
  split at go1
  · rename_i hl
    exact ⟨by rw [hvs.len]; exact hl, fun p hp => Ko.lst (s := s1) go1 r1 hvs hp⟩
  · exact go1.elim
theorem s_lstC {gr : G.Env → Stt → R (List D)} (h : PA X es (dA Γ W gr)) : PE X (.List es pos) (dE Γ W fun ρ s => (gr ρ s).bind fun xs s => if xs.length ≤ sizeLine then .ok (.ref s.length) (s ++ [.lst xs]) else .stuck) := (pe_lst h).mono fun σ H Q ⟨φ, ρ, s, er, rel, go⟩ => by
  refine ⟨φ, ρ, s, er, rel, go.bind.imp fun x s1 φ1 H1 a1 r1 go1 vs hvs => ?_⟩
  split at go1
  · rename_i hl
    refine ⟨by rw [hvs.len]; exact hl, fun p hp => ?_⟩
    refine go1 ⟨φ1.cs ++ [p], φ1.hd⟩ _ (.cell hp) (r1.push hp hvs) _ (.ref ?_)
    rw [← r1.len]
    simp
  · exact go1.elim
def dO (Γ : Gm) (W : WX) (g : G.Env → Stt → R (Option Int)) : St → Hp → (Option Int → Hp → Prop) → Prop := fun σ H Q => ∃ φ ρ s, ER Γ φ H σ ρ ∧ Rel Γ φ H s ∧ Go Γ W φ H σ (g ρ s) fun o s' φ' H' => Q o H'
theorem _root_.L2.PO.mono {o : Option Expr} {t t' : TO} (h : PO X o t) (f : ∀ σ H Q, t' σ H Q → t σ H Q) : PO X o t' := ⟨fun pins s σ H Q I q => h.run pins s σ H Q I (f _ _ _ q)⟩
theorem s_onone : PO X none (dO Γ W fun _ s => .ok none s) := po_none.mono fun σ H Q ⟨φ, ρ, s, er, rel, go⟩ => go φ H (.refl _ _) rel
theorem s_osome (ha : PE X a (dE Γ W ga)) : PO X (some a) (dO Γ W fun ρ s => (ga ρ s).bind fun x s => match x with
    | .int i => .ok (some i) s
    | _ => .stuck) := (po_some ha).mono fun σ H Q ⟨φ, ρ, s, er, rel, go⟩ => by
  refine ⟨φ, ρ, s, er, rel, go.bind.imp fun x s1 φ1 H1 a1 r1 go1 v hv => ?_⟩
  cases x <;> first | exact go1.elim | (cases hv; exact ⟨_, rfl, go1 φ1 H1 (.refl _ _) r1⟩)
theorem s_sl {lo hi : Option Expr} {gl gh : G.Env → Stt → R (Option Int)} {p2 : Pos} (hK : X.K = Γ.K) (ha : PE X a (dE Γ W ga)) (hl : PO X lo (dO Γ W gl)) (hh : PO X hi (dO Γ W gh)) :
    PE X (.Subscript a (.Slice lo hi none p2) pos) (dE Γ W fun ρ s => (ga ρ s).bind fun x s => (gl ρ s).bind fun l s => (gh ρ s).bind fun h s => R.of (slF x l h) s) := (pe_slice (hK ▸ sl_any) ha hl hh).mono fun σ H Q ⟨φ, ρ, s, er, rel, go⟩ => by
  refine ⟨φ, ρ, s, er, rel, go.bind.imp fun x s1 φ1 H1 a1 r1 go1 v hv => ?_⟩
  refine ⟨φ1, ρ, s1, er.mono a1, r1, go1.bind.imp fun l s2 φ2 H2 a2 r2 go2 => ?_⟩
  refine ⟨φ2, ρ, s2, (er.mono a1).mono a2, r2, go2.bind.imp fun h s3 φ3 H3 a3 r3 go3 => ?_⟩
  obtain ⟨z, hz, k⟩ := go3.of
  exact slF_ok hz ((hv.mono a2).mono a3) r3 k
/-- x[::-1] -/
def tRev (K : PySem.W.Frag) (te : TE) : TE := fun σ H Q => te σ H fun x H1 => (∃ a xs, x = .ref a ∧ SqL K H1 a xs ∧ ∀ p, H1 p = none → Q (.ref p) (upd H1 p (.lst xs.reverse))) ∨ ∃ t : T, x = .str (tS t) ∧ t.length ≤ sizeLine ∧ Q (.str (tS t.reverse)) H1
theorem rev_pick (z : Str) : (Builtin.Str.strSliceIndices none none (-1) z.length).filterMap (z.cps[·]?) = z.cps.toList.reverse := by
  show ((sliceRange ((z.length : Int) - 1) (-1) (-1)).filterMap (z.cps[·]?)) = _
  rw [PySem.W.krv_sliceRange, PySem.W.krv_range, List.filterMap_reverse]
  show ((List.range z.cps.size).filterMap (z.cps[·]?)).reverse = _
  rw [PySem.W.krv_all]
theorem pe_rev {te : TE} {k : Nat} {p1 p2 p3 : Pos} (he : PE X a te) : PE X (.Subscript a (.Slice none none (some (.UnaryOp .USub (.Constant (.int 1) k p1) p2)) p3) pos) (tRev X.K te) := by
  refine ⟨fun pins s σ H Q I h => ?_⟩
  refine PyProof.Rows.Subscript_ (thn (he.run pins s σ H _ I h) fun v s1 ⟨x, H1, I1, r1, q1⟩ => ?_)
  have hst : PO X (some (.UnaryOp .USub (.Constant (.int 1) k p1) p2)) (tPart (tUn (rU fun i => .int (-i)) (tC (.int 1)))) := po_some (pe_un un_neg pe_int)
  refine wpAny_Slice (thn (po_none.run pins s1 σ H1 (fun o H2 => o = none ∧ H2 = H1) I1 ⟨rfl, rfl⟩) fun vl s2 ⟨l, H2, I2, pl, el, e2⟩ => ?_)
  subst el e2
  refine thn (po_none.run pins s2 σ H2 (fun o H3 => o = none ∧ H3 = H2) I2 ⟨rfl, rfl⟩) fun vu s3 ⟨u, H3, I3, pu, eu, e3⟩ => ?_
  subst eu e3
  refine thn (hst.run pins s3 σ H3 (fun o H4 => o = some (-1) ∧ H4 = H3) I3 ⟨1, rfl, -1, rfl, rfl, rfl⟩) fun vs s4 ⟨o, H4, I4, ps, eo, e4⟩ => ?_
  subst eo e4
  have J : Inv X pins σ H4 { s4 with heap := s4.heap.push { cls := .type "slice", data := .fields #[vl, vu, vs] } } := I4.kept (t' := s4.toks) fun b ob q => Heap.get?_push_of_some _ q
  rcases q1 with ⟨b, xs, ex, hx, q⟩ | ⟨t, ex, hz, q⟩
  · subst ex
    cases r1
    obtain ⟨its, r, ht, hz⟩ := J.list hx
    have hlen := r.length
    show wpAny (model X.prog X.w) X.A (PyProof.Rows.subscriptTail a (.Slice none none (some (.UnaryOp .USub (.Constant (.int 1) k p1) p2)) p3) (.ref b) (.ref s4.heap.objs.size)) (EP X pins σ Q) X.xe { s4 with heap := s4.heap.push { cls := .type "slice", data := .fields #[vl, vu, vs] } }
    refine PyProof.Rows.tail_any (ops := [.ref b, .ref s4.heap.objs.size]) ht.isList.typeIs (PySem.slot_list_getitem.lookup) ?_ (by with_unfolding_all rfl)
    refine wpAny_getItem_list_slice ht.isList (Heap.IsSliceOf.new _ vl vu vs) pl pu ps (by decide) ?_ (by rw [List.size_toArray]; omega)
    rw [PySem.W.krv_pick]
    refine ⟨.ref _, _, J.laid (t' := s4.toks) (o := .lst xs.reverse) (fun b ob q => Heap.get?_push_of_some _ q) (Nat.le_refl _) ?_, rfl, q _ (J.hok.fresh (Nat.le_refl _))⟩
    exact ⟨by rw [List.length_reverse]; exact hz, _, 0, r.reverse, Heap.get?_push_size _ rfl⟩
  · subst ex
    obtain ⟨tk, rfl⟩ := r1
    obtain ⟨l, rfl, el⟩ := IsPart.raw pl
    obtain ⟨u, rfl, eu⟩ := IsPart.raw pu
    obtain ⟨st, rfl, es⟩ := IsPart.raw ps
    show wpAny (model X.prog X.w) X.A (PyProof.Rows.subscriptTail a (.Slice none none (some (.UnaryOp .USub (.Constant (.int 1) k p1) p2)) p3) (.str (tS t) tk) (.ref s4.heap.objs.size)) (EP X pins σ Q) X.xe { s4 with heap := s4.heap.push { cls := .type "slice", data := .fields #[partValue l, partValue u, partValue st] } }
    refine PyProof.Rows.tail_any (ops := [.str (tS t) tk, .ref s4.heap.objs.size]) (typeIs_str _ _ _) (PySem.F.slot_str_getitem.lookup) ?_ (by with_unfolding_all rfl)
    have e1 : (st.map (·.1)).getD 1 = -1 := by rw [es]; rfl
    refine wpAny_getItem_str_slice (l := l) (u := u) (st := st) ⟨_, Heap.get?_push_size _ rfl, rfl, rfl⟩ (by rw [e1]; rfl) ?_
    unfold sliceMade slicePicked
    rw [e1, el, eu, if_neg (by simp), rev_pick]
    have e2 : (tS t).cps.toList.reverse = t.reverse := rfl
    rw [e2]
    exact ⟨by show t.reverse.toArray.size ≤ sizeLine; simpa using hz, .str (tS t.reverse), H4, J.tok _, ⟨_, rfl⟩, q⟩
theorem Reps.rev {φ : Fx} {H : Hp} {vs : List V} {ds : List D} (h : Reps Γ φ H vs ds) : Reps Γ φ H vs.reverse ds.reverse := by
  induction vs generalizing ds with
  | nil =>
    cases h
    exact .nil
  | cons v vs ih =>
    cases h with
    | cons a b =>
      rw [List.reverse_cons, List.reverse_cons]
      exact (ih b).append (.cons a .nil)
theorem revF_ok {φ : Fx} {H : Hp} {s : Stt} {x z : D} {v : V} {Q : VK} (hz : revF x = some z) (hv : Rep Γ φ H v x) (r1 : Rel Γ φ H s) (k : Ko Γ φ H s z Q) : (∃ a xs, v = .ref a ∧ SqL Γ.K H a xs ∧ ∀ p, H p = none → Q (.ref p) (upd H p (.lst xs.reverse))) ∨ ∃ t : T, v = .str (tS t) ∧ t.length ≤ sizeLine ∧ Q (.str (tS t.reverse)) H := by
  unfold revF at hz
  split at hz
  · split at hz
    · rename_i hl
      cases hz; cases hv
      exact .inr ⟨_, rfl, hl, k.here r1 (.str _)⟩
    · cases hz
  · cases hz
    cases hv with
    | lst a2 n2 r2 => exact .inl ⟨_, _, rfl, SqL.of a2, fun p hp => k.lst r1 r2.rev hp⟩
  · cases hz
theorem s_rev {k : Nat} {p1 p2 p3 : Pos} (hK : X.K = Γ.K) (ha : PE X a (dE Γ W ga)) : PE X (.Subscript a (.Slice none none (some (.UnaryOp .USub (.Constant (.int 1) k p1) p2)) p3) pos) (dE Γ W fun ρ s => (ga ρ s).bind fun x s => R.of (revF x) s) := (pe_rev ha).mono fun σ H Q ⟨φ, ρ, s, er, rel, go⟩ => by
  refine ⟨φ, ρ, s, er, rel, go.bind.imp fun x s1 φ1 H1 a1 r1 go1 v hv => ?_⟩
  obtain ⟨z, hz, k⟩ := go1.of
  rw [hK]
  exact revF_ok hz hv r1 k
theorem s_truth (hK : X.K = Γ.K) (ha : PE X a (dE Γ W ga)) (he : ∀ whole, isTrue a X.env whole = (do let v ← whole; standAt a.pos; holding [v] (truthy v))) : PT X a (dT Γ W fun ρ s => (ga ρ s).bind fun x s => R.of (truF s x) s) :=
  (pt_truth ha he).mono fun σ H Q ⟨φ, ρ, s, er, rel, go⟩ => by
  refine ⟨φ, ρ, s, er, rel, go.bind.imp fun x s1 φ1 H1 a1 r1 go1 v hv => ?_⟩
  obtain ⟨z, hz, k⟩ := go1.of
  exact ⟨z, hK ▸ truF_ok hz hv r1, k φ1 H1 (.refl _ _) r1⟩
theorem s_tcmp {o : Cmp} (hK : X.K = Γ.K) (hu : X.A.units + 65 < cLine) (hm : behindInMarks o.op b = false) (ha : PE X a (dE Γ W ga)) (hb : PE X b (dE Γ W gb)) :
    PT X (.Compare a [o.op] [b] pos) (dT Γ W fun ρ s => (ga ρ s).bind fun x s => (gb ρ s).bind fun y s => (R.of (cmpF o x y) s).bind fun z s => match z with
      | .bl k => .ok k s
      | _ => .stuck) := (pt_cmpR (hK ▸ op_cmp hu o) ha hb hm).mono fun σ H Q ⟨φ, ρ, s, er, rel, go⟩ => by
  refine ⟨φ, ρ, s, er, rel, go.bind.imp fun x s1 φ1 H1 a1 r1 go1 v hv => ?_⟩
  refine ⟨φ1, ρ, s1, er.mono a1, r1, go1.bind.imp fun y s2 φ2 H2 a2 r2 go2 u hu => ?_⟩
  obtain ⟨z, hz, k⟩ := go2.bind.of
  refine cmpF_ok hz (hv.mono a2) hu r2 fun φ3 H3 a3 r3 w hw => ?_
  have q := k φ3 H3 a3 r3
  cases z <;> first | exact q.elim | (cases hw; exact ⟨_, rfl, q φ3 H3 (.refl _ _) r3⟩)
theorem s_chain {o o' : Cmp} {c : Expr} {gc : G.Env → Stt → R D} (hK : X.K = Γ.K) (hu : X.A.units + 65 < cLine) (hm : lastMarks [o.op, o'.op] [b, c] = false) (ha : PE X a (dE Γ W ga)) (hb : PE X b (dE Γ W gb)) (hc : PE X c (dE Γ W gc)) :
    PE X (.Compare a [o.op, o'.op] [b, c] pos) (dE Γ W fun ρ s => (ga ρ s).bind fun x s => (gb ρ s).bind fun y s => (R.of (cmpF o x y) s).bind fun z s => match z with
      | .bl true => (gc ρ s).bind fun w s => R.of (cmpF o' y w) s
      | .bl false => .ok (.bl false) s
      | _ => .stuck) := (pe_chain (hK ▸ op_cmp hu o) (hK ▸ op_cmp hu o') ha hb hc hm).mono fun σ H Q ⟨φ, ρ, s, er, rel, go⟩ => by
  refine ⟨φ, ρ, s, er, rel, go.bind.imp fun x s1 φ1 H1 a1 r1 go1 v hv => ?_⟩
  refine ⟨φ1, ρ, s1, er.mono a1, r1, go1.bind.imp fun y s2 φ2 H2 a2 r2 go2 u hu => ?_⟩
  obtain ⟨z, hz, k⟩ := go2.bind.of
  refine cmpF_ok hz (hv.mono a2) hu r2 fun φ3 H3 a3 r3 w hw => ?_
  have q := k φ3 H3 a3 r3
  cases z <;> try exact q.elim
  rename_i k'
  cases hw
  refine ⟨_, rfl, ?_⟩
  cases k' with
  | false =>
    show Q (.bl false) H3
    exact q φ3 H3 (.refl _ _) r3 _ (.bl _)
  | true =>
    show dE Γ W gc σ H3 _
    refine ⟨φ3, ρ, s2, er.mono (a1.trans (a2.trans a3)), r3, q.bind.imp fun w s4 φ4 H4 a4 r4 go4 t ht => ?_⟩
    obtain ⟨z', hz', k'⟩ := go4.of
    exact cmpF_ok hz' (hu.mono (a3.trans a4)) ht r4 k'
theorem s_tchain {o o' : Cmp} {c : Expr} {gc : G.Env → Stt → R D} (hK : X.K = Γ.K) (hu : X.A.units + 65 < cLine) (hm : lastMarks [o.op, o'.op] [b, c] = false) (ha : PE X a (dE Γ W ga)) (hb : PE X b (dE Γ W gb)) (hc : PE X c (dE Γ W gc)) :
    PT X (.Compare a [o.op, o'.op] [b, c] pos) (dT Γ W fun ρ s => (ga ρ s).bind fun x s => (gb ρ s).bind fun y s => (R.of (cmpF o x y) s).bind fun z s => match z with
      | .bl true => (gc ρ s).bind fun w s => (R.of (cmpF o' y w) s).bind fun z s => match z with
        | .bl k => .ok k s
        | _ => .stuck
      | .bl false => .ok false s
      | _ => .stuck) := (pt_chain (hK ▸ op_cmp hu o) (hK ▸ op_cmp hu o') ha hb hc hm).mono fun σ H Q ⟨φ, ρ, s, er, rel, go⟩ => by
  refine ⟨φ, ρ, s, er, rel, go.bind.imp fun x s1 φ1 H1 a1 r1 go1 v hv => ?_⟩
  refine ⟨φ1, ρ, s1, er.mono a1, r1, go1.bind.imp fun y s2 φ2 H2 a2 r2 go2 u hu => ?_⟩
  obtain ⟨z, hz, k⟩ := go2.bind.of
  refine cmpF_ok hz (hv.mono a2) hu r2 fun φ3 H3 a3 r3 w hw => ?_
  have q := k φ3 H3 a3 r3
  cases z <;> try exact q.elim
  rename_i k'
  cases hw
  refine ⟨_, rfl, ?_⟩
  cases k' with
  | false => exact ⟨_, rfl, q φ3 H3 (.refl _ _) r3⟩
  | true =>
    show dE Γ W gc σ H3 _
    refine ⟨φ3, ρ, s2, er.mono (a1.trans (a2.trans a3)), r3, q.bind.imp fun w s4 φ4 H4 a4 r4 go4 t ht => ?_⟩
    obtain ⟨z', hz', k'⟩ := go4.bind.of
    refine cmpF_ok hz' (hu.mono (a3.trans a4)) ht r4 fun φ5 H5 a5 r5 w' hw' => ?_
    have q' := k' φ5 H5 a5 r5
    cases z' <;> first | exact q'.elim | (cases hw'; exact ⟨_, rfl, q' φ5 H5 (.refl _ _) r5⟩)
theorem s_tnot {gt : G.Env → Stt → R Bool} (ha : PT X a (dT Γ W gt)) : PT X (.UnaryOp .Not a pos) (dT Γ W fun ρ s => (gt ρ s).bind fun k s => .ok (!k) s) := (pt_not ha).mono fun σ H Q ⟨φ, ρ, s, er, rel, go⟩ =>
  ⟨φ, ρ, s, er, rel, go.bind.imp fun k s1 φ1 H1 a1 r1 go1 => go1 φ1 H1 (.refl _ _) r1⟩
theorem s_tand1 {g : G.Env → Stt → R Bool} (ha : PT X a (dT Γ W g)) : PW X (.BoolOp .And [a] pos) (dT Γ W g) := pw_and1 ha
theorem s_tor1 {g : G.Env → Stt → R Bool} (ha : PT X a (dT Γ W g)) : PW X (.BoolOp .Or [a] pos) (dT Γ W g) := pw_or1 ha
theorem s_tand {r : List Expr} {gt gu : G.Env → Stt → R Bool} (ha : PT X a (dT Γ W gt)) (hb : PW X (.BoolOp .And (b :: r) pos) (dT Γ W gu)) : PW X (.BoolOp .And (a :: b :: r) pos) (dT Γ W fun ρ s => (gt ρ s).bind fun k s => if k = true then gu ρ s else .ok false s) := (pw_and ha hb).mono fun σ H Q ⟨φ, ρ, s, er, rel, go⟩ => by
  refine ⟨φ, ρ, s, er, rel, go.bind.imp fun k s1 φ1 H1 a1 r1 go1 => ?_⟩
  cases k with
  | true => exact ⟨φ1, ρ, s1, er.mono a1, r1, go1⟩
  | false => exact go1 φ1 H1 (.refl _ _) r1
theorem s_tor {r : List Expr} {gt gu : G.Env → Stt → R Bool} (ha : PT X a (dT Γ W gt)) (hb : PW X (.BoolOp .Or (b :: r) pos) (dT Γ W gu)) : PW X (.BoolOp .Or (a :: b :: r) pos) (dT Γ W fun ρ s => (gt ρ s).bind fun k s => if k = true then .ok true s else gu ρ s) := (pw_or ha hb).mono fun σ H Q ⟨φ, ρ, s, er, rel, go⟩ => by
  refine ⟨φ, ρ, s, er, rel, go.bind.imp fun k s1 φ1 H1 a1 r1 go1 => ?_⟩
  cases k with
  | true => exact go1 φ1 H1 (.refl _ _) r1
  | false => exact ⟨φ1, ρ, s1, er.mono a1, r1, go1⟩
theorem back_ns {env : PySem.Env} : ∀ {es : List Expr}, es.all ns = true → (backTo pos (starEach es env)).any (·.1) = false
  | [], _ => rfl
  | e :: es, h => by
    simp only [List.all_cons, Bool.and_eq_true] at h
    rw [star_ns h.1]
    show (false || (backTo pos (starEach es env)).any (·.1)) = false
    rw [back_ns h.2]
    rfl
theorem pe_bi {x : Str} {p : Pos} {v : Value} {r : List V → Hp → VK → Prop} {t : TA} (hc : CallR X v r) (hv : bootBuiltins x = some v) (ht : (∃ i, v = .builtin i) ∨ ∃ i, v = .type i) (hg : Gl X x) (hm : X.mg x = none) (ha : PA X (e :: es) t) (hn : x ≠ "__name__") (hdb : (x == ("__debug__" : Str)) = false) (h : (e :: es).all ns = true) :
    PE X (.Call (.Name x p) (e :: es) [] pos) (tCB r t) := by
  simp only [List.all_cons, Bool.and_eq_true] at h
  rcases ht with ⟨i, rfl⟩ | ⟨i, rfl⟩
  · exact pe_callB hc hg hm hv ha hn hdb (star_ns h.1) (back_ns h.2)
  · exact pe_callTy hc hg hm hv ha hn hdb (star_ns h.1) (back_ns h.2)
theorem Bi.nn (b : Bi) : b.nm ≠ "__name__" ∧ (b.nm == ("__debug__" : Str)) = false := by cases b <;> decide +kernel
theorem Bi.vt (b : Bi) : (∃ i, b.val = .builtin i) ∨ ∃ i, b.val = .type i := by cases b <;> first | exact .inl ⟨_, rfl⟩ | exact .inr ⟨_, rfl⟩
theorem s_bi {o : Bi} {p : Pos} (hK : X.K = Γ.K) (hc : X.calm = true) (hg : Gl X o.nm) (hm : X.mg o.nm = none) (h : ns a = true) (ha : PE X a (dE Γ W ga)) :
    PE X (.Call (.Name o.nm p) [a] [] pos) (dE Γ W fun ρ s => (ga ρ s).bind fun x s => R.of (biF o s x) s) :=
  (pe_bi (op_bi hc o) o.boot o.vt hg hm (pa_cons ha pa_nil (star_ns h)) o.nn.1 o.nn.2 (by simp [h])).mono fun σ H Q ⟨φ, ρ, s, er, rel, go⟩ => by
  refine ⟨φ, ρ, s, er, rel, go.bind.imp fun x s1 φ1 H1 a1 r1 go1 v hv => ?_⟩
  obtain ⟨z, hz, k⟩ := go1.of
  exact hK ▸ biF_ok hz hv r1 k
/-- max(a, b) of two numbers -/
theorem s_max2 {p : Pos} (hc : X.calm = true) (hg : Gl X (Bi.max).nm) (hm : X.mg (Bi.max).nm = none) (h : ns a = true) (h2 : ns b = true) (ha : PE X a (dE Γ W ga)) (hb : PE X b (dE Γ W gb)) :
    PE X (.Call (.Name (Bi.max).nm p) [a, b] [] pos) (dE Γ W fun ρ s => (ga ρ s).bind fun x s => (gb ρ s).bind fun y s => R.of (max2F x y) s) :=
  s_op2 (r := fun v u H Q => ∃ i j, [v, u] = [V.int i, V.int j] ∧ Q (.int (if j > i then j else i)) H) (F := fun _ => max2F)
    (pe_bi (call_max2 hc) (Bi.max).boot (Bi.max).vt hg hm (pa_cons ha (pa_cons hb pa_nil (star_ns h2)) (by rw [star_ns h, star_ns h2])) (Bi.max).nn.1 (Bi.max).nn.2 (by simp [h, h2]))
    fun {φ H s x y z v u Q} e hx hy r k => by
      cases x with
      | int i => cases y with
        | int j =>
          cases hx
          cases hy
          have e := Option.some.inj e
          subst e
          exact ⟨_, _, rfl, k.here r (.int _)⟩
        | _ => exact absurd e (by simp [max2F])
      | _ => exact absurd e (by simp [max2F])
/-- list(x), a cell -/
theorem s_mk {p : Pos} (hK : X.K = Γ.K) (hc : X.calm = true) (hg : Gl X (Bi.list).nm) (hm : X.mg (Bi.list).nm = none) (h : ns a = true) (ha : PE X a (dE Γ W ga)) :
    PE X (.Call (.Name (Bi.list).nm p) [a] [] pos) (dE Γ W fun ρ s => (ga ρ s).bind fun x s => match itemsF s x with
      | some xs => .ok (.ref s.length) (s ++ [.lst xs])
      | none => .stuck) :=
  (pe_bi (op_bi hc .list) (Bi.list).boot (Bi.list).vt hg hm (pa_cons ha pa_nil (star_ns h)) (Bi.list).nn.1 (Bi.list).nn.2 (by simp [h])).mono fun σ H Q ⟨φ, ρ, s, er, rel, go⟩ => by
  refine ⟨φ, ρ, s, er, rel, go.bind.imp fun x s1 φ1 H1 a1 r1 go1 v hv => ?_⟩
  cases e : itemsF s1 x with
  | none =>
    rw [e] at go1
    exact go1.elim
  | some xs =>
    rw [e] at go1
    obtain ⟨b, vs, rfl, h1, h2⟩ := itemsF_ok e hv r1
    rw [hK]
    refine ⟨b, vs, rfl, h1, fun l hl => ?_⟩
    refine go1 ⟨φ1.cs ++ [l], φ1.hd⟩ _ (.cell hl) (r1.push hl h2) _ (.ref ?_)
    rw [← r1.len]
    simp
theorem s_fmt (ha : PE X a (dE Γ W ga)) : PE X (.FormattedValue a (-1) none pos) (dE Γ W fun ρ s => (ga ρ s).bind fun x s => R.of (fmtF x) s) := (pe_fmt ha).mono fun σ H Q ⟨φ, ρ, s, er, rel, go⟩ => by
  refine ⟨φ, ρ, s, er, rel, go.bind.imp fun x s1 φ1 H1 a1 r1 go1 v hv => ?_⟩
  obtain ⟨z, hz, k⟩ := go1.of
  unfold fmtF at hz
  split at hz
  · split at hz
    · rename_i h
      cases hz
      cases hv
      exact .inl ⟨_, rfl, by rw [tS_len]; exact h, k φ1 H1 (.refl _ _) r1 _ (.str _)⟩
    · cases hz
  · split at hz
    · rename_i h
      cases hz
      cases hv
      refine .inr ⟨_, rfl, h, ?_⟩
      have := k φ1 H1 (.refl _ _) r1 _ (.str (intT _))
      rw [tS_intT] at this
      exact this
    · cases hz
  · cases hz
/-- a written text as a part -/
inductive PJs (X : Cx) (Γ : Gm) (W : WX) : List Expr → List (G.Env → Stt → R D) → Prop where
  | nil : PJs X Γ W [] []
  | cons {e : Expr} {g : G.Env → Stt → R D} {es : List Expr} {gs : List (G.Env → Stt → R D)} (h : PE X e (dE Γ W g)) (r : PJs X Γ W es gs) : PJs X Γ W (e :: es) (g :: gs)
def evFL : List (G.Env → Stt → R D) → T → G.Env → Stt → R D
  | [], acc, _, s => .ok (.str acc) s
  | g :: gs, acc, ρ, s => (g ρ s).bind fun x s => match x with
    | .str y => if (acc ++ y).length ≤ sizeLine then evFL gs (acc ++ y) ρ s else .stuck
    | _ => .stuck
theorem PJs.pj : ∀ {es : List Expr} {gs : List (G.Env → Stt → R D)}, PJs X Γ W es gs → PJ X es (gs.map fun g => dE Γ W g)
  | _, _, .nil => .nil
  | _, _, .cons h r => .cons h r.pj
theorem tjs_read {σ : St} {Q : VK} : ∀ {gs : List (G.Env → Stt → R D)} {acc : T} {φ : Fx} {H : Hp} {ρ : G.Env} {s : Stt}, ER Γ φ H σ ρ → Rel Γ φ H s →
    Go Γ W φ H σ (evFL gs acc ρ s) (fun d s' φ' H' => ∀ v, Rep Γ φ' H' v d → Q v H') → tJs (gs.map fun g => dE Γ W g) (tS acc) σ H fun out H1 => Q (.str out) H1
  | [], acc, φ, H, ρ, s, er, rel, go => go φ H (.refl _ _) rel _ (.str _)
  | g :: gs, acc, φ, H, ρ, s, er, rel, go => by
    refine ⟨φ, ρ, s, er, rel, go.bind.imp fun x s1 φ1 H1 a1 r1 go1 v hv => ?_⟩
    cases x <;> try exact go1.elim
    rename_i y
    simp only at go1
    split at go1
    · rename_i hl
      cases hv
      refine ⟨_, rfl, by rw [← tS_app, tS_len]; exact hl, ?_⟩
      rw [← tS_app]
      exact tjs_read (er.mono a1) r1 go1
    · exact go1.elim
theorem s_fstr {v1 v2 : Expr} {rest : List Expr} {gs : List (G.Env → Stt → R D)} (h : PJs X Γ W (v1 :: v2 :: rest) gs) : PE X (.JoinedStr (v1 :: v2 :: rest) pos) (dE Γ W (evFL gs [])) := (pe_joined h.pj).mono fun σ H Q ⟨φ, ρ, s, er, rel, go⟩ => tjs_read (acc := []) er rel go
end
end G
set_option Elab.async false
set_option linter.all false
set_option maxRecDepth 100000
namespace G
open PySem L2
section
variable {Γ : Gm} {W : WX} {X : Cx} {pos : Pos} {a b c e : Expr} {ga gb gc : G.Env → Stt → R D} {es : List Expr}
/-- from φ0, H0 on the iterator yields the data ds -/
def Wk (Γ : Gm) (J : L2.It) (φ0 : Fx) (H0 : Hp) (ds : List D) : Prop := ∀ (i : Nat) φ H s, After φ0 H0 φ H → Rel Γ φ H s →
  (i < ds.length → J.go i H ∧ ∀ x H', J.yld i H x H' → After φ H φ H' ∧ Rel Γ φ H' s ∧ ∃ d, ds[i]? = some d ∧ Rep Γ φ H' x d) ∧ (ds.length ≤ i → J.stop i H)
def dI (Γ : Gm) (W : WX) (g : G.Env → Stt → R (List D)) : TI := fun σ H R => ∃ φ ρ s, ER Γ φ H σ ρ ∧ Rel Γ φ H s ∧ Go Γ W φ H σ (g ρ s) fun ds s' φ' H' => ∀ J, Wk Γ J φ' H' ds → R J H'
theorem wk_list' {K : PySem.W.Frag} {φ : Fx} {H : Hp} {a : Addr} {xs : List V} {ds : List D} (h : H a = some (.lst xs)) (n : φ.out a) (r : Reps Γ φ H xs ds) : Wk Γ (Itl K a) φ H ds := by
  intro i φ1 H1 s A1 R1
  have h1 := A1.keep _ _ h not_lst n.1
  have r1 := r.mono A1
  refine ⟨fun hi => ?_, fun hi => ⟨xs, SqL.of h1, by rw [r1.len]; exact hi⟩⟩
  obtain ⟨v, hv, rv⟩ := r1.get (i := i) (List.getElem?_eq_getElem hi)
  refine ⟨⟨xs, v, SqL.of h1, hv⟩, fun x H' ⟨e, q⟩ => ?_⟩
  subst e
  have := q xs (SqL.of h1)
  rw [hv] at this
  cases this
  exact ⟨.refl _ _, R1, _, List.getElem?_eq_getElem hi, rv⟩
theorem wk_tup {φ : Fx} {H : Hp} {a : Addr} {xs : List V} {ds : List D} (h : SqT Γ.K H a xs) (r : Reps Γ φ H xs ds) : Wk Γ (Itt Γ.K a) φ H ds := by
  intro i φ1 H1 s A1 R1
  have h1 := SqT.mono A1 h
  have r1 := r.mono A1
  refine ⟨fun hi => ?_, fun hi => ⟨xs, h1, by rw [r1.len]; exact hi⟩⟩
  obtain ⟨v, hv, rv⟩ := r1.get (i := i) (List.getElem?_eq_getElem hi)
  refine ⟨⟨xs, v, h1, hv⟩, fun x H' ⟨e, q⟩ => ?_⟩
  subst e
  have := q xs h1
  rw [hv] at this
  cases this
  exact ⟨.refl _ _, R1, _, List.getElem?_eq_getElem hi, rv⟩
theorem wk_str {φ : Fx} {H : Hp} {t : T} : Wk Γ (Its (tS t)) φ H (t.map fun c => .str [c]) := by
  intro i φ1 H1 s A1 R1
  have hl : (tS t).cps.size = t.length := by simp [tS]
  refine ⟨fun hi => ?_, fun hi => by show (tS t).cps.size ≤ i; rw [hl]; simpa using hi⟩
  rw [List.length_map] at hi
  refine ⟨by show i < (tS t).cps.size; rw [hl]; exact hi, fun x H' ⟨e, c, hc, ex⟩ => ?_⟩
  subst e ex
  have hc : t[i]? = some c := by simpa [tS] using hc
  exact ⟨.refl _ _, R1, _, by rw [List.getElem?_map, hc]; rfl, .str [c]⟩
theorem wk_rng {φ : Fx} {H : Hp} {lo : Int} {n : Nat} : Wk Γ (Itr lo n) φ H ((List.range n).map fun i => .int (lo + (i : Nat))) := by
  intro i φ1 H1 s A1 R1
  refine ⟨fun hi => ?_, fun hi => by show n ≤ i; simpa using hi⟩
  have hi : i < n := by simpa using hi
  refine ⟨hi, fun x H' ⟨e, ex⟩ => ?_⟩
  subst e ex
  exact ⟨.refl _ _, R1, .int (lo + i), by simp [hi], .int _⟩
theorem wk_enum {K : PySem.W.Frag} {φ : Fx} {H : Hp} {a : Addr} {xs : List V} {ds : List D} (h : H a = some (.lst xs)) (n : φ.out a) (r : Reps Γ φ H xs ds) : Wk Γ (Ite K a) φ H (ds.mapIdx fun i x => .tup [.int i, x]) := by
  intro i φ1 H1 s A1 R1
  have h1 := A1.keep _ _ h not_lst n.1
  have r1 := r.mono A1
  refine ⟨fun hi => ?_, fun hi => ⟨xs, SqL.of h1, by rw [r1.len]; simpa using hi⟩⟩
  have hi : i < ds.length := by simpa using hi
  obtain ⟨v, hv, rv⟩ := r1.get (i := i) (List.getElem?_eq_getElem hi)
  refine ⟨⟨xs, v, SqL.of h1, hv⟩, fun x H' ⟨T, y, e1, hT, e2, q⟩ => ?_⟩
  subst e1 e2
  have := q xs (SqL.of h1)
  rw [hv] at this
  cases this
  refine ⟨.fresh hT, R1.fresh hT, .tup [.int i, ds[i]], by simp [hi], ?_⟩
  exact .tup (SqT.of upd_same) (.cons (.int _) (.cons (rv.mono (.fresh hT)) .nil))
/-- each sign of a text with its place, in a new pair -/
def Iten (z : Str) : L2.It := ⟨fun i _ => i < z.cps.size, fun i H v H' => ∃ T c, v = .ref T ∧ H T = none ∧ H' = upd H T (.tup [.int (i : Nat), .str ⟨#[c]⟩]) ∧ z.cps[i]? = some c, fun i _ => z.cps.size ≤ i⟩
theorem turn_enumS {P : Program} {w : World} {K : PySem.W.Frag} {elts : List Expr} {kk : Nat} {tpos : Pos} (e it : Addr) (z : Str) (t : Tok) (ty : String) (hty : ty = "str_ascii_iterator" ∨ ty = "str_iterator") :
    Turn P w K (.Tuple elts kk tpos) (Iten z) [e, it] e (fun i h => (∃ old, IsEnum h e it ((i : Nat) : Int) old) ∧ h.IsStrIter it ty z t i ∧ e ≠ it ∧ i ≤ z.cps.size) where
  mem := by simp
  obj := fun i h st b hb => by
    obtain ⟨⟨old, he⟩, ⟨o, ho, hc, hd⟩, _⟩ := st
    have e' : b = e ∨ b = it := by simpa using hb
    rcases e' with q | q
    · rw [q]; exact ⟨_, he, fun v q => nomatch q⟩
    · rw [q]; exact ⟨o, ho, fun v q => by rw [hd] at q; cases q⟩
  keep := fun i h h' st k => let ⟨⟨old, he⟩, ⟨o, ho, r⟩, hne⟩ := st; ⟨⟨old, k e (by simp) _ he⟩, ⟨o, k it (by simp) _ ho, r⟩, hne⟩
  item := by
    intro X hP hw hK hc i pins s σ H E I hf st hg
    subst hP hw hK
    obtain ⟨hen, hit, hne, hle⟩ := st
    have W : WalksT X.prog X.w X.A e [e, it] [e, it] z.cps.size (fun i vals => ∃ t x, (∃ c u, z.cps[i]? = some c ∧ x = .str ⟨#[c]⟩ u) ∧ vals = #[.int i t, x]) (fun i h => (∃ old, IsEnum h e it i old) ∧ h.IsStrIter it ty z t i)
        (fun i T h => (∃ x, PySem.IsEnumOut h e it ((i : Int) + 1) x T) ∧ h.IsStrIter it ty z t (i + 1) ∧ T ≠ e ∧ T ≠ it) := by
      rcases hty with q | q
      · rw [q]; exact WalksT.enumerateD (Draws.strAscii (A := X.A.in1) (I.ok.hd hc) it z t) e hne (by simpa using hne) (by simp)
      · rw [q]; exact WalksT.enumerateD (Draws.strWide (A := X.A.in1) (I.ok.hd hc) it z t) e hne (by simpa using hne) (by simp)
    refine W.item i s _ _ hg ⟨hen, hit⟩ fun T vals h' tk hP hT hTup hMid k1 => ?_
    obtain ⟨t1, x, ⟨c, u, hc1, rfl⟩, rfl⟩ := hP
    have hap := W.apart i T h' hMid
    refine ⟨_, rfl, W.go elts kk tpos i T { s with heap := h', toks := tk } _ _ hMid fun h'' st' k2 => ?_⟩
    have hT2 : h''.IsTuple T #[.int i t1, .str ⟨#[c]⟩ u] := by
      obtain ⟨o, ho, r⟩ := hTup
      exact ⟨o, k2 T o hap ho, r⟩
    have new : ObjOk X.prog X.w (upd H T (.tup [.int (i : Nat), .str ⟨#[c]⟩])) h'' T (.tup [.int (i : Nat), .str ⟨#[c]⟩]) :=
      ⟨by show 2 ≤ sizeLine; decide, [.int i t1, .str ⟨#[c]⟩ u], .cons ⟨_, rfl⟩ (.cons ⟨_, rfl⟩ .nil), hT2⟩
    have I1 : L2.Inv X pins σ (upd H T (.tup [.int (i : Nat), .str ⟨#[c]⟩])) { s with heap := h'', toks := tk } :=
      I.turnedNew (ch := [e, it]) (fun b ob hb q => k2 b _ hb (k1 b ob hb q)) hf hT new
    refine ⟨.ref T, _, I1, rfl, ⟨T, c, rfl, I.hok.fresh hT, rfl, hc1⟩, ⟨st'.1, st'.2, hne, hg⟩, fun b hb => ?_⟩
    rw [upd_ne]
    · exact (hf b hb).1
    · intro q
      exact hap (q ▸ hb)
  done := by
    intro X hP hw hK hc i pins s σ H E I hf st hg
    subst hP hw hK
    obtain ⟨hen, hit, hne, hle⟩ := st
    have W : WalksT X.prog X.w X.A e [e, it] [e, it] z.cps.size (fun i vals => ∃ t x, (∃ c u, z.cps[i]? = some c ∧ x = .str ⟨#[c]⟩ u) ∧ vals = #[.int i t, x]) (fun i h => (∃ old, IsEnum h e it i old) ∧ h.IsStrIter it ty z t i)
        (fun i T h => (∃ x, PySem.IsEnumOut h e it ((i : Int) + 1) x T) ∧ h.IsStrIter it ty z t (i + 1) ∧ T ≠ e ∧ T ≠ it) := by
      rcases hty with q | q
      · rw [q]; exact WalksT.enumerateD (Draws.strAscii (A := X.A.in1) (I.ok.hd hc) it z t) e hne (by simpa using hne) (by simp)
      · rw [q]; exact WalksT.enumerateD (Draws.strWide (A := X.A.in1) (I.ok.hd hc) it z t) e hne (by simpa using hne) (by simp)
    have ei : i = z.cps.size := Nat.le_antisymm hle hg
    subst ei
    refine W.done s _ _ ⟨hen, hit⟩ fun h' tk k1 => ?_
    exact ⟨rfl, I.turnedL k1 hf⟩
  self := fun A i s Q E st h => let ⟨⟨_, he⟩, _⟩ := st; wpAny_pyIter_enum he h
theorem s_iseq {tg : Expr} (hK : X.K = Γ.K) (ha : PE X a (dE Γ W ga)) : PI X tg a (dI Γ W fun ρ s => (ga ρ s).bind fun x s => R.of (srcF .seq s [x]) s) := by
  have h1 : PI X tg a (fun σ H R => dE Γ W ga σ H fun x H1 => (∃ a xs, x = .ref a ∧ H1 a = some (.lst xs) ∧ R (Itl Γ.K a) H1) ∨ (∃ a xs, x = .ref a ∧ SqT Γ.K H1 a xs ∧ R (Itt Γ.K a) H1) ∨ ∃ z, x = .str z ∧ R (Its z) H1) := by
    refine ⟨fun pins s σ H R I h => ?_⟩
    refine thn (ha.run pins s σ H _ I h) fun v s1 ⟨x, H1, I1, r1, q1⟩ => ?_
    rcases q1 with ⟨p, xs, rfl, h2, q⟩ | ⟨p, xs, rfl, h2, q⟩ | ⟨z, rfl, q⟩
    · cases r1
      obtain ⟨its, rv, pl, hz⟩ := I1.list (SqL.of h2)
      refine wpAny_pyIter_list pl.isList ?_
      rw [← hK] at q
      refine ⟨s1.heap.objs.size, [s1.heap.objs.size], _, _, H1, rfl, I1.kept (t' := s1.toks) fun b o e => Heap.get?_push_of_some _ e, turn_list p _, ⟨_, Heap.get?_push_size _ rfl, rfl, rfl⟩, fun b hb => ?_, q⟩
      have e : b = s1.heap.objs.size := by simpa using hb
      subst e
      exact I1.fpOk (Nat.le_refl _) (I1.hok.fresh (Nat.le_refl _))
    · cases r1
      rw [← hK] at h2 q
      obtain ⟨its, rv, pl, hz⟩ := I1.tuple h2
      refine wpAny_pyIter_tuple (show s1.heap.IsTuple p its.toArray from pl) ?_
      refine ⟨s1.heap.objs.size, [s1.heap.objs.size], _, _, H1, rfl, I1.kept (t' := s1.toks) fun b o e => Heap.get?_push_of_some _ e, turn_tuple p _, ⟨_, Heap.get?_push_size _ rfl, rfl, rfl⟩, fun b hb => ?_, q⟩
      have e : b = s1.heap.objs.size := by simpa using hb
      subst e
      exact I1.fpOk (Nat.le_refl _) (I1.hok.fresh (Nat.le_refl _))
    · obtain ⟨t, rfl⟩ := r1
      cases ha : z.cps.all (· < 128)
      · exact wpAny_pyIter_wide ha (pi_one (tk := s1.toks) I1 _ (turn_str _ z t "str_iterator" (.inr rfl)) ⟨_, Heap.get?_push_size _ rfl, rfl, rfl⟩ q)
      · exact wpAny_pyIter_ascii ha (pi_one (tk := s1.toks) I1 _ (turn_str _ z t "str_ascii_iterator" (.inl rfl)) ⟨_, Heap.get?_push_size _ rfl, rfl, rfl⟩ q)
  refine h1.mono fun σ H R ⟨φ, ρ, s, er, rel, go⟩ => ?_
  refine ⟨φ, ρ, s, er, rel, go.bind.imp fun x s1 φ1 H1 a1 r1 go1 v hv => ?_⟩
  obtain ⟨z, hz, k⟩ := go1.of
  have k := k φ1 H1 (.refl _ _) r1
  unfold srcF at hz
  split at hz <;> rename_i e1 e2 <;> simp only [List.cons.injEq, and_true, reduceCtorEq, false_and, and_false] at e1 e2
  · subst e2; cases hz
    cases hv with
    | lst h n r => exact .inl ⟨_, _, rfl, h, k _ (wk_list' h n r)⟩
  · subst e2; cases hz
    cases hv with
    | tup h r => exact .inr (.inl ⟨_, _, rfl, h, k _ (wk_tup h r)⟩)
  · subst e2; cases hz
    cases hv with
    | str t => exact .inr (.inr ⟨_, rfl, k _ wk_str⟩)
  · cases hz
theorem s_icell {tg : Expr} (hK : X.K = Γ.K) (ha : PE X a (dE Γ W ga)) : PI X tg a (fun σ H R => dE Γ W ga σ H fun x H1 => ∃ a xs, x = .ref a ∧ H1 a = some (.lst xs) ∧ R (Itl Γ.K a) H1) := by
  refine ⟨fun pins s σ H R I h => ?_⟩
  refine thn (ha.run pins s σ H _ I h) fun v s1 ⟨x, H1, I1, r1, q1⟩ => ?_
  obtain ⟨p, xs, rfl, h2, q⟩ := q1
  cases r1
  obtain ⟨its, rv, pl, hz⟩ := I1.list (SqL.of h2)
  refine wpAny_pyIter_list pl.isList ?_
  rw [← hK] at q
  refine ⟨s1.heap.objs.size, [s1.heap.objs.size], _, _, H1, rfl, I1.kept (t' := s1.toks) fun b o e => Heap.get?_push_of_some _ e, turn_list p _, ⟨_, Heap.get?_push_size _ rfl, rfl, rfl⟩, fun b hb => ?_, q⟩
  have e : b = s1.heap.objs.size := by simpa using hb
  subst e
  exact I1.fpOk (Nat.le_refl _) (I1.hok.fresh (Nat.le_refl _))
theorem bind1 {β : Type} {r : R D} {f : List D → Stt → R β} : ((r.bind fun x s => (R.ok [] s).bind fun xs s => R.ok (x :: xs) s).bind f) = r.bind fun x s => f [x] s := by cases r <;> rfl
theorem s_iseq' {tg : Expr} (hK : X.K = Γ.K) (ha : PE X a (dE Γ W ga)) : PI X tg a (dI Γ W fun ρ s => ((ga ρ s).bind fun x s => (R.ok [] s).bind fun xs s => R.ok (x :: xs) s).bind fun ds s => R.of (srcF .seq s ds) s) := by
  have h := s_iseq (tg := tg) hK ha
  have e : (fun ρ s => ((ga ρ s).bind fun x s => (R.ok [] s).bind fun xs s => R.ok (x :: xs) s).bind fun ds s => R.of (srcF .seq s ds) s) = (fun ρ s => (ga ρ s).bind fun x s => R.of (srcF .seq s [x]) s) := by
    funext ρ s
    exact bind1
  rw [e]
  exact h
theorem s_isrc {tg iter : Expr} {k : G.It} {wi : TI} {gs : G.Env → Stt → R (List D)} (h : PI X tg iter wi)
    (ok : ∀ σ H R, dA Γ W gs σ H (fun vs H1 => ∃ φ1 s1 ds xs, Rel Γ φ1 H1 s1 ∧ Reps Γ φ1 H1 vs ds ∧ srcF k s1 ds = some xs ∧ ∀ J, Wk Γ J φ1 H1 xs → R J H1) → wi σ H R) :
    PI X tg iter (dI Γ W fun ρ s => (gs ρ s).bind fun ds s => R.of (srcF k s ds) s) := h.mono fun σ H R ⟨φ, ρ, s, er, rel, go⟩ => by
  refine ok σ H R ⟨φ, ρ, s, er, rel, go.bind.imp fun ds s1 φ1 H1 a1 r1 go1 vs hvs => ?_⟩
  obtain ⟨xs, hx, k⟩ := go1.of
  exact ⟨φ1, s1, ds, xs, r1, hvs, hx, k φ1 H1 (.refl _ _) r1⟩
theorem dA_imp {gs : G.Env → Stt → R (List D)} {σ : St} {H : Hp} {Q Q' : List V → Hp → Prop} (h : dA Γ W gs σ H Q) (f : ∀ vs H1, Q vs H1 → Q' vs H1) : dA Γ W gs σ H Q' := by
  obtain ⟨φ, ρ, s, er, rel, go⟩ := h
  exact ⟨φ, ρ, s, er, rel, go.imp fun ds s1 φ1 H1 a1 r1 q vs hvs => f vs H1 (q vs hvs)⟩
theorem s_irng1 {tg : Expr} {p : Pos} {gs : G.Env → Stt → R (List D)} (hg : Gl X "range") (hm : X.mg "range" = none) (hn : ns a = true) (ha : PA X [a] (dA Γ W gs)) : PI X tg (.Call (.Name "range" p) [a] [] pos) (dI Γ W fun ρ s => (gs ρ s).bind fun ds s => R.of (srcF .range1 s ds) s) := by
  refine s_isrc (pi_range1 hg hm ha (by rw [star_ns hn]; rfl)) fun σ H R h => dA_imp h fun vs H1 ⟨φ1, s1, ds, xs, r1, hvs, hz, k⟩ => ?_
  unfold srcF at hz
  split at hz <;> rename_i e1 <;> simp only [reduceCtorEq, false_implies, implies_true] at e1 <;> try cases hz
  · split at hz
    · rename_i hb
      cases hz
      cases hvs with
      | cons hv hr =>
        cases hr
        cases hv
        have w := @wk_rng Γ φ1 H1 0
        simp only [Int.zero_add] at w
        exact ⟨_, rfl, hb.1, hb.2, k _ w⟩
    · cases hz
theorem s_irng2 {tg b : Expr} {p : Pos} {gs : G.Env → Stt → R (List D)} (hg : Gl X "range") (hm : X.mg "range" = none) (hn : ns a = true) (hn2 : ns b = true) (ha : PA X [a, b] (dA Γ W gs)) : PI X tg (.Call (.Name "range" p) [a, b] [] pos) (dI Γ W fun ρ s => (gs ρ s).bind fun ds s => R.of (srcF .range2 s ds) s) := by
  refine s_isrc (pi_range2 hg hm ha (by rw [star_ns hn, star_ns hn2]; rfl) (by rw [star_ns hn2]; rfl)) fun σ H R h => dA_imp h fun vs H1 ⟨φ1, s1, ds, xs, r1, hvs, hz, k⟩ => ?_
  unfold srcF at hz
  split at hz <;> rename_i e1 <;> simp only [reduceCtorEq, false_implies, implies_true] at e1 <;> try cases hz
  · split at hz
    · rename_i hb
      cases hz
      cases hvs with
      | cons hv hr =>
        cases hv
        cases hr with
        | cons hv hr =>
          cases hr
          cases hv
          exact ⟨_, _, rfl, hb, k _ wk_rng⟩
    · cases hz
theorem wk_rngD {φ : Fx} {H : Hp} {lo : Int} {n : Nat} : Wk Γ (Itc lo (-1) n) φ H ((List.range n).map fun i => .int (lo - (i : Nat))) := by
  intro i φ1 H1 s A1 R1
  refine ⟨fun hi => ?_, fun hi => by show n ≤ i; simpa using hi⟩
  have hi : i < n := by simpa using hi
  refine ⟨hi, fun x H' ⟨e, ex⟩ => ?_⟩
  subst e ex
  have e2 : lo + (i : Nat) * (-1 : Int) = lo - (i : Nat) := by omega
  rw [e2]
  exact ⟨.refl _ _, R1, .int (lo - i), by simp [hi], .int _⟩
theorem s_irng3 {tg b d : Expr} {p : Pos} {gs : G.Env → Stt → R (List D)} (hg : Gl X "range") (hm : X.mg "range" = none) (hn : ns a = true) (hn2 : ns b = true) (hn3 : ns d = true) (ha : PA X [a, b, d] (dA Γ W gs)) : PI X tg (.Call (.Name "range" p) [a, b, d] [] pos) (dI Γ W fun ρ s => (gs ρ s).bind fun ds s => R.of (srcF .range3 s ds) s) := by
  refine s_isrc (pi_range3 hg hm ha (by rw [star_ns hn]) (back_ns (by simp [hn2, hn3]))) fun σ H R h => dA_imp h fun vs H1 ⟨φ1, s1, ds, xs, r1, hvs, hz, k⟩ => ?_
  unfold srcF at hz
  split at hz <;> rename_i e1 <;> simp only [reduceCtorEq, false_implies, implies_true] at e1 <;> try cases hz
  · split at hz
    · rename_i hb
      cases hz
      cases hvs with
      | cons hv hr =>
        cases hv
        cases hr with
        | cons hv hr =>
          cases hv
          cases hr with
          | cons hv hr =>
            cases hr
            cases hv
            obtain ⟨c1, h1, h2, h3, h4⟩ := hb
            subst c1
            exact ⟨_, _, _, _, rfl, RgC.neg h1 h2 h3 h4, k _ wk_rngD⟩
    · cases hz
def iEnum2 (K : PySem.W.Frag) (ta : TA) : TI := fun σ H R => ta σ H fun vs H1 => (∃ a xs, vs = [.ref a] ∧ SqL K H1 a xs ∧ R (Ite K a) H1) ∨ ∃ z, vs = [.str z] ∧ R (Iten z) H1
theorem pi_enum2 {e : Expr} {ta : TA} {p pos tpos : Pos} {elts : List Expr} {kk : Nat} (hg : Gl X "enumerate") (hm : X.mg "enumerate" = none) (ha : PA X [e] ta) (hs : starEach [e] X.env = [(false, eval e X.env)]) :
    PI X (.Tuple elts kk tpos) (.Call (.Name "enumerate" p) [e] [] pos) (iEnum2 X.K ta) := by
  refine ⟨fun pins s σ H R I h => ?_⟩
  refine PyProof.Rows.Call_ (ld_blt I hg hm PyProof.Rows.boot_enumerate (PyProof.Rows.callWith_type1 (thn (ha.run pos pins s σ H _ I h) fun us s1 ⟨vs, H1, I1, r1, q1⟩ => ?_) hs rfl))
  have fin : ∀ b, s1.heap.objs.size ≤ b → FpOk X pins H1 b := fun b hb => I1.fpOk hb (I1.hok.fresh hb)
  rcases q1 with ⟨a, xs, ex, hq, q⟩ | ⟨z, ex, q⟩
  · subst ex
    cases r1 with
    | cons r rr =>
      cases rr
      cases r
      obtain ⟨its, rv, p', hz⟩ := I1.list hq
      refine call_enumerate_list p'.isList fun h' he hit hsz hk => wpAny_pyIter_enum he ?_
      have I2 : L2.Inv X pins σ H1 { s1 with heap := h' } := I1.kept (t' := s1.toks) hk
      refine ⟨s1.heap.objs.size + 1, [s1.heap.objs.size + 1, s1.heap.objs.size], _, _, H1, rfl, I2, turn_enum a (s1.heap.objs.size + 1) s1.heap.objs.size, ⟨⟨.none, he⟩, hit, Nat.succ_ne_self _⟩, fun b hb => fin b ?_, q⟩
      have e' : b = s1.heap.objs.size + 1 ∨ b = s1.heap.objs.size := by simpa using hb
      rcases e' with z | z
      · rw [z]; exact Nat.le_add_right _ _
      · rw [z]; exact Nat.le_refl _
  · subst ex
    cases r1 with
    | cons r rr =>
      cases rr
      obtain ⟨t, rfl⟩ := r
      refine call_enumerate_str fun h' he hit hsz hk => wpAny_pyIter_enum he ?_
      have I2 : L2.Inv X pins σ H1 { s1 with heap := h' } := I1.kept (t' := s1.toks) hk
      refine ⟨s1.heap.objs.size + 1, [s1.heap.objs.size + 1, s1.heap.objs.size], _, _, H1, rfl, I2, turn_enumS (s1.heap.objs.size + 1) s1.heap.objs.size z t (strIterType z) (by unfold strIterType; split <;> simp), ⟨⟨.none, he⟩, hit, Nat.succ_ne_self _, Nat.zero_le _⟩, fun b hb => fin b ?_, q⟩
      have e' : b = s1.heap.objs.size + 1 ∨ b = s1.heap.objs.size := by simpa using hb
      rcases e' with z | z
      · rw [z]; exact Nat.le_add_right _ _
      · rw [z]; exact Nat.le_refl _
theorem wk_enumS {φ : Fx} {H : Hp} {t : T} : Wk Γ (Iten (tS t)) φ H (t.mapIdx fun i c => .tup [.int i, .str [c]]) := by
  intro i φ1 H1 s A1 R1
  have hl : (tS t).cps.size = t.length := by simp [tS]
  refine ⟨fun hi => ?_, fun hi => by show (tS t).cps.size ≤ i; rw [hl]; simpa using hi⟩
  have hi : i < t.length := by simpa using hi
  refine ⟨by show i < (tS t).cps.size; rw [hl]; exact hi, fun x H' ⟨T, c, e1, hT, e2, q⟩ => ?_⟩
  subst e1 e2
  have hc : t[i]? = some c := by simpa [tS] using q
  refine ⟨.fresh hT, R1.fresh hT, .tup [.int i, .str [c]], by simp [hc], ?_⟩
  exact .tup (SqT.of upd_same) (.cons (.int _) (.cons (.str [c]) .nil))
theorem s_ienum {elts : List Expr} {kk : Nat} {tpos p : Pos} {gs : G.Env → Stt → R (List D)} (hK : X.K = Γ.K) (hg : Gl X "enumerate") (hm : X.mg "enumerate" = none) (hn : ns a = true) (ha : PA X [a] (dA Γ W gs)) : PI X (.Tuple elts kk tpos) (.Call (.Name "enumerate" p) [a] [] pos) (dI Γ W fun ρ s => (gs ρ s).bind fun ds s => R.of (srcF .enum s ds) s) := by
  refine s_isrc (pi_enum2 hg hm ha (by rw [star_ns hn]; rfl)) fun σ H R h => dA_imp h fun vs H1 ⟨φ1, s1, ds, xs, r1, hvs, hz, k⟩ => ?_
  unfold srcF at hz
  split at hz <;> rename_i e1 <;> simp only [reduceCtorEq, false_implies, implies_true] at e1 <;> try cases hz
  · cases hvs with
    | cons hv hr =>
      cases hr
      cases hv with
      | lst h n r => exact .inl ⟨_, _, rfl, SqL.of h, k _ (wk_enum h n r)⟩
  · cases hvs with
    | cons hv hr =>
      cases hr
      cases hv
      exact .inr ⟨_, rfl, k _ wk_enumS⟩
theorem s_icellE {elts : List Expr} {kk : Nat} {tpos p : Pos} {gs : G.Env → Stt → R (List D)} (hK : X.K = Γ.K) (hg : Gl X "enumerate") (hm : X.mg "enumerate" = none) (hn : ns a = true) (ha : PA X [a] (dA Γ W gs)) : PI X (.Tuple elts kk tpos) (.Call (.Name "enumerate" p) [a] [] pos) (fun σ H R => dA Γ W gs σ H fun vs H1 => ∃ a xs, vs = [.ref a] ∧ H1 a = some (.lst xs) ∧ R (Ite Γ.K a) H1) := by
  refine (pi_enum2 hg hm ha (by rw [star_ns hn]; rfl)).mono fun σ H R h => dA_imp h fun vs H1 ⟨a, xs, e1, e2, k⟩ => ?_
  rw [hK]
  exact .inl ⟨a, xs, e1, SqL.of e2, k⟩
theorem wipe_set {σ : St} {v : Option V} {i : Nat} : ∀ {vs : List Nat}, i ∈ vs → wipe (σ.set i v) vs = wipe σ vs
  | [], h => nomatch h
  | w :: vs, h => by
    unfold wipe
    by_cases e : i = w
    · subst e
      have : ∀ (vs : List Nat) (σ : St), (wipe (σ.set i v) vs).set i none = (wipe σ vs).set i none := by
        intro vs
        induction vs with
        | nil => intro σ; simp [wipe]
        | cons u vs ih =>
          intro σ
          unfold wipe
          by_cases e : u = i
          · subst e
            simp only [List.set_set]
            exact ih σ
          · rw [List.set_comm _ _ e, ih, List.set_comm _ _ (Ne.symm e)]
      exact this vs σ
    · rw [wipe_set (List.mem_of_ne_of_mem e h)]
theorem wipe_wipe {σ : St} : ∀ {vs : List Nat}, wipe (wipe σ vs) vs = wipe σ vs := fun {vs} => by
  apply List.ext_getElem?
  intro i
  by_cases h : i ∈ vs
  · have q : ∀ τ : St, τ.length = σ.length → (wipe τ vs)[i]? = if i < σ.length then some none else none := fun τ hτ => by
      cases e : (wipe τ vs)[i]? with
      | none =>
        have := List.getElem?_eq_none_iff.mp e
        rw [wipe_length, hτ] at this
        rw [if_neg (by omega)]
      | some o =>
        have := (List.getElem?_eq_some_iff.mp e).1
        rw [wipe_length, hτ] at this
        rw [if_pos this]
        cases o with
        | none => rfl
        | some x => exact absurd h (wipe_some e).2
    rw [q _ (wipe_length _ _), q _ rfl]
  · rw [wipe_out h]
/-- a target's reading: names alone -/
structure TgOk (Γ : Gm) (tg : List Nat) (g : TG) : Prop where
  go : ∀ {φ : Fx} {H : Hp} {σ : St} {ρ ρ' : G.Env} {v : V} {d : D} {Q : St → Hp → Prop}, ER Γ φ H σ ρ → Rep Γ φ H v d → tgF tg d ρ = some ρ' → (∀ σ', ER Γ φ H σ' ρ' → (∀ vs : List Nat, (∀ i ∈ tg, i ∈ vs) → wipe σ' vs = wipe σ vs) → Q σ' H) → g v σ H Q
theorem tg_one {i : Nat} : TgOk Γ [i] (gName i) := ⟨fun er hv h k => by
  simp only [tgF, Option.some.injEq] at h
  subst h
  exact k _ (er.set hv i) fun vs hs => wipe_set (hs i (by simp))⟩
def gNames : List Nat → TGs
  | [] => gNil
  | i :: is => gCons (gName i) (gNames is)
theorem gNames_ok {φ : Fx} {H : Hp} {Q : St → Hp → Prop} {vs : List V} {ds : List D} (hv : Reps Γ φ H vs ds) : ∀ {is : List Nat} {σ : St} {ρ : G.Env}, ER Γ φ H σ ρ → is.length = ds.length → (∀ σ', ER Γ φ H σ' ((is.zip ds).foldl (fun ρ p => ρ.set p.1 (some p.2)) ρ) → (∀ ws : List Nat, (∀ i ∈ is, i ∈ ws) → wipe σ' ws = wipe σ ws) → Q σ' H) → gNames is vs σ H Q := by
  induction ds generalizing vs with
  | nil =>
    intro is σ ρ er hl k
    cases hv
    cases is with
    | nil => exact ⟨rfl, k _ er fun _ _ => rfl⟩
    | cons _ _ => cases hl
  | cons d ds ih =>
    intro is σ ρ er hl k
    cases hv with
    | cons h1 h2 =>
      cases is with
      | nil => cases hl
      | cons i is =>
        refine ⟨_, _, rfl, ih h2 (er.set h1 i) (by simpa using hl) fun σ' er' hw => k σ' er' fun ws hs => ?_⟩
        rw [hw ws fun j hj => hs j (List.mem_cons_of_mem _ hj), wipe_set (hs i (by simp))]
theorem tg_tup {is : List Nat} {n : Nat} (hn : is.length = n) (h2 : 2 ≤ n) : TgOk Γ is (gTup Γ.K n (gNames is)) := ⟨fun {φ H σ ρ ρ' v d Q} er hv h k => by
  unfold tgF at h
  split at h
  · simp at hn; omega
  · rename_i ds _
    split at h
    · rename_i hl
      cases h
      cases hv with
      | tup a1 r1 => exact ⟨_, _, rfl, a1, by rw [r1.len, ← hl]; exact hn, gNames_ok r1 er hl k⟩
    · cases h
  · cases h⟩
theorem loopC_ok {body : D → List D → Stt → R (List D)} : ∀ {xs : List D} {acc : List D} {s : Stt}, (∃ a s', loopC body xs acc s = .ok a s') ∨ loopC body xs acc s = .stuck
  | [], acc, s => .inl ⟨acc, s, rfl⟩
  | x :: xs, acc, s => by
    unfold loopC
    cases body x acc s with
    | ok a s' => exact loopC_ok
    | exc c fs s' => exact .inr rfl
    | stuck => exact .inr rfl
theorem After.atNew {φ φ' : Fx} {H H' : Hp} {p : Addr} {o : HO} (x : After φ H φ' H') (h : H p = none) : After φ H φ' (upd H' p o) :=
  ⟨x.grow, x.hid, fun a o' e nt n => by rw [upd_ne (ne_of_none e h)]; exact x.keep a o' e nt n, fun a xs e => by rw [upd_ne (ne_of_none e h)]; exact x.tups a xs e, fun a u xs e => by rw [upd_ne (ne_of_none e h)]; exact x.frzs a u xs e,
    fun a o' e nt => by rw [upd_ne (ne_of_none e h)]; exact x.there a o' e nt⟩
theorem After.notin {φ φ' : Fx} {H H' : Hp} (x : After φ H φ' H') {a : Addr} {o : HO} (n : a ∉ φ.cs) (h : H a = some o) (nt : NoT o) : a ∉ φ'.cs := fun q => by
  obtain ⟨ψ, e, f⟩ := x.grow
  rw [e] at q
  rcases List.mem_append.mp q with q | q
  · exact n q
  · exact (f a q).no h nt
abbrev W0 : WX := fun _ _ _ _ => False
/-- a comprehension's turn -/
def turnC (tgs own : List Nat) (gt : G.Env → Stt → R Bool) (ge : G.Env → Stt → R D) (ρ : G.Env) : D → List D → Stt → R (List D) := fun d acc s => match tgF tgs d (wipeE ρ own) with
  | none => .stuck
  | some ρ' => (gt ρ' s).bind fun k s => if k = true then (ge ρ' s).bind fun y s => if acc.length < sizeLine then .ok (acc ++ [y]) s else .stuck else .ok acc s
theorem bind_ok {α β : Type} {r : R α} {f : α → Stt → R β} {b : β} {s' : Stt} (h : r.bind f = .ok b s') : ∃ a s1, r = .ok a s1 ∧ f a s1 = .ok b s' := by
  cases r with
  | ok a s1 => exact ⟨a, s1, rfl, h⟩
  | exc c fs s1 => cases h
  | stuck => cases h
theorem turnC_ok {tgs own : List Nat} {gt : G.Env → Stt → R Bool} {ge : G.Env → Stt → R D} {ρ : G.Env} {d : D} {acc acc' : List D} {s s' : Stt} (h : turnC tgs own gt ge ρ d acc s = .ok acc' s') :
    ∃ ρ', tgF tgs d (wipeE ρ own) = some ρ' ∧ ∃ k s3, gt ρ' s = .ok k s3 ∧ ((k = false ∧ acc' = acc ∧ s' = s3) ∨ (k = true ∧ ∃ y s4, ge ρ' s3 = .ok y s4 ∧ acc.length < sizeLine ∧ acc' = acc ++ [y] ∧ s' = s4)) := by
  unfold turnC at h
  cases e : tgF tgs d (wipeE ρ own) with
  | none => rw [e] at h; cases h
  | some ρ' =>
    rw [e] at h
    obtain ⟨k, s3, h1, h2⟩ := bind_ok h
    refine ⟨ρ', rfl, k, s3, h1, ?_⟩
    cases k with
    | false =>
      cases h2
      exact .inl ⟨rfl, rfl, rfl⟩
    | true =>
      obtain ⟨y, s4, h3, h4⟩ := bind_ok h2
      split at h4
      · cases h4
        exact .inr ⟨rfl, y, _, h3, by assumption, rfl, rfl⟩
      · cases h4
/-- a hidden list becomes a cell -/
theorem Rel.bare {φ : Fx} {H : Hp} {s : Stt} {p : Addr} {hd : List Addr} {vs : List V} {ds : List D} (r : Rel Γ φ H s) (h : ∀ a ∈ hd, a ∈ φ.hd) (d1 : p ∈ φ.hd) (d2 : p ∉ φ.cs) (d3 : p ∉ hd) (e : H p = some (.lst vs)) (q : Reps Γ φ H vs ds) : Rel Γ ⟨φ.cs ++ [p], hd⟩ H (s ++ [.lst ds]) := by
  have L : ∀ a, φ.out a → (⟨φ.cs ++ [p], hd⟩ : Fx).out a := fun a ⟨x, y⟩ => ⟨fun z => by
    rcases List.mem_append.mp z with z | z
    · exact x z
    · rw [List.mem_singleton.mp z] at y
      exact y d1, fun z => y (h a z)⟩
  have G : ∀ (n : Nat) a, φ.cs[n]? = some a → (φ.cs ++ [p])[n]? = some a := fun n a z => by
    have := (List.getElem?_eq_some_iff.mp z).1
    rw [List.getElem?_append_left this]
    exact z
  refine ⟨by simp [r.len], ?_, fun a ha hb => ?_, fun a ha => r.hid a (h a ha), fun n a c h1 h2 => ?_, r.tab⟩
  · refine List.nodup_append.mpr ⟨r.nd, by simp, fun a ha b hb e => ?_⟩
    rw [List.mem_singleton.mp hb] at e
    exact d2 (e ▸ ha)
  · rcases List.mem_append.mp ha with ha | ha
    · exact r.dis a ha (h a hb)
    · rw [List.mem_singleton.mp ha] at hb
      exact d3 hb
  · by_cases hn : n < φ.cs.length
    · rw [List.getElem?_append_left hn] at h1
      rw [List.getElem?_append_left (by rw [← r.len]; exact hn)] at h2
      have q := r.cell n a c h1 h2
      cases c with
      | lst ds =>
        obtain ⟨xs, e, r'⟩ := q
        exact ⟨xs, e, Reps.less (φ := φ) (φ' := ⟨φ.cs ++ [p], hd⟩) G L r'⟩
      | ins c ds =>
        obtain ⟨C, fn, dx, xs, h0', e, l, r'⟩ := q
        exact ⟨C, fn, dx, xs, h0', e, l, Reps.less (φ := φ) (φ' := ⟨φ.cs ++ [p], hd⟩) G L r'⟩
      | dct kvs =>
        obtain ⟨vs, e, r'⟩ := q
        exact ⟨vs, e, Reps.less (φ := φ) (φ' := ⟨φ.cs ++ [p], hd⟩) G L r'⟩
      | key ks =>
        obtain ⟨vs, e, r', e2⟩ := q
        exact ⟨vs, e, Reps.less (φ := φ) (φ' := ⟨φ.cs ++ [p], hd⟩) G L r', e2⟩
    · have l1 := (List.getElem?_eq_some_iff.mp h1).1
      have e1 : n = φ.cs.length := by simp at l1; omega
      subst e1
      have e2 : a = p := by simpa using h1.symm
      have e3 : c = .lst ds := by rw [r.len] at h2; simpa using h2.symm
      subst e2 e3
      exact ⟨vs, e, Reps.less (φ := φ) (φ' := ⟨φ.cs ++ [a], hd⟩) G L q⟩
/-- what a comprehension tells: a list, or a cell -/
def finC (cell : Bool) (acc : List D) (s : Stt) : R D := if cell = true then .ok (.ref s.length) (s ++ [.lst acc]) else .ok (.lst acc) s
/-- the comprehension's reading from the evaluator's answer -/
theorem lc_readF {own : List Nat} {tgs : List Nat} {g : TG} {gi : G.Env → Stt → R (List D)} {gt : G.Env → Stt → R Bool} {ge : G.Env → Stt → R D} (tk : TgOk Γ tgs g) (hs : ∀ i ∈ tgs, i ∈ own) {σ : St} {H : Hp} {Q : VK}
    (h : dE Γ W (fun ρ s => (gi ρ s).bind fun xs s => (loopC (turnC tgs own gt ge ρ) xs [] s).bind fun acc s => .ok (.lst acc) s) σ H Q) : tLc (dI Γ W gi) g (dT Γ W0 gt) (dE Γ W0 ge) own σ H Q := by
  obtain ⟨φ, ρ, s, er, rel, go⟩ := h
  refine ⟨φ, ρ, s, er, rel, go.bind.imp fun xs s1 φ1 H1 a1 r1 go1 J hJ => fun D hD => ?_⟩
  rcases loopC_ok (body := turnC tgs own gt ge ρ) (xs := xs) (acc := []) (s := s1) with ⟨accF, sF, hF⟩ | hF
  · rw [hF] at go1
    have go1 : ∀ φ' H', After φ1 H1 φ' H' → Rel Γ φ' H' sF → ∀ v, Rep Γ φ' H' v (.lst accF) → Q v H' := go1
    have er1 := er.mono a1
    refine ⟨fun i m Hc => m = xs.length - i ∧ i ≤ xs.length ∧ ∃ φc s acc accV, D ∈ φc.hd ∧ D ∉ φc.cs ∧ After φ1 H1 φc Hc ∧ Rel Γ φc Hc s ∧ Hc D = some (.lst accV) ∧ Reps Γ φc Hc accV acc ∧ loopC (turnC tgs own gt ge ρ) (xs.drop i) acc s = .ok accF sF,
      ⟨_, rfl, Nat.zero_le _, φ1.hide D, s1, [], [], List.mem_cons_self, (r1.out hD).1, .hide hD, r1.hide hD not_lst, upd_same, .nil, hF⟩, ?_⟩
    rintro i m Hc ⟨rfl, hi, φc, sc, acc, accV, d1, d2, ac, rc, hDc, rAcc, hL⟩
    obtain ⟨w1, w2⟩ := hJ i φc Hc sc ac rc
    by_cases hlt : i < xs.length
    · obtain ⟨hgo, hy⟩ := w1 hlt
      refine .inr ⟨hgo, _, fun H' p' => ⟨xs.length - (i + 1), by omega, rfl, hlt, p'⟩, fun x H' hx => ?_⟩
      obtain ⟨a2, r2, d, hd, hr⟩ := hy x H' hx
      rw [List.drop_eq_getElem_cons hlt] at hL
      have hd' : xs[i] = d := by rw [List.getElem?_eq_getElem hlt] at hd; exact Option.some.inj hd
      rw [hd'] at hL
      unfold loopC at hL
      cases hb : turnC tgs own gt ge ρ d acc sc with
      | exc c fs s' => rw [hb] at hL; cases hL
      | stuck => rw [hb] at hL; cases hL
      | ok acc' s' =>
        rw [hb] at hL
        obtain ⟨ρ', htg, k, s3, ht3, hcase⟩ := turnC_ok hb
        have er2 := (er1.mono (ac.trans a2)).wipe own
        refine tk.go er2 hr htg fun σ2 er3 hw => ⟨(hw _ hs).trans wipe_wipe, ⟨φc, ρ', sc, er3, r2, ?_⟩⟩
        rw [ht3]
        intro φ3 H3 a3 r3
        have a23 := a2.trans a3
        have hD3 : H3 D = some (.lst accV) := a23.keep _ _ hDc not_lst d2
        rcases hcase with ⟨rfl, rfl, rfl⟩ | ⟨rfl, y, s4, he4, hlen, rfl, rfl⟩
        · refine iteF ?_
          exact ⟨φ3, _, _, accV, a23.hid.1 _ d1, a23.notin d2 hDc not_lst, ac.trans a23, r3, hD3, rAcc.mono a23, hL⟩
        · refine iteT ?_
          refine ⟨φ3, ρ', s3, er3.mono a3, r3, ?_⟩
          rw [he4]
          intro φ4 H4 a4 r4 v hv
          have a24 := a23.trans a4
          have hD4 : H4 D = some (.lst accV) := a24.keep _ _ hDc not_lst d2
          have dd := a24.hid.1 _ d1
          have rA := (rAcc.mono a24)
          refine ⟨accV, hD4, by rw [rAcc.len]; exact hlen, ⟨φ4, _, acc ++ [y], accV ++ [v], dd, a24.notin d2 hDc not_lst, (ac.trans a24).atNew hD, r4.hidW dd hD4 (a24.notin d2 hDc not_lst), upd_same, ?_, hL⟩⟩
          exact (rA.append (.cons hv .nil)).hidW dd hD4
    · have e : i = xs.length := by omega
      subst e
      refine .inl ⟨w2 (Nat.le_refl _), ?_⟩
      rw [List.drop_length] at hL
      cases hL
      have sub : ∀ a ∈ φ1.hd, a ∈ φc.hd := ac.hid.1
      refine go1 ⟨φc.cs, φ1.hd⟩ Hc ⟨ac.grow, ⟨fun _ h => h, fun _ h => .inl h⟩, ac.keep, ac.tups, ac.frzs, ac.there⟩ (rc.show sub) _ (.lst hDc ⟨d2, (r1.out hD).2⟩ ?_)
      exact Reps.less (φ := φc) (φ' := ⟨φc.cs, φ1.hd⟩) (fun _ _ h => h) (fun a ⟨x, y⟩ => ⟨x, fun z => y (sub a z)⟩) rAcc
  · rw [hF] at go1
    exact go1.elim
theorem lc_readT {own : List Nat} {tgs : List Nat} {g : TG} {gi : G.Env → Stt → R (List D)} {gt : G.Env → Stt → R Bool} {ge : G.Env → Stt → R D} (tk : TgOk Γ tgs g) (hs : ∀ i ∈ tgs, i ∈ own) {σ : St} {H : Hp} {Q : VK}
    (h : dE Γ W (fun ρ s => (gi ρ s).bind fun xs s => (loopC (turnC tgs own gt ge ρ) xs [] s).bind fun acc s => .ok (.ref s.length) (s ++ [.lst acc])) σ H Q) : tLc (dI Γ W gi) g (dT Γ W0 gt) (dE Γ W0 ge) own σ H Q := by
  obtain ⟨φ, ρ, s, er, rel, go⟩ := h
  refine ⟨φ, ρ, s, er, rel, go.bind.imp fun xs s1 φ1 H1 a1 r1 go1 J hJ => fun D hD => ?_⟩
  rcases loopC_ok (body := turnC tgs own gt ge ρ) (xs := xs) (acc := []) (s := s1) with ⟨accF, sF, hF⟩ | hF
  · rw [hF] at go1
    have go1 : ∀ φ' H', After φ1 H1 φ' H' → Rel Γ φ' H' (sF ++ [.lst accF]) → ∀ v, Rep Γ φ' H' v (.ref sF.length) → Q v H' := go1
    have er1 := er.mono a1
    refine ⟨fun i m Hc => m = xs.length - i ∧ i ≤ xs.length ∧ ∃ φc s acc accV, D ∈ φc.hd ∧ D ∉ φc.cs ∧ After φ1 H1 φc Hc ∧ Rel Γ φc Hc s ∧ Hc D = some (.lst accV) ∧ Reps Γ φc Hc accV acc ∧ loopC (turnC tgs own gt ge ρ) (xs.drop i) acc s = .ok accF sF,
      ⟨_, rfl, Nat.zero_le _, φ1.hide D, s1, [], [], List.mem_cons_self, (r1.out hD).1, .hide hD, r1.hide hD not_lst, upd_same, .nil, hF⟩, ?_⟩
    rintro i m Hc ⟨rfl, hi, φc, sc, acc, accV, d1, d2, ac, rc, hDc, rAcc, hL⟩
    obtain ⟨w1, w2⟩ := hJ i φc Hc sc ac rc
    by_cases hlt : i < xs.length
    · obtain ⟨hgo, hy⟩ := w1 hlt
      refine .inr ⟨hgo, _, fun H' p' => ⟨xs.length - (i + 1), by omega, rfl, hlt, p'⟩, fun x H' hx => ?_⟩
      obtain ⟨a2, r2, d, hd, hr⟩ := hy x H' hx
      rw [List.drop_eq_getElem_cons hlt] at hL
      have hd' : xs[i] = d := by rw [List.getElem?_eq_getElem hlt] at hd; exact Option.some.inj hd
      rw [hd'] at hL
      unfold loopC at hL
      cases hb : turnC tgs own gt ge ρ d acc sc with
      | exc c fs s' => rw [hb] at hL; cases hL
      | stuck => rw [hb] at hL; cases hL
      | ok acc' s' =>
        rw [hb] at hL
        obtain ⟨ρ', htg, k, s3, ht3, hcase⟩ := turnC_ok hb
        have er2 := (er1.mono (ac.trans a2)).wipe own
        refine tk.go er2 hr htg fun σ2 er3 hw => ⟨(hw _ hs).trans wipe_wipe, ⟨φc, ρ', sc, er3, r2, ?_⟩⟩
        rw [ht3]
        intro φ3 H3 a3 r3
        have a23 := a2.trans a3
        have hD3 : H3 D = some (.lst accV) := a23.keep _ _ hDc not_lst d2
        rcases hcase with ⟨rfl, rfl, rfl⟩ | ⟨rfl, y, s4, he4, hlen, rfl, rfl⟩
        · refine iteF ?_
          exact ⟨φ3, _, _, accV, a23.hid.1 _ d1, a23.notin d2 hDc not_lst, ac.trans a23, r3, hD3, rAcc.mono a23, hL⟩
        · refine iteT ?_
          refine ⟨φ3, ρ', s3, er3.mono a3, r3, ?_⟩
          rw [he4]
          intro φ4 H4 a4 r4 v hv
          have a24 := a23.trans a4
          have hD4 : H4 D = some (.lst accV) := a24.keep _ _ hDc not_lst d2
          have dd := a24.hid.1 _ d1
          have rA := (rAcc.mono a24)
          refine ⟨accV, hD4, by rw [rAcc.len]; exact hlen, ⟨φ4, _, acc ++ [y], accV ++ [v], dd, a24.notin d2 hDc not_lst, (ac.trans a24).atNew hD, r4.hidW dd hD4 (a24.notin d2 hDc not_lst), upd_same, ?_, hL⟩⟩
          exact (rA.append (.cons hv .nil)).hidW dd hD4
    · have e : i = xs.length := by omega
      subst e
      refine .inl ⟨w2 (Nat.le_refl _), ?_⟩
      rw [List.drop_length] at hL
      cases hL
      have sub : ∀ a ∈ φ1.hd, a ∈ φc.hd := ac.hid.1
      obtain ⟨ψ, eψ, fψ⟩ := ac.grow
      have rl : φc.cs.length = sF.length := rc.len
      refine go1 ⟨φc.cs ++ [D], φ1.hd⟩ Hc ⟨⟨ψ ++ [D], by show φc.cs ++ [D] = _; rw [eψ, List.append_assoc], fun a q => ?_⟩, ⟨fun _ h => h, fun _ h => .inl h⟩, ac.keep, ac.tups, ac.frzs, ac.there⟩ (rc.bare sub d1 d2 (r1.out hD).2 hDc rAcc) _ (.ref ?_)
      · rcases List.mem_append.mp q with q | q
        · exact fψ a q
        · rw [List.mem_singleton.mp q]
          exact .of hD
      · show (φc.cs ++ [D])[sF.length]? = some D
        rw [← rl]
        simp
  · rw [hF] at go1
    exact go1.elim
theorem loopCc_ok {n : Nat} {ys : List D} {body : D → List D → Stt → R (List D)} : ∀ {xs : List D} {acc : List D} {s : Stt}, (∃ a s', loopCc n ys body xs acc s = .ok a s') ∨ loopCc n ys body xs acc s = .stuck
  | [], acc, s => by
    unfold loopCc
    split
    · exact .inl ⟨_, _, rfl⟩
    · exact .inr rfl
  | d :: xs, acc, s => by
    unfold loopCc
    split
    · cases body d acc s with
      | ok a s' => exact loopCc_ok
      | exc c fs s' => exact .inr rfl
      | stuck => exact .inr rfl
    · exact .inr rfl
theorem loopCc_same {n : Nat} {ys : List D} {body : D → List D → Stt → R (List D)} : ∀ {xs : List D} {acc a : List D} {s s' : Stt}, loopCc n ys body xs acc s = .ok a s' → sameC s n ys = true
  | [], acc, a, s, s', h => by
    unfold loopCc at h
    split at h
    · assumption
    · cases h
  | d :: xs, acc, a, s, s', h => by
    unfold loopCc at h
    split at h
    · assumption
    · cases h
theorem lc_readC {own : List Nat} {tgs : List Nat} {g : TG} {gt : G.Env → Stt → R Bool} {ge : G.Env → Stt → R D} (tk : TgOk Γ tgs g) (hs : ∀ i ∈ tgs, i ∈ own) {σ : St} {H : Hp} {Q : VK}
    (h : dE Γ W (fun ρ s => (ga ρ s).bind fun x s => match x with
      | .ref n => match s[n]? with
        | some (.lst xs) => (loopCc n xs (turnC tgs own gt ge ρ) xs [] s).bind fun acc s => .ok (.lst acc) s
        | _ => .stuck
      | _ => .stuck) σ H Q) : tLc (fun σ H R => dE Γ W ga σ H fun x H1 => ∃ a xs, x = .ref a ∧ H1 a = some (.lst xs) ∧ R (Itl Γ.K a) H1) g (dT Γ W0 gt) (dE Γ W0 ge) own σ H Q := by
  obtain ⟨φ, ρ, s, er, rel, go⟩ := h
  refine ⟨φ, ρ, s, er, rel, go.bind.imp fun x s1 φ1 H1 a1 r1 go1 v hv => ?_⟩
  split at go1
  case h_2 => exact go1.elim
  rename_i n
  split at go1
  case h_2 => exact go1.elim
  rename_i xs hx
  cases hv with
  | ref hpp =>
  rename_i p
  obtain ⟨vs, h4, h5⟩ := r1.cell _ _ _ hpp hx
  refine ⟨p, vs, rfl, h4, fun D hD => ?_⟩
  rcases loopCc_ok (n := n) (ys := xs) (body := turnC tgs own gt ge ρ) (xs := xs) (acc := []) (s := s1) with ⟨accF, sF, hF⟩ | hF
  · rw [hF] at go1
    have go1 : ∀ φ' H', After φ1 H1 φ' H' → Rel Γ φ' H' sF → ∀ v, Rep Γ φ' H' v (.lst accF) → Q v H' := go1
    have er1 := er.mono a1
    refine ⟨fun i m Hc => m = xs.length - i ∧ i ≤ xs.length ∧ ∃ φc s acc accV, D ∈ φc.hd ∧ D ∉ φc.cs ∧ After φ1 H1 φc Hc ∧ Rel Γ φc Hc s ∧ Hc D = some (.lst accV) ∧ Reps Γ φc Hc accV acc ∧ loopCc n xs (turnC tgs own gt ge ρ) (xs.drop i) acc s = .ok accF sF,
      ⟨_, rfl, Nat.zero_le _, φ1.hide D, s1, [], [], List.mem_cons_self, (r1.out hD).1, .hide hD, r1.hide hD not_lst, upd_same, .nil, hF⟩, ?_⟩
    rintro i m Hc ⟨rfl, hi, φc, sc, acc, accV, d1, d2, ac, rc, hDc, rAcc, hL⟩
    have hsame := loopCc_same hL
    have hx2 := sameC_iff.mp hsame
    have hp2 : Rep Γ φc Hc (.ref p) (.ref n) := (Rep.ref hpp : Rep Γ φ1 H1 (.ref p) (.ref n)).mono ac
    obtain ⟨hpp2⟩ : ∃ _ : φc.cs[n]? = some p, True := by
      cases hp2 with
      | ref q => exact ⟨q, trivial⟩
    obtain ⟨vs2, h42, h52⟩ := rc.cell _ _ _ hpp2 hx2
    by_cases hlt : i < xs.length
    · obtain ⟨w, hw, rw_⟩ := h52.get (i := i) (List.getElem?_eq_getElem hlt)
      refine .inr ⟨⟨vs2, w, SqL.of h42, hw⟩, _, fun H' p' => ⟨xs.length - (i + 1), by omega, rfl, hlt, p'⟩, fun x H' hx => ?_⟩
      obtain ⟨e3, hq⟩ := hx
      subst e3
      have hxw := hq vs2 (SqL.of h42)
      rw [hw] at hxw
      cases hxw
      have a2 : After φc H' φc H' := .refl _ _
      have r2 := rc
      obtain ⟨d, hd, hr⟩ : ∃ d, xs[i]? = some d ∧ Rep Γ φc H' w d := ⟨xs[i], List.getElem?_eq_getElem hlt, rw_⟩
      rw [List.drop_eq_getElem_cons hlt] at hL
      have hd' : xs[i] = d := by rw [List.getElem?_eq_getElem hlt] at hd; exact Option.some.inj hd
      rw [hd'] at hL
      unfold loopCc at hL
      rw [if_pos hsame] at hL
      cases hb : turnC tgs own gt ge ρ d acc sc with
      | exc c fs s' => rw [hb] at hL; cases hL
      | stuck => rw [hb] at hL; cases hL
      | ok acc' s' =>
        rw [hb] at hL
        obtain ⟨ρ', htg, k, s3, ht3, hcase⟩ := turnC_ok hb
        have er2 := (er1.mono (ac.trans a2)).wipe own
        refine tk.go er2 hr htg fun σ2 er3 hw => ⟨(hw _ hs).trans wipe_wipe, ⟨φc, ρ', sc, er3, r2, ?_⟩⟩
        rw [ht3]
        intro φ3 H3 a3 r3
        have a23 := a2.trans a3
        have hD3 : H3 D = some (.lst accV) := a23.keep _ _ hDc not_lst d2
        rcases hcase with ⟨rfl, rfl, rfl⟩ | ⟨rfl, y, s4, he4, hlen, rfl, rfl⟩
        · refine iteF ?_
          exact ⟨φ3, _, _, accV, a23.hid.1 _ d1, a23.notin d2 hDc not_lst, ac.trans a23, r3, hD3, rAcc.mono a23, hL⟩
        · refine iteT ?_
          refine ⟨φ3, ρ', s3, er3.mono a3, r3, ?_⟩
          rw [he4]
          intro φ4 H4 a4 r4 v hv
          have a24 := a23.trans a4
          have hD4 : H4 D = some (.lst accV) := a24.keep _ _ hDc not_lst d2
          have dd := a24.hid.1 _ d1
          have rA := (rAcc.mono a24)
          refine ⟨accV, hD4, by rw [rAcc.len]; exact hlen, ⟨φ4, _, acc ++ [y], accV ++ [v], dd, a24.notin d2 hDc not_lst, (ac.trans a24).atNew hD, r4.hidW dd hD4 (a24.notin d2 hDc not_lst), upd_same, ?_, hL⟩⟩
          exact (rA.append (.cons hv .nil)).hidW dd hD4
    · have e : i = xs.length := by omega
      subst e
      refine .inl ⟨⟨vs2, SqL.of h42, by rw [h52.len]; exact Nat.le_refl _⟩, ?_⟩
      rw [List.drop_length] at hL
      unfold loopCc at hL
      rw [if_pos hsame] at hL
      cases hL
      have sub : ∀ a ∈ φ1.hd, a ∈ φc.hd := ac.hid.1
      refine go1 ⟨φc.cs, φ1.hd⟩ Hc ⟨ac.grow, ⟨fun _ h => h, fun _ h => .inl h⟩, ac.keep, ac.tups, ac.frzs, ac.there⟩ (rc.show sub) _ (.lst hDc ⟨d2, (r1.out hD).2⟩ ?_)
      exact Reps.less (φ := φc) (φ' := ⟨φc.cs, φ1.hd⟩) (fun _ _ h => h) (fun a ⟨x, y⟩ => ⟨x, fun z => y (sub a z)⟩) rAcc
  · rw [hF] at go1
    exact go1.elim
theorem lc_readCe {gs : G.Env → Stt → R (List D)} {own : List Nat} {tgs : List Nat} {g : TG} {gt : G.Env → Stt → R Bool} {ge : G.Env → Stt → R D} (tk : TgOk Γ tgs g) (hs : ∀ i ∈ tgs, i ∈ own) {σ : St} {H : Hp} {Q : VK}
    (h : dE Γ W (fun ρ s => (gs ρ s).bind fun ds s => match ds with
      | [.ref n] => match s[n]? with
        | some (.lst xs) => (loopCc n xs (turnC tgs own gt ge ρ) (enumD xs) [] s).bind fun acc s => .ok (.lst acc) s
        | _ => .stuck
      | _ => .stuck) σ H Q) : tLc (fun σ H R => dA Γ W gs σ H fun vs H1 => ∃ a xs, vs = [.ref a] ∧ H1 a = some (.lst xs) ∧ R (Ite Γ.K a) H1) g (dT Γ W0 gt) (dE Γ W0 ge) own σ H Q := by
  obtain ⟨φ, ρ, s, er, rel, go⟩ := h
  refine ⟨φ, ρ, s, er, rel, go.bind.imp fun dds s1 φ1 H1 a1 r1 go1 v hv => ?_⟩
  split at go1
  case h_2 => exact go1.elim
  rename_i n
  split at go1
  case h_2 => exact go1.elim
  rename_i xs hx
  cases hv with
  | cons hv0 hvr =>
  cases hvr
  cases hv0 with
  | ref hpp =>
  rename_i p
  have lz : (enumD xs).length = xs.length := by unfold enumD; simp
  obtain ⟨vs, h4, h5⟩ := r1.cell _ _ _ hpp hx
  refine ⟨p, vs, rfl, h4, fun D hD => ?_⟩
  rcases loopCc_ok (n := n) (ys := xs) (body := turnC tgs own gt ge ρ) (xs := enumD xs) (acc := []) (s := s1) with ⟨accF, sF, hF⟩ | hF
  · rw [hF] at go1
    have go1 : ∀ φ' H', After φ1 H1 φ' H' → Rel Γ φ' H' sF → ∀ v, Rep Γ φ' H' v (.lst accF) → Q v H' := go1
    have er1 := er.mono a1
    refine ⟨fun i m Hc => m = xs.length - i ∧ i ≤ xs.length ∧ ∃ φc s acc accV, D ∈ φc.hd ∧ D ∉ φc.cs ∧ After φ1 H1 φc Hc ∧ Rel Γ φc Hc s ∧ Hc D = some (.lst accV) ∧ Reps Γ φc Hc accV acc ∧ loopCc n xs (turnC tgs own gt ge ρ) ((enumD xs).drop i) acc s = .ok accF sF,
      ⟨_, rfl, Nat.zero_le _, φ1.hide D, s1, [], [], List.mem_cons_self, (r1.out hD).1, .hide hD, r1.hide hD not_lst, upd_same, .nil, hF⟩, ?_⟩
    rintro i m Hc ⟨rfl, hi, φc, sc, acc, accV, d1, d2, ac, rc, hDc, rAcc, hL⟩
    have hsame := loopCc_same hL
    have hx2 := sameC_iff.mp hsame
    have hp2 : Rep Γ φc Hc (.ref p) (.ref n) := (Rep.ref hpp : Rep Γ φ1 H1 (.ref p) (.ref n)).mono ac
    obtain ⟨hpp2⟩ : ∃ _ : φc.cs[n]? = some p, True := by
      cases hp2 with
      | ref q => exact ⟨q, trivial⟩
    obtain ⟨vs2, h42, h52⟩ := rc.cell _ _ _ hpp2 hx2
    by_cases hlt : i < xs.length
    · obtain ⟨w, hw, rw_⟩ := h52.get (i := i) (List.getElem?_eq_getElem hlt)
      refine .inr ⟨⟨vs2, w, SqL.of h42, hw⟩, _, fun H' p' => ⟨xs.length - (i + 1), by omega, rfl, hlt, p'⟩, fun x H' hx => ?_⟩
      obtain ⟨T, y, e3, hT, e4, hq⟩ := hx
      subst e3 e4
      have hxw := hq vs2 (SqL.of h42)
      rw [hw] at hxw
      cases hxw
      have a2 : After φc Hc φc (upd Hc T (.tup [.int (i : Nat), w])) := .fresh hT
      have r2 := rc.fresh (o := .tup [.int (i : Nat), w]) hT
      obtain ⟨d, hd, hr⟩ : ∃ d, (enumD xs)[i]? = some d ∧ Rep Γ φc (upd Hc T (.tup [.int (i : Nat), w])) (.ref T) d := ⟨.tup [.int i, xs[i]], by simp [enumD, hlt], .tup (SqT.of upd_same) (.cons (.int _) (.cons (rw_.mono a2) .nil))⟩
      have hlz : i < (enumD xs).length := by omega
      rw [List.drop_eq_getElem_cons hlz] at hL
      have hd' : (enumD xs)[i] = d := by rw [List.getElem?_eq_getElem hlz] at hd; exact Option.some.inj hd
      rw [hd'] at hL
      unfold loopCc at hL
      rw [if_pos hsame] at hL
      cases hb : turnC tgs own gt ge ρ d acc sc with
      | exc c fs s' => rw [hb] at hL; cases hL
      | stuck => rw [hb] at hL; cases hL
      | ok acc' s' =>
        rw [hb] at hL
        obtain ⟨ρ', htg, k, s3, ht3, hcase⟩ := turnC_ok hb
        have er2 := (er1.mono (ac.trans a2)).wipe own
        refine tk.go er2 hr htg fun σ2 er3 hw => ⟨(hw _ hs).trans wipe_wipe, ⟨φc, ρ', sc, er3, r2, ?_⟩⟩
        rw [ht3]
        intro φ3 H3 a3 r3
        have a23 := a2.trans a3
        have hD3 : H3 D = some (.lst accV) := a23.keep _ _ hDc not_lst d2
        rcases hcase with ⟨rfl, rfl, rfl⟩ | ⟨rfl, y, s4, he4, hlen, rfl, rfl⟩
        · refine iteF ?_
          exact ⟨φ3, _, _, accV, a23.hid.1 _ d1, a23.notin d2 hDc not_lst, ac.trans a23, r3, hD3, rAcc.mono a23, hL⟩
        · refine iteT ?_
          refine ⟨φ3, ρ', s3, er3.mono a3, r3, ?_⟩
          rw [he4]
          intro φ4 H4 a4 r4 v hv
          have a24 := a23.trans a4
          have hD4 : H4 D = some (.lst accV) := a24.keep _ _ hDc not_lst d2
          have dd := a24.hid.1 _ d1
          have rA := (rAcc.mono a24)
          refine ⟨accV, hD4, by rw [rAcc.len]; exact hlen, ⟨φ4, _, acc ++ [y], accV ++ [v], dd, a24.notin d2 hDc not_lst, (ac.trans a24).atNew hD, r4.hidW dd hD4 (a24.notin d2 hDc not_lst), upd_same, ?_, hL⟩⟩
          exact (rA.append (.cons hv .nil)).hidW dd hD4
    · have e : i = xs.length := by omega
      subst e
      refine .inl ⟨⟨vs2, SqL.of h42, by rw [h52.len]; exact Nat.le_refl _⟩, ?_⟩
      rw [← lz, List.drop_length] at hL
      unfold loopCc at hL
      rw [if_pos hsame] at hL
      cases hL
      have sub : ∀ a ∈ φ1.hd, a ∈ φc.hd := ac.hid.1
      refine go1 ⟨φc.cs, φ1.hd⟩ Hc ⟨ac.grow, ⟨fun _ h => h, fun _ h => .inl h⟩, ac.keep, ac.tups, ac.frzs, ac.there⟩ (rc.show sub) _ (.lst hDc ⟨d2, (r1.out hD).2⟩ ?_)
      exact Reps.less (φ := φc) (φ' := ⟨φc.cs, φ1.hd⟩) (fun _ _ h => h) (fun a ⟨x, y⟩ => ⟨x, fun z => y (sub a z)⟩) rAcc
  · rw [hF] at go1
    exact go1.elim
theorem lc_read {cell : Bool} {own : List Nat} {tgs : List Nat} {g : TG} {gi : G.Env → Stt → R (List D)} {gt : G.Env → Stt → R Bool} {ge : G.Env → Stt → R D} (tk : TgOk Γ tgs g) (hs : ∀ i ∈ tgs, i ∈ own) {σ : St} {H : Hp} {Q : VK}
    (h : dE Γ W (fun ρ s => (gi ρ s).bind fun xs s => (loopC (turnC tgs own gt ge ρ) xs [] s).bind fun acc s => finC cell acc s) σ H Q) : tLc (dI Γ W gi) g (dT Γ W0 gt) (dE Γ W0 ge) own σ H Q := by
  cases cell with
  | false => exact lc_readF tk hs h
  | true => exact lc_readT tk hs h
theorem s_comp {cell : Bool} {elt tg iter : Expr} {ifs : List Expr} {scope : Scope} {own : List (Str × Nat)} {tgs : List Nat} {g : TG} {gi : G.Env → Stt → R (List D)} {gt : G.Env → Stt → R Bool} {ge : G.Env → Stt → R D}
    (hc : X.calm = true) (hN : X.N.Nodup) (hi : PI X tg iter (dI Γ W gi)) (ok : BlkOk X.N X.env.scope scope own) (tk : TgOk Γ tgs g) (hs : ∀ i ∈ tgs, i ∈ own.map (·.2))
    (hg : ∀ (s : Shared) (H : Hp) (C : Addr) (cl : List (Str × Addr)) (fp : List Addr), PG (X.blk s H scope (compEnvC scope cl C X.env) fp) tg g) (ht : ∀ (s : Shared) (H : Hp) (C : Addr) (cl : List (Str × Addr)) (fp : List Addr), PTs (X.blk s H scope (compEnvC scope cl C X.env) fp) ifs (dT Γ W0 gt))
    (he : ∀ (s : Shared) (H : Hp) (C : Addr) (cl : List (Str × Addr)) (fp : List Addr), PE (X.blk s H scope (compEnvC scope cl C X.env) fp) elt (dE Γ W0 ge)) (hst : ∀ x, foldedSetIterable iter X.env x = pure x) :
    PE X (.ListComp elt [⟨tg, iter, ifs, 0⟩] scope pos) (dE Γ W fun ρ s => (gi ρ s).bind fun xs s => (loopC (turnC tgs (own.map (·.2)) gt ge ρ) xs [] s).bind fun acc s => finC cell acc s) :=
  (pe_lc hc hN hi ok hg ht he hst).mono fun _ _ _ h => lc_read tk hs h
theorem s_compc {elt tg iter : Expr} {ifs : List Expr} {scope : Scope} {own : List (Str × Nat)} {tgs : List Nat} {g : TG} {gt : G.Env → Stt → R Bool} {ge : G.Env → Stt → R D}
    (hK : X.K = Γ.K) (hc : X.calm = true) (hN : X.N.Nodup) (hi : PE X iter (dE Γ W ga)) (ok : BlkOk X.N X.env.scope scope own) (tk : TgOk Γ tgs g) (hs : ∀ i ∈ tgs, i ∈ own.map (·.2))
    (hg : ∀ (s : Shared) (H : Hp) (C : Addr) (cl : List (Str × Addr)) (fp : List Addr), PG (X.blk s H scope (compEnvC scope cl C X.env) fp) tg g) (ht : ∀ (s : Shared) (H : Hp) (C : Addr) (cl : List (Str × Addr)) (fp : List Addr), PTs (X.blk s H scope (compEnvC scope cl C X.env) fp) ifs (dT Γ W0 gt))
    (he : ∀ (s : Shared) (H : Hp) (C : Addr) (cl : List (Str × Addr)) (fp : List Addr), PE (X.blk s H scope (compEnvC scope cl C X.env) fp) elt (dE Γ W0 ge)) (hst : ∀ x, foldedSetIterable iter X.env x = pure x) :
    PE X (.ListComp elt [⟨tg, iter, ifs, 0⟩] scope pos) (dE Γ W fun ρ s => (ga ρ s).bind fun x s => match x with
      | .ref n => match s[n]? with
        | some (.lst xs) => (loopCc n xs (turnC tgs (own.map (·.2)) gt ge ρ) xs [] s).bind fun acc s => .ok (.lst acc) s
        | _ => .stuck
      | _ => .stuck) :=
  (pe_lc hc hN (s_icell hK hi) ok hg ht he hst).mono fun _ _ _ h => lc_readC tk hs h
theorem s_compe {gs : G.Env → Stt → R (List D)} {elts : List Expr} {kk : Nat} {tpos p : Pos} {a : Expr} {ipos : Pos} {elt : Expr} {ifs : List Expr} {scope : Scope} {own : List (Str × Nat)} {tgs : List Nat} {g : TG} {gt : G.Env → Stt → R Bool} {ge : G.Env → Stt → R D}
    (hK : X.K = Γ.K) (hc : X.calm = true) (hN : X.N.Nodup) (hge : Gl X "enumerate") (hm : X.mg "enumerate" = none) (hn : ns a = true) (hi : PA X [a] (dA Γ W gs)) (ok : BlkOk X.N X.env.scope scope own) (tk : TgOk Γ tgs g) (hs : ∀ i ∈ tgs, i ∈ own.map (·.2))
    (hg : ∀ (s : Shared) (H : Hp) (C : Addr) (cl : List (Str × Addr)) (fp : List Addr), PG (X.blk s H scope (compEnvC scope cl C X.env) fp) (.Tuple elts kk tpos) g) (ht : ∀ (s : Shared) (H : Hp) (C : Addr) (cl : List (Str × Addr)) (fp : List Addr), PTs (X.blk s H scope (compEnvC scope cl C X.env) fp) ifs (dT Γ W0 gt))
    (he : ∀ (s : Shared) (H : Hp) (C : Addr) (cl : List (Str × Addr)) (fp : List Addr), PE (X.blk s H scope (compEnvC scope cl C X.env) fp) elt (dE Γ W0 ge)) (hst : ∀ x, foldedSetIterable (.Call (.Name "enumerate" p) [a] [] ipos) X.env x = pure x) :
    PE X (.ListComp elt [⟨.Tuple elts kk tpos, .Call (.Name "enumerate" p) [a] [] ipos, ifs, 0⟩] scope pos) (dE Γ W fun ρ s => (gs ρ s).bind fun ds s => match ds with
      | [.ref n] => match s[n]? with
        | some (.lst xs) => (loopCc n xs (turnC tgs (own.map (·.2)) gt ge ρ) (enumD xs) [] s).bind fun acc s => .ok (.lst acc) s
        | _ => .stuck
      | _ => .stuck) :=
  (pe_lc hc hN (s_icellE hK hge hm hn hi) ok hg ht he hst).mono fun _ _ _ h => lc_readCe tk hs h
/-- name = [..] -/
theorem ss_lc {cell : Bool} {i : Nat} {y : Str} {py spos : Pos} {elt tg iter : Expr} {ifs : List Expr} {scope : Scope} {own : List (Str × Nat)} {tgs : List Nat} {g : TG} {gi : G.Env → Stt → R (List D)} {gt : G.Env → Stt → R Bool} {ge : G.Env → Stt → R D}
    (hc : X.calm = true) (hN : X.N.Nodup) (hy : X.N[i]? = some y) (hyl : X.env.scope.names.lookup y = some .local) (hsw : swapsWith (.ListComp elt [⟨tg, iter, ifs, 0⟩] scope pos) (some (.Name y py)) spos.line X.env = pure true)
    (hi : PI X tg iter (dI Γ W gi)) (ok : BlkOk X.N X.env.scope scope own) (tk : TgOk Γ tgs g) (hs : ∀ i ∈ tgs, i ∈ own.map (·.2))
    (hg : ∀ (s : Shared) (H : Hp) (C : Addr) (cl : List (Str × Addr)) (fp : List Addr), PG (X.blk s H scope (compEnvC scope cl C X.env) fp) tg g) (ht : ∀ (s : Shared) (H : Hp) (C : Addr) (cl : List (Str × Addr)) (fp : List Addr), PTs (X.blk s H scope (compEnvC scope cl C X.env) fp) ifs (dT Γ W0 gt))
    (he : ∀ (s : Shared) (H : Hp) (C : Addr) (cl : List (Str × Addr)) (fp : List Addr), PE (X.blk s H scope (compEnvC scope cl C X.env) fp) elt (dE Γ W0 ge)) (hst : ∀ x, foldedSetIterable iter X.env x = pure x) :
    PS X (.Assign [.Name y py] (.ListComp elt [⟨tg, iter, ifs, 0⟩] scope pos) spos) (dS Γ W fun ρ s => ((gi ρ s).bind fun xs s => (loopC (turnC tgs (own.map (·.2)) gt ge ρ) xs [] s).bind fun acc s => finC cell acc s).st ρ fun x s => .nx (ρ.set i (some x)) s) :=
  (ps_setLc hc hN hy hyl hsw hi ok hg ht he hst).mono fun D σ H ⟨φ, ρ, s, er, rel, go⟩ =>
    lc_read tk hs ⟨φ, ρ, s, er, rel, (go.st er).imp fun x s1 φ1 H1 a1 r1 go1 v hv => go1 φ1 H1 _ (.refl _ _) r1 ((er.mono a1).set hv i)⟩
theorem ss_lce {i : Nat} {y : Str} {py spos : Pos} {elts : List Expr} {kk : Nat} {tpos p : Pos} {a : Expr} {ipos : Pos} {elt : Expr} {ifs : List Expr} {scope : Scope} {own : List (Str × Nat)} {tgs : List Nat} {g : TG} {gs : G.Env → Stt → R (List D)} {gt : G.Env → Stt → R Bool} {ge : G.Env → Stt → R D}
    (hK : X.K = Γ.K) (hc : X.calm = true) (hN : X.N.Nodup) (hy : X.N[i]? = some y) (hyl : X.env.scope.names.lookup y = some .local) (hsw : swapsWith (.ListComp elt [⟨.Tuple elts kk tpos, .Call (.Name "enumerate" p) [a] [] ipos, ifs, 0⟩] scope pos) (some (.Name y py)) spos.line X.env = pure true)
    (hge : Gl X "enumerate") (hm : X.mg "enumerate" = none) (hn : ns a = true) (hi : PA X [a] (dA Γ W gs)) (ok : BlkOk X.N X.env.scope scope own) (tk : TgOk Γ tgs g) (hs : ∀ i ∈ tgs, i ∈ own.map (·.2))
    (hg : ∀ (s : Shared) (H : Hp) (C : Addr) (cl : List (Str × Addr)) (fp : List Addr), PG (X.blk s H scope (compEnvC scope cl C X.env) fp) (.Tuple elts kk tpos) g) (ht : ∀ (s : Shared) (H : Hp) (C : Addr) (cl : List (Str × Addr)) (fp : List Addr), PTs (X.blk s H scope (compEnvC scope cl C X.env) fp) ifs (dT Γ W0 gt))
    (he : ∀ (s : Shared) (H : Hp) (C : Addr) (cl : List (Str × Addr)) (fp : List Addr), PE (X.blk s H scope (compEnvC scope cl C X.env) fp) elt (dE Γ W0 ge)) (hst : ∀ x, foldedSetIterable (.Call (.Name "enumerate" p) [a] [] ipos) X.env x = pure x) :
    PS X (.Assign [.Name y py] (.ListComp elt [⟨.Tuple elts kk tpos, .Call (.Name "enumerate" p) [a] [] ipos, ifs, 0⟩] scope pos) spos) (dS Γ W fun ρ s => ((gs ρ s).bind fun ds s => match ds with
      | [.ref n] => match s[n]? with
        | some (.lst xs) => (loopCc n xs (turnC tgs (own.map (·.2)) gt ge ρ) (enumD xs) [] s).bind fun acc s => .ok (.lst acc) s
        | _ => .stuck
      | _ => .stuck).st ρ fun x s => .nx (ρ.set i (some x)) s) :=
  (ps_setLc hc hN hy hyl hsw (s_icellE hK hge hm hn hi) ok hg ht he hst).mono fun D σ H ⟨φ, ρ, s, er, rel, go⟩ =>
    lc_readCe tk hs ⟨φ, ρ, s, er, rel, (go.st er).imp fun x s1 φ1 H1 a1 r1 go1 v hv => go1 φ1 H1 _ (.refl _ _) r1 ((er.mono a1).set hv i)⟩
end
end G
set_option Elab.async false
set_option linter.all false
set_option maxRecDepth 100000
namespace G
open PySem L2
section
variable {Γ : Gm} {W : WX} {X : Cx} {pos : Pos} {a b c e : Expr} {ga gb gc : G.Env → Stt → R D} {es : List Expr} {gs : G.Env → Stt → R (List D)}
theorem ty_boot {t : String} (h : isTy t = true) : bootBuiltins (Str.ofString t) = some (.type t) ∧ Str.ofString t ≠ "__name__" ∧ (Str.ofString t == ("__debug__" : Str)) = false := by
  unfold isTy at h
  simp only [Bool.or_eq_true, beq_iff_eq] at h
  rcases h with (((rfl | rfl) | rfl) | rfl) | rfl <;> decide +kernel
theorem pe_ty {t : String} {p : Pos} (h : isTy t = true) (hg : Gl X (Str.ofString t)) (hm : X.mg (Str.ofString t) = none) : PE X (.Name (Str.ofString t) p) (tC (.ty t)) :=
  pe_bltn hg hm (ty_boot h).1 rfl (ty_boot h).2.1 (ty_boot h).2.2
/-- a value's type, a cell's, too -/
def tyS (s : Stt) : D → Option String
  | .ref n => match s[n]? with
    | some (.lst _) => some "list"
    | _ => none
  | x => tyN x
theorem isiS_ok {s : Stt} {x z : D} {ts : List String} (h : isiS s x ts = some z) : ∃ n, tyS s x = some n ∧ .bl (ts.any (heir n)) = z := by
  cases x with
  | ref m =>
    unfold isiS at h
    unfold tyS
    simp only at h ⊢
    cases e : s[m]? with
    | none => rw [e] at h; cases h
    | some c =>
      cases c with
      | ins _ _ => rw [e] at h; cases h
      | dct _ => rw [e] at h; cases h
      | key _ => rw [e] at h; cases h
      | lst xs =>
        rw [e] at h
        cases h
        exact ⟨_, rfl, rfl⟩
  | _ =>
    simp only [isiS, isiF] at h
    obtain ⟨n, hn, rfl⟩ := Option.map_eq_some_iff.mp h
    exact ⟨n, hn, rfl⟩
theorem tyS_in {s : Stt} {x : D} {n : String} (e : tyS s x = some n) : n = "NoneType" ∨ n = "bool" ∨ n = "int" ∨ n = "str" ∨ n = "tuple" ∨ n = "list" := by
  cases x with
  | ref m =>
    unfold tyS at e
    simp only at e
    split at e
    · cases e
      simp
    · cases e
  | _ =>
    simp only [tyS] at e
    exact tyN_in e
theorem tyS_ok {φ : Fx} {H : Hp} {s : Stt} {x : D} {v : V} {n : String} (e : tyS s x = some n) (r : Rel Γ φ H s) (hx : Rep Γ φ H v x) : TyX Γ.K H v (.type n) := by
  cases x with
  | ref m =>
    unfold tyS at e
    simp only at e
    split at e
    · rename_i xs hc
      cases e
      cases hx with
      | ref h' =>
        obtain ⟨vs, h1, _⟩ := r.cell _ _ _ h' hc
        exact .base (.lst h1)
    · cases e
  | _ =>
    simp only [tyS] at e
    exact tyN_ok e hx
theorem s_isi1 {t : String} {p p2 : Pos} (hK : X.K = Γ.K) (ht : isTy t = true) (hg : Gl X "isinstance") (hm : X.mg "isinstance" = none) (hgt : Gl X (Str.ofString t)) (hmt : X.mg (Str.ofString t) = none) (hn : ns a = true) (ha : PE X a (dE Γ W ga)) :
    PE X (.Call (.Name "isinstance" p) [a, .Name (Str.ofString t) p2] [] pos) (dE Γ W fun ρ s => (ga ρ s).bind fun x s => R.of (isiS s x [t]) s) :=
  (pe_callB call_isi hg hm (by decide +kernel) (pa_cons ha (pa_cons (pe_ty ht hgt hmt) pa_nil) (star_ns hn)) (by decide) (by decide) (star_ns hn)).mono fun σ H Q ⟨φ, ρ, s, er, rel, go⟩ => by
  refine ⟨φ, ρ, s, er, rel, go.bind.imp fun x s1 φ1 H1 a1 r1 go1 v hv => ?_⟩
  obtain ⟨z, hz, k⟩ := go1.of
  obtain ⟨n, hn, rfl⟩ := isiS_ok hz
  rw [hK]
  exact ⟨v, _, _, _, _, rfl, .ty t, tyS_ok hn r1 hv, kit_ty (heir_ok (tyS_in hn) ht), by
    have q := k φ1 H1 (.refl _ _) r1 _ (.bl _)
    simpa using q⟩
/-- the classes' names -/
def tyNames : List String → List Expr → Bool
  | [], [] => true
  | t :: ts, .Name x _ :: es => decide (x = Str.ofString t) && tyNames ts es
  | _, _ => false
theorem pa_tys : ∀ {ts : List String} {es : List Expr}, tyNames ts es = true → ts.all isTy = true → (∀ t ∈ ts, Gl X (Str.ofString t) ∧ X.mg (Str.ofString t) = none) → PA X es (fun σ H Q => Q (ts.map V.ty) H)
  | [], [], _, _, _ => pa_nil
  | [], _ :: _, h, _, _ => by simp [tyNames] at h
  | _ :: _, [], h, _, _ => by simp [tyNames] at h
  | t :: ts, .Name x p :: es, h, ht, hg => by
    simp only [tyNames, Bool.and_eq_true, decide_eq_true_eq] at h
    simp only [List.all_cons, Bool.and_eq_true] at ht
    obtain ⟨rfl, h⟩ := h
    have q := hg t (by simp)
    exact pa_cons (pe_ty ht.1 q.1 q.2) (pa_tys h ht.2 fun u hu => hg u (List.mem_cons_of_mem _ hu))
  | _ :: _, .BoolOp .. :: _, h, _, _ => by simp [tyNames] at h
  | _ :: _, .NamedExpr .. :: _, h, _, _ => by simp [tyNames] at h
  | _ :: _, .BinOp .. :: _, h, _, _ => by simp [tyNames] at h
  | _ :: _, .UnaryOp .. :: _, h, _, _ => by simp [tyNames] at h
  | _ :: _, .Lambda .. :: _, h, _, _ => by simp [tyNames] at h
  | _ :: _, .IfExp .. :: _, h, _, _ => by simp [tyNames] at h
  | _ :: _, .Dict .. :: _, h, _, _ => by simp [tyNames] at h
  | _ :: _, .Set .. :: _, h, _, _ => by simp [tyNames] at h
  | _ :: _, .ListComp .. :: _, h, _, _ => by simp [tyNames] at h
  | _ :: _, .SetComp .. :: _, h, _, _ => by simp [tyNames] at h
  | _ :: _, .DictComp .. :: _, h, _, _ => by simp [tyNames] at h
  | _ :: _, .GeneratorExp .. :: _, h, _, _ => by simp [tyNames] at h
  | _ :: _, .Await .. :: _, h, _, _ => by simp [tyNames] at h
  | _ :: _, .Yield .. :: _, h, _, _ => by simp [tyNames] at h
  | _ :: _, .YieldFrom .. :: _, h, _, _ => by simp [tyNames] at h
  | _ :: _, .Compare .. :: _, h, _, _ => by simp [tyNames] at h
  | _ :: _, .Call .. :: _, h, _, _ => by simp [tyNames] at h
  | _ :: _, .FormattedValue .. :: _, h, _, _ => by simp [tyNames] at h
  | _ :: _, .JoinedStr .. :: _, h, _, _ => by simp [tyNames] at h
  | _ :: _, .Constant .. :: _, h, _, _ => by simp [tyNames] at h
  | _ :: _, .Attribute .. :: _, h, _, _ => by simp [tyNames] at h
  | _ :: _, .Subscript .. :: _, h, _, _ => by simp [tyNames] at h
  | _ :: _, .Starred .. :: _, h, _, _ => by simp [tyNames] at h
  | _ :: _, .List .. :: _, h, _, _ => by simp [tyNames] at h
  | _ :: _, .Tuple .. :: _, h, _, _ => by simp [tyNames] at h
  | _ :: _, .Slice .. :: _, h, _, _ => by simp [tyNames] at h
theorem s_isiT {ts : List String} {p p2 : Pos} {tes : List Expr} {kk} (hK : X.K = Γ.K) (hq : tyNames ts tes = true) (ht : ts.all isTy = true) (hl : ts.length ≤ 100) (hg : Gl X "isinstance") (hm : X.mg "isinstance" = none) (hgt : ∀ t ∈ ts, Gl X (Str.ofString t) ∧ X.mg (Str.ofString t) = none) (hn : ns a = true) (ha : PE X a (dE Γ W ga)) :
    PE X (.Call (.Name "isinstance" p) [a, .Tuple tes kk p2] [] pos) (dE Γ W fun ρ s => (ga ρ s).bind fun x s => R.of (isiS s x ts) s) :=
  (pe_callB call_isiT hg hm (by decide +kernel) (pa_cons ha (pa_cons (pe_tup (pa_tys hq ht hgt)) pa_nil) (star_ns hn)) (by decide) (by decide) (star_ns hn)).mono fun σ H Q ⟨φ, ρ, s, er, rel, go⟩ => by
  refine ⟨φ, ρ, s, er, rel, go.bind.imp fun x s1 φ1 H1 a1 r1 go1 v hv => ?_⟩
  obtain ⟨z, hz, k⟩ := go1.of
  obtain ⟨n, hn, rfl⟩ := isiS_ok hz
  have sl : (sizeLine : Nat) = 16777216 := sizeLine_eq
  refine ⟨by rw [List.length_map]; omega, fun tp htp => ?_⟩
  rw [hK]
  exact ⟨v, tp, _, _, _, _, rfl, upd_same, Paired_ty ts, tyS_ok hn (r1.fresh htp) (hv.mono (.fresh htp)), kitAny_ok (tyS_in hn) ts ht, k φ1 _ (.fresh htp) (r1.fresh htp) _ (.bl _)⟩
/-- no call -/
def nc : Expr → Bool
  | .Call (.Name x _) [] [] _ => x != "super"
  | _ => true
theorem base_nc {o : Expr} {m : Str} {env : PySem.Env} (h : nc o = true) : attributeBase o m env (eval o env) = eval o env := by
  cases o with
  | Call f es ks p =>
    cases es with
    | cons e es => cases f <;> rfl
    | nil =>
      cases ks with
      | cons e ks => cases f <;> rfl
      | nil =>
        cases f with
        | Name x q =>
          have h : (x != "super") = true := h
          generalize ew : eval (.Call (.Name x q) [] [] p) env = w
          unfold attributeBase
          simp only [h, Bool.true_or, if_true]
        | _ => rfl
  | _ => rfl
theorem few1 {env : PySem.Env} {cpos : Pos} (h : ns e = true) : ((backTo cpos (starEach [e] env)).all (fun x => !x.1) && (backToKw cpos (keywordEach [] env)).all (fun x => x.1.isSome)
      && decide (([e] : List Expr).length + ([] : List Keyword).length + (if ([] : List Keyword).isEmpty then 0 else 1) < 30)) = true := by
  rw [star_ns h]
  rfl
theorem cell_is {s : Stt} {x : D} (h : isCell s x = true) : ∃ n xs, x = .ref n ∧ s[n]? = some (.lst xs) := by
  unfold isCell at h
  split at h
  · split at h
    · exact ⟨_, _, rfl, by assumption⟩
    · cases h
  · cases h
theorem tyV_cell {φ : Fx} {H : Hp} {v : V} {n : Nat} {s : Stt} {xs : List D} (hv : Rep Γ φ H v (.ref n)) (r : Rel Γ φ H s) (h : s[n]? = some (.lst xs)) : tyV Γ.K "list" v H := by
  cases hv with
  | ref h' =>
    obtain ⟨vs, h1, _⟩ := r.cell _ _ _ h' h
    exact .inl ⟨rfl, vs, SqL.of h1⟩
theorem meF_ref {m : Me} {s : Stt} {n : Nat} {ys : List D} : (∃ xs z xs', s[n]? = some (.lst xs) ∧ lmF m xs ys = some (z, xs') ∧ meF m s (.ref n) ys = .ok z (s.set n (.lst xs'))) ∨ meF m s (.ref n) ys = .stuck := by
  cases e : s[n]? with
  | none => exact .inr (by simp [meF, e])
  | some c =>
    cases c with
    | ins _ _ => exact .inr (by simp [meF, e])
    | dct _ => exact .inr (by simp [meF, e])
    | key _ => exact .inr (by simp [meF, e])
    | lst xs =>
      cases e2 : lmF m xs ys with
      | none => exact .inr (by simp [meF, e, e2])
      | some p => exact .inl ⟨xs, p.1, p.2, rfl, e2, by simp [meF, e, e2]⟩
theorem s_met {m : Me} {r : V → List V → Hp → VK → Prop} {ex : Expr} {t : TA} (hK : X.K = Γ.K) (hm : ∀ s x, meOk m s x = true → isCell s x = true) (h : PE X ex (tBM X.K "list" r (dE Γ W ga) t)) (ht : ∀ σ H Q, dA Γ W gs σ H Q → t σ H Q)
    (ok : ∀ {φ : Fx} {H xs ys z xs' p vs ws} {Q : VK}, lmF m xs ys = some (z, xs') → H p = some (.lst vs) → Reps Γ φ H vs xs → Reps Γ φ H ws ys → (∀ v vs', Rep Γ φ H v z → Reps Γ φ H vs' xs' → Q v (upd H p (.lst vs'))) → r (.ref p) ws H Q) :
    PE X ex (dE Γ W fun ρ s => (ga ρ s).bind fun x s => if meOk m s x = true then (gs ρ s).bind fun ys s => meF m s x ys else .stuck) := h.mono fun σ H Q ⟨φ, ρ, s, er, rel, go⟩ => by
  refine ⟨φ, ρ, s, er, rel, go.bind.imp fun x s1 φ1 H1 a1 r1 go1 v hv => ?_⟩
  split at go1
  · rename_i hk
    have hk : isCell s1 x = true := hm _ _ hk
    obtain ⟨n, xs, rfl, hx⟩ := cell_is hk
    refine ⟨hK ▸ tyV_cell hv r1 hx, ht _ _ _ ⟨φ1, ρ, s1, er.mono a1, r1, go1.bind.imp fun ys s2 φ2 H2 a2 r2 go2 ws hws => ?_⟩⟩
    have hv2 := hv.mono a2
    rcases meF_ref (m := m) (s := s2) (n := n) (ys := ys) with ⟨xs2, z, xs', h1, h2, h3⟩ | h3
    · rw [h3] at go2
      cases hv2 with
      | ref hp =>
        obtain ⟨vs, h4, h5⟩ := r2.cell _ _ _ hp h1
        refine ok h2 h4 h5 hws fun v vs' hv hvs' => ?_
        have A : After φ2 H2 φ2 (upd H2 _ (.lst vs')) := After.write (List.mem_of_getElem? hp) ⟨_, h4, .l⟩ not_lst
        exact go2 φ2 _ A (r2.write hp hvs') v (hv.mono A)
    · rw [h3] at go2
      exact go2.elim
  · exact go1.elim
theorem s_append {o : Expr} {apos cpos : Pos} (hK : X.K = Γ.K) (hn : ns e = true) (hb : nc o = true) (hl : (apos.endLine == cpos.line) = true) (ho : PE X o (dE Γ W ga)) (he : PA X [e] (dA Γ W gs)) :
    PE X (.Call (.Attribute o "append" apos) [e] [] cpos) (dE Γ W fun ρ s => (ga ρ s).bind fun x s => if meOk .append s x = true then (gs ρ s).bind fun ys s => meF .append s x ys else .stuck) :=
  s_met hK (fun _ _ h => h) (pe_bm PySem.F.plainAttrs_list PySem.F.slot_list_append PySem.F.type_list_append mt_append ho he (base_nc hb) (few1 hn) hl (star_ns hn) (back_ns rfl)) (fun _ _ _ h => h) fun {φ H xs ys z xs' p vs ws Q} h1 h2 h3 h4 k => by
  unfold lmF at h1
  split at h1 <;> rename_i e1 <;> try cases e1
  · split at h1
    · rename_i hl
      cases h1
      cases h4 with
      | cons a1 a2 =>
        cases a2
        exact ⟨_, _, _, rfl, rfl, h2, by rw [h3.len]; exact hl, k _ _ .non (h3.append (.cons a1 .nil))⟩
    · cases h1
  · cases h1
theorem s_popAt {o : Expr} {apos cpos : Pos} (hK : X.K = Γ.K) (hn : ns e = true) (hb : nc o = true) (hl : (apos.endLine == cpos.line) = true) (ho : PE X o (dE Γ W ga)) (he : PA X [e] (dA Γ W gs)) :
    PE X (.Call (.Attribute o "pop" apos) [e] [] cpos) (dE Γ W fun ρ s => (ga ρ s).bind fun x s => if meOk .popAt s x = true then (gs ρ s).bind fun ys s => meF .popAt s x ys else .stuck) :=
  s_met hK (fun _ _ h => h) (pe_bm PySem.F.plainAttrs_list PySem.F.slot_list_pop PySem.F.type_list_pop mt_popAt ho he (base_nc hb) (few1 hn) hl (star_ns hn) (back_ns rfl)) (fun _ _ _ h => h) fun {φ H xs ys z xs' p vs ws Q} h1 h2 h3 h4 k => by
  unfold lmF at h1
  split at h1 <;> rename_i e1 <;> try cases e1
  · split at h1
    · rename_i hl
      split at h1
      · rename_i j hj
        split at h1
        · rename_i y hy
          cases h1
          cases h4 with
          | cons a1 a2 =>
            cases a2
            cases a1
            obtain ⟨v, hv, rv⟩ := h3.get hy
            refine ⟨_, _, _, j, v, rfl, rfl, h2, hl.1, hl.2, ?_, hv, k _ _ rv (h3.erase j)⟩
            rw [h3.len]
            exact (ixN_seq hj).1
        · cases h1
      · cases h1
    · cases h1
  · cases h1
theorem s_pop {o : Expr} {apos cpos : Pos} (hK : X.K = Γ.K) (hb : nc o = true) (hl : (apos.endLine == cpos.line) = true) (ho : PE X o (dE Γ W ga)) :
    PE X (.Call (.Attribute o "pop" apos) [] [] cpos) (dE Γ W fun ρ s => (ga ρ s).bind fun x s => if meOk .pop s x = true then (R.ok [] s).bind fun ys s => meF .pop s x ys else .stuck) := by
  refine s_met (r := rPop) (gs := fun _ s => .ok [] s) (t := tNil) hK (fun _ _ h => h) ((pe_bm0 PySem.F.plainAttrs_list PySem.F.slot_list_pop PySem.F.type_list_pop mt_pop ho (base_nc hb) hl).mono fun σ H Q h => h) (fun σ H Q ⟨φ, ρ, s, er, rel, go⟩ => go φ H (.refl _ _) rel [] .nil) fun {φ H xs ys z xs' p vs ws Q} h1 h2 h3 h4 k => ?_
  unfold lmF at h1
  split at h1 <;> rename_i e1 <;> try cases e1
  · split at h1
    · rename_i y hy
      cases h1
      cases h4
      obtain ⟨v, hv, rv⟩ := h3.get hy
      exact ⟨_, _, v, rfl, rfl, h2, by rw [h3.len]; exact hv, k _ _ rv h3.dropLast⟩
    · cases h1
  · cases h1
theorem s_cell0 {m : Me} {nm : Str} {r : V → List V → Hp → VK → Prop} {o : Expr} {apos cpos : Pos} (hK : X.K = Γ.K) (hm : ∀ s x, meOk m s x = true → isCell s x = true) (hz : ∀ xs d ds, lmF m xs (d :: ds) = none) (h : PE X (.Call (.Attribute o nm apos) [] [] cpos) (tBM0 X.K "list" r (dE Γ W ga)))
    (ok : ∀ {φ : Fx} {H xs z xs' p vs} {Q : VK}, lmF m xs [] = some (z, xs') → H p = some (.lst vs) → Reps Γ φ H vs xs → (∀ v vs', Rep Γ φ H v z → Reps Γ φ H vs' xs' → Q v (upd H p (.lst vs'))) → r (.ref p) [] H Q) :
    PE X (.Call (.Attribute o nm apos) [] [] cpos) (dE Γ W fun ρ s => (ga ρ s).bind fun x s => if meOk m s x = true then (R.ok [] s).bind fun ys s => meF m s x ys else .stuck) := by
  refine s_met (r := r) (gs := fun _ s => .ok [] s) (t := tNil) hK hm (h.mono fun σ H Q h => h) (fun σ H Q ⟨φ, ρ, s, er, rel, go⟩ => go φ H (.refl _ _) rel [] .nil) fun {φ H xs ys z xs' p vs ws Q} h1 h2 h3 h4 k => ?_
  cases h4 with
  | nil => exact ok h1 h2 h3 k
  | cons _ _ =>
    rw [hz] at h1
    cases h1
theorem Reps.reverse {φ : Fx} {H : Hp} : ∀ {vs : List V} {ds : List D}, Reps Γ φ H vs ds → Reps Γ φ H vs.reverse ds.reverse
  | _, _, .nil => .nil
  | _, _, .cons a b => by
    rw [List.reverse_cons, List.reverse_cons]
    exact (Reps.reverse b).append (.cons a .nil)
theorem s_reverse {o : Expr} {apos cpos : Pos} (hK : X.K = Γ.K) (hb : nc o = true) (hl : (apos.endLine == cpos.line) = true) (ho : PE X o (dE Γ W ga)) :
    PE X (.Call (.Attribute o "reverse" apos) [] [] cpos) (dE Γ W fun ρ s => (ga ρ s).bind fun x s => if meOk .reverse s x = true then (R.ok [] s).bind fun ys s => meF .reverse s x ys else .stuck) :=
  s_cell0 (r := rReverse) hK (fun _ _ h => h) (fun _ _ _ => rfl) (pe_bm0 PySem.F.plainAttrs_list PySem.F.slot_list_reverse PySem.F.type_list_reverse mt_reverse ho (base_nc hb) hl) fun {φ H xs z xs' p vs Q} h1 h2 h3 k => by
    cases h1
    exact ⟨_, _, rfl, rfl, h2, k _ _ .non h3.reverse⟩
theorem s_clear {o : Expr} {apos cpos : Pos} (hK : X.K = Γ.K) (hb : nc o = true) (hl : (apos.endLine == cpos.line) = true) (ho : PE X o (dE Γ W ga)) :
    PE X (.Call (.Attribute o "clear" apos) [] [] cpos) (dE Γ W fun ρ s => (ga ρ s).bind fun x s => if meOk .clear s x = true then (R.ok [] s).bind fun ys s => meF .clear s x ys else .stuck) :=
  s_cell0 (r := rClear) hK (fun _ _ h => h) (fun _ _ _ => rfl) (pe_bm0 PySem.F.plainAttrs_list PySem.F.slot_list_clear PySem.F.type_list_clear mt_clear ho (base_nc hb) hl) fun {φ H xs z xs' p vs Q} h1 h2 h3 k => by
    cases h1
    exact ⟨_, _, rfl, rfl, h2, k _ _ .non .nil⟩
theorem s_remove {o : Expr} {apos cpos : Pos} (hK : X.K = Γ.K) (hu : X.A.units + 65 < cLine) (hn : ns e = true) (hb : nc o = true) (hl : (apos.endLine == cpos.line) = true) (ho : PE X o (dE Γ W ga)) (he : PA X [e] (dA Γ W gs)) :
    PE X (.Call (.Attribute o "remove" apos) [e] [] cpos) (dE Γ W fun ρ s => (ga ρ s).bind fun x s => if meOk .remove s x = true then (gs ρ s).bind fun ys s => meF .remove s x ys else .stuck) :=
  s_met hK (fun _ _ h => h) (pe_bm PySem.F.plainAttrs_list PySem.F.slot_list_remove PySem.F.type_list_remove (mt_removeD hu) ho he (base_nc hb) (few1 hn) hl (star_ns hn) (back_ns rfl)) (fun _ _ _ h => h) fun {φ H xs ys z xs' p vs ws Q} h1 h2 h3 h4 k => by
  unfold lmF at h1
  split at h1 <;> rename_i e1 <;> try cases e1
  · obtain ⟨j, hj, e2⟩ := Option.map_eq_some_iff.mp h1
    cases e2
    unfold remF at hj
    split at hj
    · rename_i d p' ps hd hps
      split at hj
      · rename_i hs
        obtain ⟨hs1, hs2⟩ := hs
        cases h4 with
        | cons a1 a2 =>
          cases a2
          rw [hK]
          rw [List.findIdx?_eq_some_iff_getElem] at hj
          obtain ⟨lj, q1, q2⟩ := hj
          refine ⟨p, vs, _, p', ps, j, rfl, rfl, h2, a1.dp hd, h3.dp hps, hs1, fun d hd => List.all_eq_true.mp hs2 d hd, ⟨ps[j], List.getElem?_eq_getElem lj, q1⟩, fun m d hm hd => ?_, k _ _ .non (h3.erase j)⟩
          have lm : m < ps.length := by omega
          rw [List.getElem?_eq_getElem lm] at hd
          cases hd
          have := q2 m hm
          simpa using this
      · cases hj
    · cases hj
  · cases h1
theorem few2 {e2 : Expr} {env : PySem.Env} {cpos : Pos} (h : ns e = true) (h2 : ns e2 = true) : ((backTo cpos (starEach [e, e2] env)).all (fun x => !x.1) && (backToKw cpos (keywordEach [] env)).all (fun x => x.1.isSome)
      && decide (([e, e2] : List Expr).length + ([] : List Keyword).length + (if ([] : List Keyword).isEmpty then 0 else 1) < 30)) = true := by
  rw [star_ns h, star_ns h2]
  rfl
theorem s_insert {o e2 : Expr} {apos cpos : Pos} (hK : X.K = Γ.K) (hn : ns e = true) (hn2 : ns e2 = true) (hb : nc o = true) (hl : (apos.endLine == cpos.line) = true) (ho : PE X o (dE Γ W ga)) (he : PA X [e, e2] (dA Γ W gs)) :
    PE X (.Call (.Attribute o "insert" apos) [e, e2] [] cpos) (dE Γ W fun ρ s => (ga ρ s).bind fun x s => if meOk .insert s x = true then (gs ρ s).bind fun ys s => meF .insert s x ys else .stuck) :=
  s_met hK (fun _ _ h => h) (pe_bm PySem.F.plainAttrs_list PySem.F.slot_list_insert PySem.F.type_list_insert mt_insert ho he (base_nc hb) (few2 hn hn2) hl (star_ns hn) (back_ns (by simp [hn2]))) (fun _ _ _ h => h) fun {φ H xs ys z xs' p vs ws Q} h1 h2 h3 h4 k => by
  unfold lmF at h1
  split at h1 <;> rename_i e1 <;> try cases e1
  split at h1
  · rename_i hl
    cases h1
    match ws, h4 with
    | [_, _], .cons a1 (.cons a2 .nil) =>
      cases a1
      exact ⟨_, _, _, _, rfl, rfl, h2, by rw [h3.len]; exact hl.2.2, hl.1, hl.2.1, k _ _ .non (((h3.take _).append (.cons a2 .nil)).append (h3.drop _))⟩
  · cases h1
  · cases h1
theorem s_strq {m : Me} {r : V → List V → Hp → VK → Prop} {ex : Expr} (hm : ∀ s x, meOk m s x = true → ∃ t, x = .str t) (h : PE X ex (tBM X.K "str" r (dE Γ W ga) (dA Γ W gs)))
    (ok : ∀ {φ : Fx} {H s t ys ws} {Q : VK} {σ : St}, Rel Γ φ H s → Reps Γ φ H ws ys → Go Γ W φ H σ (meF m s (.str t) ys) (fun d s' φ' H' => ∀ v, Rep Γ φ' H' v d → Q v H') → r (.str (tS t)) ws H Q) :
    PE X ex (dE Γ W fun ρ s => (ga ρ s).bind fun x s => if meOk m s x = true then (gs ρ s).bind fun ys s => meF m s x ys else .stuck) := h.mono fun σ H Q ⟨φ, ρ, s, er, rel, go⟩ => by
  refine ⟨φ, ρ, s, er, rel, go.bind.imp fun x s1 φ1 H1 a1 r1 go1 v hv => ?_⟩
  split at go1
  · rename_i hk
    obtain ⟨t, rfl⟩ := hm _ _ hk
    cases hv
    exact ⟨rfl, ⟨φ1, ρ, s1, er.mono a1, r1, go1.bind.imp fun ys s2 φ2 H2 a2 r2 go2 ws hws => ok r2 hws go2⟩⟩
  · exact go1.elim
theorem strs_reps {φ : Fx} {H : Hp} : ∀ {vs : List V} {ds : List D} {ts : List T}, Reps Γ φ H vs ds → strsD ds = some ts → vs = (ts.map tS).map V.str
  | _, _, _, .nil, h => by simp [strsD] at h; subst h; rfl
  | _, _, _, .cons (d := d) a r, h => by
    cases d <;> simp only [strsD, Option.map_eq_some_iff, reduceCtorEq] at h
    obtain ⟨ts', h1, rfl⟩ := h
    cases a
    rw [strs_reps r h1]
    rfl
theorem reps_strs {φ : Fx} {H : Hp} : ∀ zs : List Str, Reps Γ φ H (zs.map V.str) (zs.map fun z => .str z.cps.toList)
  | [] => .nil
  | z :: zs => by
    refine .cons ?_ (reps_strs zs)
    have := Rep.str (Γ := Γ) (φ := φ) (H := H) z.cps.toList
    rwa [show tS z.cps.toList = z from rfl] at this
theorem rep_strz {φ : Fx} {H : Hp} (z : Str) : Rep Γ φ H (.str z) (.str z.cps.toList) := by
  have := Rep.str (Γ := Γ) (φ := φ) (H := H) z.cps.toList
  rwa [show tS z.cps.toList = z from rfl] at this
theorem str_only {m : Me} (h : m = .join ∨ m = .split ∨ m = .part) : ∀ s x, meOk m s x = true → ∃ t, x = .str t := by
  intro s x hk
  rcases h with rfl | rfl | rfl <;> cases x <;> first | exact ⟨_, rfl⟩ | (simp [meOk] at hk)
theorem s_join {o : Expr} {apos cpos : Pos} (hK : X.K = Γ.K) (hn : ns e = true) (hb : nc o = true) (hl : (apos.endLine == cpos.line) = true) (ho : PE X o (dE Γ W ga)) (he : PA X [e] (dA Γ W gs)) :
    PE X (.Call (.Attribute o "join" apos) [e] [] cpos) (dE Γ W fun ρ s => (ga ρ s).bind fun x s => if meOk .join s x = true then (gs ρ s).bind fun ys s => meF .join s x ys else .stuck) :=
  s_strq (str_only (.inl rfl)) (pe_bm PySem.F.plainAttrs_str PySem.F.slot_str_join PySem.F.type_str_join mt_join ho he (base_nc hb) (few1 hn) hl (star_ns hn) (back_ns rfl)) fun {φ H s t ys ws Q σ} r2 hws go => by
    match ys, hws, go with
    | [d], .cons h1 .nil, go =>
      simp only [meF] at go
      cases e : (itemsF s d).bind strsD with
      | none => rw [e] at go; exact go.elim
      | some ts =>
        rw [e] at go
        simp only at go
        split at go
        · rename_i hz
          obtain ⟨ds, e1, e2⟩ := Option.bind_eq_some_iff.mp e
          obtain ⟨a, vs, rfl, g1, g2⟩ := itemsF_ok e1 h1 r2
          have ev := strs_reps g2 e2
          subst ev
          refine ⟨_, a, ts.map tS, rfl, rfl, hK ▸ g1, ?_, ?_⟩
          · rw [List.map_map, List.length_map, tS_len]
            have : ((fun x : Str => x.length) ∘ tS) = List.length := by
              funext z
              exact tS_len z
            rw [this]
            exact hz
          · exact go φ H (.refl _ _) r2 _ (rep_strz _)
        · exact go.elim
theorem s_split {o : Expr} {apos cpos : Pos} (hn : ns e = true) (hb : nc o = true) (hl : (apos.endLine == cpos.line) = true) (ho : PE X o (dE Γ W ga)) (he : PA X [e] (dA Γ W gs)) :
    PE X (.Call (.Attribute o "split" apos) [e] [] cpos) (dE Γ W fun ρ s => (ga ρ s).bind fun x s => if meOk .split s x = true then (gs ρ s).bind fun ys s => meF .split s x ys else .stuck) :=
  s_strq (str_only (.inr (.inl rfl))) (pe_bm PySem.F.plainAttrs_str PySem.F.slot_str_split PySem.F.type_str_split mt_split ho he (base_nc hb) (few1 hn) hl (star_ns hn) (back_ns rfl)) fun {φ H s t ys ws Q σ} r2 hws go => by
    match ys, hws, go with
    | [.str u], .cons h1 .nil, go =>
      cases h1
      simp only [meF] at go
      split at go
      · rename_i hz
        refine ⟨_, _, rfl, rfl, ?_, by rw [tS_len]; exact hz.2, fun p hp => ?_⟩
        · rw [tS_len]
          simpa using hz.1
        · exact go φ _ (.fresh hp) (r2.fresh hp) _ (.lst upd_same (r2.out hp) ((reps_strs _).mono (.fresh hp)))
      · exact go.elim
theorem s_part {o : Expr} {apos cpos : Pos} (hn : ns e = true) (hb : nc o = true) (hl : (apos.endLine == cpos.line) = true) (ho : PE X o (dE Γ W ga)) (he : PA X [e] (dA Γ W gs)) :
    PE X (.Call (.Attribute o "partition" apos) [e] [] cpos) (dE Γ W fun ρ s => (ga ρ s).bind fun x s => if meOk .part s x = true then (gs ρ s).bind fun ys s => meF .part s x ys else .stuck) :=
  s_strq (str_only (.inr (.inr rfl))) (pe_bm PySem.F.plainAttrs_str PySem.F.slot_str_partition PySem.F.type_str_partition mt_partition ho he (base_nc hb) (few1 hn) hl (star_ns hn) (back_ns rfl)) fun {φ H s t ys ws Q σ} r2 hws go => by
    match ys, hws, go with
    | [.str u], .cons h1 .nil, go =>
      cases h1
      simp only [meF] at go
      split at go
      · rename_i hz
        refine ⟨_, _, rfl, rfl, ?_, by rw [tS_len]; exact hz.2, fun p hp => ?_⟩
        · rw [tS_len]
          simpa using hz.1
        · exact go φ _ (.fresh hp) (r2.fresh hp) _ (.tup (SqT.of upd_same) (.cons (rep_strz _) (.cons (rep_strz _) (.cons (rep_strz _) .nil))))
      · exact go.elim
theorem meOk_str {m : Me} {s : Stt} {x : D} (hm : m = .rfind ∨ m = .index) (h : meOk m s x = true) : ∃ t, x = .str t := by
  rcases hm with rfl | rfl <;> cases x <;> first | exact ⟨_, rfl⟩ | (simp [meOk] at h)
theorem s_strm {m : Me} {r : V → List V → Hp → VK → Prop} {ex : Expr} (hm : m = .rfind ∨ m = .index) (h : PE X ex (tBM X.K "str" r (dE Γ W ga) (dA Γ W gs)))
    (ok : ∀ {φ : Fx} {H s t ys ws} {Q : VK} {σ : St}, Rel Γ φ H s → Reps Γ φ H ws ys → Go Γ W φ H σ (meF m s (.str t) ys) (fun d s' φ' H' => ∀ v, Rep Γ φ' H' v d → Q v H') → r (.str (tS t)) ws H Q) :
    PE X ex (dE Γ W fun ρ s => (ga ρ s).bind fun x s => if meOk m s x = true then (gs ρ s).bind fun ys s => meF m s x ys else .stuck) := h.mono fun σ H Q ⟨φ, ρ, s, er, rel, go⟩ => by
  refine ⟨φ, ρ, s, er, rel, go.bind.imp fun x s1 φ1 H1 a1 r1 go1 v hv => ?_⟩
  split at go1
  · rename_i hk
    obtain ⟨t, rfl⟩ := meOk_str hm hk
    cases hv
    exact ⟨rfl, ⟨φ1, ρ, s1, er.mono a1, r1, go1.bind.imp fun ys s2 φ2 H2 a2 r2 go2 ws hws => ok r2 hws go2⟩⟩
  · exact go1.elim
theorem s_rfind {o : Expr} {apos cpos : Pos} (hn : ns e = true) (hb : nc o = true) (hl : (apos.endLine == cpos.line) = true) (ho : PE X o (dE Γ W ga)) (he : PA X [e] (dA Γ W gs)) :
    PE X (.Call (.Attribute o "rfind" apos) [e] [] cpos) (dE Γ W fun ρ s => (ga ρ s).bind fun x s => if meOk .rfind s x = true then (gs ρ s).bind fun ys s => meF .rfind s x ys else .stuck) :=
  s_strm (.inl rfl) (pe_bm PySem.F.plainAttrs_str PySem.F.slot_str_rfind PySem.F.type_str_rfind mt_rfind ho he (base_nc hb) (few1 hn) hl (star_ns hn) (back_ns rfl)) fun {φ H s t ys ws Q σ} r2 hws go => by
    match ys, hws, go with
    | [.str u], .cons h1 .nil, go =>
      cases h1
      exact ⟨_, _, rfl, rfl, go φ H (.refl _ _) r2 _ (.int _)⟩
theorem s_sindex {o : Expr} {apos cpos : Pos} (hn : ns e = true) (hb : nc o = true) (hl : (apos.endLine == cpos.line) = true) (ho : PE X o (dE Γ W ga)) (he : PA X [e] (dA Γ W gs)) :
    PE X (.Call (.Attribute o "index" apos) [e] [] cpos) (dE Γ W fun ρ s => (ga ρ s).bind fun x s => if meOk .index s x = true then (gs ρ s).bind fun ys s => meF .index s x ys else .stuck) :=
  s_strm (.inr rfl) (pe_bm PySem.F.plainAttrs_str PySem.F.slot_str_index PySem.F.type_str_index mt_sindex ho he (base_nc hb) (few1 hn) hl (star_ns hn) (back_ns rfl)) fun {φ H s t ys ws Q σ} r2 hws go => by
    match ys, hws, go with
    | [.str u], .cons h1 .nil, go =>
      cases h1
      cases e : Builtin.Str.occurrences (tS t) (tS u) 0 (tS t).length 1 with
      | nil =>
        simp only [meF, e] at go
        exact go.elim
      | cons i rest =>
        simp only [meF, e] at go
        exact ⟨_, _, i, rest, rfl, rfl, e, go φ H (.refl _ _) r2 _ (.int _)⟩
theorem tS_of (z : Str) : tS z.cps.toList = z := rfl
theorem s_str0 {m : Me} {r : V → List V → Hp → VK → Prop} {ex : Expr} (hm : m = .upper ∨ m = .lower) (h : PE X ex (tBM0 X.K "str" r (dE Γ W ga)))
    (ok : ∀ {φ : Fx} {H s t} {Q : VK} {σ : St}, Rel Γ φ H s → Go Γ W φ H σ (meF m s (.str t) []) (fun d s' φ' H' => ∀ v, Rep Γ φ' H' v d → Q v H') → r (.str (tS t)) [] H Q) :
    PE X ex (dE Γ W fun ρ s => (ga ρ s).bind fun x s => if meOk m s x = true then (R.ok [] s).bind fun ys s => meF m s x ys else .stuck) := h.mono fun σ H Q ⟨φ, ρ, s, er, rel, go⟩ => by
  refine ⟨φ, ρ, s, er, rel, go.bind.imp fun x s1 φ1 H1 a1 r1 go1 v hv => ?_⟩
  split at go1
  · rename_i hk
    obtain ⟨t, rfl⟩ : ∃ t, x = .str t := by
      rcases hm with rfl | rfl <;> cases x <;> first | exact ⟨_, rfl⟩ | (simp [meOk] at hk)
    cases hv
    exact ⟨rfl, ok r1 go1⟩
  · exact go1.elim
theorem s_upper {o : Expr} {apos cpos : Pos} (hb : nc o = true) (hl : (apos.endLine == cpos.line) = true) (ho : PE X o (dE Γ W ga)) :
    PE X (.Call (.Attribute o "upper" apos) [] [] cpos) (dE Γ W fun ρ s => (ga ρ s).bind fun x s => if meOk .upper s x = true then (R.ok [] s).bind fun ys s => meF .upper s x ys else .stuck) :=
  s_str0 (.inl rfl) (pe_bm0 PySem.F.plainAttrs_str PySem.F.slot_str_upper PySem.F.type_str_upper mt_upper ho (base_nc hb) hl) fun {φ H s t Q σ} r2 go => by
    by_cases hz : t.length ≤ 5592405
    · simp only [meF, hz, if_true] at go
      refine ⟨_, rfl, rfl, by rw [tS_len]; exact hz, go φ H (.refl _ _) r2 _ ?_⟩
      have := Rep.str (Γ := Γ) (φ := φ) (H := H) (Txt.upper (tS t)).cps.toList
      rwa [tS_of] at this
    · simp only [meF, hz, if_false] at go
      exact go.elim
theorem s_lower {o : Expr} {apos cpos : Pos} (hb : nc o = true) (hl : (apos.endLine == cpos.line) = true) (ho : PE X o (dE Γ W ga)) :
    PE X (.Call (.Attribute o "lower" apos) [] [] cpos) (dE Γ W fun ρ s => (ga ρ s).bind fun x s => if meOk .lower s x = true then (R.ok [] s).bind fun ys s => meF .lower s x ys else .stuck) :=
  s_str0 (.inr rfl) (pe_bm0 PySem.F.plainAttrs_str PySem.F.slot_str_lower PySem.F.type_str_lower mt_lower ho (base_nc hb) hl) fun {φ H s t Q σ} r2 go => by
    by_cases hz : t.length ≤ 5592405
    · simp only [meF, hz, if_true] at go
      refine ⟨_, rfl, rfl, by rw [tS_len]; exact hz, go φ H (.refl _ _) r2 _ ?_⟩
      have := Rep.str (Γ := Γ) (φ := φ) (H := H) (Txt.lower (tS t)).cps.toList
      rwa [tS_of] at this
    · simp only [meF, hz, if_false] at go
      exact go.elim
theorem s_lindex {o : Expr} {apos cpos : Pos} (hK : X.K = Γ.K) (hn : ns e = true) (hb : nc o = true) (hl : (apos.endLine == cpos.line) = true) (ho : PE X o (dE Γ W ga)) (he : PA X [e] (dA Γ W gs)) :
    PE X (.Call (.Attribute o "index" apos) [e] [] cpos) (dE Γ W fun ρ s => (ga ρ s).bind fun x s => if meOk .lindex s x = true then (gs ρ s).bind fun ys s => meF .lindex s x ys else .stuck) := (pe_bm (T := "list") PySem.F.plainAttrs_list PySem.F.slot_list_index PySem.F.type_list_index mt_index ho he (base_nc hb) (few1 hn) hl (star_ns hn) (back_ns rfl)).mono fun σ H Q ⟨φ, ρ, s, er, rel, go⟩ => by
  refine ⟨φ, ρ, s, er, rel, go.bind.imp fun x s1 φ1 H1 a1 r1 go1 v hv => ?_⟩
  split at go1
  · rename_i hk
    obtain ⟨xs, rfl⟩ : ∃ xs, x = .lst xs := by
      cases x <;> first | exact ⟨_, rfl⟩ | (simp [meOk] at hk)
    cases hv with
    | lst b1 n1 c1 =>
      refine ⟨.inl ⟨rfl, _, SqL.of b1⟩, φ1, ρ, s1, er.mono a1, r1, go1.bind.imp fun ys s2 φ2 H2 a2 r2 go2 ws hws => ?_⟩
      have c2 := c1.mono a2
      have b2 := a2.keep _ _ b1 not_lst n1.1
      match ys, hws, go2 with
      | [.bl b], .cons h1 .nil, go2 =>
        cases h1
        cases e1 : bools xs with
        | none =>
          simp only [meF, e1] at go2
          exact go2.elim
        | some bs =>
          cases e2 : bs.findIdx? (· == b) with
          | none =>
            simp only [meF, e1, e2] at go2
            exact go2.elim
          | some j =>
            simp only [meF, e1, e2] at go2
            obtain ⟨hj, h3, h4⟩ := List.findIdx?_eq_some_iff_getElem.mp e2
            have ev := c2.bools e1
            have q := go2 φ2 H2 (.refl _ _) r2 _ (.int _)
            refine ⟨_, bs.map V.bl, .bl b, j, .bl bs[j], rfl, rfl, ?_, rfl, ?_, ?_, ?_, fun m z' hm hz => ?_, q⟩
            · rw [← ev]
              exact SqL.of b2
            · simp [flatV]
            · simp [hj]
            · simpa [eqV] using h3
            · rw [List.getElem?_map] at hz
              obtain ⟨y, hy, rfl⟩ := Option.map_eq_some_iff.mp hz
              obtain ⟨hm', hy'⟩ := List.getElem?_eq_some_iff.mp hy
              have := h4 m hm
              subst hy'
              simpa [eqV] using this
  · exact go1.elim
/-- what a def promises: the evaluator's answer -/
def spD (Γ : Gm) (np : Nat) (g : List D → Stt → R D) : Sp := fun vs H Q E => ∃ φ s ds, ds.length = np ∧ Reps Γ φ H vs ds ∧ Rel Γ φ H s ∧ Go Γ (fun cls dd _ H => E cls dd H) φ H [] (g ds s) fun d s' φ' H' => ∀ v, Rep Γ φ' H' v d → Q v H'
theorem spD_len {np : Nat} {g : List D → Stt → R D} {vs : List V} {H : Hp} {Q : VK} {E : XK} (h : spD Γ np g vs H Q E) : vs.length = np := by
  obtain ⟨φ, s, ds, l, r, _⟩ := h
  rw [r.len, l]
theorem Go.wish {φ : Fx} {H : Hp} {σ : St} {r : R D} {K : D → Stt → Fx → Hp → Prop} (h : Go Γ W φ H σ r K) : Go Γ (fun cls dd _ H => WE W σ cls dd H) φ H [] r K := by
  cases r <;> exact h
section
variable {k : Nat} {f : Addr} {fd : FuncData} {ps : List Str} {g : List D → Stt → R D} {x : Str} {p : Pos}
theorem spD_of {vs : List V} {ds : List D} {φ : Fx} {H : Hp} {s : Stt} {σ : St} {Q : VK} (hst : ∀ ds s, ds.length ≠ ps.length → g ds s = .stuck) (hvs : Reps Γ φ H vs ds) (r1 : Rel Γ φ H s) (go1 : Go Γ W φ H σ (g ds s) fun d s' φ' H' => ∀ v, Rep Γ φ' H' v d → Q v H') : spD Γ ps.length g vs H Q (WE W σ) := by
  refine ⟨φ, s, ds, ?_, hvs, r1, go1.wish⟩
  by_cases e : ds.length = ps.length
  · exact e
  · rw [hst ds s e] at go1
    exact go1.elim
theorem s_call (F : FnOk X.prog X.w X.K X.mg X.base (L2.CX X.prog X.w) k f fd ps (spD Γ ps.length g)) (hr : Room k X.A) (hg : Gl X x) (hm : X.mg x = some (.ref f)) (hk : PySem.W.keepIn X.K (.ref f) = true) (hb : Binds X.K fd ps [])
    (tk : Takes X W) (hn : (e :: es).all ns = true) (hst : ∀ ds s, ds.length ≠ ps.length → g ds s = .stuck) (ha : PA X (e :: es) (dA Γ W gs)) (hdb : (x == ("__debug__" : Str)) = false) : PE X (.Call (.Name x p) (e :: es) [] pos) (dE Γ W fun ρ s => (gs ρ s).bind fun xs s => g xs s) := by
  simp only [List.all_cons, Bool.and_eq_true] at hn
  refine (pe_callSD F hr hg hm hk hb .nil (fun σ => passAt tk σ) ha hdb (star_ns hn.1) (back_ns hn.2)).mono fun σ H Q ⟨φ, ρ, s, er, rel, go⟩ => ?_
  refine ⟨φ, ρ, s, er, rel, go.bind.imp fun ds s1 φ1 H1 a1 r1 go1 vs hvs => ?_⟩
  show spD Γ ps.length g (vs ++ []) H1 Q (WE W σ)
  rw [List.append_nil]
  exact spD_of hst hvs r1 go1
theorem s_call0 (F : FnOk X.prog X.w X.K X.mg X.base (L2.CX X.prog X.w) k f fd ps (spD Γ ps.length g)) (hr : Room k X.A) (hg : Gl X x) (hm : X.mg x = some (.ref f)) (hk : PySem.W.keepIn X.K (.ref f) = true) (hb : Binds X.K fd ps [])
    (tk : Takes X W) (hst : ∀ ds s, ds.length ≠ ps.length → g ds s = .stuck) (hdb : (x == ("__debug__" : Str)) = false) : PE X (.Call (.Name x p) [] [] pos) (dE Γ W fun ρ s => (R.ok [] s).bind fun xs s => g xs s) := by
  refine ⟨fun pins s σ H Q I ⟨φ, ρ, s0, er, rel, go⟩ => ?_⟩
  refine wpAny_Call_Name_kw (ld_glob I hg hm ?_ hdb)
  refine PySem.W.callWith_K0 I.kIn hk ?_
  exact run_fnSD (E := WE W) (us := []) (vs := []) F hr hb .nil (passAt tk σ) I .nil (spD_of hst .nil rel go)
theorem run_fnKS {CX : CXT} {ks : List Str} {sp : Sp} {E : XK} {n : Nat} {gv : List Value → List Value → List Value} {gV : List V → List V → List V} {pins : List (Addr × Obj)} {σ : St} {H : Hp} {s : Shared} {Q : VK} {us ws : List Value} {vs zs : List V}
    (F : FnOk X.prog X.w X.K X.mg X.base CX k f fd ps sp) (hr : Room k X.A) (hb : KBn X.K fd ps n ks gv gV) (hx : PassesAt CX X σ E) (hl : vs.length = n) (hw : zs.length = ks.length)
    (I : L2.Inv X pins σ H s) (r : Vals vs us) (rz : Vals zs ws) (h : sp (gV vs zs) H Q E) : wpAny (model X.prog X.w) X.A (call (.ref f) us (ks.zip ws)) (EP X pins σ Q) X.xe s := by
  have r2 := hb.rel r rz
  refine wpAny_call (codeAny_mono (F.run X.A X.stack s H ⟨us, ks.zip ws⟩ (gv us ws) (gV vs zs) Q E hr I.env0 (hb.to s us ws I.kIn (r.length.symm.trans hl) (rz.length.symm.trans hw)) r2 h) fun r s' hq => ?_)
  cases r with
  | error e => exact hx pins H s e s' I hq
  | ok fl =>
    cases fl with
    | ret u => exact I.after hq
    | next => exact False.elim hq
    | brk => exact False.elim hq
    | cont => exact False.elim hq
/-- how a call with keywords binds -/
structure ShOk (Γ : Gm) (K : PySem.W.Frag) (fd : FuncData) (ps : List Str) (sh : Shape) : Prop where
  ex : ∃ gv gV, KBn K fd ps sh.n sh.ks gv gV ∧ ∀ {φ H vs ds zs es out}, Reps Γ φ H vs ds → Reps Γ φ H zs es → ds.length = sh.n → es.length = sh.ks.length → srcs sh.src (ds ++ es) = some out → Reps Γ φ H (gV vs zs) out
/-- the keywords' names -/
def kwNames : List Keyword → List Str → Bool
  | [], [] => true
  | ⟨some x, _, _⟩ :: r, k :: ks => decide (x = k) && kwNames r ks
  | _, _ => false
theorem kw_all {env : PySem.Env} : ∀ {kws : List Keyword} {ks : List Str}, kwNames kws ks = true → (backToKw pos (keywordEach kws env)).all (·.1.isSome) = true ∧ (backToKw pos (keywordEach kws env)).filterMap (·.1) = ks ∧ (backToKw pos (keywordEach kws env)).any (·.1.isNone) = false
  | [], [], _ => ⟨rfl, rfl, rfl⟩
  | [], _ :: _, h => by simp [kwNames] at h
  | ⟨none, _, _⟩ :: _, _, h => by simp [kwNames] at h
  | ⟨some x, _, _⟩ :: _, [], h => by simp [kwNames] at h
  | ⟨some x, e, q⟩ :: r, k :: ks, h => by
    simp only [kwNames, Bool.and_eq_true, decide_eq_true_eq] at h
    obtain ⟨h1, h2, h3⟩ := kw_all (env := env) h.2
    refine ⟨?_, ?_, ?_⟩
    · show (true && (backToKw pos (keywordEach r env)).all (·.1.isSome)) = true
      rw [h1]; rfl
    · show x :: (backToKw pos (keywordEach r env)).filterMap (·.1) = k :: ks
      rw [h2, h.1]
    · show (false || (backToKw pos (keywordEach r env)).any (·.1.isNone)) = false
      rw [h3]; rfl
variable {sh : Shape} {kws : List Keyword} {gk : G.Env → Stt → R (List D)}
theorem Go.callK {φ : Fx} {H : Hp} {σ : St} {s : Stt} {xs ys : List D} {K : D → Stt → Fx → Hp → Prop} (h : Go Γ W φ H σ (callK sh g xs ys s) K) : xs.length = sh.n ∧ ys.length = sh.ks.length ∧ ∃ zs, srcs sh.src (xs ++ ys) = some zs ∧ Go Γ W φ H σ (g zs s) K := by
  unfold G.callK at h
  split at h
  · rename_i hl
    split at h
    · rename_i zs e
      exact ⟨hl.1, hl.2, zs, e, h⟩
    · exact h.elim
  · exact h.elim
theorem s_callk (F : FnOk X.prog X.w X.K X.mg X.base (L2.CX X.prog X.w) k f fd ps (spD Γ ps.length g)) (S : ShOk Γ X.K fd ps sh) (hr : Room k X.A) (hg : Gl X x) (hm : X.mg x = some (.ref f)) (hk : PySem.W.keepIn X.K (.ref f) = true)
    (tk : Takes X W) (hn : (e :: es).all ns = true) (hst : ∀ ds s, ds.length ≠ ps.length → g ds s = .stuck) (hkn : kwNames kws sh.ks = true) (ha : PA X (e :: es) (dA Γ W gs)) (hkw : PK X kws (dA Γ W gk)) (hdb : (x == ("__debug__" : Str)) = false) :
    PE X (.Call (.Name x p) (e :: es) kws pos) (dE Γ W fun ρ s => (gs ρ s).bind fun xs s => (gk ρ s).bind fun ys s => callK sh g xs ys s) := by
  obtain ⟨gv, gV, KB, rp⟩ := S.ex
  obtain ⟨h1, h2, h3⟩ := kw_all (pos := pos) (env := X.env) hkn
  simp only [List.all_cons, Bool.and_eq_true] at hn
  refine ⟨fun pins s σ H Q I ⟨φ, ρ, s0, er, rel, go⟩ => ?_⟩
  refine wpAny_Call_Name_kw (ld_glob I hg hm ?_ hdb)
  have hp : ((backTo pos (starEach (e :: es) X.env)).any (·.1) || (backToKw pos (keywordEach kws X.env)).any (·.1.isNone)) = false := by
    rw [h3, back_ns (es := e :: es) (by simp only [List.all_cons, Bool.and_eq_true]; exact hn)]
    rfl
  refine PySem.W.callWith_KW (h₀ := X.base) I.ok.mod.kin hk h1 (thn (ha.run pos pins s σ H (fun vs H1 => dA Γ W gk σ H1 fun zs H2 => vs.length = sh.n ∧ zs.length = sh.ks.length ∧ spD Γ ps.length g (gV vs zs) H2 Q (WE W σ)) I ⟨φ, ρ, s0, er, rel, go.bind.imp fun ds s1 φ1 H1 a1 r1 go1 vs hvs => ?_⟩) fun us s1 ⟨vs, H1, I1, r, q⟩ => ?_) hp (star_ns hn.1)
  · refine ⟨φ1, ρ, s1, er.mono a1, r1, go1.bind.imp fun ys s2 φ2 H2 a2 r2 go2 zs hzs => ?_⟩
    obtain ⟨l1, l2, out, e1, go3⟩ := go2.callK
    exact ⟨by rw [hvs.len, l1], by rw [hzs.len, l2], spD_of hst (rp (hvs.mono a2) hzs l1 l2 e1) r2 go3⟩
  · refine thn (hkw.run pos pins s1 σ H1 _ I1 q) fun ws s2 ⟨zs, H2, I2, rz, l1, l2, q2⟩ => ⟨I2.kIn, ?_⟩
    rw [h2]
    exact run_fnKS F hr KB (passAt tk σ) l1 l2 I2 r rz q2
theorem s_callk0 (F : FnOk X.prog X.w X.K X.mg X.base (L2.CX X.prog X.w) k f fd ps (spD Γ ps.length g)) (S : ShOk Γ X.K fd ps sh) (hr : Room k X.A) (hg : Gl X x) (hm : X.mg x = some (.ref f)) (hk : PySem.W.keepIn X.K (.ref f) = true)
    (tk : Takes X W) (hst : ∀ ds s, ds.length ≠ ps.length → g ds s = .stuck) (hkn : kwNames kws sh.ks = true) (hkw : PK X kws (dA Γ W gk)) (hdb : (x == ("__debug__" : Str)) = false) :
    PE X (.Call (.Name x p) [] kws pos) (dE Γ W fun ρ s => (R.ok [] s).bind fun xs s => (gk ρ s).bind fun ys s => callK sh g xs ys s) := by
  obtain ⟨gv, gV, KB, rp⟩ := S.ex
  obtain ⟨h1, h2, h3⟩ := kw_all (pos := pos) (env := X.env) hkn
  refine ⟨fun pins s σ H Q I ⟨φ, ρ, s0, er, rel, go⟩ => ?_⟩
  refine wpAny_Call_Name_kw (ld_glob I hg hm ?_ hdb)
  refine PySem.W.callWith_KW0 (h₀ := X.base) I.ok.mod.kin hk h1 ?_ (by rw [h3]; rfl)
  have go : Go Γ W φ H σ ((gk ρ s0).bind fun ys s => callK sh g [] ys s) _ := go
  refine thn (hkw.run pos pins s σ H (fun zs H2 => 0 = sh.n ∧ zs.length = sh.ks.length ∧ spD Γ ps.length g (gV [] zs) H2 Q (WE W σ)) I ⟨φ, ρ, s0, er, rel, go.bind.imp fun ys s2 φ2 H2 a2 r2 go2 zs hzs => ?_⟩) fun ws s2 ⟨zs, H2, I2, rz, l1, l2, q2⟩ => ⟨I2.kIn, ?_⟩
  · obtain ⟨l1, l2, out, e1, go3⟩ := go2.callK
    exact ⟨l1, by rw [hzs.len, l2], spD_of hst (rp .nil hzs l1 l2 e1) r2 go3⟩
  · rw [h2]
    exact run_fnKS (us := []) (vs := []) F hr KB (passAt tk σ) l1 l2 I2 .nil rz q2
theorem s_knil : PK X [] (dA Γ W fun _ s => .ok [] s) := ⟨fun pos pins s σ H Q I ⟨φ, ρ, s0, er, rel, go⟩ => pk_nil.run pos pins s σ H Q I (go φ H (.refl _ _) rel [] .nil)⟩
theorem s_kcons {nm : Option Str} {kpos : Pos} (ha : PE X a (dE Γ W ga)) (hr : PK X kws (dA Γ W gk)) : PK X (⟨nm, a, kpos⟩ :: kws) (dA Γ W fun ρ s => (ga ρ s).bind fun x s => (gk ρ s).bind fun xs s => .ok (x :: xs) s) :=
  ⟨fun pos pins s σ H Q I ⟨φ, ρ, s0, er, rel, go⟩ => (pk_cons ha hr).run pos pins s σ H Q I ⟨φ, ρ, s0, er, rel, go.bind.imp fun x s1 φ1 H1 a1 r1 go1 v hv =>
    ⟨φ1, ρ, s1, er.mono a1, r1, go1.bind.imp fun xs s2 φ2 H2 a2 r2 go2 vs hvs => go2 φ2 H2 (.refl _ _) r2 _ (.cons (hv.mono a2) hvs)⟩⟩⟩
end
end
end G
set_option Elab.async false
set_option linter.all false
set_option maxRecDepth 100000
namespace G
open PySem L2
section
variable {Γ : Gm} {W : WX} {X : Cx} {pos : Pos} {a b c e : Expr} {ga gb gc ge : G.Env → Stt → R D} {es : List Expr} {gs : G.Env → Stt → R (List D)} {st : Stmt} {sts sts' : List Stmt} {g1 g2 : G.Env → Stt → RS} {gt : G.Env → Stt → R Bool}
/-- no comprehension -/
def ncomp : Expr → Bool
  | .ListComp .. => false
  | .SetComp .. => false
  | .DictComp .. => false
  | _ => true
theorem swaps_n {t : Option Expr} {l : Nat} {env : PySem.Env} (h : ncomp e = true) : swapsWith e t l env = pure false := by
  cases e <;> first | rfl | exact nomatch h
theorem swaps_s {t : Expr} {l : Nat} {env : PySem.Env} (h : ncomp e = true) : swapsWithSole [t] e l env = pure false := swaps_n h
theorem GoS.here {φ : Fx} {H : Hp} {σ : St} {ρ : G.Env} {s : Stt} {D : Ends} (h : GoS Γ W φ H (.nx ρ s) D) (rel : Rel Γ φ H s) (er : ER Γ φ H σ ρ) : D.nx σ H := h φ H σ (.refl _ _) rel er
theorem ss_expr (h : ncomp e = true) (he : PE X e (dE Γ W ge)) : PS X (.Expr e pos) (dS Γ W fun ρ s => (ge ρ s).st ρ fun _ s => .nx ρ s) := (ps_expr he (swaps_n h)).mono fun D σ H ⟨φ, ρ, s, er, rel, go⟩ =>
  ⟨φ, ρ, s, er, rel, (go.st er).imp fun x s1 φ1 H1 a1 r1 go1 v hv => go1.here r1 (er.mono a1)⟩
theorem ss_ret (he : PE X e (dE Γ W ge)) : PS X (.Return (some e) pos) (dS Γ W fun ρ s => (ge ρ s).st ρ fun x s => .rt x s) := (ps_ret he).mono fun D σ H ⟨φ, ρ, s, er, rel, go⟩ =>
  ⟨φ, ρ, s, er, rel, (go.st er).imp fun x s1 φ1 H1 a1 r1 go1 v hv => go1 φ1 H1 v (.refl _ _) r1 hv⟩
theorem ss_retN : PS X (.Return none pos) (dS Γ W fun _ s => .rt .non s) := ps_retN.mono fun D σ H ⟨φ, ρ, s, er, rel, go⟩ => go φ H .non (.refl _ _) rel .non
theorem ss_pass : PS X (.Pass pos) (dS Γ W fun ρ s => .nx ρ s) := ps_pass.mono fun D σ H ⟨φ, ρ, s, er, rel, go⟩ => go.here rel er
theorem ss_brk : PS X (.Break pos) (dS Γ W fun ρ s => .bk ρ s) := ps_break.mono fun D σ H ⟨φ, ρ, s, er, rel, go⟩ => go φ H σ (.refl _ _) rel er
theorem ss_cont : PS X (.Continue pos) (dS Γ W fun ρ s => .ct ρ s) := ps_continue.mono fun D σ H ⟨φ, ρ, s, er, rel, go⟩ => go φ H σ (.refl _ _) rel er
theorem ss_never : PS X st (dS Γ W fun _ _ => .stuck) := ps_never.mono fun D σ H ⟨φ, ρ, s, er, rel, go⟩ => go.elim
theorem ss_nil : PSs X [] (dS Γ W fun ρ s => .nx ρ s) := pss_nil.mono fun D σ H ⟨φ, ρ, s, er, rel, go⟩ => go.here rel er
theorem ss_cons (h1 : PS X st (dS Γ W g1)) (h2 : PSs X sts (dS Γ W g2)) : PSs X (st :: sts) (dS Γ W fun ρ s => (g1 ρ s).seq fun ρ s => g2 ρ s) := (pss_cons h1 h2).mono fun D σ H ⟨φ, ρ, s, er, rel, go⟩ => by
  refine ⟨φ, ρ, s, er, rel, ?_⟩
  have q := go.seq
  cases e : g1 ρ s with
  | nx ρ1 s1 =>
    rw [e] at q
    exact fun φ1 H1 σ1 a r e => let ⟨ρ', s', φ', x1, x2, x3⟩ := q φ1 H1 σ1 a r e; ⟨φ', ρ', s', x1, x2, x3⟩
  | bk ρ1 s1 => rw [e] at q; exact q
  | ct ρ1 s1 => rw [e] at q; exact q
  | rt d s1 => rw [e] at q; exact q
  | exc c fs ρ1 s1 => rw [e] at q; exact q
  | stuck => rw [e] at q; exact q
theorem ss_if (hc : PT X c (dT Γ W gt)) (h1 : PSs X sts (dS Γ W g1)) (h2 : PSs X sts' (dS Γ W g2)) : PS X (.If c sts sts' pos) (dS Γ W fun ρ s => (gt ρ s).st ρ fun k s => if k = true then g1 ρ s else g2 ρ s) := (ps_if hc h1 h2).mono fun D σ H ⟨φ, ρ, s, er, rel, go⟩ => by
  refine ⟨φ, ρ, s, er, rel, (go.st er).imp fun k s1 φ1 H1 a1 r1 go1 => ?_⟩
  cases k with
  | true => exact ⟨φ1, ρ, s1, er.mono a1, r1, go1⟩
  | false => exact ⟨φ1, ρ, s1, er.mono a1, r1, go1⟩
/-- no tuple display -/
def ntup : Expr → Bool
  | .Tuple .. => false
  | _ => true
theorem ss_unp {is : List Nat} {n : Nat} {tes : List Expr} {kk} {tp : Pos} (hc : X.calm = true) (hK : X.K = Γ.K) (hn : is.length = n) (h2 : 2 ≤ n) (hg : PG X (.Tuple tes kk tp) (gTup X.K n (gNames is))) (h : ncomp e = true) (ht : ntup e = true) (he : PE X e (dE Γ W ge)) :
    PS X (.Assign [.Tuple tes kk tp] e pos) (dS Γ W fun ρ s => (ge ρ s).st ρ fun x s => match tgF is x ρ with
      | some ρ' => .nx ρ' s
      | none => .stuck) := by
  refine (ps_asg he hg (swaps_s h) ?_ rfl).mono fun D σ H ⟨φ, ρ, s, er, rel, go⟩ => ?_
  · cases e <;> first | rfl | exact nomatch ht
  · refine ⟨φ, ρ, s, er, rel, (go.st er).imp fun x s1 φ1 H1 a1 r1 go1 v hv => ?_⟩
    cases e1 : tgF is x ρ with
    | none => rw [e1] at go1; exact go1.elim
    | some ρ' =>
      rw [e1] at go1
      rw [hK]
      exact (tg_tup hn h2).go (er.mono a1) hv e1 fun σ' er' _ => go1.here r1 er'
theorem ss_unpl {is : List Nat} {n : Nat} {tes : List Expr} {kk} {tp : Pos} (hK : X.K = Γ.K) (hn : is.length = n) (hg : PG X (.Tuple tes kk tp) (gUnl X.K n (gNames is))) (h : ncomp e = true) (ht : ntup e = true) (he : PE X e (dE Γ W ge)) :
    PS X (.Assign [.Tuple tes kk tp] e pos) (dS Γ W fun ρ s => (ge ρ s).st ρ fun x s => match listF s x with
      | some xs => if is.length = xs.length then .nx ((is.zip xs).foldl (fun ρ p => ρ.set p.1 (some p.2)) ρ) s else .stuck
      | none => .stuck) := by
  refine (ps_asg he hg (swaps_s h) ?_ rfl).mono fun D σ H ⟨φ, ρ, s, er, rel, go⟩ => ?_
  · cases e <;> first | rfl | exact nomatch ht
  · refine ⟨φ, ρ, s, er, rel, (go.st er).imp fun x s1 φ1 H1 a1 r1 go1 v hv => ?_⟩
    cases e1 : listF s1 x with
    | none => rw [e1] at go1; exact go1.elim
    | some xs =>
      rw [e1] at go1
      simp only at go1
      by_cases hl : is.length = xs.length
      · rw [if_pos hl] at go1
        obtain ⟨a, vs, rfl, h1, q⟩ := listF_ok e1 hv r1
        rw [hK]
        exact ⟨a, vs, rfl, SqL.of h1, by rw [q.len, ← hl]; exact hn, gNames_ok q (er.mono a1) hl fun σ' er' _ => go1.here r1 er'⟩
      · rw [if_neg hl] at go1
        exact go1.elim
theorem ss_aug {i : Nat} {x : Str} {p : Pos} (hN : X.N.Nodup) (hi : X.N[i]? = some x) (hx : Loc X.env.scope x) (hf : X.fn x = true ∨ X.env.scope.names.lookup x = some .local) (he : PE X e (dE Γ W ge)) :
    PS X (.AugAssign (.Name x p) .Add e pos) (dS Γ W fun ρ s => (R.of (ρ[i]?.join) s).st ρ fun x s => (ge ρ s).st ρ fun y s => (R.of (augF .add x y) s).st ρ fun z s => .nx (ρ.set i (some z)) s) := by
  have ip : PIp X .Add (fun x y H Q => ipI (fun i j => i + j) x y H Q ∨ ∃ i j, x = .str i ∧ y = .str j ∧ i.length + j.length ≤ sizeLine ∧ Q (.str (i ++ j)) H) := by
    intro pins s σ H x y v u Q I r1 r2 h
    rcases h with h | h
    · exact ip_add pins s σ H x y v u Q I r1 r2 h
    · exact iop_add_str pins s σ H x y v u Q I r1 r2 h
  refine (ps_aug hN hi hx he ip hf).mono fun D σ H ⟨φ, ρ, s, er, rel, go⟩ => ?_
  obtain ⟨d, e1, k⟩ := (go.st er).of
  obtain ⟨v, h1, h2⟩ := er.var e1
  have go := k φ H (.refl _ _) rel
  refine ⟨v, h1, φ, ρ, s, er, rel, (go.st er).imp fun y s1 φ1 H1 a1 r1 go1 u hu => ?_⟩
  have h3 := h2.mono a1
  have er1 := er.mono a1
  obtain ⟨z, hz, k1⟩ := (go1.st er1).of
  have k2 := k1 φ1 H1 (.refl _ _) r1
  unfold augF at hz
  split at hz
  · cases hz
    cases h3
    cases hu
    exact .inl ⟨_, _, rfl, rfl, k2.here r1 (er1.set (.int _) i)⟩
  · split at hz
    · rename_i hl
      cases hz
      cases h3
      cases hu
      refine .inr ⟨_, _, rfl, rfl, by rw [tS_len, tS_len]; exact hl, ?_⟩
      rw [← tS_app]
      exact k2.here r1 (er1.set (.str _) i)
    · cases hz
  · cases hz
/-- no slice -/
def nsl : Expr → Bool
  | .Slice .. => false
  | _ => true
theorem ss_setix {o i : Expr} {go_ gi : G.Env → Stt → R D} {p : Pos} (hsl : nsl i = true) (h : ncomp e = true) (ho : PE X o (dE Γ W go_)) (hi : PE X i (dE Γ W gi)) (he : PE X e (dE Γ W ge)) :
    PS X (.Assign [.Subscript o i p] e pos) (dS Γ W fun ρ s => (ge ρ s).st ρ fun y s => (go_ ρ s).st ρ fun x s => (gi ρ s).st ρ fun z s => match x, z with
    | .ref n, .int i => match s[n]? with
      | some (.lst xs) => match ixN xs.length i with
        | some j => .nx ρ (s.set n (.lst (xs.set j y)))
        | none => .stuck
      | _ => .stuck
    | _, _ => .stuck) := by
  refine (ps_asg he (pg_sub ho hi set_list (fun v => by cases i <;> first | rfl | exact nomatch hsl)) (swaps_s h) rfl rfl).mono fun D σ H ⟨φ, ρ, s, er, rel, go⟩ => ?_
  refine ⟨φ, ρ, s, er, rel, (go.st er).imp fun y s1 φ1 H1 a1 r1 go1 v hv => ?_⟩
  have er1 := er.mono a1
  refine ⟨φ1, ρ, s1, er1, r1, (go1.st er1).imp fun x s2 φ2 H2 a2 r2 go2 w hw => ?_⟩
  have er2 := er1.mono a2
  refine ⟨φ2, ρ, s2, er2, r2, (go2.st er2).imp fun z s3 φ3 H3 a3 r3 go3 u hu => ?_⟩
  have er3 := er2.mono a3
  split at go3
  · rename_i n i
    split at go3
    · rename_i xs hx
      split at go3
      · rename_i j hj
        have hw3 := hw.mono a3
        cases hu
        cases hw3 with
        | ref hp =>
          obtain ⟨vs, h4, h5⟩ := r3.cell _ _ _ hp hx
          have A : After φ3 H3 φ3 (upd H3 _ (.lst (vs.set j v))) := After.write (List.mem_of_getElem? hp) ⟨_, h4, .l⟩ not_lst
          refine ⟨_, vs, _, j, rfl, rfl, h4, by rw [h5.len]; exact hj, ?_⟩
          exact (GoS.from A go3).here (r3.write hp (h5.set ((hv.mono a2).mono a3) j)) (er3.mono A)
      · exact go3.elim
    · exact go3.elim
  · exact go3.elim
theorem ss_for {tg iter : Expr} {tgs : List Nat} {g : TG} {gi : G.Env → Stt → R (List D)} (hp : PassesOwn (model X.prog X.w) X.A X.env X.xe) (hc : X.calm = true) (hi : PI X tg iter (dI Γ W gi)) (tk : TgOk Γ tgs g) (hg : PG X tg g) (hb : PSs X sts (dS Γ W g1)) (hs : ∀ x, foldedSetIterable iter X.env x = pure x) :
    PS X (.For tg iter sts [] pos) (dS Γ W fun ρ s => (gi ρ s).st ρ fun xs s => loopF (fun d ρ s => match tgF tgs d ρ with
      | none => .stuck
      | some ρ' => g1 ρ' s) xs ρ s) := by
  refine (ps_for hp hc hi hg hb hs).mono fun D σ H ⟨φ, ρ, s, er, rel, go⟩ => ?_
  refine ⟨φ, ρ, s, er, rel, (go.st er).imp fun xs s1 φ1 H1 a1 r1 go1 J hJ => ?_⟩
  refine ⟨fun i m σ H => m = xs.length - i ∧ i ≤ xs.length ∧ ∃ φc ρ s, After φ1 H1 φc H ∧ ER Γ φc H σ ρ ∧ Rel Γ φc H s ∧ GoS Γ W φc H (loopF (fun d ρ s => match tgF tgs d ρ with
      | none => .stuck
      | some ρ' => g1 ρ' s) (xs.drop i) ρ s) D, ⟨_, rfl, Nat.zero_le _, φ1, ρ, s1, .refl _ _, er.mono a1, r1, go1⟩, ?_⟩
  rintro i m σ2 H2 ⟨rfl, hi, φ2, ρ2, s2, a2, er2, r2, go2⟩
  obtain ⟨w1, w2⟩ := hJ i φ2 H2 s2 a2 r2
  by_cases hlt : i < xs.length
  · obtain ⟨hgo, hy⟩ := w1 hlt
    refine .inr ⟨hgo, _, fun σ' H' p' => ⟨xs.length - (i + 1), by omega, rfl, hlt, p'⟩, fun x H3 hx => ?_⟩
    obtain ⟨a3, r3, d, hd, hr⟩ := hy x H3 hx
    rw [List.drop_eq_getElem_cons hlt] at go2
    have hd' : xs[i] = d := by rw [List.getElem?_eq_getElem hlt] at hd; exact Option.some.inj hd
    rw [hd'] at go2
    unfold loopF at go2
    cases htg : tgF tgs d ρ2 with
    | none => rw [htg] at go2; exact go2.elim
    | some ρ' =>
      rw [htg] at go2
      have go2 := GoS.from a3 go2
      refine tk.go (er2.mono a3) hr htg fun σ4 er4 _ => ⟨φ2, ρ', s2, er4, r3, ?_⟩
      have a23 := a2.trans a3
      cases e : g1 ρ' s2 with
      | nx ρ5 s5 => simp only [e] at go2; exact fun φ5 H5 σ5 a5 r5 er5 => ⟨φ5, ρ5, s5, a23.trans a5, er5, r5, GoS.from a5 go2⟩
      | ct ρ5 s5 => simp only [e] at go2; exact fun φ5 H5 σ5 a5 r5 er5 => ⟨φ5, ρ5, s5, a23.trans a5, er5, r5, GoS.from a5 go2⟩
      | bk ρ5 s5 => simp only [e] at go2; exact go2
      | rt d s5 => simp only [e] at go2; exact go2
      | exc c fs ρ5 s5 => simp only [e] at go2; exact go2
      | stuck => simp only [e] at go2; exact go2
  · have e : i = xs.length := by omega
    subst e
    rw [List.drop_length] at go2
    exact .inl ⟨w2 (Nat.le_refl _), go2.here r2 er2⟩
theorem ss_forc {tg iter : Expr} {tgs : List Nat} {g : TG} (hK : X.K = Γ.K) (hp : PassesOwn (model X.prog X.w) X.A X.env X.xe) (hc : X.calm = true) (ha : PE X iter (dE Γ W ga)) (tk : TgOk Γ tgs g) (hg : PG X tg g) (hb : PSs X sts (dS Γ W g1)) (hs : ∀ x, foldedSetIterable iter X.env x = pure x) :
    PS X (.For tg iter sts [] pos) (dS Γ W fun ρ s => (ga ρ s).st ρ fun x s => match x with
      | .ref n => match s[n]? with
        | some (.lst xs) => loopFc n xs (fun d ρ s => match tgF tgs d ρ with
          | none => .stuck
          | some ρ' => g1 ρ' s) xs ρ s
        | _ => .stuck
      | _ => .stuck) := by
  refine (ps_for hp hc (s_icell hK ha) hg hb hs).mono fun D σ H ⟨φ, ρ, s, er, rel, go⟩ => ?_
  refine ⟨φ, ρ, s, er, rel, (go.st er).imp fun x s1 φ1 H1 a1 r1 go1 v hv => ?_⟩
  split at go1
  · rename_i n
    split at go1
    · rename_i xs hx
      cases hv with
      | ref hpp =>
        rename_i p
        obtain ⟨vs, h4, h5⟩ := r1.cell _ _ _ hpp hx
        refine ⟨p, vs, rfl, h4, ?_⟩
        refine ⟨fun i m σ H => m = xs.length - i ∧ i ≤ xs.length ∧ ∃ φc ρ s, After φ1 H1 φc H ∧ ER Γ φc H σ ρ ∧ Rel Γ φc H s ∧ GoS Γ W φc H (loopFc n xs (fun d ρ s => match tgF tgs d ρ with
            | none => .stuck
            | some ρ' => g1 ρ' s) (xs.drop i) ρ s) D, ⟨_, rfl, Nat.zero_le _, φ1, ρ, s1, .refl _ _, er.mono a1, r1, go1⟩, ?_⟩
        rintro i m σ2 H2 ⟨rfl, hi, φ2, ρ2, s2, a2, er2, r2, go2⟩
        have hp2 : Rep Γ φ2 H2 (.ref p) (.ref n) := (Rep.ref hpp : Rep Γ φ1 H1 (.ref p) (.ref n)).mono a2
        by_cases hsame : sameC s2 n xs = true
        · have hx2 := sameC_iff.mp hsame
          cases hp2 with
          | ref hpp2 =>
            obtain ⟨vs2, h42, h52⟩ := r2.cell _ _ _ hpp2 hx2
            by_cases hlt : i < xs.length
            · obtain ⟨w, hw, rw_⟩ := h52.get (i := i) (List.getElem?_eq_getElem hlt)
              refine .inr ⟨⟨vs2, w, SqL.of h42, hw⟩, _, fun σ' H' p' => ⟨xs.length - (i + 1), by omega, rfl, hlt, p'⟩, fun x H3 hx => ?_⟩
              obtain ⟨e3, hq⟩ := hx
              subst e3
              have hxw := hq vs2 (SqL.of h42)
              rw [hw] at hxw
              cases hxw
              rw [List.drop_eq_getElem_cons hlt] at go2
              unfold loopFc at go2
              rw [if_pos hsame] at go2
              cases htg : tgF tgs xs[i] ρ2 with
              | none => rw [htg] at go2; exact go2.elim
              | some ρ' =>
                rw [htg] at go2
                refine tk.go er2 rw_ htg fun σ4 er4 _ => ⟨φ2, ρ', s2, er4, r2, ?_⟩
                cases e : g1 ρ' s2 with
                | nx ρ5 s5 => simp only [e] at go2; exact fun φ5 H5 σ5 a5 r5 er5 => ⟨φ5, ρ5, s5, a2.trans a5, er5, r5, GoS.from a5 go2⟩
                | ct ρ5 s5 => simp only [e] at go2; exact fun φ5 H5 σ5 a5 r5 er5 => ⟨φ5, ρ5, s5, a2.trans a5, er5, r5, GoS.from a5 go2⟩
                | bk ρ5 s5 => simp only [e] at go2; exact go2
                | rt d s5 => simp only [e] at go2; exact go2
                | exc c fs ρ5 s5 => simp only [e] at go2; exact go2
                | stuck => simp only [e] at go2; exact go2
            · have e : i = xs.length := by omega
              subst e
              rw [List.drop_length] at go2
              unfold loopFc at go2
              rw [if_pos hsame] at go2
              exact .inl ⟨⟨vs2, SqL.of h42, by rw [h52.len]; exact Nat.le_refl _⟩, go2.here r2 er2⟩
        · exfalso
          cases hd : xs.drop i with
          | nil => rw [hd] at go2; unfold loopFc at go2; rw [if_neg hsame] at go2; exact go2.elim
          | cons d ds => rw [hd] at go2; unfold loopFc at go2; rw [if_neg hsame] at go2; exact go2.elim
    · exact go1.elim
  · exact go1.elim
theorem ss_fore {gs : G.Env → Stt → R (List D)} {elts : List Expr} {kk : Nat} {tpos p ipos : Pos} {a : Expr} {tgs : List Nat} {g : TG} (hK : X.K = Γ.K) (hp : PassesOwn (model X.prog X.w) X.A X.env X.xe) (hc : X.calm = true) (hge : Gl X "enumerate") (hm : X.mg "enumerate" = none) (hn : ns a = true) (ha : PA X [a] (dA Γ W gs)) (tk : TgOk Γ tgs g) (hg : PG X (.Tuple elts kk tpos) g) (hb : PSs X sts (dS Γ W g1)) (hs : ∀ x, foldedSetIterable (.Call (.Name "enumerate" p) [a] [] ipos) X.env x = pure x) :
    PS X (.For (.Tuple elts kk tpos) (.Call (.Name "enumerate" p) [a] [] ipos) sts [] pos) (dS Γ W fun ρ s => (gs ρ s).st ρ fun ds s => match ds with
      | [.ref n] => match s[n]? with
        | some (.lst xs) => loopFc n xs (fun d ρ s => match tgF tgs d ρ with
          | none => .stuck
          | some ρ' => g1 ρ' s) (enumD xs) ρ s
        | _ => .stuck
      | _ => .stuck) := by
  refine (ps_for hp hc (s_icellE hK hge hm hn ha) hg hb hs).mono fun D σ H ⟨φ, ρ, s, er, rel, go⟩ => ?_
  refine ⟨φ, ρ, s, er, rel, (go.st er).imp fun dds s1 φ1 H1 a1 r1 go1 v hv => ?_⟩
  split at go1
  · rename_i n
    split at go1
    · rename_i xs hx
      cases hv with
      | cons hv0 hvr =>
       cases hvr
       cases hv0 with
       | ref hpp =>
        rename_i p
        have lz : (enumD xs).length = xs.length := by unfold enumD; simp
        obtain ⟨vs, h4, h5⟩ := r1.cell _ _ _ hpp hx
        refine ⟨p, vs, rfl, h4, ?_⟩
        refine ⟨fun i m σ H => m = xs.length - i ∧ i ≤ xs.length ∧ ∃ φc ρ s, After φ1 H1 φc H ∧ ER Γ φc H σ ρ ∧ Rel Γ φc H s ∧ GoS Γ W φc H (loopFc n xs (fun d ρ s => match tgF tgs d ρ with
            | none => .stuck
            | some ρ' => g1 ρ' s) ((enumD xs).drop i) ρ s) D, ⟨_, rfl, Nat.zero_le _, φ1, ρ, s1, .refl _ _, er.mono a1, r1, go1⟩, ?_⟩
        rintro i m σ2 H2 ⟨rfl, hi, φ2, ρ2, s2, a2, er2, r2, go2⟩
        have hp2 : Rep Γ φ2 H2 (.ref p) (.ref n) := (Rep.ref hpp : Rep Γ φ1 H1 (.ref p) (.ref n)).mono a2
        by_cases hsame : sameC s2 n xs = true
        · have hx2 := sameC_iff.mp hsame
          cases hp2 with
          | ref hpp2 =>
            obtain ⟨vs2, h42, h52⟩ := r2.cell _ _ _ hpp2 hx2
            by_cases hlt : i < xs.length
            · obtain ⟨w, hw, rw_⟩ := h52.get (i := i) (List.getElem?_eq_getElem hlt)
              refine .inr ⟨⟨vs2, w, SqL.of h42, hw⟩, _, fun σ' H' p' => ⟨xs.length - (i + 1), by omega, rfl, hlt, p'⟩, fun x H3 hx => ?_⟩
              obtain ⟨T, y, e3, hT, e4, hq⟩ := hx
              subst e3 e4
              have hxw := hq vs2 (SqL.of h42)
              rw [hw] at hxw
              cases hxw
              have a3 : After φ2 H2 φ2 (upd H2 T (.tup [.int (i : Nat), w])) := .fresh hT
              have r3 := r2.fresh (o := .tup [.int (i : Nat), w]) hT
              have hlz : i < (enumD xs).length := by omega
              have hd : (enumD xs)[i] = .tup [.int i, xs[i]] := by simp [enumD]
              have hr : Rep Γ φ2 (upd H2 T (.tup [.int (i : Nat), w])) (.ref T) (.tup [.int i, xs[i]]) := .tup (SqT.of upd_same) (.cons (.int _) (.cons (rw_.mono a3) .nil))
              rw [List.drop_eq_getElem_cons hlz, hd] at go2
              unfold loopFc at go2
              rw [if_pos hsame] at go2
              cases htg : tgF tgs (.tup [.int i, xs[i]]) ρ2 with
              | none => rw [htg] at go2; exact go2.elim
              | some ρ' =>
                rw [htg] at go2
                have go2 := GoS.from a3 go2
                refine tk.go (er2.mono a3) hr htg fun σ4 er4 _ => ⟨φ2, ρ', s2, er4, r3, ?_⟩
                have a23 := a2.trans a3
                cases e : g1 ρ' s2 with
                | nx ρ5 s5 => simp only [e] at go2; exact fun φ5 H5 σ5 a5 r5 er5 => ⟨φ5, ρ5, s5, a23.trans a5, er5, r5, GoS.from a5 go2⟩
                | ct ρ5 s5 => simp only [e] at go2; exact fun φ5 H5 σ5 a5 r5 er5 => ⟨φ5, ρ5, s5, a23.trans a5, er5, r5, GoS.from a5 go2⟩
                | bk ρ5 s5 => simp only [e] at go2; exact go2
                | rt d s5 => simp only [e] at go2; exact go2
                | exc c fs ρ5 s5 => simp only [e] at go2; exact go2
                | stuck => simp only [e] at go2; exact go2
            · have e : i = xs.length := by omega
              subst e
              rw [← lz, List.drop_length] at go2
              unfold loopFc at go2
              rw [if_pos hsame] at go2
              exact .inl ⟨⟨vs2, SqL.of h42, by rw [h52.len]; exact Nat.le_refl _⟩, go2.here r2 er2⟩
        · exfalso
          cases hd : (enumD xs).drop i with
          | nil => rw [hd] at go2; unfold loopFc at go2; rw [if_neg hsame] at go2; exact go2.elim
          | cons d ds => rw [hd] at go2; unfold loopFc at go2; rw [if_neg hsame] at go2; exact go2.elim
    · exact go1.elim
  · exact go1.elim
theorem ss_while (hp : PassesOwn (model X.prog X.w) X.A X.env X.xe) (hc : PT X c (dT Γ W gt)) (hb : PSs X sts (dS Γ W g1)) (n : Nat) : PS X (.While c sts [] pos) (dS Γ W fun ρ s => loopW gt g1 n ρ s) := by
  refine (ps_while hp hc hb).mono fun D σ H ⟨φ, ρ, s, er, rel, go⟩ => ?_
  refine ⟨fun m σ H => ∃ φ ρ s, ER Γ φ H σ ρ ∧ Rel Γ φ H s ∧ GoS Γ W φ H (loopW gt g1 m ρ s) D, ⟨n, φ, ρ, s, er, rel, go⟩, ?_⟩
  rintro m σ1 H1 ⟨φ1, ρ1, s1, er1, r1, go1⟩
  cases m with
  | zero => exact go1.elim
  | succ m =>
    refine ⟨φ1, ρ1, s1, er1, r1, (GoS.st (f := fun b s' => if b = true then (match g1 ρ1 s' with
      | .nx ρ' s => loopW gt g1 m ρ' s
      | .ct ρ' s => loopW gt g1 m ρ' s
      | .bk ρ' s => .nx ρ' s
      | .rt d s => .rt d s
      | .exc c fs ρ' s => .exc c fs ρ' s
      | .stuck => .stuck) else .nx ρ1 s') er1 go1).imp fun k s2 φ2 H2 a2 r2 go2 => ?_⟩
    have er2 := er1.mono a2
    cases k with
    | false => exact iteF (go2.here r2 er2)
    | true =>
      refine iteT ⟨fun σ H => ∃ φ ρ s, ER Γ φ H σ ρ ∧ Rel Γ φ H s ∧ GoS Γ W φ H (loopW gt g1 m ρ s) D, fun σ' H' q => ⟨m, Nat.lt_succ_self m, q⟩, φ2, ρ1, s2, er2, r2, ?_⟩
      have go2 : GoS Γ W φ2 H2 (match g1 ρ1 s2 with
        | .nx ρ' s => loopW gt g1 m ρ' s
        | .ct ρ' s => loopW gt g1 m ρ' s
        | .bk ρ' s => .nx ρ' s
        | .rt d s => .rt d s
        | .exc c fs ρ' s => .exc c fs ρ' s
        | .stuck => .stuck) D := go2
      cases e : g1 ρ1 s2 with
      | nx ρ5 s5 => simp only [e] at go2; exact fun φ5 H5 σ5 a5 r5 er5 => ⟨φ5, ρ5, s5, er5, r5, GoS.from a5 go2⟩
      | ct ρ5 s5 => simp only [e] at go2; exact fun φ5 H5 σ5 a5 r5 er5 => ⟨φ5, ρ5, s5, er5, r5, GoS.from a5 go2⟩
      | bk ρ5 s5 => simp only [e] at go2; exact go2
      | rt d s5 => simp only [e] at go2; exact go2
      | exc c fs ρ5 s5 => simp only [e] at go2; exact go2
      | stuck => simp only [e] at go2; exact go2
def swK (sc : Scope) (ts vs : List Expr) : Option (Option (List Str)) :=
  if (!(ts.length == 2 || ts.length == 3) || vs.length != ts.length) = true then some none
  else if (vs.any fun | .Starred .. => true | _ => false) = true then some none
  else
    let line := (ts.head?.map (·.pos.line)).getD 0
    let names := ts.filterMap fun
      | .Name id pos => if sc.names.lookup id == some .local && pos.line == line then some id else none
      | _ => none
    if (names.length != ts.length || names.eraseDups.length != names.length) = true then some none
    else if vs.all (foldedForSure 8) = true then some none
    else if vs.all (constantsAlone 8) = true then none
    else some (some names)
theorem swK_ok {env : PySem.Env} {ts vs : List Expr} {kt pt k2 p2} {r : Option (List Str)} (hb : env.scope.kind = .function) (h : swK env.scope ts vs = some r) : swappedStores [.Tuple ts kt pt] (.Tuple vs k2 p2) env = pure r := by
  have hb' : env.blockKind = .function := by unfold Env.blockKind; rw [hb]; rfl
  have hb2 : (env.blockKind != .function) = false := by rw [hb']; rfl
  unfold swK at h
  unfold swappedStores
  simp only [hb2, Bool.or_false]
  split at h
  · rename_i q
    cases h
    rw [if_pos q]
  · rename_i q
    rw [if_neg q]
    split at h
    · rename_i q2
      cases h
      exact if_pos q2
    · rename_i q2
      refine Eq.trans (if_neg q2) ?_
      simp only at h
      split at h
      · rename_i q3
        cases h
        exact if_pos q3
      · rename_i q3
        refine Eq.trans (if_neg q3) ?_
        split at h
        · rename_i q4
          cases h
          exact if_pos q4
        · rename_i q4
          refine Eq.trans (if_neg q4) ?_
          split at h
          · cases h
          · rename_i q5
            cases h
            exact if_neg q5
theorem ss_par2 {i j : Nat} {x y : Str} {px py pt : Pos} {kt k2 pt2} (hc : X.calm = true) (hN : X.N.Nodup) (hi : X.N[i]? = some x) (hj : X.N[j]? = some y) (hij : i ≠ j) (hb : X.env.scope.kind = .function)
    (hx : X.env.scope.names.lookup x = some .local) (hy : X.env.scope.names.lookup y = some .local) (ha : PA X [a, b] (dA Γ W gs))
    (hw : swK X.env.scope [.Name x px, .Name y py] [a, b] = some (some [x, y])) :
    PS X (.Assign [.Tuple [.Name x px, .Name y py] kt pt] (.Tuple [a, b] k2 pt2) pos) (dS Γ W fun ρ s => (gs ρ s).st ρ fun xs s => if [i, j].length = xs.length then .nx (([i, j].zip xs).foldl (fun ρ p => ρ.set p.1 (some p.2)) ρ) s else .stuck) :=
  (ps_par hc hN hi hj hij hx hy ha (swK_ok hb hw)).mono fun D σ H ⟨φ, ρ, s, er, rel, go⟩ => by
  refine ⟨φ, ρ, s, er, rel, (go.st er).imp fun xs s1 φ1 H1 a1 r1 go1 vs hvs => ?_⟩
  split at go1
  · rename_i hl
    match xs, vs, hl, hvs, go1 with
    | [d1, d2], [v1, v2], _, .cons h1 (.cons h2 .nil), go1 =>
      exact ⟨v1, v2, rfl, go1.here r1 (((er.mono a1).set h1 i).set h2 j)⟩
  · exact go1.elim
theorem ss_par3 {i j l : Nat} {x y z : Str} {px py pz pt : Pos} {kt k2 pt2} (hc : X.calm = true) (hN : X.N.Nodup) (hi : X.N[i]? = some x) (hj : X.N[j]? = some y) (hl : X.N[l]? = some z) (hij : i ≠ j) (hil : i ≠ l) (hjl : j ≠ l) (hb : X.env.scope.kind = .function)
    (hx : X.env.scope.names.lookup x = some .local) (hy : X.env.scope.names.lookup y = some .local) (hz : X.env.scope.names.lookup z = some .local) (ha : PA X [a, b, c] (dA Γ W gs))
    (hw : swK X.env.scope [.Name x px, .Name y py, .Name z pz] [a, b, c] = some (some [x, y, z])) :
    PS X (.Assign [.Tuple [.Name x px, .Name y py, .Name z pz] kt pt] (.Tuple [a, b, c] k2 pt2) pos) (dS Γ W fun ρ s => (gs ρ s).st ρ fun xs s => if [i, j, l].length = xs.length then .nx (([i, j, l].zip xs).foldl (fun ρ p => ρ.set p.1 (some p.2)) ρ) s else .stuck) :=
  (ps_par3 hc hN hi hj hl hij hil hjl hx hy hz ha (swK_ok hb hw)).mono fun D σ H ⟨φ, ρ, s, er, rel, go⟩ => by
  refine ⟨φ, ρ, s, er, rel, (go.st er).imp fun xs s1 φ1 H1 a1 r1 go1 vs hvs => ?_⟩
  split at go1
  · rename_i hl
    match xs, vs, hl, hvs, go1 with
    | [d1, d2, d3], [v1, v2, v3], _, .cons h1 (.cons h2 (.cons h3 .nil)), go1 =>
      exact ⟨v1, v2, v3, rfl, go1.here r1 ((((er.mono a1).set h1 i).set h2 j).set h3 l)⟩
  · exact go1.elim
/-- the tuple is made, then unpacked -/
theorem ss_parN {is : List Nat} {n : Nat} {tes : List Expr} {kk} {tp : Pos} {k2 pt2} (hc : X.calm = true) (hK : X.K = Γ.K) (hn : is.length = n) (h2 : 2 ≤ n) (hn4 : n ≤ 100) (hg : PG X (.Tuple tes kk tp) (gTup X.K n (gNames is))) (hb : X.env.scope.kind = .function) (ha : PA X es (dA Γ W gs))
    (hw : swK X.env.scope tes es = some none) :
    PS X (.Assign [.Tuple tes kk tp] (.Tuple es k2 pt2) pos) (dS Γ W fun ρ s => (gs ρ s).st ρ fun xs s => if is.length = xs.length then .nx ((is.zip xs).foldl (fun ρ p => ρ.set p.1 (some p.2)) ρ) s else .stuck) := by
  refine (ps_asg (pe_tup ha) hg rfl (swK_ok hb hw) rfl).mono fun D σ H ⟨φ, ρ, s, er, rel, go⟩ => ?_
  refine ⟨φ, ρ, s, er, rel, (go.st er).imp fun xs s1 φ1 H1 a1 r1 go1 vs hvs => ?_⟩
  split at go1
  · rename_i hl
    have sl : (sizeLine : Nat) = 16777216 := sizeLine_eq
    refine ⟨by rw [hvs.len, ← hl]; omega, fun p hp => ?_⟩
    have A : After φ1 H1 φ1 (upd H1 p (.tup vs)) := .fresh hp
    rw [hK]
    refine ⟨_, vs, rfl, SqT.of upd_same, by rw [hvs.len, ← hl]; exact hn, ?_⟩
    exact gNames_ok (hvs.mono A) ((er.mono a1).mono A) hl fun σ' er' _ => (GoS.from A go1).here (r1.fresh hp) er'
  · exact go1.elim
end
end G
set_option Elab.async false
set_option linter.all false
set_option maxRecDepth 100000
set_option maxHeartbeats 0
namespace G
open PySem L2
section
variable {X : Cx}
/-- C(), C's own __init__ keeping sp -/
def tMkO0 (C : Addr) (sp : Sp) : St → Hp → XK → Prop := fun σ H Q => ∀ a, H a = none → sp [.ref a] (upd H a (exo a C none))
  (fun v H2 => v = .non ∧ ∃ (d : Addr) (fs : List (Str × V)), H2 a = some (exo a C (some d)) ∧ H2 d = some (exd d fs) ∧ H d = none ∧ Q (.ref C) (some d) (upd (del H2 a) d (.xd fs))) (fun _ _ _ => False)
theorem pmk_oex0 {CX : CXT} {x : Str} {C fI : Addr} {k : Nat} {fd : FuncData} {ps : List Str} {sp : Sp} {p pos : Pos} (T : OexC X.K C) (hi : PySem.W.findIn X.K (.ref C) "__init__" = some (some (.ref fI))) (ht : PySem.W.typeIn X.K (.ref fI) = some (.type "function"))
    (F1 : FnOk X.prog X.w X.K X.mg X.base CX k fI fd ps sp) (hr : Room (k + 1) X.A) (hb : Binds X.K fd ps []) (hx : Passes CX X (fun _ _ _ => False)) (hg : Gl X x) (hm : X.mg x = some (.ref C)) (hdb : (x == ("__debug__" : Str)) = false) :
    PMk X (.Call (.Name x p) [] [] pos) (tMkO0 C sp) := by
  intro pins s σ H Q I h
  obtain ⟨nm, q, N, bs, bm, sn, sub, ab, col, dd, k0, k1, k2, k3, k5, hC, hbm⟩ := T.cls
  refine wpAny_Call_Name_kw (ld_glob I hg hm ?_ hdb)
  refine PySem.W.callWith_K0 I.kIn T.kC ?_
  show wpAny _ _ (call (.ref C) []) _ _ _
  obtain ⟨hp, ge, dr, tk, os⟩ := s
  have h1 : hp.objs.size ≤ hp.objs.size + 1 := Nat.le_succ _
  have h2 : H (hp.objs.size + 1) = none := I.hok.fresh h1
  have h3 := h (hp.objs.size + 1) h2
  have kp : ∀ b ob, hp.get? b = some ob → ((hp.push (PySem.W.kdv_tup [])).push (PySem.HandSPX.excO C hp.objs.size)).get? b = some ob := fun b ob z => Heap.get?_push_of_some _ (Heap.get?_push_of_some _ z)
  have hat : ((hp.push (PySem.W.kdv_tup [])).push (PySem.HandSPX.excO C hp.objs.size)).get? (hp.objs.size + 1) = some (PySem.HandSPX.excO C hp.objs.size) := by heap_get
  have J : L2.Inv X pins σ (upd H (hp.objs.size + 1) (exo (hp.objs.size + 1) C none)) ⟨(hp.push (PySem.W.kdv_tup [])).push (PySem.HandSPX.excO C hp.objs.size), ge, dr, tk, os⟩ :=
    I.laid (t' := tk) (a := hp.objs.size + 1) (o := exo (hp.objs.size + 1) C none) (h' := (hp.push (PySem.W.kdv_tup [])).push (PySem.HandSPX.excO C hp.objs.size)) kp h1 (exo_ok hat)
  have rr : Vals [V.ref (hp.objs.size + 1)] [Value.ref (hp.objs.size + 1)] := .cons rfl .nil
  have hl : ([Value.ref (hp.objs.size + 1)] ++ []).length = ps.length := (F1.len _ _ _ _ h3)
  refine wpAny_call (PySem.HandSPX.call_own F.excBase_ValueError (fun Y => PySem.HandSPX.refsVE_contains Y bm hbm) (I.kIn _ _ hC) (PySem.W.looks_findIn I.kIn hi) (fun self => PySem.W.bind_fn I.kIn self ht) (Nat.zero_le _)
    (codeAny_mono (F1.run _ X.stack _ _ ⟨[Value.ref (hp.objs.size + 1)], []⟩ [Value.ref (hp.objs.size + 1)] _ _ (fun _ _ _ => False) (hr.make C [] []) (J.env0.make C [] []) (hb _ [Value.ref (hp.objs.size + 1)] J.kIn hl) rr h3) fun r s' hq => ?_))
  cases r with
  | error er => exact hx pins σ _ _ er s' J hq
  | ok fl =>
    cases fl with
    | ret u =>
      obtain ⟨v, H2, os2, bare2, un2, hok2, rv, ev, d, fs, ea, ed, hd1, q2⟩ := hq
      subst ev
      obtain ⟨hp2, ge2, dr2, tk2, os'⟩ := s'
      exact ⟨rv, mk_end (raises_own T.exC T.tyC) I h1 kp un2 hok2 os2 bare2 ea ed hd1 q2⟩
    | next => exact False.elim hq
    | brk => exact False.elim hq
    | cont => exact False.elim hq
end
/-- what every __init__ keeps: the exception has its dict with all fields -/
def spInit (K : PySem.W.Frag) (z : Str) (fs : List Str) : Sp := fun vs H Q _ => ∃ a C xs, vs = .ref a :: xs ∧ xs.length = fs.length ∧ OexC K C ∧ PySem.W.findIn K (.ref C) "called" = some none ∧ (∀ f ∈ fs, PySem.W.findIn K (.ref C) f = some none) ∧ H a = some (exo a C none) ∧
  ∀ (dx : Addr) (H' : Hp) (l : List (Str × V)), H dx = none → dx ≠ a → H' a = some (exo a C (some dx)) → H' dx = some (exd dx l) → (∀ b, b ≠ a → b ≠ dx → H' b = H b) → (∀ (i : Nat) f v, (("called" : Str) :: fs)[i]? = some f → (V.str z :: xs)[i]? = some v → l.lookup f = some v) → Q .non H'
/-- what is known of an exception's class where it is raised -/
structure XOk (Γ : Gm) (prog : Program) (w : World) (mg : Str → Option Value) (base : Heap) (c : Nat) (x : XCls) (C : Addr) : Prop where
  cl : Γ.xcl c = some (C, x.all)
  ox : OexC Γ.K C
  xf : XfC Γ.K C
  no : ∀ f ∈ x.all, PySem.W.findIn Γ.K (.ref C) f = some none
  mgC : mg (tS x.name) = some (.ref C)
  few : x.fs.length ≤ 100
  init : ∃ fI fd ps, PySem.W.findIn Γ.K (.ref C) "__init__" = some (some (.ref fI)) ∧ PySem.W.typeIn Γ.K (.ref fI) = some (.type "function") ∧ FnOk prog w Γ.K mg base (L2.CX prog w) 2 fI fd ps (spInit Γ.K (tS x.name) x.fs) ∧ Binds Γ.K fd ps []
section
variable {Γ : Gm} {X : Cx} {W : WX} {c : Nat} {x : XCls} {C : Addr} {e : Expr} {es : List Expr} {gs : G.Env → Stt → R (List D)} {p pos pos2 : Pos}
theorem raise_read {φ : Fx} {H : Hp} {σ : L2.St} {ρ : G.Env} {s : Stt} {vs : List V} {xs : List D} {D : Ends} (O : XOk Γ X.prog X.w X.mg X.base c x C) (rel : Rel Γ φ H s) (er : ER Γ φ H σ ρ) (r : Reps Γ φ H vs xs) (hl : xs.length = x.fs.length) (go : GoS Γ W φ H (.exc c (.str x.name :: xs) ρ s) D) (a : Addr) (na : H a = none) :
    spInit Γ.K (tS x.name) x.fs (.ref a :: vs) (upd H a (exo a C none)) (fun v H2 => v = .non ∧ ∃ (d : Addr) (fs : List (Str × V)), H2 a = some (exo a C (some d)) ∧ H2 d = some (exd d fs) ∧ H d = none ∧ W (.ref C) (some d) σ (upd (del H2 a) d (.xd fs))) (fun _ _ _ => False) := by
  refine ⟨a, C, vs, rfl, by rw [r.len]; exact hl, O.ox, O.no _ (List.mem_cons_self ..), fun f hf => O.no f (List.mem_cons_of_mem _ hf), upd_same, fun dx H' l h1 h2 h3 h4 h5 h6 => ⟨rfl, dx, l, h3, h4, ?_, ?_⟩⟩
  · rw [upd_ne h2] at h1
    exact h1
  · rw [upd_ne h2] at h1
    have e : upd (del H' a) dx (.xd l) = upd H dx (.xd l) := by
      funext b
      by_cases b1 : b = dx
      · rw [b1, upd_same, upd_same]
      · rw [upd_ne b1, upd_ne b1]
        by_cases b2 : b = a
        · rw [b2, del_same, na]
        · rw [del_ne b2, h5 b b2 b1, upd_ne b2]
    rw [e]
    have A : After φ H φ (upd H dx (.xd l)) := .fresh h1
    refine go φ _ σ (.ref C) (some dx) A (rel.fresh h1) (er.mono A) ⟨C, x.all, dx, l, O.cl, rfl, rfl, upd_same, by simp [XCls.all, hl], fun i f e e1 e2 => ?_⟩
    have R : Reps Γ φ H (V.str (tS x.name) :: vs) (.str x.name :: xs) := .cons (.str _) r
    obtain ⟨v, q1, q2⟩ := R.get e2
    exact ⟨v, h6 i f v e1 q1, q2.mono A⟩
theorem ss_raise (O : XOk Γ X.prog X.w X.mg X.base c x C) (eK : X.K = Γ.K) (calm : X.calm = true) (hr : Room 3 X.A) (tk : Takes X W) (hg : Gl X (tS x.name)) (hdb : (tS x.name == ("__debug__" : Str)) = false) (hn : (e :: es).all ns = true) (ha : PA X (e :: es) (dA Γ W gs)) :
    PS X (.Raise (some (.Call (.Name (tS x.name) p) (e :: es) [] pos)) none pos2) (dS Γ W fun ρ s => (gs ρ s).st ρ fun xs s => if xs.length = x.fs.length then .exc c (.str x.name :: xs) ρ s else .stuck) := by
  obtain ⟨fI, fd, ps, i1, i2, F, b⟩ := O.init
  have no0 : Passes (L2.CX X.prog X.w) X (fun _ _ _ => False) := passes_call L2.takes0 fun _ _ _ _ h => h
  rw [← eK] at i1 i2 b
  have F' : FnOk X.prog X.w X.K X.mg X.base (L2.CX X.prog X.w) 2 fI fd ps (spInit Γ.K (tS x.name) x.fs) := by rw [eK]; exact F
  have T : OexC X.K C := by rw [eK]; exact O.ox
  simp only [List.all_cons, Bool.and_eq_true] at hn
  refine (ps_raise calm tk (pmk_oex (p := p) (pos := pos) T i1 i2 F' hr b .nil no0 hg O.mgC ha hdb (star_ns hn.1) (back_ns hn.2))).mono fun D σ H ⟨φ, ρ, s, er, rel, go⟩ => ?_
  refine ⟨φ, ρ, s, er, rel, (go.st er).imp fun xs s1 φ1 H1 a1 r1 go1 vs hvs => ?_⟩
  split at go1
  · rename_i hl
    refine ⟨by have := O.few; rw [hvs.len, hl]; omega, fun a na => ?_⟩
    rw [List.append_nil]
    exact raise_read O r1 (er.mono a1) hvs hl go1 a na
  · exact go1.elim
theorem ss_raise0 (O : XOk Γ X.prog X.w X.mg X.base c x C) (eK : X.K = Γ.K) (calm : X.calm = true) (hr : Room 3 X.A) (tk : Takes X W) (hg : Gl X (tS x.name)) (hdb : (tS x.name == ("__debug__" : Str)) = false) :
    PS X (.Raise (some (.Call (.Name (tS x.name) p) [] [] pos)) none pos2) (dS Γ W fun ρ s => (R.ok ([] : List G.D) s).st ρ fun xs s => if xs.length = x.fs.length then .exc c (.str x.name :: xs) ρ s else .stuck) := by
  obtain ⟨fI, fd, ps, i1, i2, F, b⟩ := O.init
  have no0 : Passes (L2.CX X.prog X.w) X (fun _ _ _ => False) := passes_call L2.takes0 fun _ _ _ _ h => h
  rw [← eK] at i1 i2 b
  have F' : FnOk X.prog X.w X.K X.mg X.base (L2.CX X.prog X.w) 2 fI fd ps (spInit Γ.K (tS x.name) x.fs) := by rw [eK]; exact F
  have T : OexC X.K C := by rw [eK]; exact O.ox
  refine (ps_raise calm tk (pmk_oex0 (p := p) (pos := pos) T i1 i2 F' hr b no0 hg O.mgC hdb)).mono fun D σ H ⟨φ, ρ, s, er, rel, go⟩ a na => ?_
  have go : GoS Γ W φ H (if ([] : List G.D).length = x.fs.length then .exc c (.str x.name :: []) ρ s else .stuck) D := go
  split at go
  · rename_i hl
    exact raise_read O rel er .nil hl go a na
  · exact go.elim
end
end G
set_option Elab.async false
set_option linter.all false
set_option maxRecDepth 100000
set_option maxHeartbeats 0
namespace G
open PySem L2 PySem.Spec PyProof.Rows
/-- the test of a clause names the classes cs -/
def ExTest (X : Cx) (t : Expr) (cs : List Value) : Prop := ∀ (a : Addr) (oe : Obj) (pins : List (Addr × Obj)) (σ : L2.St) (H : Hp) (s : Shared) (cls : Value) (b : Bool) (Q : Bool → Shared → Prop) (E : Value → Shared → Prop),
  L2.Inv (X.suite a ((a, oe) :: (X.pn ++ pins))) [] σ H s → (∀ h', (∀ q o, s.heap.get? q = some o → h'.get? q = some o) → PySem.W.Looks (model X.prog X.w) h' (typeOf (.ref a)) cls) → PySem.W.exmAny X.K cls cs = some b →
  (∀ h', (∀ q o, s.heap.get? q = some o → h'.get? q = some o) → Q b { s with heap := h' }) →
  wpAny (model X.prog X.w) (X.A.mark (some (.ref a))) (eval t X.env) (fun c s₁ => wpAny (model X.prog X.w) (X.A.mark (some (.ref a))) (excMatches (.ref a) c) Q E s₁) E s
section
variable {X : Cx}
theorem names_ld {a : Addr} {oe : Obj} {pins : List (Addr × Obj)} {σ : L2.St} {H : Hp} {s : Shared} {x : Str} {c : Value} {np : Pos} {Q : Value → Shared → Prop} {E : Value → Shared → Prop} (S : L2.Inv (X.suite a ((a, oe) :: (X.pn ++ pins))) [] σ H s) (hc : Names X x c) (q : Q c s) :
    wpAny (model X.prog X.w) (X.A.mark (some (.ref a))) (eval (.Name x np) X.env) Q E s := by
  obtain ⟨h1, h2, h3⟩ := hc
  rcases h3 with h3 | ⟨h3, h4, h5⟩
  · exact ld_glob (X := X.suite a ((a, oe) :: (X.pn ++ pins))) S h1 h3 q h2
  · exact ld_blt (X := X.suite a ((a, oe) :: (X.pn ++ pins))) S h1 h3 h4 q h5 h2
theorem exm_any1 {K : PySem.W.Frag} {cls c : Value} {b : Bool} (h : PySem.W.exmAny K cls [c] = some b) : PySem.W.exmOne K cls c = some b := by
  obtain ⟨b1, d1, h1, h2, h3⟩ := PySem.W.exmAny_cons h
  have e : d1 = false := by
    have : some false = some d1 := h2
    exact (Option.some.inj this).symm
  rw [h1, h3, e, Bool.or_false]
theorem ext_one {x : Str} {c : Value} {np : Pos} (hc : Names X x c) : ExTest X (.Name x np) [c] := fun a oe pins σ H s cls b Q E S LT hb hq =>
  names_ld S hc ((PySem.W.exm_one (M := model X.prog X.w) S.kIn (LT _ fun _ _ z => z) (exm_any1 hb)).here (hq s.heap fun _ _ z => z))
theorem ext_two {x1 x2 : Str} {c1 c2 : Value} {p1 p2 tp : Pos} {kk} (n1 : Names X x1 c1) (n2 : Names X x2 c2) : ExTest X (.Tuple [.Name x1 p1, .Name x2 p2] kk tp) [c1, c2] := fun a oe pins σ H s cls b Q E S LT hb hq => by
  refine wpAny_Tuple (wpAny_items_cons (names_ld S n1 (wpAny_items_cons (names_ld S n2 (wpAny_items_nil ⟨by size_fits, ?_⟩)))))
  have stay : ∀ q o, s.heap.get? q = some o → (s.heap.push { cls := .type "tuple", data := .seq [c1, c2].toArray }).get? q = some o := fun _ _ z => Heap.get?_push_of_some _ z
  exact (PySem.W.exm_tup2 (S.kIn.keeps stay) (LT _ stay) (Heap.get?_push_size s.heap rfl) hb).here (hq _ stay)
theorem ext_three {x1 x2 x3 : Str} {c1 c2 c3 : Value} {p1 p2 p3 tp : Pos} {kk} (n1 : Names X x1 c1) (n2 : Names X x2 c2) (n3 : Names X x3 c3) : ExTest X (.Tuple [.Name x1 p1, .Name x2 p2, .Name x3 p3] kk tp) [c1, c2, c3] := fun a oe pins σ H s cls b Q E S LT hb hq => by
  refine wpAny_Tuple (wpAny_items_cons (names_ld S n1 (wpAny_items_cons (names_ld S n2 (wpAny_items_cons (names_ld S n3 (wpAny_items_nil ⟨by size_fits, ?_⟩)))))))
  have stay : ∀ q o, s.heap.get? q = some o → (s.heap.push { cls := .type "tuple", data := .seq [c1, c2, c3].toArray }).get? q = some o := fun _ _ z => Heap.get?_push_of_some _ z
  exact (PySem.W.exm_tup3 (S.kIn.keeps stay) (LT _ stay) (Heap.get?_push_size s.heap rfl) hb).here (hq _ stay)
theorem ext_four {x1 x2 x3 x4 : Str} {c1 c2 c3 c4 : Value} {p1 p2 p3 p4 tp : Pos} {kk} (n1 : Names X x1 c1) (n2 : Names X x2 c2) (n3 : Names X x3 c3) (n4 : Names X x4 c4) : ExTest X (.Tuple [.Name x1 p1, .Name x2 p2, .Name x3 p3, .Name x4 p4] kk tp) [c1, c2, c3, c4] := fun a oe pins σ H s cls b Q E S LT hb hq => by
  refine wpAny_Tuple (wpAny_items_cons (names_ld S n1 (wpAny_items_cons (names_ld S n2 (wpAny_items_cons (names_ld S n3 (wpAny_items_cons (names_ld S n4 (wpAny_items_nil ⟨by size_fits, ?_⟩)))))))))
  have stay : ∀ q o, s.heap.get? q = some o → (s.heap.push { cls := .type "tuple", data := .seq [c1, c2, c3, c4].toArray }).get? q = some o := fun _ _ z => Heap.get?_push_of_some _ z
  exact (PySem.W.exm_tup4 (S.kIn.keeps stay) (LT _ stay) (Heap.get?_push_size s.heap rfl) hb).here (hq _ stay)
end
/-- behind a suite its name is gone -/
def goneE (D : Ends) (i : Nat) : Ends := { nx := fun σ H => D.nx (σ.set i none) H, rt := D.rt, bk := fun σ H => D.bk (σ.set i none) H, ct := fun σ H => D.ct (σ.set i none) H }
abbrev ClS : Type := List Value × (Addr → Value → Option Addr → TS)
/-- what the clauses wish -/
def wAsL (K : PySem.W.Frag) (i : Nat) (Wout : WX) (D : Ends) : List ClS → WX
  | [] => Wout
  | (cs, ts) :: r => fun cls d σ H => ∃ b, PySem.W.exmAny K cls cs = some b ∧ (b = true → ∀ a, H a = none → ts a cls d (goneE D i) (σ.set i (some (.ref a))) H) ∧ (b = false → wAsL K i Wout D r cls d σ H)
inductive HdsA (X : Cx) (n : Str) : List ExceptHandler → List ClS → Prop
  | nil : HdsA X n [] []
  | cons {t : Expr} {cs : List Value} {ts : Addr → Value → Option Addr → TS} {st : Stmt} {sts : List Stmt} {ps : Pos} {hds : List ExceptHandler} {l : List ClS} (ht : ExTest X t cs)
      (hsu : ∀ (a : Addr) (oe : Obj) (cls : Value) (d : Option Addr) (pn : List (Addr × Obj)), Zc cls d oe → (∃ vs, oe.data = .fields vs) → PSs (X.suite a ((a, oe) :: pn)) (st :: sts) (ts a cls d)) (r : HdsA X n hds l) :
      HdsA X n (.ExceptHandler (some t) (some n) (st :: sts) ps :: hds) ((cs, ts) :: l)
theorem flyZ_keeps {B : Heap} {l : List PySem.Env} {e : Addr} {Z : Obj → Prop} {h h' : Heap} (R : HandSPX.FlyingZ B l e Z h) (k : ∀ b o, h.get? b = some o → h'.get? b = some o) : HandSPX.FlyingZ B l e Z h' := by
  obtain ⟨f1, f2, f3, oe, vs, T, oT, us, h1, h2, h3, h4, h5, h6, h7, h8, h9⟩ := R
  exact ⟨fun b o q => k b o (f1 b o q), f2, f3.of_keeps fun b o q _ => ⟨o, k b o q, rfl⟩, oe, vs, T, oT, us, k _ _ h1, h2, h3, h4, h5, h6, k _ _ h7, h8, h9⟩
section
variable {X : Cx} {n : Str} {i : Nat} {body : List Stmt} {h₀ : ExceptHandler} {hds : List ExceptHandler} {l : List ClS} {pos : Pos} {tb : WX → TS} {Wout : WX}
theorem ps_try_asL (stk : X.stack = X.env :: X.outer) (fr : X.env.frame = some X.env.locals) (nd : X.N.Nodup) (at_ : X.N[i]? = some n) (loc : X.env.kindOf n = some .local) (tk : Takes X Wout)
    (hb : ∀ (W : WX) (pn : List (Addr × Obj)) (xe : Value → Shared → Prop), Takes (X.tr pn xe) W → PassesOwn (model X.prog X.w) X.A X.env xe → PSs (X.tr pn xe) body (tb W))
    (hh : HdsA X n (h₀ :: hds) l) : PS X (.Try body (h₀ :: hds) [] [] pos) (fun D σ H => tb (wAsL X.K i Wout D l) D σ H) := by
  refine ⟨fun pins s0 σ0 H0 D I0 h0 => ?_⟩
  have ok := I0.ok
  have frs_ : X.A.frames = some (X.env :: X.outer) := by rw [ok.frames, stk]
  have hlo : Loc X.env.scope n := .inl loc
  refine wpAny_Try_except ?_
  refine wpAny_mono ((hb (wAsL X.K i Wout D l) (X.pn ++ pins) (fun e s1 => wpAny (model X.prog X.w) X.A (noteFrame e X.env) (fun _ s2 => wpAny (model X.prog X.w) X.A (setFlight e none) (fun _ s3 =>
    wpAny (model X.prog X.w) X.A (handleBy e X.env (h₀ :: hds)) (SP X pins D) X.xe s3) X.xe s2) X.xe s1) (fun u s1 xx => ?_) PassesOwn.looking).run [] s0 σ0 H0 D (I0.toTry _) h0) (fun f s1 sp => ?_) (fun e s1 q => q)
  · obtain ⟨a, B, sI, pins1, σ1, H1, cls, d, rfl, J1, nb, up, sky, na, os, ag, w⟩ := xx
    have J : L2.Inv X pins σ1 H1 sI := J1.ofTry ok
    have sky1 : Sky B (X.env :: X.outer) a (Zc cls d) X.env.locals s1.heap := by rw [← stk]; exact sky
    show wpAny (model X.prog X.w) X.A (noteFrame (.ref a) X.env) _ _ _
    refine Sky.land Zc.steady frs_ fr sky1 fun h3 fl3 up3 => ?_
    have no_frame : ∀ {h : Heap} {o : Obj} {vs : Array Value}, h.FunFrames B (X.env :: X.outer) → h.get? a = some o → o.data = .fields vs → a ∉ frs (X.env :: X.outer) := fun {h o vs} ff e dd m => by
      obtain ⟨_, o1, e1, z1⟩ := ff.mem m
      rw [e] at e1
      cases e1
      exact z1 _ dd
    obtain ⟨oe3, vs3, he3, hz3, hd3⟩ := fl3.there
    have nfr := no_frame fl3.2.2.1 he3 hd3
    have neL : a ≠ X.env.locals := fun z => nfr (List.mem_filterMap.mpr ⟨X.env, List.mem_cons_self, by rw [fr, z]⟩)
    have neF : a ∉ X.fs := fun m => by
      obtain ⟨e1, m1, q1⟩ := List.mem_filterMap.mp m
      exact nfr (List.mem_filterMap.mpr ⟨e1, List.mem_cons_of_mem _ m1, q1⟩)
    have go : ∀ {hs1 : List ExceptHandler} {l1 : List ClS}, HdsA X n hs1 l1 → ∀ h3 : Heap, HandSPX.FlyingZ B (X.env :: X.outer) a (Zc cls d) h3 → s1.heap.UpToSlots h3 → wAsL X.K i Wout D l1 cls d σ1 H1 →
        wpAny (model X.prog X.w) X.A (handleBy (.ref a) X.env hs1) (SP X pins D) X.xe { s1 with heap := h3 } := by
      intro hs1 l1 hk
      induction hk with
      | nil =>
        intro h3 fl3 up3 w
        refine wpAny_handleBy_nil ?_
        obtain ⟨_, _, _, oe, vs, T, oT, us, q1, q2, q3, q4, q5⟩ := id fl3
        unfold PySem.passOn
        refine wpAny_bind (wpAny_field q1 q3 q4 ?_)
        rw [if_neg (show ¬ ((Value.ref T == Value.none) = true) from by simp)]
        have fin : wpAny (model X.prog X.w) X.A (setFlight (.ref a) X.env.frame) (fun _ s4 => wpAny (model X.prog X.w) X.A (throw (.ref a) : Sem Flow) (SP X pins D) X.xe s4) X.xe { s1 with heap := h3 } := by
          rw [fr]
          exact HandSPX.setFlight_upZ fl3 fun h4 hh4 up4 => wpAny_throw (tk _ _ ⟨a, B, sI, pins, σ1, H1, cls, d, rfl, J, nb, (up.trans up3).trans up4, .inr (.inr (by rw [stk]; exact hh4)), na, os, ag, w⟩)
        first
          | exact wpAny_bind (wpAny_pure (wpAny_bind fin))
          | exact wpAny_bind fin
      | @cons t cs ts st sts ps hds2 l2 ht hsu r ih =>
        intro h3 fl3 up3 w
        obtain ⟨b, hb1, yes, no⟩ := w
        have J3 : L2.Inv X pins σ1 H1 { s1 with heap := h3 } := J.landed nb fl3.1 (up.trans up3) os ag
        obtain ⟨oe3, vs3, he3, hz3, hd3⟩ := fl3.there
        have S3 := J3.suite he3 hd3 na neL neF
        refine wpAny_handleBy_cons (codeAny_handlers_test (ht a oe3 pins σ1 H1 _ cls b _ _ S3 (fun h' k => fun A Q E s k' q => wpAny_typeOf_ref (k' _ _ (k _ _ he3)) (by rw [hz3.1]; exact q)) hb1 fun h' k => ?_)) (by intro q; cases q)
        have fl' := flyZ_keeps fl3 k
        have up' : s1.heap.UpToSlots h' := up3.trans (Heap.UpToSlots.of_keeps k)
        cases b with
        | false => exact ih h' fl' up' (no rfl)
        | true =>
          refine codeAny_handlers_suite_as ?_
          refine HandSPX.lands_againZ fl' fun h4 fl4 up4 => ?_
          have J4 : L2.Inv X pins σ1 H1 { s1 with heap := h4 } := J.landed nb fl4.1 ((up.trans up').trans up4) os ag
          obtain ⟨oe4, vs4, he4, hz4, hd4⟩ := fl4.there
          have S4 := J4.suite he4 hd4 na neL neF
          refine store_ok (X := X.suite a ((a, oe4) :: (X.pn ++ pins))) (v := .ref a) S4 nd at_ hlo rfl (fun s5 S5 => ?_) (.inr loc)
          refine wpAny_mono ((hsu a oe4 cls d (X.pn ++ pins) hz4 ⟨_, hd4⟩).run [] s5 _ H1 _ S5 (yes rfl a na)) (fun f s6 sp => ?_) (fun _ _ z => False.elim z)
          have end_ : ∀ {σ6 : L2.St} {H6 : Hp} {Q : Shared → Prop}, L2.Inv (X.suite a ((a, oe4) :: (X.pn ++ pins))) [] σ6 H6 s6 → (∀ s7, L2.Inv X pins (σ6.set i none) H6 s7 → Q s7) →
              wpAny (model X.prog X.w) X.A (do bindName X.env n .none; unbindBehindTheSuite X.env n ps) (fun _ s7 => Q s7) X.xe s6 := fun {σ6 H6 Q} S6 hq => gone_ok (S6.unsuite ok) nd at_ loc hq
          cases f with
          | next =>
            obtain ⟨σ6, H6, S6, q6⟩ := sp
            exact end_ S6 fun s7 J7 => ⟨_, _, J7, q6⟩
          | brk =>
            obtain ⟨σ6, H6, S6, q6⟩ := sp
            exact end_ S6 fun s7 J7 => ⟨_, _, J7, q6⟩
          | cont =>
            obtain ⟨σ6, H6, S6, q6⟩ := sp
            exact end_ S6 fun s7 J7 => ⟨_, _, J7, q6⟩
          | ret u =>
            obtain ⟨v6, σ6, H6, S6, r6, q6⟩ := sp
            exact end_ S6 fun s7 J7 => ⟨_, _, _, J7, r6, q6⟩
    exact go hh h3 fl3 up3 w
  · cases f with
    | next =>
      obtain ⟨σ1, H1, J1, q⟩ := sp
      exact wpAny_execs_nil ⟨σ1, H1, J1.ofTry ok, q⟩
    | brk =>
      obtain ⟨σ1, H1, J1, q⟩ := sp
      exact ⟨σ1, H1, J1.ofTry ok, q⟩
    | cont =>
      obtain ⟨σ1, H1, J1, q⟩ := sp
      exact ⟨σ1, H1, J1.ofTry ok, q⟩
    | ret u =>
      obtain ⟨v1, σ1, H1, J1, r1, q⟩ := sp
      exact ⟨v1, σ1, H1, J1.ofTry ok, r1, q⟩
end
def ckFs (e : Str) : List Str → List Expr → Bool
  | [], [] => true
  | f :: fs, .Attribute (.Name x _) g _ :: es => decide (x = e) && decide (g = f) && ckFs e fs es
  | _, _ => false
/-- the fields fs of the exception at slot 1 -/
def tHdA (K : PySem.W.Frag) (fs : List Str) (a : Addr) (cls : Value) (d : Option Addr) : TA := fun σ H Q => σ[1]? = some (some (.ref a)) ∧ ∃ C dd l vs, cls = .ref C ∧ d = some dd ∧ XfC K C ∧ (∀ f ∈ fs, PySem.W.findIn K (.ref C) f = some none) ∧ H dd = some (.xd l) ∧
  vs.length = fs.length ∧ (∀ (i : Nat) f v, fs[i]? = some f → vs[i]? = some v → l.lookup f = some v) ∧ Q vs H
section
variable {X : Cx} {a : Addr} {oe : Obj} {cls : Value} {d : Option Addr} {pn : List (Addr × Obj)}
theorem pa_flds {e : Str} (hN : X.N[1]? = some e) (he : X.env.scope.names.lookup e = some .local) (h1 : (e == ("__debug__" : Str)) = false) (h2 : (e == ("__classdict__" : Str)) = false) (hz : Zc cls d oe) (hf : ∃ vs, oe.data = .fields vs) : ∀ {fs : List Str} {es : List Expr}, ckFs e fs es = true →
    PA (X.suite a ((a, oe) :: pn)) es (tHdA X.K fs a cls d)
  | [], [], _ => (pa_nil (X := X.suite a ((a, oe) :: pn))).mono fun σ H Q ⟨_, C, dd, l, vs, _, _, _, _, _, hl, _, q⟩ => by
    cases vs with
    | nil => exact q
    | cons _ _ => cases hl
  | f :: fs, e1 :: es, h => by
    unfold ckFs at h
    split at h <;> first | contradiction | skip
    · rename_i x p g q es' heq1 heq2
      cases heq1
      cases heq2
      simp only [Bool.and_eq_true, decide_eq_true_eq] at h
      obtain ⟨⟨rfl, rfl⟩, h⟩ := h
      have ih := pa_flds hN he h1 h2 hz hf h
      by_cases hc : ∃ C, cls = .ref C ∧ XfC X.K C ∧ PySem.W.findIn X.K (.ref C) g = some none
      · obtain ⟨C, rfl, T, hno⟩ := hc
        have hv : PE (X.suite a ((a, oe) :: pn)) (.Name x p) (tVar 1) := pe_var hN (.inl he) h1 h2
        have hx := pe_xf (pos := q) T hno hz hf hv
        refine (pa_cons hx ih (by rfl)).mono fun σ H Q ⟨hs, C', dd, l, vs, hC, hd, hT, hn, hl, hlen, hvs, hq⟩ => ?_
        cases hC
        cases vs with
        | nil => cases hlen
        | cons v vs =>
          refine ⟨.ref a, hs, rfl, rfl, dd, l, v, hd, hl, hvs 0 _ _ rfl rfl, ?_⟩
          exact ⟨hs, C, dd, l, vs, rfl, hd, hT, fun f hf => hn f (List.mem_cons_of_mem _ hf), hl, by simpa using hlen, fun i f v h1 h2 => hvs (i + 1) f v (by simpa using h1) (by simpa using h2), hq⟩
      · exact ⟨fun pos pins s σ H Q I ⟨hs, C', dd, l, vs, hC, hd, hT, hn, _⟩ => absurd ⟨C', hC, hT, hn _ List.mem_cons_self⟩ hc⟩
  | [], _ :: _, h => by simp [ckFs] at h
  | _ :: _, [], h => by simp [ckFs] at h
/-- the clause's suite: return (e.f, ..) -/
def tHd (K : PySem.W.Frag) (fs : List Str) (a : Addr) (cls : Value) (d : Option Addr) : TS := fun D σ H => (∃ σ0 : L2.St, σ = σ0.set 1 (some (.ref a))) ∧ ∃ C dd l vs, cls = .ref C ∧ d = some dd ∧ XfC K C ∧ (∀ f ∈ fs, PySem.W.findIn K (.ref C) f = some none) ∧ H dd = some (.xd l) ∧
  vs.length = fs.length ∧ vs.length ≤ sizeLine ∧ (∀ (i : Nat) f v, fs[i]? = some f → vs[i]? = some v → l.lookup f = some v) ∧ ∀ p, H p = none → D.rt (.ref p) (upd H p (.tup vs))
theorem ps_hd {e : Str} {fs : List Str} {es : List Expr} {kk} {q1 q2 : Pos} (hN : X.N[1]? = some e) (he : X.env.scope.names.lookup e = some .local) (h1 : (e == ("__debug__" : Str)) = false) (h2 : (e == ("__classdict__" : Str)) = false) (hz : Zc cls d oe) (hf : ∃ vs, oe.data = .fields vs) (h : ckFs e fs es = true) :
    PSs (X.suite a ((a, oe) :: pn)) [.Return (some (.Tuple es kk q1)) q2] (tHd X.K fs a cls d) := by
  have hs := pss_one (ps_ret (pos := q2) (pe_tup (x1 := kk) (pos := q1) (pa_flds (a := a) (pn := pn) hN he h1 h2 hz hf h)))
  refine ⟨fun pins s σ H D I ⟨⟨σ0, hσ⟩, C, dd, l, vs, e1, e2, e3, e4, e5, e6, e6', e7, e8⟩ => hs.run pins s σ H D I ⟨?_, C, dd, l, vs, e1, e2, e3, e4, e5, e6, e7, e6', e8⟩⟩
  have hl := I.len
  have h3 : 1 < X.N.length := (List.getElem?_eq_some_iff.mp hN).1
  subst hσ
  refine List.getElem?_set_self ?_
  have h4 : (σ0.set 1 (some (V.ref a))).length = X.N.length := hl
  rw [List.length_set] at h4
  omega
end
end G
set_option Elab.async false
set_option linter.all false
set_option maxRecDepth 100000
set_option maxHeartbeats 0
namespace G
open PySem L2
section
variable {Γ : Gm} {φ : Fx} {H : Hp}
def Fx.cutAt (φ : Fx) (n : Nat) : Fx := ⟨φ.cs.take n, φ.hd⟩
theorem Fx.cut_out {n : Nat} {a : Addr} (h : φ.out a) : (φ.cutAt n).out a := ⟨fun q => h.1 (List.mem_of_mem_take q), h.2⟩
mutual
theorem Rep.trunc {n : Nat} : ∀ {v : V} {d : D}, D.under n d = true → Rep Γ φ H v d → Rep Γ (φ.cutAt n) H v d
  | _, _, _, .non => .non
  | _, _, _, .bl b => .bl b
  | _, _, _, .int i => .int i
  | _, _, _, .str t => .str t
  | _, _, u, .tup h r => .tup h (Reps.trunc (by simpa [D.under] using u) r)
  | _, _, u, .lst h n r => .lst h (Fx.cut_out n) (Reps.trunc (by simpa [D.under] using u) r)
  | _, _, _, .scr h => .scr h
  | _, _, _, .scrL h n => .scrL h (Fx.cut_out n)
  | _, _, u, .ins a1 a2 a3 a4 r => .ins a1 a2 a3 (Fx.cut_out a4) (Reps.trunc (by simpa [D.under] using u) r)
  | _, .ref m, u, .ref h => .ref (by
    have u : m < n := by simpa [D.under] using u
    show (φ.cs.take n)[_]? = _
    rw [List.getElem?_take_of_lt u]
    exact h)
  | _, _, _, .dfn h => .dfn h
theorem Reps.trunc {n : Nat} : ∀ {v : List V} {d : List D}, D.unders n d = true → Reps Γ φ H v d → Reps Γ (φ.cutAt n) H v d
  | _, _, _, .nil => .nil
  | _, _, u, .cons a b => by
    simp only [D.unders, Bool.and_eq_true] at u
    exact .cons (Rep.trunc u.1 a) (Reps.trunc u.2 b)
end
mutual
theorem Rep.freeze1 {n : Nat} {s : Stt} (rel : Rel Γ φ H s) : ∀ {v : V} {d d' : D}, D.freeze1 n s d = some d' → Rep Γ φ H v d → Rep Γ (φ.cutAt n) H v d'
  | _, .non, _, e, h => by simp [D.freeze1] at e; subst e; cases h; constructor
  | _, .bl _, _, e, h => by simp [D.freeze1] at e; subst e; cases h; constructor
  | _, .int _, _, e, h => by simp [D.freeze1] at e; subst e; cases h; constructor
  | _, .str _, _, e, h => by simp [D.freeze1] at e; subst e; cases h; constructor
  | .ref _, .tup _, _, e, .tup h r => by
    simp only [D.freeze1, Option.map_eq_some_iff] at e
    obtain ⟨ds, h1, rfl⟩ := e
    exact .tup h (Reps.freeze1 rel h1 r)
  | .ref _, .lst _, _, e, .lst h n r => by
    simp only [D.freeze1, Option.map_eq_some_iff] at e
    obtain ⟨ds, h1, rfl⟩ := e
    exact .lst h (Fx.cut_out n) (Reps.freeze1 rel h1 r)
  | _, .scr _, _, e, h => by
    simp [D.freeze1] at e
    subst e
    cases h with
    | scr h => exact .scr h
    | scrL h n => exact .scrL h (Fx.cut_out n)
  | .ref _, .ins _ _, _, e, .ins a1 a2 a3 a4 r => by
    simp only [D.freeze1, Option.map_eq_some_iff] at e
    obtain ⟨ds, h1, rfl⟩ := e
    exact .ins a1 a2 a3 (Fx.cut_out a4) (Reps.freeze1 rel h1 r)
  | .ref _, .ref m, _, e, .ref h => by
    simp only [D.freeze1] at e
    split at e
    · rename_i u
      cases e
      exact .ref (by
        show (φ.cs.take n)[_]? = _
        rw [List.getElem?_take_of_lt u]
        exact h)
    · rename_i u
      split at e
      · rename_i xs hx
        split at e
        · rename_i hu
          cases e
          obtain ⟨vs, h1, h2⟩ := rel.cell _ _ _ h hx
          refine .lst h1 ⟨fun q => ?_, rel.dis _ (List.mem_of_getElem? h)⟩ (Reps.trunc hu h2)
          obtain ⟨j, hj⟩ := List.getElem?_of_mem q
          have lj : j < n := by
            have := (List.getElem?_eq_some_iff.mp hj).1
            rw [show (φ.cutAt n).cs = φ.cs.take n from rfl, List.length_take] at this
            omega
          rw [show (φ.cutAt n).cs = φ.cs.take n from rfl, List.getElem?_take_of_lt lj] at hj
          have := nodup_ixN rel.nd h hj
          omega
        · cases e
      · cases e
  | _, .dfn _, _, e, h => by simp [D.freeze1] at e; subst e; cases h; constructor; assumption
theorem Reps.freeze1 {n : Nat} {s : Stt} (rel : Rel Γ φ H s) : ∀ {v : List V} {d d' : List D}, D.freezes1 n s d = some d' → Reps Γ φ H v d → Reps Γ (φ.cutAt n) H v d'
  | [], [], _, e, .nil => by simp [D.freezes1] at e; subst e; exact .nil
  | _ :: _, d :: ds, _, e, .cons a b => by
    simp only [D.freezes1] at e
    cases e1 : D.freeze1 n s d with
    | none => simp [e1] at e
    | some q =>
      cases e2 : D.freezes1 n s ds with
      | none => simp [e1, e2] at e
      | some qs =>
        simp [e1, e2] at e
        subst e
        exact .cons (Rep.freeze1 rel e1 a) (Reps.freeze1 rel e2 b)
end
mutual
theorem Rep.freeze {n : Nat} {s : Stt} (rel : Rel Γ φ H s) : ∀ {v : V} {d d' : D}, D.freeze n s d = some d' → Rep Γ φ H v d → Rep Γ (φ.cutAt n) H v d'
  | _, .non, _, e, h => by simp [D.freeze] at e; subst e; cases h; constructor
  | _, .bl _, _, e, h => by simp [D.freeze] at e; subst e; cases h; constructor
  | _, .int _, _, e, h => by simp [D.freeze] at e; subst e; cases h; constructor
  | _, .str _, _, e, h => by simp [D.freeze] at e; subst e; cases h; constructor
  | .ref _, .tup _, _, e, .tup h r => by
    simp only [D.freeze, Option.map_eq_some_iff] at e
    obtain ⟨ds, h1, rfl⟩ := e
    exact .tup h (Reps.freeze rel h1 r)
  | .ref _, .lst _, _, e, .lst h n r => by
    simp only [D.freeze, Option.map_eq_some_iff] at e
    obtain ⟨ds, h1, rfl⟩ := e
    exact .lst h (Fx.cut_out n) (Reps.freeze rel h1 r)
  | _, .scr _, _, e, h => by
    simp [D.freeze] at e
    subst e
    cases h with
    | scr h => exact .scr h
    | scrL h n => exact .scrL h (Fx.cut_out n)
  | .ref _, .ins _ _, _, e, .ins a1 a2 a3 a4 r => by
    simp only [D.freeze, Option.map_eq_some_iff] at e
    obtain ⟨ds, h1, rfl⟩ := e
    exact .ins a1 a2 a3 (Fx.cut_out a4) (Reps.freeze rel h1 r)
  | .ref _, .ref m, _, e, .ref h => by
    simp only [D.freeze] at e
    split at e
    · rename_i u
      cases e
      exact .ref (by
        show (φ.cs.take n)[_]? = _
        rw [List.getElem?_take_of_lt u]
        exact h)
    · rename_i u
      split at e
      · rename_i xs hx
        split at e
        · rename_i hu
          cases e
          obtain ⟨vs, h1, h2⟩ := rel.cell _ _ _ h hx
          refine .lst h1 ⟨fun q => ?_, rel.dis _ (List.mem_of_getElem? h)⟩ (Reps.trunc hu h2)
          obtain ⟨j, hj⟩ := List.getElem?_of_mem q
          have lj : j < n := by
            have := (List.getElem?_eq_some_iff.mp hj).1
            rw [show (φ.cutAt n).cs = φ.cs.take n from rfl, List.length_take] at this
            omega
          rw [show (φ.cutAt n).cs = φ.cs.take n from rfl, List.getElem?_take_of_lt lj] at hj
          have := nodup_ixN rel.nd h hj
          omega
        · obtain ⟨ds, e1, rfl⟩ := Option.map_eq_some_iff.mp e
          obtain ⟨vs, h1, h2⟩ := rel.cell _ _ _ h hx
          refine .lst h1 ⟨fun q => ?_, rel.dis _ (List.mem_of_getElem? h)⟩ (Reps.freeze1 rel e1 h2)
          obtain ⟨j, hj⟩ := List.getElem?_of_mem q
          have lj : j < n := by
            have := (List.getElem?_eq_some_iff.mp hj).1
            rw [show (φ.cutAt n).cs = φ.cs.take n from rfl, List.length_take] at this
            omega
          rw [show (φ.cutAt n).cs = φ.cs.take n from rfl, List.getElem?_take_of_lt lj] at hj
          have := nodup_ixN rel.nd h hj
          omega
      · cases e
  | _, .dfn _, _, e, h => by simp [D.freeze] at e; subst e; cases h; constructor; assumption
theorem Reps.freeze {n : Nat} {s : Stt} (rel : Rel Γ φ H s) : ∀ {v : List V} {d d' : List D}, D.freezes n s d = some d' → Reps Γ φ H v d → Reps Γ (φ.cutAt n) H v d'
  | [], [], _, e, .nil => by simp [D.freezes] at e; subst e; exact .nil
  | _ :: _, d :: ds, _, e, .cons a b => by
    simp only [D.freezes] at e
    cases e1 : D.freeze n s d with
    | none => simp [e1] at e
    | some q =>
      cases e2 : D.freezes n s ds with
      | none => simp [e1, e2] at e
      | some qs =>
        simp [e1, e2] at e
        subst e
        exact .cons (Rep.freeze rel e1 a) (Reps.freeze rel e2 b)
end
theorem Rel.trunc {n : Nat} {s : Stt} (rel : Rel Γ φ H s) (h : (s.take n).all (·.under n) = true) : Rel Γ (φ.cutAt n) H (s.take n) := by
  refine ⟨?_, rel.nd.sublist (List.take_sublist _ _), fun a ha hb => rel.dis a (List.mem_of_mem_take ha) hb, rel.hid, fun m a c h1 h2 => ?_, rel.tab⟩
  · show (φ.cs.take n).length = (s.take n).length
    rw [List.length_take, List.length_take, rel.len]
  · have hm : m < n := by
      have := (List.getElem?_eq_some_iff.mp h2).1
      rw [List.length_take] at this
      omega
    have hu : c.under n = true := List.all_eq_true.mp h c (List.mem_of_getElem? h2)
    rw [show (φ.cutAt n).cs = φ.cs.take n from rfl, List.getElem?_take_of_lt hm] at h1
    rw [List.getElem?_take_of_lt hm] at h2
    have q := rel.cell m a c h1 h2
    cases c with
    | lst ds =>
      obtain ⟨xs, e, r⟩ := q
      exact ⟨xs, e, r.trunc hu⟩
    | ins c ds =>
      obtain ⟨C, fn, dx, xs, h0, e, l, r⟩ := q
      exact ⟨C, fn, dx, xs, h0, e, l, r.trunc hu⟩
    | dct kvs =>
      obtain ⟨vs, e, r⟩ := q
      exact ⟨vs, e, r.trunc hu⟩
    | key ks =>
      obtain ⟨vs, e, r, e2⟩ := q
      exact ⟨vs, e, r.trunc hu, e2⟩
def Fx.cutTo (φ : Fx) (n : Nat) (a : Addr) : Fx := ⟨φ.cs.take n ++ [a], φ.hd⟩
theorem Fx.to_out {n : Nat} {a b : Addr} (ha : a ∈ φ.cs) (h : φ.out b) : (φ.cutTo n a).out b := ⟨fun q => by
  rcases List.mem_append.mp q with z | z
  · exact h.1 (List.mem_of_mem_take z)
  · rw [List.mem_singleton.mp z] at h
    exact h.1 ha, h.2⟩
theorem Fx.to_get {n m : Nat} {a b : Addr} (hn : n ≤ φ.cs.length) (u : m < n) (h : φ.cs[m]? = some b) : (φ.cutTo n a).cs[m]? = some b := by
  show (φ.cs.take n ++ [a])[m]? = _
  rw [List.getElem?_append_left (by rw [List.length_take]; omega), List.getElem?_take_of_lt u]
  exact h
mutual
theorem Rep.cutTo {n : Nat} {a : Addr} (ha : a ∈ φ.cs) (hn : n ≤ φ.cs.length) : ∀ {v : V} {d : D}, D.under n d = true → Rep Γ φ H v d → Rep Γ (φ.cutTo n a) H v d
  | _, _, _, .non => .non
  | _, _, _, .bl b => .bl b
  | _, _, _, .int i => .int i
  | _, _, _, .str t => .str t
  | _, _, u, .tup h r => .tup h (Reps.cutTo ha hn (by simpa [D.under] using u) r)
  | _, _, u, .lst h k r => .lst h (Fx.to_out ha k) (Reps.cutTo ha hn (by simpa [D.under] using u) r)
  | _, _, _, .scr h => .scr h
  | _, _, _, .scrL h k => .scrL h (Fx.to_out ha k)
  | _, _, u, .ins a1 a2 a3 a4 r => .ins a1 a2 a3 (Fx.to_out ha a4) (Reps.cutTo ha hn (by simpa [D.under] using u) r)
  | _, .ref m, u, .ref h => .ref (Fx.to_get hn (by simpa [D.under] using u) h)
  | _, _, _, .dfn h => .dfn h
theorem Reps.cutTo {n : Nat} {a : Addr} (ha : a ∈ φ.cs) (hn : n ≤ φ.cs.length) : ∀ {v : List V} {d : List D}, D.unders n d = true → Reps Γ φ H v d → Reps Γ (φ.cutTo n a) H v d
  | _, _, _, .nil => .nil
  | _, _, u, .cons x y => by
    simp only [D.unders, Bool.and_eq_true] at u
    exact .cons (Rep.cutTo ha hn u.1 x) (Reps.cutTo ha hn u.2 y)
end
theorem Rel.cutTo {n m : Nat} {s : Stt} {a : Addr} {xs : List D} (rel : Rel Γ φ H s) (h : (s.take n).all (·.under n) = true) (hm : n ≤ m) (hp : φ.cs[m]? = some a) (hx : s[m]? = some (.lst xs)) (hu : D.unders n xs = true) : Rel Γ (φ.cutTo n a) H (s.take n ++ [.lst xs]) := by
  have hl : m < φ.cs.length := (List.getElem?_eq_some_iff.mp hp).1
  have ha : a ∈ φ.cs := List.mem_of_getElem? hp
  have hn : n ≤ φ.cs.length := by omega
  have lt : (φ.cs.take n).length = n := by rw [List.length_take]; omega
  have ls : (s.take n).length = n := by rw [List.length_take, ← rel.len]; omega
  have na : a ∉ φ.cs.take n := fun q => by
    obtain ⟨j, hj⟩ := List.getElem?_of_mem q
    have lj : j < n := by
      have := (List.getElem?_eq_some_iff.mp hj).1
      omega
    rw [List.getElem?_take_of_lt lj] at hj
    have := nodup_ixN rel.nd hp hj
    omega
  refine ⟨?_, ?_, fun b hb => ?_, rel.hid, fun j b c h1 h2 => ?_, rel.tab⟩
  · show (φ.cs.take n ++ [a]).length = (s.take n ++ [_]).length
    rw [List.length_append, List.length_append, lt, ls]
    rfl
  · show (φ.cs.take n ++ [a]).Nodup
    rw [List.nodup_append]
    exact ⟨rel.nd.sublist (List.take_sublist _ _), by simp, fun x hx y hy e => by rw [List.mem_singleton.mp hy] at e; rw [e] at hx; exact na hx⟩
  · rcases List.mem_append.mp hb with z | z
    · exact rel.dis b (List.mem_of_mem_take z)
    · rw [List.mem_singleton.mp z]
      exact rel.dis a ha
  · have h1 : (φ.cs.take n ++ [a])[j]? = some b := h1
    by_cases lj : j < n
    · rw [List.getElem?_append_left (by omega), List.getElem?_take_of_lt lj] at h1
      rw [List.getElem?_append_left (by omega), List.getElem?_take_of_lt lj] at h2
      have hc : c.under n = true := List.all_eq_true.mp h c (List.mem_of_getElem? (by rw [List.getElem?_take_of_lt lj]; exact h2))
      have q := rel.cell j b c h1 h2
      cases c with
      | lst ds =>
        obtain ⟨vs, e, r⟩ := q
        exact ⟨vs, e, r.cutTo ha hn hc⟩
      | ins c ds =>
        obtain ⟨C, fn, dx, vs, h0, e, l, r⟩ := q
        exact ⟨C, fn, dx, vs, h0, e, l, r.cutTo ha hn hc⟩
      | dct kvs =>
        obtain ⟨vs, e, r⟩ := q
        exact ⟨vs, e, r.cutTo ha hn hc⟩
      | key ks =>
        obtain ⟨vs, e, r, e2⟩ := q
        exact ⟨vs, e, r.cutTo ha hn hc, e2⟩
    · have jn : j = n := by
        have := (List.getElem?_eq_some_iff.mp h1).1
        rw [List.length_append, lt] at this
        simp only [List.length_cons, List.length_nil] at this
        omega
      subst jn
      rw [List.getElem?_append_right (by omega), lt, Nat.sub_self] at h1
      rw [List.getElem?_append_right (by omega), ls, Nat.sub_self] at h2
      cases h1
      cases h2
      obtain ⟨vs, e, r⟩ := rel.cell m a _ hp hx
      exact ⟨vs, e, r.cutTo ha hn hu⟩
/-- behind a call -/
theorem Go.leave {W : WX} {σ : St} {φ' : Fx} {H' : Hp} {keep : Bool} {s s' : Stt} {d : D} {v : V} {Q : VK} (rel0 : Rel Γ φ H s) (h : Go Γ W φ H σ (leave keep s.length d s') fun d s' φ' H' => ∀ v, Rep Γ φ' H' v d → Q v H') (x : After φ H φ' H') (rel : Rel Γ φ' H' s') (hv : Rep Γ φ' H' v d) : Q v H' := by
  unfold G.leave at h
  split at h
  · exact h φ' H' x rel v hv
  · split at h
    · exact h φ' H' x rel v hv
    · split at h
      · rename_i d' hf
        split at h
        · rename_i hu
          obtain ⟨ψ, e, f⟩ := x.grow
          have e2 : (φ'.cutAt s.length).cs = φ.cs := by
            show φ'.cs.take s.length = φ.cs
            rw [e, ← rel0.len, List.take_left']
            rfl
          have A : After φ H (φ'.cutAt s.length) H' := ⟨⟨[], by rw [e2]; simp, fun _ h => nomatch h⟩, x.hid, x.keep, x.tups, x.frzs, x.there⟩
          exact h _ H' A (rel.trunc hu) v (Rep.freeze rel hf hv)
        · exact h.elim
      · exact h.elim
theorem freezes_get {n : Nat} {s : Stt} : ∀ {ds es : List D}, D.freezes n s ds = some es → es.length = ds.length ∧ ∀ (i : Nat) e, es[i]? = some e → ∃ d, ds[i]? = some d ∧ D.freeze n s d = some e
  | [], es, h => by
    simp only [D.freezes, Option.some.injEq] at h
    subst h
    exact ⟨rfl, fun i e h => by simp at h⟩
  | d :: ds, es, h => by
    simp only [D.freezes] at h
    split at h
    · rename_i p ps h1 h2
      cases h
      obtain ⟨h3, h4⟩ := freezes_get h2
      refine ⟨by simp [h3], fun i e q => ?_⟩
      cases i with
      | zero =>
        cases q
        exact ⟨d, rfl, h1⟩
      | succ i => exact h4 i e (by simpa using q)
    · cases h
/-- behind a call that let an exception out -/
theorem Go.leaveX {W : WX} {σ : St} {φ' : Fx} {H' : Hp} {s s' : Stt} {c : Nat} {fs : List D} {cls : Value} {dd : Option Addr} {K : D → Stt → Fx → Hp → Prop} (rel0 : Rel Γ φ H s) (h : Go Γ W φ H σ (leaveX s.length c fs s') K) (x : After φ H φ' H') (rel : Rel Γ φ' H' s') (xr : XR Γ φ' H' cls dd c fs) : W cls dd σ H' := by
  unfold G.leaveX at h
  split at h
  · exact h φ' H' cls dd x rel xr
  · split at h
    · rename_i fs' hf
      split at h
      · rename_i hu
        obtain ⟨ψ, e, f⟩ := x.grow
        have e2 : (φ'.cutAt s.length).cs = φ.cs := by
          show φ'.cs.take s.length = φ.cs
          rw [e, ← rel0.len, List.take_left']
          rfl
        have A : After φ H (φ'.cutAt s.length) H' := ⟨⟨[], by rw [e2]; simp, fun _ h => nomatch h⟩, x.hid, x.keep, x.tups, x.frzs, x.there⟩
        obtain ⟨l1, l2⟩ := freezes_get hf
        obtain ⟨C, fn, d, l, h1, h2, h3, h4, h5, h6⟩ := xr
        exact h _ H' cls dd A (rel.trunc hu) ⟨C, fn, d, l, h1, h2, h3, h4, by rw [h5, l1], fun i f e q1 q2 => by
          obtain ⟨d0, q3, q4⟩ := l2 i e q2
          obtain ⟨v, q5, q6⟩ := h6 i f d0 q1 q3
          exact ⟨v, q5, Rep.freeze rel q4 q6⟩⟩
      · exact h.elim
    · exact h.elim
end
end G
set_option Elab.async false
set_option linter.all false
set_option maxRecDepth 100000
set_option maxHeartbeats 0
namespace G
open PySem L2
/-- what of the class c is known -/
structure OcOk (P : Prog) (Γ : Gm) (K : PySem.W.Frag) (mg : Str → Option Value) (c : Nat) (oc : OCls) (C : Addr) : Prop where
  cl : Γ.cls c = some (C, oc.fs)
  nd : oc.fs.Nodup
  few : oc.fs.length < 1000
  gl : mg oc.name = some (.ref C)
  cls : Cls K C
  no : ∀ f ∈ oc.fs, NoAttr K C f
  makes : PySem.W.makesIn K C = true
  kp : PySem.W.keepIn K (.ref C) = true
  init : ∃ df, P.defs[oc.init]? = some df ∧ df.pos = true ∧ df.own = some oc.name ∧ df.name = "__init__"
  isa : ∀ t, t ∈ ["NoneType", "bool", "int", "str", "tuple", "list"] → PySem.W.kitOne K (.type t) (.ref C) = some false
  own : PySem.W.findIn K (.ref C) "__class__" = some (some (.builtin "object.__class__")) ∧ PySem.W.specialIn K (.builtin "object.__class__") "__get__" = some (some (.builtin "getset_descriptor.__get__")) ∧ PySem.W.takesIn K (.builtin "object.__class__") = some true ∧ PySem.W.mroIn K C (.type "object") = some true
  meths : ∀ m g, oc.meths.lookup m = some g → m ∉ oc.fs ∧ ∃ df, P.defs[g]? = some df ∧ df.pos = true ∧ df.own = some oc.name ∧ df.name = m
def OcsOk (P : Prog) (Γ : Gm) (K : PySem.W.Frag) (mg : Str → Option Value) : Prop := ∀ (c : Nat) oc, P.cls[c]? = some oc → ∃ C, OcOk P Γ K mg c oc C
section
variable {Γ : Gm} {φ φ' : Fx} {H H' : Hp}
theorem ins_rep {s : Stt} {v : V} {x : D} {c : Nat} {fs : List D} (rel : Rel Γ φ H s) (hv : Rep Γ φ H v x) (h : insF s x = some (c, fs)) : ∃ a C fn dx xs, v = .ref a ∧ Γ.cls c = some (C, fn) ∧ H a = some (.ins C dx (fn.zip xs)) ∧ Reps Γ φ H xs fs := by
  unfold insF at h
  split at h
  · cases h
    cases hv with
    | ins h1 h2 h3 h4 h5 => exact ⟨_, _, _, _, _, rfl, h1, h2, h5⟩
  · split at h
    · rename_i hs
      cases h
      cases hv with
      | ref h1 =>
        obtain ⟨C, fn, dx, xs, q1, q2, q3, q4⟩ := rel.cell _ _ _ h1 hs
        exact ⟨_, _, _, _, _, rfl, q1, q2, q4⟩
    · cases h
  · cases h
theorem reps_lookup {f : Str} : ∀ {fn : List Str} {xs : List V} {ds : List D} {d : D}, Reps Γ φ H xs ds → (fn.zip ds).lookup f = some d → ∃ v, (fn.zip xs).lookup f = some v ∧ Rep Γ φ H v d
  | [], _, _, _, _, h => by simp at h
  | _ :: _, _, _, _, .nil, h => by simp at h
  | g :: fn, x :: xs, d' :: ds, d, .cons a b, h => by
    simp only [List.zip_cons_cons, List.lookup_cons] at h ⊢
    cases e : f == g with
    | true =>
      rw [e] at h
      cases h
      exact ⟨x, rfl, a⟩
    | false =>
      rw [e] at h
      exact reps_lookup b h
theorem lookup_fn {f : Str} {α : Type} : ∀ {fn : List Str} {xs : List α} {d : α}, (fn.zip xs).lookup f = some d → f ∈ fn
  | [], _, _, h => by simp at h
  | _ :: _, [], _, h => by simp at h
  | g :: fn, x :: xs, d, h => by
    simp only [List.zip_cons_cons, List.lookup_cons] at h
    cases e : f == g with
    | true => rw [eq_of_beq e]; exact List.mem_cons_self
    | false =>
      rw [e] at h
      exact List.mem_cons_of_mem _ (lookup_fn h)
theorem lookup_none {f : Str} {α : Type} {fn : List Str} {xs : List α} (h : f ∉ fn) : (fn.zip xs).lookup f = none := by
  cases e : (fn.zip xs).lookup f with
  | none => rfl
  | some d => exact absurd (lookup_fn e) h
theorem putF_zip {f : Str} {v : V} : ∀ {fn : List Str} {xs : List V}, fn.Nodup → fn[xs.length]? = some f → putF f v (fn.zip xs) = fn.zip (xs ++ [v])
  | [], _, _, h => by simp at h
  | g :: fn, [], _, h => by
    simp only [List.length_nil, List.getElem?_cons_zero, Option.some.injEq] at h
    subst h
    simp [putF]
  | g :: fn, x :: xs, hn, h => by
    simp only [List.length_cons, List.getElem?_cons_succ] at h
    obtain ⟨n1, n2⟩ := List.nodup_cons.mp hn
    have ne : g ≠ f := fun z => n1 (by rw [z]; exact List.mem_of_getElem? h)
    show (if g = f then _ else (g, x) :: putF f v (fn.zip xs)) = _
    rw [if_neg ne, putF_zip n2 h]
    rfl
/-- a new instance as a cell -/
theorem Rel.pushI {s : Stt} {p dx C : Addr} {c : Nat} {fn : List Str} (r : Rel Γ φ H s) (h : H p = none) (hc : Γ.cls c = some (C, fn)) : Rel Γ ⟨φ.cs ++ [p], φ.hd⟩ (upd H p (.ins C dx [])) (s ++ [.ins c []]) := by
  refine ⟨by simp [r.len], ?_, fun a ha hb => ?_, fun a ha => let ⟨o, e, n⟩ := r.hid a ha; (After.fresh (φ := φ) h).there a o e n, fun n a c' h1 h2 => ?_, r.tab.ext (keep_upd h)⟩
  · refine List.nodup_append.mpr ⟨r.nd, by simp, fun a ha b hb e => ?_⟩
    rw [List.mem_singleton.mp hb] at e
    obtain ⟨n, hn⟩ := List.getElem?_of_mem ha
    obtain ⟨c, _, hc⟩ := r.there hn
    obtain ⟨o, e', _⟩ := hc.there
    rw [e, h] at e'
    cases e'
  · rcases List.mem_append.mp ha with ha | ha
    · exact r.dis a ha hb
    · rw [List.mem_singleton.mp ha] at hb
      obtain ⟨o, e, _⟩ := r.hid p hb
      rw [h] at e
      cases e
  · have A : After φ H ⟨φ.cs ++ [p], φ.hd⟩ (upd H p (.ins C dx [])) := After.cell h
    by_cases hn : n < φ.cs.length
    · rw [List.getElem?_append_left hn] at h1
      rw [List.getElem?_append_left (by rw [← r.len]; exact hn)] at h2
      have q := r.cell n a c' h1 h2
      obtain ⟨o', e, _⟩ := q.there
      exact q.mono A (by rw [upd_ne (ne_of_none e h)])
    · have l1 := (List.getElem?_eq_some_iff.mp h1).1
      have e : n = φ.cs.length := by simp at l1; omega
      subst e
      have e1 : a = p := by simpa using h1.symm
      have e2 : c' = .ins c [] := by rw [r.len] at h2; simpa using h2.symm
      subst e1 e2
      exact ⟨C, fn, dx, [], hc, by rw [upd_same, List.zip_nil_right], Nat.zero_le _, .nil⟩
theorem Rel.writeI {s : Stt} {p dx C : Addr} {n c : Nat} {fn : List Str} {xs : List V} {ds : List D} (r : Rel Γ φ H s) (h : φ.cs[n]? = some p) (hc : Γ.cls c = some (C, fn)) (hl : xs.length ≤ fn.length) (q : Reps Γ φ H xs ds) : Rel Γ φ (upd H p (.ins C dx (fn.zip xs))) (s.set n (.ins c ds)) := by
  obtain ⟨c0, hc0, hr0⟩ := r.there h
  have A : After φ H φ (upd H p (.ins C dx (fn.zip xs))) := After.write (List.mem_of_getElem? h) hr0.there not_ins
  refine ⟨by simp [r.len], r.nd, r.dis, fun a ha => let ⟨o, e, n⟩ := r.hid a ha; A.there a o e n, fun m a c' h1 h2 => ?_, let ⟨_, e0, c0⟩ := hr0.there; tabs_write e0 c0 r.tab⟩
  by_cases e : m = n
  · subst e
    rw [h] at h1
    cases h1
    rw [List.getElem?_set_self (List.getElem?_eq_some_iff.mp hc0).1] at h2
    cases h2
    exact ⟨C, fn, dx, xs, hc, upd_same, hl, q.mono A⟩
  · rw [List.getElem?_set_ne (Ne.symm e)] at h2
    refine (r.cell m a c' h1 h2).mono A (upd_ne fun z => e ?_)
    subst z
    exact nodup_ixN r.nd h1 h
theorem setF_inv {P : Prog} {s s' : Stt} {n : Nat} {f : Str} {y : D} (h : setF P s n f y = some s') : ∃ c fs oc, s[n]? = some (.ins c fs) ∧ P.cls[c]? = some oc ∧ oc.fs[fs.length]? = some f ∧ s' = s.set n (.ins c (fs ++ [y])) := by
  unfold setF at h
  split at h
  · rename_i c fs e1
    split at h
    · rename_i oc e2
      split at h
      · rename_i e3
        cases h
        exact ⟨c, fs, oc, e1, e2, e3, rfl⟩
      · cases h
    · cases h
  · cases h
/-- a field is set: what is asked, what stands behind -/
theorem set_step {P : Prog} {K : PySem.W.Frag} {mg : Str → Option Value} {s s' : Stt} {n : Nat} {f : Str} {y : D} {p v} (oc : OcsOk P Γ K mg) (rel : Rel Γ φ H s) (hp : φ.cs[n]? = some p) (hv : Rep Γ φ H v y) (h : setF P s n f y = some s') :
    ∃ C dx fs, H p = some (.ins C dx fs) ∧ Cls K C ∧ NoAttr K C f ∧ fs.length < 1000 ∧ After φ H φ (upd H p (.ins C dx (putF f v fs))) ∧ Rel Γ φ (upd H p (.ins C dx (putF f v fs))) s' := by
  obtain ⟨c, fs, o, e1, e2, e3, rfl⟩ := setF_inv h
  obtain ⟨C, O⟩ := oc c o e2
  obtain ⟨C', fn, dx, xs, q1, q2, q3, q4⟩ := rel.cell _ _ _ hp e1
  rw [O.cl] at q1
  cases q1
  have lx : xs.length = fs.length := q4.len
  have fl : (o.fs.zip xs).length < 1000 := by
    have := O.few
    rw [List.length_zip]
    omega
  have pz : putF f v (o.fs.zip xs) = o.fs.zip (xs ++ [v]) := putF_zip O.nd (by rw [lx]; exact e3)
  have lt : xs.length < o.fs.length := by
    rw [lx]
    exact (List.getElem?_eq_some_iff.mp e3).1
  refine ⟨C, dx, _, q2, O.cls, O.no f (List.mem_of_getElem? e3), fl, ?_, ?_⟩
  · exact After.write (List.mem_of_getElem? hp) ⟨_, q2, .i⟩ not_ins
  · rw [pz]
    exact rel.writeI hp O.cl (by rw [List.length_append]; simp; omega) (q4.append (.cons hv .nil))
end
section
variable {Γ : Gm} {W : WX} {X : Cx} {pos : Pos} {a b c e o : Expr} {ga gb gc ge : G.Env → Stt → R D} {gs : G.Env → Stt → R (List D)} {es : List Expr} {P : Prog}
/-- o.f -/
theorem s_fld {f : Str} (oc : OcsOk P Γ X.K X.mg) (hb : nc o = true) (ho : PE X o (dE Γ W ga)) : PE X (.Attribute o f pos) (dE Γ W fun ρ s => (ga ρ s).bind fun x s => R.of (fldF P s x f) s) :=
  (pe_fld ho (base_nc hb)).mono fun σ H Q ⟨φ, ρ, s, er, rel, go⟩ => by
  refine ⟨φ, ρ, s, er, rel, go.bind.imp fun x s1 φ1 H1 a1 r1 go1 v hv => ?_⟩
  obtain ⟨z, hz, k⟩ := go1.of
  unfold fldF at hz
  split at hz
  · rename_i c fs hi
    split at hz
    · rename_i oc' hc
      obtain ⟨C, O⟩ := oc c oc' hc
      obtain ⟨a, C', fn, dx, xs, rfl, e1, e2, rr⟩ := ins_rep r1 hv hi
      rw [O.cl] at e1
      cases e1
      obtain ⟨v, h1, h2⟩ := reps_lookup rr hz
      exact ⟨a, C, dx, _, v, rfl, e2, O.cls, O.no f (lookup_fn hz), h1, k φ1 H1 (.refl _ _) r1 v h2⟩
    · cases hz
  · cases hz
theorem pe_methD {pl : Sem Bool} {m : Str} {apos : Pos} {ta : TE} {t : TA} (he : PE X o ta) (ha : PA X (e :: es) t)
    (hst : starEach (e :: es) X.env = (false, eval e X.env) :: starEach es X.env) (hpl : (backTo pos (starEach es X.env)).any (·.1) = false)
    (ht : eval (.Call (.Attribute o m apos) (e :: es) [] pos) X.env = (do
      let ov ← eval o X.env
      standAt apos.atName
      let (f, first) ← holding [ov] (getMethod ov m pl)
      callWith pos f first (backTo pos (starEach (e :: es) X.env)) (backToKw pos (keywordEach [] X.env)))) :
    PE X (.Call (.Attribute o m apos) (e :: es) [] pos) (fun σ H Q => ta σ H fun x H1 => ∃ a C dx fs f fd ps sp k E, x = .ref a ∧ H1 a = some (.ins C dx fs) ∧ Cls X.K C ∧ Meth X.K C m f ∧ FnOk X.prog X.w X.K X.mg X.base (L2.CX X.prog X.w) k f fd ps sp ∧ Room k X.A ∧ Binds X.K fd ps [] ∧ PassesAt (L2.CX X.prog X.w) X σ E ∧ fs.lookup m = none ∧
      t σ H1 fun vs H2 => sp (x :: vs) H2 Q E) := by
  refine ⟨fun pins s σ H Q I h => ?_⟩
  refine PySem.W.methodCall_KW (pl := pl) (thn (he.run pins s σ H _ I h) fun u s1 ⟨x, H1, I1, rx, a, C, dx, fs, f, fd, ps, sp, k, E, ex, ea, c, hm, F, hr, hb, hx, l, q⟩ => ?_) ht
  subst ex
  obtain rfl : u = Value.ref a := rx
  refine getmeth_ok I1 ea c hm l ?_
  refine PySem.W.callWith_K (first := [.ref a]) (h₀ := X.base) I1.ok.mod.kin hm.kp (thn (ha.run pos pins s1 σ H1 _ I1 q) fun us s2 ⟨vs, H2, I2, r, q2⟩ => ⟨I2.kIn, ?_⟩) hst hpl
  exact run_fnSD (E := fun _ => E) (us := .ref a :: us) (vs := .ref a :: vs) (σ := σ) F hr hb .nil hx I2 (.cons rfl r) (by rw [List.append_nil]; exact q2)
theorem pe_methD0 {pl : Sem Bool} {m : Str} {apos : Pos} {ta : TE} (he : PE X o ta)
    (ht : eval (.Call (.Attribute o m apos) [] [] pos) X.env = (do
      let ov ← eval o X.env
      standAt apos.atName
      let (f, first) ← holding [ov] (getMethod ov m pl)
      callWith pos f first (backTo pos (starEach [] X.env)) (backToKw pos (keywordEach [] X.env)))) :
    PE X (.Call (.Attribute o m apos) [] [] pos) (fun σ H Q => ta σ H fun x H1 => ∃ a C dx fs f fd ps sp k E, x = .ref a ∧ H1 a = some (.ins C dx fs) ∧ Cls X.K C ∧ Meth X.K C m f ∧ FnOk X.prog X.w X.K X.mg X.base (L2.CX X.prog X.w) k f fd ps sp ∧ Room k X.A ∧ Binds X.K fd ps [] ∧ PassesAt (L2.CX X.prog X.w) X σ E ∧ fs.lookup m = none ∧
      sp [x] H1 Q E) := by
  refine ⟨fun pins s σ H Q I h => ?_⟩
  refine PySem.W.methodCall_KW (pl := pl) (thn (he.run pins s σ H _ I h) fun u s1 ⟨x, H1, I1, rx, a, C, dx, fs, f, fd, ps, sp, k, E, ex, ea, c, hm, F, hr, hb, hx, l, q⟩ => ?_) ht
  subst ex
  obtain rfl : u = Value.ref a := rx
  refine getmeth_ok I1 ea c hm l ?_
  exact PySem.W.callWith_K0 (first := [.ref a]) I1.kIn hm.kp (run_fnSD (E := fun _ => E) (us := [.ref a]) (vs := [.ref a]) (σ := σ) F hr hb .nil hx I1 (.cons rfl .nil) q)
/-- what of a method's def is known -/
def MthOk (P : Prog) (Γ : Gm) (X : Cx) (k kk : Nat) : Prop := ∀ (g : Nat) df z, P.defs[g]? = some df → df.own = some z → ∃ C a fd, X.mg z = some (.ref C) ∧ Meth X.K C df.name a ∧ FnOk X.prog X.w X.K X.mg X.base (L2.CX X.prog X.w) kk a fd df.ps (spD Γ df.ps.length (callD P k g)) ∧ (df.pos = true → Binds X.K fd df.ps [])
theorem callD_len' {P : Prog} {k f : Nat} {df : Def} (h : P.defs[f]? = some df) (ds : List D) (s : Stt) (hl : ds.length ≠ df.ps.length) : callD P k f ds s = .stuck := by
  cases k with
  | zero => rfl
  | succ k =>
    unfold callD
    rw [h]
    exact if_neg hl
theorem mth_of {k kk : Nat} {m : Str} {x : D} {s : Stt} {g : Nat} {φ : Fx} {H : Hp} {v : V} (oc : OcsOk P Γ X.K X.mg) (mo : MthOk P Γ X k kk) (h : mthF P s x m = some g) (rel : Rel Γ φ H s) (hv : Rep Γ φ H v x) :
    ∃ a C dx fs f fd df, v = .ref a ∧ H a = some (.ins C dx fs) ∧ Cls X.K C ∧ Meth X.K C m f ∧ P.defs[g]? = some df ∧ FnOk X.prog X.w X.K X.mg X.base (L2.CX X.prog X.w) kk f fd df.ps (spD Γ df.ps.length (callD P k g)) ∧ Binds X.K fd df.ps [] ∧ fs.lookup m = none := by
  unfold mthF at h
  split at h
  · rename_i c fs hi
    split at h
    · rename_i oc' hc
      obtain ⟨C, O⟩ := oc c oc' hc
      obtain ⟨a, C', fn, dx, xs, rfl, e1, e2, rr⟩ := ins_rep rel hv hi
      rw [O.cl] at e1
      cases e1
      obtain ⟨n1, df, d1, d0, d2, d3⟩ := O.meths m g h
      obtain ⟨C2, f, fd, m1, m2, m3, m4⟩ := mo g df _ d1 d2
      rw [O.gl] at m1
      cases m1
      rw [d3] at m2
      exact ⟨a, C, dx, _, f, fd, df, rfl, e2, O.cls, m2, d1, m3, m4 d0, lookup_none n1⟩
    · cases h
  · cases h
theorem s_mth {m : Str} {apos cpos : Pos} {k kk : Nat} (oc : OcsOk P Γ X.K X.mg) (mo : MthOk P Γ X k kk) (hr : Room kk X.A) (tk : Takes X W) (hn : (e :: es).all ns = true) (hb : nc o = true) (hl : (apos.endLine == cpos.line) = true) (ho : PE X o (dE Γ W ga)) (ha : PA X (e :: es) (dA Γ W gs))
    {pl : Sem Bool} (ht : eval (.Call (.Attribute o m apos) (e :: es) [] cpos) X.env = (do
      let ov ← eval o X.env
      standAt apos.atName
      let (f, first) ← holding [ov] (getMethod ov m pl)
      callWith cpos f first (backTo cpos (starEach (e :: es) X.env)) (backToKw cpos (keywordEach [] X.env)))) :
    PE X (.Call (.Attribute o m apos) (e :: es) [] cpos) (dE Γ W fun ρ s => (ga ρ s).bind fun x s => match mthF P s x m with
      | some g => (gs ρ s).bind fun xs s => callD P k g (x :: xs) s
      | none => .stuck) := by
  simp only [List.all_cons, Bool.and_eq_true] at hn
  refine (pe_methD ho ha (star_ns hn.1) (back_ns hn.2) ht).mono fun σ H Q ⟨φ, ρ, s, er, rel, go⟩ => ?_
  refine ⟨φ, ρ, s, er, rel, go.bind.imp fun x s1 φ1 H1 a1 r1 go1 v hv => ?_⟩
  split at go1
  · rename_i g hg
    obtain ⟨a, C, dx, fs, f, fd, df, rfl, e1, e2, e3, d1, F, B, l⟩ := mth_of oc mo hg r1 hv
    refine ⟨a, C, dx, fs, f, fd, df.ps, _, kk, _, rfl, e1, e2, e3, F, hr, B, passAt tk σ, l, φ1, ρ, s1, er.mono a1, r1, go1.bind.imp fun ds s2 φ2 H2 a2 r2 go2 vs hvs => ?_⟩
    exact spD_of (fun ds s h => callD_len' d1 ds s h) (.cons (hv.mono a2) hvs) r2 go2
  · exact go1.elim
theorem s_mth0 {m : Str} {apos cpos : Pos} {k kk : Nat} (oc : OcsOk P Γ X.K X.mg) (mo : MthOk P Γ X k kk) (hr : Room kk X.A) (tk : Takes X W) (hb : nc o = true) (ho : PE X o (dE Γ W ga))
    {pl : Sem Bool} (ht : eval (.Call (.Attribute o m apos) [] [] cpos) X.env = (do
      let ov ← eval o X.env
      standAt apos.atName
      let (f, first) ← holding [ov] (getMethod ov m pl)
      callWith cpos f first (backTo cpos (starEach [] X.env)) (backToKw cpos (keywordEach [] X.env)))) :
    PE X (.Call (.Attribute o m apos) [] [] cpos) (dE Γ W fun ρ s => (ga ρ s).bind fun x s => match mthF P s x m with
      | some g => (R.ok [] s).bind fun xs s => callD P k g (x :: xs) s
      | none => .stuck) := by
  refine (pe_methD0 ho ht).mono fun σ H Q ⟨φ, ρ, s, er, rel, go⟩ => ?_
  refine ⟨φ, ρ, s, er, rel, go.bind.imp fun x s1 φ1 H1 a1 r1 go1 v hv => ?_⟩
  split at go1
  · rename_i g hg
    obtain ⟨a, C, dx, fs, f, fd, df, rfl, e1, e2, e3, d1, F, B, l⟩ := mth_of oc mo hg r1 hv
    exact ⟨a, C, dx, fs, f, fd, df.ps, _, kk, _, rfl, e1, e2, e3, F, hr, B, passAt tk σ, l, spD_of (fun ds s h => callD_len' d1 ds s h) (.cons hv .nil) r1 go1⟩
  · exact go1.elim
theorem run_makeS {CX : CXT} {k : Nat} {f C : Addr} {fd : FuncData} {ps : List Str} {sp : Sp} {E : XK} {pins : List (Addr × Obj)} {σ : L2.St} {H : Hp} {s : Shared} {Q : VK} {us : List Value} {vs : List V} (M : Mk X.K C f) (F : FnOk X.prog X.w X.K X.mg X.base CX k f fd ps sp) (hr : Room (k + 1) X.A) (hb : Binds X.K fd ps [])
    (hx : PassesAt CX X σ E) (I : L2.Inv X pins σ H s) (r : Vals vs us)
    (h : ∀ x dx, H x = none → H dx = none → dx ≠ x → sp (.ref x :: vs) (upd (upd H dx (.own x)) x (.ins C dx [])) (fun v H2 => v = .non ∧ Q (.ref x) H2) E) :
    wpAny (model X.prog X.w) X.A (call (.ref C) us) (EP X pins σ Q) X.xe s := by
  have hq := h (s.heap.objs.size + 1) s.heap.objs.size (I.hok.fresh (Nat.le_succ _)) (I.hok.fresh (Nat.le_refl _)) (Nat.ne_of_lt (Nat.lt_succ_self _))
  have I2 := Inv.made (C := C) I
  have r2 : Vals (V.ref (s.heap.objs.size + 1) :: vs) (Value.ref (s.heap.objs.size + 1) :: us) := .cons rfl r
  have hl : (Value.ref (s.heap.objs.size + 1) :: us ++ []).length = ps.length := by
    have e := r2.length
    rw [F.len _ _ _ _ hq] at e
    rw [List.append_nil]
    exact e.symm
  have hbb := hb _ (Value.ref (s.heap.objs.size + 1) :: us) I2.kIn hl
  rw [List.append_nil] at hbb
  refine wpAny_call (make_map (f := f) I.kIn M.makes M.init (beq_iff_eq.mp M.fn) (codeAny_mono (F.run _ X.stack _ _ ⟨Value.ref (s.heap.objs.size + 1) :: us, []⟩ (Value.ref (s.heap.objs.size + 1) :: us) _ _ E (hr.make C us [])
    (I2.env0.make C us []) hbb r2 hq) fun r s' hq' => ?_))
  cases r with
  | error e => exact hx pins _ _ e s' I2 hq'
  | ok fl =>
    cases fl with
    | ret u =>
      obtain ⟨v, H', I3, rv, ev, q3⟩ := I2.after hq'
      subst ev
      exact ⟨rv, ⟨V.ref (s.heap.objs.size + 1), H', I3, rfl, q3⟩⟩
    | next => exact False.elim hq'
    | brk => exact False.elim hq'
    | cont => exact False.elim hq'
theorem new_of {oc : OCls} {c np : Nat} {C x dx : Addr} {g : List D → Stt → R D} {φ : Fx} {H : Hp} {s : Stt} {σ : L2.St} {ds : List D} {vs : List V} {Q : VK} (hc : Γ.cls c = some (C, oc.fs)) (hst : ∀ ds s, ds.length ≠ np → g ds s = .stuck) (r1 : Rel Γ φ H s) (hvs : Reps Γ φ H vs ds)
    (go1 : Go Γ W φ H σ (newD oc c g ds s) fun d s' φ' H' => ∀ v, Rep Γ φ' H' v d → Q v H') (hx : H x = none) (hdx : H dx = none) (hne : dx ≠ x) :
    spD Γ np g (.ref x :: vs) (upd (upd H dx (.own x)) x (.ins C dx [])) (fun v H2 => v = .non ∧ Q (.ref x) H2) (WE W σ) := by
  have A1 : After φ H φ (upd H dx (.own x)) := .fresh hdx
  have hx' : (upd H dx (.own x)) x = none := by rw [upd_ne (Ne.symm hne)]; exact hx
  have A2 : After φ (upd H dx (.own x)) ⟨φ.cs ++ [x], φ.hd⟩ (upd (upd H dx (.own x)) x (.ins C dx [])) := .cell hx'
  have A := A1.trans A2
  have rel2 : Rel Γ ⟨φ.cs ++ [x], φ.hd⟩ (upd (upd H dx (.own x)) x (.ins C dx [])) (s ++ [.ins c []]) := (r1.fresh hdx).pushI hx' hc
  have hn : (φ.cs ++ [x])[s.length]? = some x := by rw [← r1.len]; simp
  refine ⟨⟨φ.cs ++ [x], φ.hd⟩, s ++ [.ins c []], .ref s.length :: ds, ?_, .cons (.ref hn) (hvs.mono A), rel2, ?_⟩
  · by_cases e : (D.ref s.length :: ds).length = np
    · exact e
    · unfold newD at go1
      rw [hst _ _ e] at go1
      exact go1.elim
  · unfold newD at go1
    cases e : g (.ref s.length :: ds) (s ++ [.ins c []]) with
    | stuck => rw [e] at go1; exact go1.elim
    | exc cc fs s' =>
      rw [e] at go1
      exact fun φ3 H3 cls dd A3 rel3 xr => Go.leaveX r1 go1 (A.trans A3) rel3 xr
    | ok d s' =>
      rw [e] at go1
      cases d <;> try exact go1.elim
      simp only at go1
      split at go1
      · rename_i c' fs h1
        split at go1
        · rename_i h2
          obtain ⟨rfl, h3, h4, h5⟩ := h2
          intro φ3 H3 A3 rel3 v hv
          cases hv
          refine ⟨rfl, ?_⟩
          have A4 := A.trans A3
          obtain ⟨ψ, eψ, fψ⟩ := A4.grow
          have e2 : (φ3.cutAt s.length).cs = φ.cs := by
            show φ3.cs.take s.length = φ.cs
            rw [eψ, ← r1.len, List.take_left']
            rfl
          have A5 : After φ H (φ3.cutAt s.length) H3 := ⟨⟨[], by rw [e2]; simp, fun _ h => nomatch h⟩, A4.hid, A4.keep, A4.tups, A4.frzs, A4.there⟩
          have hn3 : φ3.cs[s.length]? = some x := A3.get hn
          obtain ⟨C', fn, dx', xs, q1, q2, q3, q4⟩ := rel3.cell _ _ _ hn3 h1
          rw [hc] at q1
          cases q1
          have out : (φ3.cutAt s.length).out x := by
            refine ⟨fun z => ?_, fun z => rel3.dis x (List.mem_of_getElem? hn3) z⟩
            rw [e2] at z
            obtain ⟨n, hn⟩ := List.getElem?_of_mem z
            obtain ⟨c, _, hc⟩ := r1.there hn
            obtain ⟨o, e', _⟩ := hc.there
            rw [hx] at e'
            cases e'
          exact go1 _ H3 A5 (rel3.trunc h5) _ (.ins hc q2 (by rw [q4.len, h3]) out (q4.trunc h4))
        · exact go1.elim
      · exact go1.elim
theorem s_new {oc : OCls} {c : Nat} {C f : Addr} {k : Nat} {fd : FuncData} {ps : List Str} {g : List D → Stt → R D} {x : Str} {p : Pos} (hc : Γ.cls c = some (C, oc.fs)) (M : Mk X.K C f) (F : FnOk X.prog X.w X.K X.mg X.base (L2.CX X.prog X.w) k f fd ps (spD Γ ps.length g)) (hr : Room (k + 1) X.A) (hg : Gl X x) (hm : X.mg x = some (.ref C)) (hb : Binds X.K fd ps []) (tk : Takes X W) (hn : (e :: es).all ns = true) (hst : ∀ ds s, ds.length ≠ ps.length → g ds s = .stuck) (ha : PA X (e :: es) (dA Γ W gs)) (hdb : (x == ("__debug__" : Str)) = false) :
    PE X (.Call (.Name x p) (e :: es) [] pos) (dE Γ W fun ρ s => (gs ρ s).bind fun xs s => newD oc c g xs s) := by
  simp only [List.all_cons, Bool.and_eq_true] at hn
  refine ⟨fun pins s σ H Q I ⟨φ, ρ, s0, er, rel, go⟩ => ?_⟩
  refine wpAny_Call_Name_kw (ld_glob I hg hm ?_ hdb)
  refine PySem.W.callWith_K (h₀ := X.base) I.ok.mod.kin M.kp (thn (ha.run pos pins s σ H _ I ⟨φ, ρ, s0, er, rel, go.bind.imp fun ds s1 φ1 H1 a1 r1 go1 vs hvs => (fun x dx hx hdx hne => new_of hc hst r1 hvs go1 hx hdx hne : ∀ x dx, H1 x = none → H1 dx = none → dx ≠ x → spD Γ ps.length g (.ref x :: vs) (upd (upd H1 dx (.own x)) x (.ins C dx [])) (fun v H2 => v = .non ∧ Q (.ref x) H2) (WE W σ))⟩) fun us s1 ⟨vs, H1, I1, r, q⟩ => ⟨I1.kIn, ?_⟩) (star_ns hn.1) (back_ns hn.2)
  exact run_makeS M F hr hb (passAt tk σ) I1 r q
theorem s_new0 {oc : OCls} {c : Nat} {C f : Addr} {k : Nat} {fd : FuncData} {ps : List Str} {g : List D → Stt → R D} {x : Str} {p : Pos} (hc : Γ.cls c = some (C, oc.fs)) (M : Mk X.K C f) (F : FnOk X.prog X.w X.K X.mg X.base (L2.CX X.prog X.w) k f fd ps (spD Γ ps.length g)) (hr : Room (k + 1) X.A) (hg : Gl X x) (hm : X.mg x = some (.ref C)) (hb : Binds X.K fd ps []) (tk : Takes X W) (hst : ∀ ds s, ds.length ≠ ps.length → g ds s = .stuck) (hdb : (x == ("__debug__" : Str)) = false) :
    PE X (.Call (.Name x p) [] [] pos) (dE Γ W fun ρ s => (R.ok [] s).bind fun xs s => newD oc c g xs s) := by
  refine ⟨fun pins s σ H Q I ⟨φ, ρ, s0, er, rel, go⟩ => ?_⟩
  refine wpAny_Call_Name_kw (ld_glob I hg hm ?_ hdb)
  exact PySem.W.callWith_K0 I.kIn M.kp (run_makeS (us := []) M F hr hb (passAt tk σ) I .nil fun x dx hx hdx hne => new_of hc hst rel .nil go hx hdx hne)
theorem s_isc {p p2 : Pos} {c : Nat} {oc : OCls} {C : Addr} (hK : X.K = Γ.K) (O : OcOk P Γ X.K X.mg c oc C) (hg : Gl X "isinstance") (hm : X.mg "isinstance" = none) (hgx : Gl X oc.name) (hdb : (oc.name == ("__debug__" : Str)) = false) (hn : ns a = true) (ha : PE X a (dE Γ W ga)) :
    PE X (.Call (.Name "isinstance" p) [a, .Name oc.name p2] [] pos) (dE Γ W fun ρ s => (ga ρ s).bind fun x s => R.of (iscF x c) s) :=
  (pe_callB call_isi hg hm (by decide +kernel) (pa_cons ha (pa_cons (pe_glob (v := .ref C) hgx O.gl rfl hdb) pa_nil) (star_ns hn)) (by decide) (by decide) (star_ns hn)).mono fun σ H Q ⟨φ, ρ, s, er, rel, go⟩ => by
  refine ⟨φ, ρ, s, er, rel, go.bind.imp fun x s1 φ1 H1 a1 r1 go1 v hv => ?_⟩
  obtain ⟨z, hz, k⟩ := go1.of
  unfold iscF at hz
  split at hz
  · rename_i c' fs
    split at hz
    · rename_i e
      subst e
      cases hz
      cases hv with
      | ins h1 h2 h3 h4 h5 =>
        rw [O.cl] at h1
        cases h1
        exact ⟨_, .ref C, .ref C, .ref C, true, rfl, .own C, .base (.ins h2 O.cls O.own.1 O.own.2.1 O.own.2.2.1 O.own.2.2.2), by unfold PySem.W.kitOne; rw [if_pos (by simp)], k φ1 H1 (.refl _ _) r1 _ (.bl _)⟩
    · cases hz
  · obtain ⟨n, hn, rfl⟩ := Option.map_eq_some_iff.mp hz
    have hin := tyN_in hn
    refine ⟨v, .ref C, .type n, .ref C, false, rfl, .own C, hK ▸ tyN_ok hn hv, O.isa n ?_, k φ1 H1 (.refl _ _) r1 _ (.bl _)⟩
    rcases hin with rfl | rfl | rfl | rfl | rfl | rfl <;> simp
def rOwn (X : Cx) : R2 := fun x y H Q => ∃ a b C dx dy fs gs f fd ps sp k, x = .ref a ∧ y = .ref b ∧ H a = some (.ins C dx fs) ∧ H b = some (.ins C dy gs) ∧ PySem.W.findIn X.K (.ref C) "__eq__" = some (some (.ref f)) ∧ PySem.W.isFn X.K (.ref f) = true ∧
  FnOk X.prog X.w X.K X.mg X.base (L2.CX X.prog X.w) k f fd ps sp ∧ Room k X.A ∧ Binds X.K fd ps [] ∧ sp [.ref a, .ref b] H (fun v H' => ∃ b, v = .bl b ∧ Q v H') fun _ _ _ => False
theorem op_own : OpR X (compareOp .Eq) (rOwn X) := by
  intro pins s σ H x y v u Q I rx ry ⟨a, b, C, dx, dy, fs, gs, f, fd, ps, sp, k, ex, ey, ha, hb', hs, hf, F, hr, hb, hsp⟩
  subst ex ey
  cases rx
  cases ry
  obtain ⟨mA, J, _⟩ := ins_get I.hok ha
  obtain ⟨mB, J', _⟩ := ins_get I.hok hb'
  obtain ⟨od, J, _⟩ := J.look
  obtain ⟨od', J', _⟩ := J'.look
  obtain ⟨m, hF⟩ := I.fr
  show wpAny (model X.prog X.w) X.A (richCompare .Eq (.ref a) (.ref b)) (EP X pins σ Q) X.xe s
  refine PySem.W.cmp_K (op := .Eq) (tb := .ref C) hr.units0 hF I.ok.mod.kin J J'.type (by simp [PySem.W.notFirst]) hs hf ?_
  have hl := F.len _ _ _ _ hsp
  have r2 : Vals [V.ref a, V.ref b] [Value.ref a, Value.ref b] := .cons rfl (.cons rfl .nil)
  refine wpAny_call (codeAny_mono (F.run X.A X.stack s H ⟨[.ref a, .ref b], []⟩ [.ref a, .ref b] [.ref a, .ref b] _ _ hr I.env0 (by
    have := hb s [.ref a, .ref b] I.kIn (by simpa using hl)
    simpa using this) r2 hsp) fun r s' hq => ?_)
  cases r with
  | error e => exact False.elim (let ⟨_, _, _, _, _, _, _, _, _, _, _, _, z⟩ := hq; z)
  | ok fl =>
    cases fl with
    | ret w =>
      obtain ⟨z, H', I', rz, ⟨k, ez, q⟩⟩ := I.after hq
      subst ez
      cases rz
      exact ⟨.bl k, H', I', rfl, q⟩
    | next => exact False.elim hq
    | brk => exact False.elim hq
    | cont => exact False.elim hq
/-- what the own == asks, by the evaluator -/
theorem own_of {k kk : Nat} {σ : L2.St} {x y : D} {v w : V} {φ : Fx} {H : Hp} {s : Stt} {Q : VK} (oc : OcsOk P Γ X.K X.mg) (mo : MthOk P Γ X k kk) (hr : Room kk X.A) (r2 : Rel Γ φ H s) (hv2 : Rep Γ φ H v x) (hw : Rep Γ φ H w y)
    (go2 : Go Γ W φ H σ (match eqoF P s x y with | some g => eqoR (callD P k g) x y s | none => .stuck) fun d s' φ' H' => ∀ v, Rep Γ φ' H' v d → (∃ b, v = .bl b) → Q v H') : rOwn X v w H Q := by
  split at go2
  · rename_i g hg
    unfold eqoF at hg
    split at hg
    · rename_i c fs c' gs i1 i2
      split at hg
      · rename_i e
        subst e
        obtain ⟨a, C, dx, fs', f, fd, df, rfl, e1, e2, e3, d1, F, B, l⟩ := mth_of oc mo hg r2 hv2
        obtain ⟨b', C', fn', dy, ys, rfl, q1, q2, q3⟩ := ins_rep r2 hw i2
        obtain ⟨a', C2, fn2, dx2, xs, q0, q4, q5, q6⟩ := ins_rep r2 hv2 i1
        cases q0
        rw [e1] at q5
        cases q5
        rw [q1] at q4
        cases q4
        refine ⟨a, b', C, dx, dy, _, _, f, fd, df.ps, _, kk, rfl, rfl, e1, q2, e3.at_, e3.fn, F, hr, B, ?_⟩
        unfold eqoR at go2
        refine ⟨φ, s, [x, y], ?_, .cons hv2 (.cons hw .nil), r2, ?_⟩
        · by_cases e : ([x, y] : List D).length = df.ps.length
          · exact e
          · rw [callD_len' d1 [x, y] s e] at go2
            exact go2.elim
        · cases e : callD P k g [x, y] s with
          | stuck => rw [e] at go2; exact go2.elim
          | exc _ _ _ => rw [e] at go2; exact go2.elim
          | ok d s3 =>
            rw [e] at go2
            cases d <;> try exact go2.elim
            intro φ3 H3 A3 rel3 v hv
            cases hv
            exact ⟨_, rfl, go2 φ3 H3 A3 rel3 _ (.bl _) ⟨_, rfl⟩⟩
      · cases hg
    · cases hg
  · exact go2.elim
theorem s_eqo {k kk : Nat} {pos : Pos} (oc : OcsOk P Γ X.K X.mg) (mo : MthOk P Γ X k kk) (hr : Room kk X.A) (ha : PE X a (dE Γ W ga)) (hb : PE X b (dE Γ W gb)) :
    PE X (.Compare a [.Eq] [b] pos) (dE Γ W fun ρ s => (ga ρ s).bind fun x s => (gb ρ s).bind fun y s => match eqoF P s x y with
      | some g => eqoR (callD P k g) x y s
      | none => .stuck) :=
  (pe_cmpR op_own ha hb (nomark _)).mono fun σ H Q ⟨φ, ρ, s, er, rel, go⟩ => by
  refine ⟨φ, ρ, s, er, rel, go.bind.imp fun x s1 φ1 H1 a1 r1 go1 v hv => ?_⟩
  refine ⟨φ1, ρ, s1, er.mono a1, r1, go1.bind.imp fun y s2 φ2 H2 a2 r2 go2 w hw => ?_⟩
  exact own_of oc mo hr r2 (hv.mono a2) hw (go2.imp fun d s' φ' H' _ _ k v hv _ => k v hv)
theorem s_teqo {k kk : Nat} {pos : Pos} (oc : OcsOk P Γ X.K X.mg) (mo : MthOk P Γ X k kk) (hr : Room kk X.A) (ha : PE X a (dE Γ W ga)) (hb : PE X b (dE Γ W gb)) :
    PT X (.Compare a [.Eq] [b] pos) (dT Γ W fun ρ s => ((ga ρ s).bind fun x s => (gb ρ s).bind fun y s => match eqoF P s x y with
      | some g => eqoR (callD P k g) x y s
      | none => .stuck).bind fun x s => R.of (truF s x) s) :=
  (pt_cmpR op_own ha hb (nomark _)).mono fun σ H Q ⟨φ, ρ, s, er, rel, go⟩ => by
  refine ⟨φ, ρ, s, er, rel, go.bind.bind.imp fun x s1 φ1 H1 a1 r1 go1 v hv => ?_⟩
  refine ⟨φ1, ρ, s1, er.mono a1, r1, go1.bind.imp fun y s2 φ2 H2 a2 r2 go2 w hw => ?_⟩
  refine own_of oc mo hr r2 (hv.mono a2) hw (go2.imp fun d s' φ' H' A' R' k v hv q => ?_)
  obtain ⟨b, rfl⟩ := q
  cases hv
  obtain ⟨z, hz, k⟩ := k.of
  cases hz
  exact ⟨_, rfl, k φ' H' (.refl _ _) R'⟩
theorem call_form {o : Expr} {m : Str} {apos pos : Pos} {es : List Expr} {env : PySem.Env} (hb : attributeBase o m env (eval o env) = eval o env) (few : methodCallForm (es.length + ([] : List Keyword).length) (backTo pos (starEach es env)) (backToKw pos (keywordEach [] env)) = true) (hl : (apos.endLine == pos.line) = true) :
    ∃ pl : Sem Bool, eval (.Call (.Attribute o m apos) es [] pos) env = (do
      let ov ← eval o env
      standAt apos.atName
      let (g, fst) ← holding [ov] (getMethod ov m pl)
      callWith pos g fst (backTo pos (starEach es env)) (backToKw pos (keywordEach [] env))) := by
  refine ⟨(do return (← importBound o env).getD true), ?_⟩
  have e : eval (.Call (.Attribute o m apos) es [] pos) env = (do
    let ov ← attributeBase o m env (eval o env)
    standAt apos.atName
    methodCall o m apos pos env ov (es.length + ([] : List Keyword).length) (backTo pos (starEach es env)) (backToKw pos (keywordEach [] env))) := by rw [eval]
  rw [e, hb]
  have e2 : ∀ ov, methodCall o m apos pos env ov (es.length + ([] : List Keyword).length) (backTo pos (starEach es env)) (backToKw pos (keywordEach [] env)) = (do
      let (g, fst) ← holding [ov] (getMethod ov m (do return (← importBound o env).getD true))
      callWith pos g fst (backTo pos (starEach es env)) (backToKw pos (keywordEach [] env))) := by
    intro ov
    unfold methodCall calleeOf methodCallPos
    rw [few, hl]
    simp
  congr 1
  funext ov
  congr 1
  funext _
  exact e2 ov
theorem few_n {es : List Expr} {env : PySem.Env} {pos : Pos} (h : es.all ns = true) (hl : es.length ≤ 20) : methodCallForm (es.length + ([] : List Keyword).length) (backTo pos (starEach es env)) (backToKw pos (keywordEach [] env)) = true := by
  have e : (backTo pos (starEach es env)).any (·.1) = false := back_ns h
  have e2 : (backTo pos (starEach es env)).all (fun x => !x.1) = true := by
    rw [List.all_eq_true]
    intro x hx
    rw [List.any_eq_false] at e
    simpa using e x hx
  show ((backTo pos (starEach es env)).all (fun x => !x.1) && (backToKw pos (keywordEach [] env)).all (fun x => x.1.isSome)
      && decide (es.length + ([] : List Keyword).length + (if ([] : List Keyword).isEmpty then 0 else 1) < 30)) = true
  rw [e2, Bool.true_and]
  have : (backToKw pos (keywordEach [] env)).all (fun x => x.1.isSome) = true := rfl
  rw [this, Bool.true_and, decide_eq_true_eq]
  simp
  omega
theorem swaps_attr {f : Str} {p : Pos} {l : Nat} {env : PySem.Env} : swapsWith e (some (.Attribute o f p)) l env = pure false := by
  cases e <;> rfl
theorem ss_setfld {f : Str} {p : Pos} (oc : OcsOk P Γ X.K X.mg) (ho : PE X o (dE Γ W ga)) (he : PE X e (dE Γ W ge)) : PS X (.Assign [.Attribute o f p] e pos) (dS Γ W fun ρ s => (ge ρ s).st ρ fun y s => (ga ρ s).st ρ fun x s => match x with
    | .ref n => match setF P s n f y with
      | some s' => .nx ρ s'
      | none => .stuck
    | _ => .stuck) := (ps_fld ho he swaps_attr).mono fun D σ H ⟨φ, ρ, s, er, rel, go⟩ => by
  refine ⟨φ, ρ, s, er, rel, (go.st er).imp fun y s1 φ1 H1 a1 r1 go1 v hv => ?_⟩
  refine ⟨φ1, ρ, s1, er.mono a1, r1, (go1.st (er.mono a1)).imp fun x s2 φ2 H2 a2 r2 go2 w hw => ?_⟩
  split at go2
  · rename_i n
    split at go2
    · rename_i s' hs
      cases hw with
      | ref hp =>
        obtain ⟨C, dx, fs, q1, q2, q3, q4, q5, q6⟩ := set_step oc r2 hp (hv.mono a2) hs
        exact ⟨_, C, dx, fs, rfl, q1, q2, q3, q4, go2 φ2 _ σ q5 q6 (((er.mono a1).mono a2).mono q5)⟩
    · exact go2.elim
  · exact go2.elim
def gFld (K : PySem.W.Frag) (to : TE) (f : Str) : TG := fun v σ H Q => to σ H fun x H1 => ∃ a C dx fs, x = .ref a ∧ H1 a = some (.ins C dx fs) ∧ Cls K C ∧ NoAttr K C f ∧ fs.length < 1000 ∧ Q σ (upd H1 a (.ins C dx (putF f v fs)))
theorem pg_fld {to : TE} {f : Str} (ho : PE X o to) : PG X (.Attribute o f pos) (gFld X.K to f) := by
  refine ⟨fun pins s σ H v u Q I r h => ?_⟩
  rw [assign_Attribute]
  refine wpAny_bind (wpAny_holding (thn (ho.run pins s σ H _ I h) fun ov s1 ⟨x, H1, I1, r1, a, C, dx, fs, ex, ea, c, n, l, q⟩ => ?_))
  subst ex
  obtain rfl : ov = Value.ref a := r1
  refine wpAny_bind (wpAny_standAt (wpAny_bind (wpAny_holding (setattr_ok I1 ea c n l r fun s2 I2 => wpAny_release ⟨σ, _, I2, q⟩))))
def gFlds (K : PySem.W.Frag) (i : Nat) : List Str → TGs
  | [] => gNil
  | f :: fs => gCons (gFld K (tVar i) f) (gFlds K i fs)
/-- the targets o.f, o.g, .. of one name -/
def fldsB (N : List Str) (sc : Scope) (i : Nat) (vis : Str → Bool) : List Str → List Expr → Bool
  | [], [] => true
  | f :: fs, .Attribute (.Name x _) g _ :: es => decide (N[i]? = some x) && vis x && decide (f = g) && fldsB N sc i vis fs es
  | _, _ => false
theorem flds_pgs {N : List Str} {sc : Scope} {i : Nat} {vis : Str → Bool} (hv : ∀ x p, N[i]? = some x → vis x = true → PE X (.Name x p) (tVar i)) : ∀ {fs : List Str} {es : List Expr}, fldsB N sc i vis fs es = true → PGs X es (gFlds X.K i fs) ∧ (assignEach es X.env).length = fs.length ∧ (assignEach es X.env).findIdx? (·.1) = none
  | [], [], _ => ⟨pgs_nil, rfl, rfl⟩
  | f :: fs, e :: es, h => by
    unfold fldsB at h
    split at h
    · rename_i h1 h2; cases h1
    · rename_i f' fs' x p g q es' h1 h2
      cases h1
      cases h2
      simp only [Bool.and_eq_true, decide_eq_true_eq] at h
      obtain ⟨⟨⟨n1, n2⟩, rfl⟩, n3⟩ := h
      obtain ⟨h1, h2, h3⟩ := flds_pgs hv n3
      refine ⟨pgs_cons (pg_fld (hv x p n1 n2)) h1, ?_, ?_⟩
      · show (assignEach es X.env).length + 1 = fs.length + 1
        rw [h2]
      · show List.findIdx? _ ((false, assign (.Attribute (.Name x p) f q) X.env) :: assignEach es X.env) = none
        rw [List.findIdx?_cons]
        simp [h3]
    · cases h
  | [], _ :: _, h => by simp [fldsB] at h
  | _ :: _, [], h => by simp [fldsB] at h
theorem flds_go {mg : Str → Option Value} {i n : Nat} {φ : Fx} {ρ : G.Env} {p : Addr} (oc : OcsOk P Γ X.K mg) (hi : ρ[i]?.join = some (.ref n)) (hp : φ.cs[n]? = some p) : ∀ {fs : List Str} {ys : List D} {vs : List V} {s s' : Stt} {H : Hp} {σ : L2.St} {Q : L2.St → Hp → Prop}, setsF P n s fs ys = some s' → Reps Γ φ H vs ys → Rel Γ φ H s → ER Γ φ H σ ρ →
    (∀ H', After φ H φ H' → Rel Γ φ H' s' → Q σ H') → gFlds X.K i fs vs σ H Q
  | [], [], vs, s, s', H, σ, Q, h, hv, rel, er, k => by
    cases h
    cases hv
    exact ⟨rfl, k H (.refl _ _) rel⟩
  | f :: fs, y :: ys, vs, s, s', H, σ, Q, h, hv, rel, er, k => by
    cases hv with
    | cons h1 h2 =>
      unfold setsF at h
      split at h
      · rename_i s1 hs
        obtain ⟨C, dx, gs, q1, q2, q3, q4, q5, q6⟩ := set_step oc rel hp h1 hs
        obtain ⟨w, w1, w2⟩ := er.var hi
        cases w2 with
        | ref hp2 =>
          rw [hp] at hp2
          cases hp2
          exact ⟨_, _, rfl, _, w1, p, C, dx, gs, rfl, q1, q2, q3, q4, flds_go oc hi hp h (h2.mono q5) q6 (er.mono q5) fun H' a r => k H' (q5.trans a) r⟩
      · cases h
  | [], _ :: _, _, _, _, _, _, _, h, _, _, _, _ => by simp [setsF] at h
  | _ :: _, [], _, _, _, _, _, _, h, _, _, _, _ => by simp [setsF] at h
theorem setsF_len {P : Prog} {n : Nat} : ∀ {fs : List Str} {ys : List D} {s s' : Stt}, setsF P n s fs ys = some s' → fs.length = ys.length
  | [], [], _, _, _ => rfl
  | f :: fs, y :: ys, s, s', h => by
    unfold setsF at h
    split at h
    · simp [setsF_len h]
    · cases h
  | [], _ :: _, _, _, h => by simp [setsF] at h
  | _ :: _, [], _, _, h => by simp [setsF] at h
theorem ss_unpfld {N : List Str} {sc : Scope} {i : Nat} {vis : Str → Bool} {fs : List Str} {tes : List Expr} {kk} {tp : Pos} (oc : OcsOk P Γ X.K X.mg) (hv : ∀ x p, N[i]? = some x → vis x = true → PE X (.Name x p) (tVar i)) (hc : X.calm = true) (hK : X.K = Γ.K) (hf : fldsB N sc i vis fs tes = true) (h : ncomp e = true) (ht : ntup e = true) (he : PE X e (dE Γ W ge)) :
    PS X (.Assign [.Tuple tes kk tp] e pos) (dS Γ W fun ρ s => (ge ρ s).st ρ fun x s => match x with
    | .tup xs => (R.of (ρ[i]?.join) s).st ρ fun x s => match x with
      | .ref n => match setsF P n s fs xs with
        | some s' => .nx ρ s'
        | none => .stuck
      | _ => .stuck
    | _ => .stuck) := by
  obtain ⟨g1, g2, g3⟩ := flds_pgs hv hf
  refine (ps_asg he (pg_tup hc g1 g2 g3) (swaps_s h) ?_ rfl).mono fun D σ H ⟨φ, ρ, s, er, rel, go⟩ => ?_
  · cases e <;> first | rfl | exact nomatch ht
  · refine ⟨φ, ρ, s, er, rel, (go.st er).imp fun x s1 φ1 H1 a1 r1 go1 v hv => ?_⟩
    split at go1
    · rename_i ys
      cases e1 : ρ[i]?.join with
      | none => rw [e1] at go1; exact go1.elim
      | some d =>
        rw [e1] at go1
        simp only [R.of, R.st] at go1
        split at go1
        · rename_i n
          split at go1
          · rename_i s' hs
            obtain ⟨w, w1, w2⟩ := (er.mono a1).var e1
            cases w2 with
            | ref hp =>
              cases hv with
              | tup t1 t2 =>
                refine ⟨_, _, rfl, hK ▸ t1, ?_, flds_go oc e1 hp hs t2 r1 (er.mono a1) fun H' a r => go1 φ1 H' σ a r ((er.mono a1).mono a)⟩
                rw [t2.len, setsF_len hs]
          · exact go1.elim
        · exact go1.elim
    · exact go1.elim
end
end G
set_option Elab.async false
set_option linter.all false
set_option maxRecDepth 100000
set_option maxHeartbeats 0
namespace G
open PySem L2
theorem dkv_len : ∀ {kvs : List (T × D)} {vs : List V}, vs.length = kvs.length → (dkv kvs vs).length = kvs.length
  | [], [], _ => rfl
  | kv :: r, v :: vs, h => by
    rw [dkv, List.length_cons, List.length_cons, dkv_len (by simpa using h)]
theorem key_eq {a b : T} : ((Sum.inr (tS a) : Key) = Sum.inr (tS b)) ↔ a = b := ⟨fun h => tS_inj (Sum.inr.inj h), fun h => by rw [h]⟩
section
variable {Γ : Gm} {φ φ' : Fx} {H H' : Hp}
theorem dkv_get {t : T} : ∀ {kvs : List (T × D)} {vs : List V}, Reps Γ φ H vs (kvs.map (·.2)) → match dget kvs t with
    | some d => ∃ v, valV (dkv kvs vs) (.inr (tS t)) = some v ∧ Rep Γ φ H v d
    | none => valV (dkv kvs vs) (.inr (tS t)) = none
  | [], _, _ => by
    unfold dget
    simp [dkv, valV]
  | (k, x) :: r, _, .cons (v := v) (vs := vs) a b => by
    by_cases e : k = t
    · have h : dget ((k, x) :: r) t = some x := by simp [dget, e]
      rw [h]
      exact ⟨v, by rw [dkv]; exact valV_pos (key_eq.mpr e), a⟩
    · have h : dget ((k, x) :: r) t = dget r t := by simp [dget, e]
      rw [h]
      have ih := dkv_get (t := t) b
      have e2 : valV (dkv ((k, x) :: r) (v :: vs)) (.inr (tS t)) = valV (dkv r vs) (.inr (tS t)) := by
        rw [dkv]
        exact valV_neg fun z => e (key_eq.mp z)
      rw [e2]
      exact ih
theorem dkv_any {t : T} : ∀ {kvs : List (T × D)} {vs : List V}, vs.length = kvs.length → ((dkv kvs vs).any fun kv => decide (kv.1 = Sum.inr (tS t))) = kvs.any fun kv => decide (kv.1 = t)
  | [], [], _ => rfl
  | kv :: r, v :: vs, h => by
    rw [dkv, List.any_cons, List.any_cons, dkv_any (by simpa using h)]
    congr 1
    rw [decide_eq_decide]
    exact key_eq
theorem dkv_put {t : T} {v : V} {y : D} (hv : Rep Γ φ H v y) {kvs : List (T × D)} {vs : List V} (h : Reps Γ φ H vs (kvs.map (·.2))) : ∃ vs', Reps Γ φ H vs' ((dput kvs t y).map (·.2)) ∧ dkv (dput kvs t y) vs' = putK (dkv kvs vs) (.inr (tS t)) v := by
  have len : vs.length = kvs.length := by rw [h.len, List.length_map]
  unfold dput putK
  rw [dkv_any len]
  by_cases c : (kvs.any fun kv => decide (kv.1 = t)) = true
  · rw [if_pos c, if_pos c]
    clear c
    induction kvs generalizing vs with
    | nil => cases h; exact ⟨[], .nil, rfl⟩
    | cons kv r ih =>
      cases h with
      | @cons v0 vs0 _ _ a b =>
        obtain ⟨vs', h1, h2⟩ := ih b (by simpa using len)
        by_cases e : kv.1 = t
        · refine ⟨v :: vs', ?_, ?_⟩
          · rw [List.map_cons, List.map_cons, if_pos e]
            exact .cons hv h1
          · rw [List.map_cons, if_pos e, dkv, dkv, List.map_cons, h2, if_pos (key_eq.mpr e)]
        · refine ⟨v0 :: vs', ?_, ?_⟩
          · rw [List.map_cons, List.map_cons, if_neg e]
            exact .cons a h1
          · rw [List.map_cons, if_neg e, dkv, dkv, List.map_cons, h2, if_neg fun z => e (key_eq.mp z)]
  · rw [if_neg c, if_neg c]
    refine ⟨vs ++ [v], ?_, ?_⟩
    · rw [List.map_append]
      exact h.append (.cons hv .nil)
    · clear c
      induction kvs generalizing vs with
      | nil => cases h; rfl
      | cons kv r ih =>
        cases h with
        | cons a b =>
          rw [List.cons_append, List.cons_append, dkv, dkv, ih b (by simpa using len)]
          rfl
mutual
theorem Rep.shelf {p : Addr} {l0 : List (Key × V)} {o : HO} (h0 : H p = some (.dK l0)) : ∀ {v : V} {d : D}, Rep Γ φ H v d → Rep Γ ⟨φ.cs ++ [p], φ.hd⟩ (upd H p o) v d
  | _, _, .non => .non
  | _, _, .bl b => .bl b
  | _, _, .int i => .int i
  | _, _, .str t => .str t
  | _, _, .tup h r => .tup (by
    rcases h with (h | ⟨o, h⟩) | h
    · exact .inl (.inl (by rw [upd_ne (ne_of h h0 (fun z => nomatch z))]; exact h))
    · exact .inl (.inr ⟨o, by rw [upd_ne (ne_of h h0 (fun z => nomatch z))]; exact h⟩)
    · exact .inr h) (Reps.shelf h0 r)
  | _, _, .lst h n r => .lst (by rw [upd_ne (ne_of h h0 (fun z => nomatch z))]; exact h) ⟨fun z => (List.mem_append.mp z).elim n.1 fun z => ne_of h h0 (fun z => nomatch z) (List.mem_singleton.mp z), n.2⟩ (Reps.shelf h0 r)
  | _, _, .scr h => .scr (by
    rcases h with ⟨o, h⟩ | h
    · exact .inl ⟨o, by rw [upd_ne (ne_of h h0 (fun z => nomatch z))]; exact h⟩
    · exact .inr h)
  | _, _, .scrL h n => .scrL (by rw [upd_ne (ne_of h h0 (fun z => nomatch z))]; exact h) ⟨fun z => (List.mem_append.mp z).elim n.1 fun z => ne_of h h0 (fun z => nomatch z) (List.mem_singleton.mp z), n.2⟩
  | _, _, .ins a1 a2 a3 a4 r => .ins a1 (by rw [upd_ne (ne_of a2 h0 (fun z => nomatch z))]; exact a2) a3 ⟨fun z => (List.mem_append.mp z).elim a4.1 fun z => ne_of a2 h0 (fun z => nomatch z) (List.mem_singleton.mp z), a4.2⟩ (Reps.shelf h0 r)
  | _, _, .ref (n := n) h => .ref (by
    show (φ.cs ++ [p])[n]? = _
    rw [List.getElem?_append_left (List.getElem?_eq_some_iff.mp h).1]
    exact h)
  | _, _, .dfn h => .dfn h
theorem Reps.shelf {p : Addr} {l0 : List (Key × V)} {o : HO} (h0 : H p = some (.dK l0)) : ∀ {v : List V} {d : List D}, Reps Γ φ H v d → Reps Γ ⟨φ.cs ++ [p], φ.hd⟩ (upd H p o) v d
  | _, _, .nil => .nil
  | _, _, .cons a b => .cons (Rep.shelf h0 a) (Reps.shelf h0 b)
end
theorem Rel.shelf {s : Stt} {p : Addr} {l0 : List (Key × V)} {kvs : List (T × D)} {vs : List V} (r : Rel Γ φ H s) (h0 : H p = some (.dK l0)) (n1 : p ∉ φ.cs) (n2 : p ∉ φ.hd) (q : Reps Γ φ H vs (kvs.map (·.2))) : Rel Γ ⟨φ.cs ++ [p], φ.hd⟩ (upd H p (.dK (dkv kvs vs))) (s ++ [.dct kvs]) := by
  refine ⟨by simp [r.len], ?_, fun a ha hb => ?_, fun a ha => ?_, fun n a c h1 h2 => ?_, tabs_write h0 .d r.tab⟩
  · refine List.nodup_append.mpr ⟨r.nd, by simp, fun a ha b hb e => ?_⟩
    rw [List.mem_singleton.mp hb] at e
    exact n1 (by rw [← e]; exact ha)
  · rcases List.mem_append.mp ha with ha | ha
    · exact r.dis a ha hb
    · rw [List.mem_singleton.mp ha] at hb
      exact n2 hb
  · obtain ⟨o, e, n⟩ := r.hid a ha
    by_cases z : a = p
    · exact absurd (by rw [← z]; exact ha) n2
    · exact ⟨o, by rw [upd_ne z]; exact e, n⟩
  · by_cases hn : n < φ.cs.length
    · rw [List.getElem?_append_left hn] at h1
      rw [List.getElem?_append_left (by rw [← r.len]; exact hn)] at h2
      have ne : a ≠ p := fun e => n1 (by rw [← e]; exact List.mem_of_getElem? h1)
      have q := r.cell n a c h1 h2
      cases c with
      | lst ds =>
        obtain ⟨xs, e, r'⟩ := q
        exact ⟨xs, by rw [upd_ne ne]; exact e, r'.shelf h0⟩
      | ins c ds =>
        obtain ⟨C, fn, dx, xs, h0', e, l, r'⟩ := q
        exact ⟨C, fn, dx, xs, h0', by rw [upd_ne ne]; exact e, l, r'.shelf h0⟩
      | dct kvs =>
        obtain ⟨vs, e, r'⟩ := q
        exact ⟨vs, by rw [upd_ne ne]; exact e, r'.shelf h0⟩
      | key ks =>
        obtain ⟨vs, e, r', e2⟩ := q
        exact ⟨vs, by rw [upd_ne ne]; exact e, r'.shelf h0, e2⟩
    · have l1 := (List.getElem?_eq_some_iff.mp h1).1
      have e : n = φ.cs.length := by simp at l1; omega
      subst e
      have e1 : a = p := by simpa using h1.symm
      have e2 : c = .dct kvs := by rw [r.len] at h2; simpa using h2.symm
      subst e1 e2
      exact ⟨vs, upd_same, q.shelf h0⟩
theorem After.shelf {φ2 : Fx} {H2 : Hp} {p : Addr} {o : HO} (y : After φ H φ2 H2) (h : H p = none) : After φ H ⟨φ2.cs ++ [p], φ2.hd⟩ (upd H2 p o) := by
  obtain ⟨ψ, e, f⟩ := y.grow
  refine ⟨⟨ψ ++ [p], by rw [e, List.append_assoc], fun a ha => ?_⟩, y.hid, fun a o' e1 nt n => ?_, fun a xs e1 => ?_, fun a o' u e1 => ?_, fun a o' e1 nt => ?_⟩
  · rcases List.mem_append.mp ha with ha | ha
    · exact f a ha
    · rw [List.mem_singleton.mp ha]
      exact .of h
  · rw [upd_ne (ne_of_none e1 h)]
    exact y.keep a o' e1 nt n
  · rw [upd_ne (ne_of_none e1 h)]
    exact y.tups a xs e1
  · rw [upd_ne (ne_of_none e1 h)]
    exact y.frzs a o' u e1
  · rw [upd_ne (ne_of_none e1 h)]
    exact y.there a o' e1 nt
theorem Rel.writeD {s : Stt} {p : Addr} {n : Nat} {kvs : List (T × D)} {vs : List V} (r : Rel Γ φ H s) (h : φ.cs[n]? = some p) (q : Reps Γ φ H vs (kvs.map (·.2))) : Rel Γ φ (upd H p (.dK (dkv kvs vs))) (s.set n (.dct kvs)) := by
  obtain ⟨c0, hc0, hr0⟩ := r.there h
  have A : After φ H φ (upd H p (.dK (dkv kvs vs))) := After.write (List.mem_of_getElem? h) hr0.there not_dk
  refine ⟨by simp [r.len], r.nd, r.dis, fun a ha => let ⟨o, e, n⟩ := r.hid a ha; A.there a o e n, fun m a c' h1 h2 => ?_, let ⟨_, e0, c0⟩ := hr0.there; tabs_write e0 c0 r.tab⟩
  by_cases e : m = n
  · subst e
    rw [h] at h1
    cases h1
    rw [List.getElem?_set_self (List.getElem?_eq_some_iff.mp hc0).1] at h2
    cases h2
    exact ⟨vs, upd_same, q.mono A⟩
  · rw [List.getElem?_set_ne (Ne.symm e)] at h2
    refine (r.cell m a c' h1 h2).mono A (upd_ne fun z => e ?_)
    subst z
    exact nodup_ixN r.nd h1 h
end
section
variable {Γ : Gm} {W : WX} {X : Cx} {pos : Pos} {a b e : Expr} {ga gb ge : G.Env → Stt → R D}
/-- what of a dict's cell is read -/
theorem dget_at {φ : Fx} {H : Hp} {s : Stt} {n : Nat} {t : T} {kvs : List (T × D)} {v u : V} (hv : Rep Γ φ H v (.ref n)) (hu : Rep Γ φ H u (.str t)) (r : Rel Γ φ H s) (hs : s[n]? = some (.dct kvs)) : ∃ p o, v = .ref p ∧ DGet H p u o ∧ o.isSome = (dget kvs t).isSome ∧ ∀ d, dget kvs t = some d → ∃ w, o = some w ∧ Rep Γ φ H w d := by
  cases hv with
  | ref hp =>
    cases hu
    obtain ⟨vs, h1, h2⟩ := r.cell _ _ _ hp hs
    have q := dkv_get (t := t) h2
    refine ⟨_, _, rfl, DGet.k (k := Sum.inr (tS t)) h1, ?_, fun d hd => ?_⟩
    · cases e : dget kvs t with
      | none => rw [e] at q; rw [q]; rfl
      | some d => rw [e] at q; obtain ⟨w, q, _⟩ := q; rw [q]; rfl
    · rw [hd] at q
      exact q
theorem s_dget (hu : X.A.units + 65 < cLine) (hs : NoSl b) (ha : PE X a (dE Γ W ga)) (hb : PE X b (dE Γ W gb)) :
    PE X (.Subscript a b pos) (dE Γ W fun ρ s => (ga ρ s).bind fun x s => (gb ρ s).bind fun y s => R.of (dgetF s x y) s) :=
  s_op2 (r := fun x y H Q => ∃ p v, x = .ref p ∧ DGet H p y (some v) ∧ Q v H) (F := dgetF) (pe_dget (by omega) ha hb hs) fun {φ H s x y z v u Q} e hx hy r k => by
    unfold dgetF at e
    split at e
    · split at e
      · rename_i kvs hk
        obtain ⟨p, o, e1, e2, _, e4⟩ := dget_at hx hy r hk
        obtain ⟨w, rfl, hw⟩ := e4 z e
        exact ⟨p, w, e1, e2, k.here r hw⟩
      · cases e
    · cases e
theorem dhas_go {ng : Bool} {φ : Fx} {H : Hp} {s : Stt} {x y z : D} {v u : V} (e : dhasF ng s x y = some z) (hx : Rep Γ φ H v x) (hy : Rep Γ φ H u y) (r : Rel Γ φ H s) : ∃ p o, u = .ref p ∧ DGet H p v o ∧ z = .bl (o.isSome != ng) := by
  unfold dhasF at e
  split at e
  · split at e
    · rename_i kvs hk
      obtain ⟨p, o, e1, e2, e3, _⟩ := dget_at hy hx r hk
      exact ⟨p, o, e1, e2, by rw [e3]; exact (Option.some.inj e).symm⟩
    · cases e
  · cases e
theorem s_tdin (hu : X.A.units + 65 < cLine) (hm : behindInMarks .In b = false) (ha : PE X a (dE Γ W ga)) (hb : PE X b (dE Γ W gb)) :
    PT X (.Compare a [.In] [b] pos) (dT Γ W fun ρ s => (ga ρ s).bind fun x s => (gb ρ s).bind fun y s => (R.of (dhasF false s x y) s).bind fun z s => match z with
      | .bl k => .ok k s
      | _ => .stuck) := (pt_cmp (pc_din (by omega) ha hb) hm).mono fun σ H Q ⟨φ, ρ, s, er, rel, go⟩ => by
  refine ⟨φ, ρ, s, er, rel, go.bind.imp fun x s1 φ1 H1 a1 r1 go1 v hv => ?_⟩
  refine ⟨φ1, ρ, s1, er.mono a1, r1, go1.bind.imp fun y s2 φ2 H2 a2 r2 go2 u hu => ?_⟩
  obtain ⟨z, hz, k⟩ := go2.bind.of
  obtain ⟨p, o, e1, e2, rfl⟩ := dhas_go hz (hv.mono a2) hu r2
  refine ⟨p, o, e1, e2, o.isSome, rfl, ?_⟩
  have q := k φ2 H2 (.refl _ _) r2
  simp only [Bool.bne_false] at q
  exact q φ2 H2 (.refl _ _) r2
theorem s_tdnin (hu : X.A.units + 65 < cLine) (hm : behindInMarks .NotIn b = false) (ha : PE X a (dE Γ W ga)) (hb : PE X b (dE Γ W gb)) :
    PT X (.Compare a [.NotIn] [b] pos) (dT Γ W fun ρ s => (ga ρ s).bind fun x s => (gb ρ s).bind fun y s => (R.of (dhasF true s x y) s).bind fun z s => match z with
      | .bl k => .ok k s
      | _ => .stuck) := (pt_cmp (pc_dnotin (by omega) ha hb) hm).mono fun σ H Q ⟨φ, ρ, s, er, rel, go⟩ => by
  refine ⟨φ, ρ, s, er, rel, go.bind.imp fun x s1 φ1 H1 a1 r1 go1 v hv => ?_⟩
  refine ⟨φ1, ρ, s1, er.mono a1, r1, go1.bind.imp fun y s2 φ2 H2 a2 r2 go2 u hu => ?_⟩
  obtain ⟨z, hz, k⟩ := go2.bind.of
  obtain ⟨p, o, e1, e2, rfl⟩ := dhas_go hz (hv.mono a2) hu r2
  refine ⟨p, o, e1, e2, !o.isSome, rfl, ?_⟩
  have q := k φ2 H2 (.refl _ _) r2
  simp only [Bool.bne_true] at q
  exact q φ2 H2 (.refl _ _) r2
theorem s_din (hu : X.A.units + 65 < cLine) (hm : behindInMarks .In b = false) (ha : PE X a (dE Γ W ga)) (hb : PE X b (dE Γ W gb)) :
    PE X (.Compare a [.In] [b] pos) (dE Γ W fun ρ s => (ga ρ s).bind fun x s => (gb ρ s).bind fun y s => R.of (dhasF false s x y) s) := (pe_cmp (pc_din (by omega) ha hb) hm).mono fun σ H Q ⟨φ, ρ, s, er, rel, go⟩ => by
  refine ⟨φ, ρ, s, er, rel, go.bind.imp fun x s1 φ1 H1 a1 r1 go1 v hv => ?_⟩
  refine ⟨φ1, ρ, s1, er.mono a1, r1, go1.bind.imp fun y s2 φ2 H2 a2 r2 go2 u hu => ?_⟩
  obtain ⟨z, hz, k⟩ := go2.of
  obtain ⟨p, o, e1, e2, rfl⟩ := dhas_go hz (hv.mono a2) hu r2
  refine ⟨p, o, e1, e2, ?_⟩
  have q := k φ2 H2 (.refl _ _) r2 (.bl o.isSome) (by rw [Bool.bne_false]; exact .bl _)
  exact q
theorem s_dnin (hu : X.A.units + 65 < cLine) (hm : behindInMarks .NotIn b = false) (ha : PE X a (dE Γ W ga)) (hb : PE X b (dE Γ W gb)) :
    PE X (.Compare a [.NotIn] [b] pos) (dE Γ W fun ρ s => (ga ρ s).bind fun x s => (gb ρ s).bind fun y s => R.of (dhasF true s x y) s) := (pe_cmp (pc_dnotin (by omega) ha hb) hm).mono fun σ H Q ⟨φ, ρ, s, er, rel, go⟩ => by
  refine ⟨φ, ρ, s, er, rel, go.bind.imp fun x s1 φ1 H1 a1 r1 go1 v hv => ?_⟩
  refine ⟨φ1, ρ, s1, er.mono a1, r1, go1.bind.imp fun y s2 φ2 H2 a2 r2 go2 u hu => ?_⟩
  obtain ⟨z, hz, k⟩ := go2.of
  obtain ⟨p, o, e1, e2, rfl⟩ := dhas_go hz (hv.mono a2) hu r2
  refine ⟨p, o, e1, e2, ?_⟩
  have q := k φ2 H2 (.refl _ _) r2 (.bl (!o.isSome)) (by rw [Bool.bne_true]; exact .bl _)
  exact q
theorem toPS_dp {φ : Fx} {H : Hp} {s : Stt} {x : D} {v : V} {p : PyData} (e : D.toPS s x = some p) (hx : Rep Γ φ H v x) (r : Rel Γ φ H s) : Dp Γ.K H v p := by
  cases x with
  | ref n =>
    simp only [D.toPS] at e
    split at e
    · rename_i xs hs
      obtain ⟨ps, h1, rfl⟩ := Option.map_eq_some_iff.mp e
      cases hx with
      | ref hp =>
        obtain ⟨vs, h2, h3⟩ := r.cell _ _ _ hp hs
        exact .lst (SqL.of h2) (h3.dp h1)
    · cases e
  | _ => exact hx.dp e
theorem eqFs_ok {φ : Fx} {H : Hp} {s : Stt} {x y : D} {v u : V} {b : Bool} (e : eqFs s x y = some b) (hx : Rep Γ φ H v x) (hy : Rep Γ φ H u y) (r : Rel Γ φ H s) : ∃ p q, Dp Γ.K H v p ∧ Dp Γ.K H u q ∧ SeqAt.shaped p = true ∧ SeqAt.shaped q = true ∧ PyData.eqv p q = b := by
  unfold eqFs at e
  cases e1 : D.toPS s x with
  | none => simp [e1] at e
  | some p =>
    cases e2 : D.toPS s y with
    | none => simp [e1, e2] at e
    | some q =>
      simp only [e1, e2] at e
      split at e
      · rename_i h
        cases e
        exact ⟨p, q, toPS_dp e1 hx r, toPS_dp e2 hy r, h.1, h.2, rfl⟩
      · cases e
theorem s_cmps {ng : Bool} (hK : X.K = Γ.K) (hu : X.A.units + 65 < cLine) (hm : behindInMarks (if ng = true then CmpOp.NotEq else CmpOp.Eq) b = false) (ha : PE X a (dE Γ W ga)) (hb : PE X b (dE Γ W gb)) :
    PE X (.Compare a [if ng = true then CmpOp.NotEq else CmpOp.Eq] [b] pos) (dE Γ W fun ρ s => (ga ρ s).bind fun x s => (gb ρ s).bind fun y s => R.of ((eqFs s x y).map fun k => .bl (k != ng)) s) := by
  cases ng with
  | true =>
    refine s_op2 (F := fun s x y => (eqFs s x y).map fun k => .bl (k != true)) (pe_cmpR (hK ▸ op_neD (by omega)) ha hb hm) fun e hx hy r k => ?_
    obtain ⟨b, h, rfl⟩ := Option.map_eq_some_iff.mp e
    obtain ⟨p, q, h1, h2, h3, h4, rfl⟩ := eqFs_ok h hx hy r
    exact ⟨p, q, h1, h2, h3, h4, k.here r (by rw [Bool.bne_true]; exact .bl _)⟩
  | false =>
    refine s_op2 (F := fun s x y => (eqFs s x y).map fun k => .bl (k != false)) (pe_cmpR (hK ▸ op_eqD (by omega)) ha hb hm) fun e hx hy r k => ?_
    obtain ⟨b, h, rfl⟩ := Option.map_eq_some_iff.mp e
    obtain ⟨p, q, h1, h2, h3, h4, rfl⟩ := eqFs_ok h hx hy r
    exact ⟨p, q, h1, h2, h3, h4, k.here r (by rw [Bool.bne_false]; exact .bl _)⟩
theorem s_tcmps {ng : Bool} (hK : X.K = Γ.K) (hu : X.A.units + 65 < cLine) (hm : behindInMarks (if ng = true then CmpOp.NotEq else CmpOp.Eq) b = false) (ha : PE X a (dE Γ W ga)) (hb : PE X b (dE Γ W gb)) :
    PT X (.Compare a [if ng = true then CmpOp.NotEq else CmpOp.Eq] [b] pos) (dT Γ W fun ρ s => (ga ρ s).bind fun x s => (gb ρ s).bind fun y s => (R.of ((eqFs s x y).map fun k => D.bl (k != ng)) s).bind fun z s => match z with
      | .bl k => .ok k s
      | _ => .stuck) := by
  have key : ∀ {op : CmpOp} {r : R2}, OpR X (compareOp op) r → behindInMarks op b = false → (∀ {φ : Fx} {H : Hp} {s : Stt} {x y : D} {v u : V} {Q : VK} {k : Bool}, eqFs s x y = some k → Rep Γ φ H v x → Rep Γ φ H u y → Rel Γ φ H s → Q (.bl (k != ng)) H → r v u H Q) → PT X (.Compare a [op] [b] pos) (dT Γ W fun ρ s => (ga ρ s).bind fun x s => (gb ρ s).bind fun y s => (R.of ((eqFs s x y).map fun k => D.bl (k != ng)) s).bind fun z s => match z with
      | .bl k => .ok k s
      | _ => .stuck) := fun ho hm ok => (pt_cmpR ho ha hb hm).mono fun σ H Q ⟨φ, ρ, s, er, rel, go⟩ => by
    refine ⟨φ, ρ, s, er, rel, go.bind.imp fun x s1 φ1 H1 a1 r1 go1 v hv => ?_⟩
    refine ⟨φ1, ρ, s1, er.mono a1, r1, go1.bind.imp fun y s2 φ2 H2 a2 r2 go2 u hu => ?_⟩
    obtain ⟨z, hz, k⟩ := go2.bind.of
    obtain ⟨kk, h, rfl⟩ := Option.map_eq_some_iff.mp hz
    refine ok h (hv.mono a2) hu r2 ?_
    have q := k φ2 H2 (.refl _ _) r2
    exact ⟨_, rfl, q φ2 H2 (.refl _ _) r2⟩
  cases ng with
  | true =>
    refine key (hK ▸ op_neD (by omega)) hm fun e hx hy r q => ?_
    obtain ⟨p, p', h1, h2, h3, h4, rfl⟩ := eqFs_ok e hx hy r
    rw [Bool.bne_true] at q
    exact ⟨p, p', h1, h2, h3, h4, q⟩
  | false =>
    refine key (hK ▸ op_eqD (by omega)) hm fun e hx hy r q => ?_
    obtain ⟨p, p', h1, h2, h3, h4, rfl⟩ := eqFs_ok e hx hy r
    rw [Bool.bne_false] at q
    exact ⟨p, p', h1, h2, h3, h4, q⟩
/-- a new list, turned about -/
theorem s_revk {k : Nat} {p1 p2 p3 : Pos} (hK : X.K = Γ.K) (ha : PE X a (dE Γ W ga)) : PE X (.Subscript a (.Slice none none (some (.UnaryOp .USub (.Constant (.int 1) k p1) p2)) p3) pos) (dE Γ W fun ρ s => (ga ρ s).bind fun x s => match listF s x with
    | some xs => .ok (.ref s.length) (s ++ [.lst xs.reverse])
    | none => .stuck) := (pe_rev ha).mono fun σ H Q ⟨φ, ρ, s, er, rel, go⟩ => by
  refine ⟨φ, ρ, s, er, rel, go.bind.imp fun x s1 φ1 H1 a1 r1 go1 v hv => ?_⟩
  rw [hK]
  cases e1 : listF s1 x with
  | none => rw [e1] at go1; exact go1.elim
  | some xs =>
    rw [e1] at go1
    simp only at go1
    obtain ⟨p1, vs, rfl, h1, q1⟩ := listF_ok e1 hv r1
    refine .inl ⟨_, _, rfl, SqL.of h1, fun l hp => ?_⟩
    refine go1 ⟨φ1.cs ++ [l], φ1.hd⟩ _ (.cell hp) (r1.push hp q1.rev) _ (.ref ?_)
    rw [← r1.len]
    simp
theorem s_revc {k : Nat} {p1 p2 p3 : Pos} (hK : X.K = Γ.K) (ha : PE X a (dE Γ W ga)) : PE X (.Subscript a (.Slice none none (some (.UnaryOp .USub (.Constant (.int 1) k p1) p2)) p3) pos) (dE Γ W fun ρ s => (ga ρ s).bind fun x s => R.of (revC s x) s) := (pe_rev ha).mono fun σ H Q ⟨φ, ρ, s, er, rel, go⟩ => by
  refine ⟨φ, ρ, s, er, rel, go.bind.imp fun x s1 φ1 H1 a1 r1 go1 v hv => ?_⟩
  obtain ⟨z, hz, k⟩ := go1.of
  rw [hK]
  unfold revC at hz
  split at hz
  · split at hz
    · rename_i xs hx
      cases hz
      cases hv with
      | ref hp =>
        obtain ⟨vs, h1, h2⟩ := r1.cell _ _ _ hp hx
        have k : Ko Γ φ1 H1 s1 (.lst xs.reverse) Q := k
        exact .inl ⟨_, _, rfl, SqL.of h1, fun p hp => k.lst r1 h2.rev hp⟩
    · cases hz
  · cases hz
/-- a slice of a cell -/
theorem s_slc {lo hi : Option Expr} {gl gh : G.Env → Stt → R (Option Int)} {p2 : Pos} (hK : X.K = Γ.K) (ha : PE X a (dE Γ W ga)) (hl : PO X lo (dO Γ W gl)) (hh : PO X hi (dO Γ W gh)) :
    PE X (.Subscript a (.Slice lo hi none p2) pos) (dE Γ W fun ρ s => (ga ρ s).bind fun x s => (gl ρ s).bind fun l s => (gh ρ s).bind fun h s => R.of ((listF s x).map fun xs => .lst (cut xs l h)) s) := (pe_slice (hK ▸ sl_any) ha hl hh).mono fun σ H Q ⟨φ, ρ, s, er, rel, go⟩ => by
  refine ⟨φ, ρ, s, er, rel, go.bind.imp fun x s1 φ1 H1 a1 r1 go1 v hv => ?_⟩
  refine ⟨φ1, ρ, s1, er.mono a1, r1, go1.bind.imp fun l s2 φ2 H2 a2 r2 go2 => ?_⟩
  refine ⟨φ2, ρ, s2, (er.mono a1).mono a2, r2, go2.bind.imp fun h s3 φ3 H3 a3 r3 go3 => ?_⟩
  obtain ⟨z, hz, k⟩ := go3.of
  cases e1 : listF s3 x with
  | none => rw [e1] at hz; cases hz
  | some xs =>
    rw [e1] at hz
    cases hz
    have k : Ko Γ φ3 H3 s3 (.lst (cut xs l h)) Q := k
    obtain ⟨p1, vs, rfl, h1, q1⟩ := listF_ok e1 ((hv.mono a2).mono a3) r3
    exact .inl ⟨_, _, rfl, SqL.of h1, fun p hp => k.lst r3 (q1.cut l h) hp⟩
/-- a + b, a cell -/
theorem s_catc (ha : PE X a (dE Γ W ga)) (hb : PE X b (dE Γ W gb)) : PE X (.BinOp a .Add b pos) (dE Γ W fun ρ s => (ga ρ s).bind fun x s => (gb ρ s).bind fun y s => match catF s x y with
    | some xs => .ok (.ref s.length) (s ++ [.lst xs])
    | none => .stuck) := (pe_op op_cat ha hb).mono fun σ H Q ⟨φ, ρ, s, er, rel, go⟩ => by
  refine ⟨φ, ρ, s, er, rel, go.bind.imp fun x s1 φ1 H1 a1 r1 go1 v hv => ?_⟩
  refine ⟨φ1, ρ, s1, er.mono a1, r1, go1.bind.imp fun y s2 φ2 H2 a2 r2 go2 u hu => ?_⟩
  unfold catF at go2
  cases e1 : listF s2 x with
  | none => rw [e1] at go2; exact go2.elim
  | some xs =>
    cases e2 : listF s2 y with
    | none => rw [e1, e2] at go2; exact go2.elim
    | some ys =>
      rw [e1, e2] at go2
      simp only at go2
      by_cases hl : xs.length + ys.length ≤ sizeLine
      · rw [if_pos hl] at go2
        obtain ⟨p1, vs, rfl, h1, q1⟩ := listF_ok e1 (hv.mono a2) r2
        obtain ⟨p2, ws, rfl, h2, q2⟩ := listF_ok e2 hu r2
        refine ⟨p1, p2, vs, ws, rfl, rfl, h1, h2, by rw [q1.len, q2.len]; exact hl, fun l hp => ?_⟩
        refine go2 ⟨φ2.cs ++ [l], φ2.hd⟩ _ (.cell hp) (r2.push hp (q1.append q2)) _ (.ref ?_)
        rw [← r2.len]
        simp
      · rw [if_neg hl] at go2
        exact go2.elim
/-- d[k] = v -/
theorem ss_dset {o i : Expr} {go_ gi : G.Env → Stt → R D} {p : Pos} (hu : X.A.units + 65 < cLine) (h : ncomp e = true) (ho : PE X o (dE Γ W go_)) (hi : PE X i (dE Γ W gi)) (he : PE X e (dE Γ W ge)) :
    PS X (.Assign [.Subscript o i p] e pos) (dS Γ W fun ρ s => (ge ρ s).st ρ fun y s => (go_ ρ s).st ρ fun x s => (gi ρ s).st ρ fun z s => match x, z with
    | .ref n, .str t => match s[n]? with
      | some (.dct kvs) => if kvs.length < sizeLine then .nx ρ (s.set n (.dct (dput kvs t y))) else .stuck
      | _ => .stuck
    | _, _ => .stuck) := by
  refine (ps_dput (by omega) ho hi he (swaps_n h)).mono fun D σ H ⟨φ, ρ, s, er, rel, go⟩ => ?_
  refine ⟨φ, ρ, s, er, rel, (go.st er).imp fun y s1 φ1 H1 a1 r1 go1 v hv => ?_⟩
  have er1 := er.mono a1
  refine ⟨φ1, ρ, s1, er1, r1, (go1.st er1).imp fun x s2 φ2 H2 a2 r2 go2 w hw => ?_⟩
  have er2 := er1.mono a2
  refine ⟨φ2, ρ, s2, er2, r2, (go2.st er2).imp fun z s3 φ3 H3 a3 r3 go3 u hu => ?_⟩
  have er3 := er2.mono a3
  split at go3
  · rename_i n t
    split at go3
    · rename_i kvs hx
      split at go3
      · rename_i hl
        have hw3 := hw.mono a3
        cases hu
        cases hw3 with
        | ref hp =>
          obtain ⟨vs, h4, h5⟩ := r3.cell _ _ _ hp hx
          obtain ⟨vs', h6, h7⟩ := dkv_put (t := t) ((hv.mono a2).mono a3) h5
          have A : After φ3 H3 φ3 (upd H3 _ (.dK (dkv (dput kvs t y) vs'))) := After.write (List.mem_of_getElem? hp) ⟨_, h4, .d⟩ not_dk
          refine ⟨_, _, rfl, DPut.k (k := Sum.inr (tS t)) h4 (by rw [dkv_len (by rw [h5.len, List.length_map])]; exact hl), ?_⟩
          rw [← h7]
          exact (GoS.from A go3).here (r3.writeD hp h6) (er3.mono A)
      · exact go3.elim
    · exact go3.elim
  · exact go3.elim
theorem rbind_ok' {α β : Type} {a : α} {s : Stt} {f : α → Stt → R β} : (R.ok a s).bind f = f a s := rfl
/-- {k: v} -/
theorem s_dct1 (ha : PE X a (dE Γ W ga)) (hb : PE X b (dE Γ W gb)) :
    PE X (.Dict [some a] [b] pos) (dE Γ W fun ρ s => (ga ρ s).bind fun x s => (gb ρ s).bind fun y s => match x with
      | .str t => .ok (.ref s.length) (s ++ [.dct [(t, y)]])
      | _ => .stuck) :=
  (pe_disp (pps_cons ha hb pps_nil) (by rfl) (by rfl) (fun z => by cases z) (show 1 ≤ 15 by decide)).mono fun σ H Q ⟨φ, ρ, s, er, rel, go⟩ => by
  intro p hp
  have A0 : After φ H φ (upd H p (.dK [])) := .fresh hp
  have np : p ∉ φ.cs := fun z => by
    obtain ⟨n, hn⟩ := List.getElem?_of_mem z
    obtain ⟨c, _, hc⟩ := rel.there hn
    obtain ⟨o, e', _⟩ := hc.there
    rw [hp] at e'
    cases e'
  have nh : p ∉ φ.hd := fun z => by
    obtain ⟨o, e, _⟩ := rel.hid p z
    rw [hp] at e
    cases e
  refine ⟨φ, ρ, s, er.mono A0, rel.fresh hp, ?_⟩
  simp only at go
  cases e1 : ga ρ s with
  | stuck => rw [e1] at go; exact go.elim
  | exc c fs s1 =>
    rw [e1] at go
    exact fun φ' H' cls dd x y q => go φ' H' cls dd (A0.trans x) y q
  | ok x s1 =>
    rw [e1] at go
    intro φ1 H1 y1 r1 v hv
    refine ⟨φ1, ρ, s1, (er.mono A0).mono y1, r1, ?_⟩
    rw [rbind_ok'] at go
    cases e2 : gb ρ s1 with
    | stuck => rw [e2] at go; exact go.elim
    | exc c fs s2 =>
      rw [e2] at go
      exact fun φ' H' cls dd x y q => go φ' H' cls dd (A0.trans (y1.trans x)) y q
    | ok y s2 =>
      rw [e2] at go
      intro φ2 H2 y2 r2 u hu
      have Y : After φ (upd H p (.dK [])) φ2 H2 := y1.trans y2
      have hp2 : H2 p = some (.dK []) := Y.keep p _ upd_same not_dk np
      have nn : ¬ Nn (upd H p (.dK [])) p := fun z => by
        obtain ⟨ps, h⟩ := z _ upd_same
        cases h
      have n1 : p ∉ φ2.cs := fun z => by
        obtain ⟨ψ, e, f⟩ := Y.grow
        rw [e] at z
        rcases List.mem_append.mp z with z | z
        · exact np z
        · exact nn (f p z)
      have n2 : p ∉ φ2.hd := fun z => (Y.hid.2 p z).elim nh nn
      cases x with
      | str t =>
        cases hv
        refine ⟨hp2, [(.inr (tS t), u)], rfl, show 1 ≤ 15 by decide, ?_⟩
        exact go ⟨φ2.cs ++ [p], φ2.hd⟩ (upd H2 p (.dK (dkv [(t, y)] [u]))) ((A0.trans Y).shelf hp) (r2.shelf (kvs := [(t, y)]) (vs := [u]) hp2 n1 n2 (.cons hu .nil)) (.ref p) (.ref (by
          show (φ2.cs ++ [p])[s2.length]? = some p
          rw [← r2.len]
          simp))
      | _ => exact go.elim
end
end G
set_option Elab.async false
set_option linter.all false
set_option maxRecDepth 100000
set_option maxHeartbeats 0
namespace G
open PySem L2 PyProof.Rows
section
variable {Γ : Gm} {φ φ' : Fx} {H : Hp}
mutual
theorem nk_of : ∀ {d : D} {k : NestedKey} {v : V}, nkey d = some k → Rep Γ φ H v d → NkH Γ.K H k v
  | .non, k, _, h, r => by simp only [nkey, Option.some.injEq] at h; subst h; cases r; exact .non
  | .int i, k, _, h, r => by simp only [nkey, Option.some.injEq] at h; subst h; cases r; exact .int i
  | .str t, k, _, h, r => by simp only [nkey, Option.some.injEq] at h; subst h; cases r; exact .str _
  | .tup xs, k, _, h, r => by
    simp only [nkey, Option.map_eq_some_iff] at h
    obtain ⟨ks, h1, rfl⟩ := h
    cases r with
    | tup a1 r1 => exact .tup a1 (nks_of h1 r1)
  | .bl _, _, _, h, _ => by simp [nkey] at h
  | .lst _, _, _, h, _ => by simp [nkey] at h
  | .scr _, _, _, h, _ => by simp [nkey] at h
  | .ins .., _, _, h, _ => by simp [nkey] at h
  | .ref _, _, _, h, _ => by simp [nkey] at h
  | .dfn _, _, _, h, _ => by simp [nkey] at h
theorem nks_of : ∀ {ds : List D} {ks : List NestedKey} {vs : List V}, nkeys ds = some ks → Reps Γ φ H vs ds → NkHs Γ.K H ks vs
  | [], ks, _, h, r => by simp only [nkeys, Option.some.injEq] at h; subst h; cases r; exact .nil
  | d :: ds, ks, _, h, .cons a b => by
    simp only [nkeys] at h
    cases e1 : nkey d with
    | none => rw [e1] at h; simp at h
    | some k =>
      cases e2 : nkeys ds with
      | none => rw [e1, e2] at h; simp at h
      | some ks' =>
        rw [e1, e2] at h
        cases h
        exact .cons (nk_of e1 a) (nks_of e2 b)
end
theorem tk_of {d : D} {k : NestedKey} {v : V} (h : tkey d = some k) (r : Rep Γ φ H v d) : ∃ a, v = .ref a ∧ NkH Γ.K H k v ∧ k.depth ≤ 8 := by
  unfold tkey at h
  split at h
  · split at h
    · rename_i k' hk
      split at h
      · cases h
        cases r with
        | tup a1 r1 => exact ⟨_, rfl, nk_of hk (.tup a1 r1), by assumption⟩
      · cases h
    · cases h
  · cases h
/-- a dict's entries stand for its keys -/
def KRep (Γ : Gm) (φ : Fx) (H : Hp) (xs : List (NestedKey × Addr × Value)) (ks : List D) : Prop := Reps Γ φ H (xs.map fun x => V.ref x.2.1) ks ∧ ks.map tkey = xs.map fun x => some x.1
theorem krep_kdk : ∀ {xs : List (NestedKey × Addr × Value)} {ks : List D}, KRep Γ φ H xs ks → KdK Γ.K H xs
  | [], _, _ => fun _ h => nomatch h
  | x :: xs, ks, ⟨h1, h2⟩ => by
    cases ks with
    | nil => simp at h2
    | cons d ds =>
      simp only [List.map_cons, List.cons.injEq] at h1 h2
      cases h1 with
      | cons a b =>
        obtain ⟨_, _, q1, q2⟩ := tk_of h2.1 a
        intro y hy
        rcases List.mem_cons.mp hy with e | e
        · subst e; exact ⟨q1, q2⟩
        · exact krep_kdk ⟨b, h2.2⟩ y e
theorem krep_has {xs : List (NestedKey × Addr × Value)} {ks : List D} (h : KRep Γ φ H xs ks) (k : NestedKey) : khas ks k = (xs.map (·.1)).contains k := by
  unfold khas
  rw [h.2]
  clear h
  induction xs with
  | nil => rfl
  | cons x xs ih =>
    simp only [List.map_cons, List.contains_cons, ih]
    congr 1
theorem atKey_hasB (xs : List (NestedKey × Addr × Value)) (k : NestedKey) : (atKey xs k).isSome = (xs.map (·.1)).contains k := by
  rw [← atKey_has, valueAt_pairsH, Option.isSome_map]
theorem krep_put {xs : List (NestedKey × Addr × Value)} {ks ks' : List D} {k : NestedKey} {a : Addr} {d : D} {u : Value} (h : KRep Γ φ H xs ks) (hk : tkey d = some k) (r : Rep Γ φ H (.ref a) d) (e : kput ks d = some ks') : KRep Γ φ H (storedH xs k a u) ks' := by
  unfold kput at e
  rw [hk] at e
  simp only [Option.some.injEq] at e
  subst e
  rw [krep_has h]
  have q := atKey_hasB xs k
  cases hb : (xs.map (·.1)).contains k with
  | true =>
    rw [hb] at q
    obtain ⟨p, hp⟩ := Option.isSome_iff_exists.mp q
    rw [storedH_old hp]
    simp only [if_true]
    have e1 : ((xs.map (putAt k u)).map fun x => V.ref x.2.1) = xs.map fun x => V.ref x.2.1 := by
      rw [List.map_map]
      refine List.map_congr_left fun x _ => ?_
      show V.ref (putAt k u x).2.1 = _
      unfold putAt
      split <;> rfl
    have e2 : ((xs.map (putAt k u)).map fun x => some x.1) = xs.map fun x => some x.1 := by
      rw [List.map_map]
      refine List.map_congr_left fun x _ => ?_
      show some (putAt k u x).1 = _
      unfold putAt
      split
      · rename_i z; rw [z]
      · rfl
    exact ⟨by rw [e1]; exact h.1, by rw [e2]; exact h.2⟩
  | false =>
    rw [hb] at q
    have hn : atKey xs k = none := by
      cases z : atKey xs k with
      | none => rfl
      | some p => rw [z] at q; cases q
    rw [storedH_new hn]
    simp only [Bool.false_eq_true, if_false]
    refine ⟨?_, ?_⟩
    · rw [List.map_append]
      exact h.1.append (.cons r .nil)
    · rw [List.map_append, List.map_append, h.2]
      simp [hk]
theorem KRep.mono {H' : Hp} {xs : List (NestedKey × Addr × Value)} {ks : List D} (x : After φ H φ' H') (h : KRep Γ φ H xs ks) : KRep Γ φ' H' xs ks := ⟨h.1.mono x, h.2⟩
theorem KRep.len {xs : List (NestedKey × Addr × Value)} {ks : List D} (h : KRep Γ φ H xs ks) : xs.length = ks.length := by
  have := congrArg List.length h.2
  simpa using this.symm
mutual
/-- the dict that is being made is written -/
theorem Rep.hidK {p : Addr} {F : Heap → Prop} {o : HO} (hp : p ∈ φ.hd) (h0 : H p = some (.ext F)) : ∀ {v : V} {d : D}, Rep Γ φ H v d → Rep Γ φ (upd H p o) v d
  | _, _, .non => .non
  | _, _, .bl b => .bl b
  | _, _, .int i => .int i
  | _, _, .str t => .str t
  | _, _, .tup h r => .tup (by
    rcases h with (h | ⟨o, h⟩) | h
    · exact .inl (.inl (by rw [upd_ne (ne_of h h0 (fun z => nomatch z))]; exact h))
    · exact .inl (.inr ⟨o, by rw [upd_ne (ne_of h h0 (fun z => nomatch z))]; exact h⟩)
    · exact .inr h) (Reps.hidK hp h0 r)
  | _, _, .lst h n r => .lst (by rw [upd_ne (ne_of h h0 (fun z => nomatch z))]; exact h) n (Reps.hidK hp h0 r)
  | _, _, .scr h => .scr (by
    rcases h with ⟨o, h⟩ | h
    · exact .inl ⟨o, by rw [upd_ne (ne_of h h0 (fun z => nomatch z))]; exact h⟩
    · exact .inr h)
  | _, _, .scrL h n => .scrL (by rw [upd_ne (ne_of h h0 (fun z => nomatch z))]; exact h) n
  | _, _, .ins a1 a2 a3 a4 r => .ins a1 (by rw [upd_ne (ne_of a2 h0 (fun z => nomatch z))]; exact a2) a3 a4 (Reps.hidK hp h0 r)
  | _, _, .ref h => .ref h
  | _, _, .dfn h => .dfn h
theorem Reps.hidK {p : Addr} {F : Heap → Prop} {o : HO} (hp : p ∈ φ.hd) (h0 : H p = some (.ext F)) : ∀ {v : List V} {d : List D}, Reps Γ φ H v d → Reps Γ φ (upd H p o) v d
  | _, _, .nil => .nil
  | _, _, .cons a b => .cons (Rep.hidK hp h0 a) (Reps.hidK hp h0 b)
end
theorem Rel.hidK {s : Stt} {p : Addr} {w : World} {D : Addr} {xs0 xs1 : List (NestedKey × Addr × Value)} (r : Rel Γ φ H s) (hp : p ∈ φ.hd) (h0 : H p = some (kdO w D xs0)) (hc : p ∉ φ.cs) : Rel Γ φ (upd H p (kdO w D xs1)) s := by
  refine ⟨r.len, r.nd, r.dis, fun a ha => ?_, fun n a c h1 h2 => ?_, tabs_write h0 .k r.tab⟩
  · by_cases e : a = p
    · exact ⟨_, by rw [e, upd_same], not_kd⟩
    · obtain ⟨o, q, n⟩ := r.hid a ha
      exact ⟨o, by rw [upd_ne e]; exact q, n⟩
  · have ne : a ≠ p := fun e => hc (by rw [← e]; exact List.mem_of_getElem? h1)
    have q := r.cell n a c h1 h2
    cases c with
    | lst ds =>
      obtain ⟨xs, e, r'⟩ := q
      exact ⟨xs, by rw [upd_ne ne]; exact e, r'.hidK hp h0⟩
    | ins c ds =>
      obtain ⟨C, fn, dx, xs, h0', e, l, r'⟩ := q
      exact ⟨C, fn, dx, xs, h0', by rw [upd_ne ne]; exact e, l, r'.hidK hp h0⟩
    | dct kvs =>
      obtain ⟨vs, e, r'⟩ := q
      exact ⟨vs, by rw [upd_ne ne]; exact e, r'.hidK hp h0⟩
    | key ks =>
      obtain ⟨vs, e, r', e2⟩ := q
      exact ⟨vs, by rw [upd_ne ne]; exact e, r'.hidK hp h0, e2⟩
/-- the dict that was made becomes a cell -/
theorem Rel.bareK {s : Stt} {p : Addr} {hd : List Addr} {xs : List (NestedKey × Addr × Value)} {ks : List D} (r : Rel Γ φ H s) (h : ∀ a ∈ hd, a ∈ φ.hd) (d1 : p ∈ φ.hd) (d2 : p ∉ φ.cs) (d3 : p ∉ hd) (e : H p = some (kdO Γ.w p xs)) (q : KRep Γ φ H xs ks) : Rel Γ ⟨φ.cs ++ [p], hd⟩ H (s ++ [.key ks]) := by
  have L : ∀ a, φ.out a → (⟨φ.cs ++ [p], hd⟩ : Fx).out a := fun a ⟨x, y⟩ => ⟨fun z => by
    rcases List.mem_append.mp z with z | z
    · exact x z
    · rw [List.mem_singleton.mp z] at y
      exact y d1, fun z => y (h a z)⟩
  have GG : ∀ (n : Nat) a, φ.cs[n]? = some a → (φ.cs ++ [p])[n]? = some a := fun n a z => by
    have := (List.getElem?_eq_some_iff.mp z).1
    rw [List.getElem?_append_left this]
    exact z
  have less : ∀ {vs : List V} {ds : List G.D}, Reps Γ φ H vs ds → Reps Γ ⟨φ.cs ++ [p], hd⟩ H vs ds := fun r' => Reps.less (φ := φ) (φ' := ⟨φ.cs ++ [p], hd⟩) GG L r'
  refine ⟨by simp [r.len], ?_, fun a ha hb => ?_, fun a ha => r.hid a (h a ha), fun n a c h1 h2 => ?_, r.tab⟩
  · refine List.nodup_append.mpr ⟨r.nd, by simp, fun a ha b hb e => ?_⟩
    rw [List.mem_singleton.mp hb] at e
    exact d2 (e ▸ ha)
  · rcases List.mem_append.mp ha with ha | ha
    · exact r.dis a ha (h a hb)
    · rw [List.mem_singleton.mp ha] at hb
      exact d3 hb
  · by_cases hn : n < φ.cs.length
    · rw [List.getElem?_append_left hn] at h1
      rw [List.getElem?_append_left (by rw [← r.len]; exact hn)] at h2
      have q := r.cell n a c h1 h2
      cases c with
      | lst ds =>
        obtain ⟨xs, e, r'⟩ := q
        exact ⟨xs, e, less r'⟩
      | ins c ds =>
        obtain ⟨C, fn, dx, xs, h0', e, l, r'⟩ := q
        exact ⟨C, fn, dx, xs, h0', e, l, less r'⟩
      | dct kvs =>
        obtain ⟨vs, e, r'⟩ := q
        exact ⟨vs, e, less r'⟩
      | key ks =>
        obtain ⟨vs, e, r', e2⟩ := q
        exact ⟨vs, e, less r', e2⟩
    · have l1 := (List.getElem?_eq_some_iff.mp h1).1
      have e1 : n = φ.cs.length := by simp at l1; omega
      subst e1
      have e2 : a = p := by simpa using h1.symm
      have e3 : c = .key ks := by rw [r.len] at h2; simpa using h2.symm
      subst e2 e3
      exact ⟨xs, e, less q.1, q.2⟩
end
section
variable {Γ : Gm} {W : WX} {X : Cx} {pos : Pos} {a b e : Expr} {ga gb : G.Env → Stt → R D}
/-- a turn -/
def turnK (tgs own : List Nat) (ge : G.Env → Stt → R D) (ρ : G.Env) : D → List D → Stt → R (List D) := fun d acc s => match tgF tgs d (wipeE ρ own) with
  | none => .stuck
  | some ρ' => (ge ρ' s).bind fun y s => if acc.length < sizeLine then R.of (kput acc y) s else .stuck
theorem turnK_ok {tgs own : List Nat} {ge : G.Env → Stt → R D} {ρ : G.Env} {d : D} {acc acc' : List D} {s s' : Stt} (h : turnK tgs own ge ρ d acc s = .ok acc' s') :
    ∃ ρ', tgF tgs d (wipeE ρ own) = some ρ' ∧ ∃ y, ge ρ' s = .ok y s' ∧ acc.length < sizeLine ∧ kput acc y = some acc' := by
  unfold turnK at h
  cases e : tgF tgs d (wipeE ρ own) with
  | none => rw [e] at h; cases h
  | some ρ' =>
    rw [e] at h
    obtain ⟨y, s4, h3, h4⟩ := bind_ok h
    split at h4
    · cases h5 : kput acc y with
      | none => rw [h5] at h4; cases h4
      | some z =>
        rw [h5] at h4
        cases h4
        exact ⟨ρ', rfl, y, h3, by assumption, h5⟩
    · cases h4
theorem kc_read {own : List Nat} {tgs : List Nat} {g : TG} {gi : G.Env → Stt → R (List D)} {ge : G.Env → Stt → R D} (tk : TgOk Γ tgs g) (hs : ∀ i ∈ tgs, i ∈ own) {σ : L2.St} {H : Hp} {Q : VK}
    (h : dE Γ W (fun ρ s => (gi ρ s).bind fun xs s => (loopC (turnK tgs own ge ρ) xs [] s).bind fun acc s => .ok (.ref s.length) (s ++ [.key acc])) σ H Q) : tKc Γ.K Γ.w (dI Γ W gi) g (dE Γ W0 ge) own σ H Q := by
  obtain ⟨φ, ρ, s, er, rel, go⟩ := h
  refine ⟨φ, ρ, s, er, rel, go.bind.imp fun xs s1 φ1 H1 a1 r1 go1 J hJ => fun D hD => ?_⟩
  rcases loopC_ok (body := turnK tgs own ge ρ) (xs := xs) (acc := []) (s := s1) with ⟨accF, sF, hF⟩ | hF
  · rw [hF] at go1
    have go1 : ∀ φ' H', After φ1 H1 φ' H' → Rel Γ φ' H' (sF ++ [.key accF]) → ∀ v, Rep Γ φ' H' v (.ref sF.length) → Q v H' := go1
    have er1 := er.mono a1
    refine ⟨fun i m Hc => m = xs.length - i ∧ i ≤ xs.length ∧ ∃ φc s acc es, D ∈ φc.hd ∧ D ∉ φc.cs ∧ After φ1 H1 φc Hc ∧ Rel Γ φc Hc s ∧ Hc D = some (kdO Γ.w D es) ∧ KRep Γ φc Hc es acc ∧ loopC (turnK tgs own ge ρ) (xs.drop i) acc s = .ok accF sF,
      ⟨_, rfl, Nat.zero_le _, φ1.hide D, s1, [], [], List.mem_cons_self, (r1.out hD).1, .hide hD, r1.hide hD not_kd, upd_same, ⟨.nil, rfl⟩, hF⟩, ?_⟩
    rintro i m Hc ⟨rfl, hi, φc, sc, acc, es, d1, d2, ac, rc, hDc, rAcc, hL⟩
    obtain ⟨w1, w2⟩ := hJ i φc Hc sc ac rc
    by_cases hlt : i < xs.length
    · obtain ⟨hgo, hy⟩ := w1 hlt
      refine .inr ⟨hgo, _, fun H' p' => ⟨xs.length - (i + 1), by omega, rfl, hlt, p'⟩, fun x H' hx => ?_⟩
      obtain ⟨a2, r2, d, hd, hr⟩ := hy x H' hx
      rw [List.drop_eq_getElem_cons hlt] at hL
      have hd' : xs[i] = d := by rw [List.getElem?_eq_getElem hlt] at hd; exact Option.some.inj hd
      rw [hd'] at hL
      unfold loopC at hL
      cases hb : turnK tgs own ge ρ d acc sc with
      | exc c fs s' => rw [hb] at hL; cases hL
      | stuck => rw [hb] at hL; cases hL
      | ok acc' s' =>
        rw [hb] at hL
        obtain ⟨ρ', htg, y, he, hlen, hput⟩ := turnK_ok hb
        have er2 := (er1.mono (ac.trans a2)).wipe own
        refine tk.go er2 hr htg fun σ2 er3 hw => ⟨(hw _ hs).trans wipe_wipe, ⟨φc, ρ', sc, er3, r2, ?_⟩⟩
        rw [he]
        intro φ4 H4 a4 r4 v hv
        have a24 := a2.trans a4
        have hD4 : H4 D = some (kdO Γ.w D es) := a24.keep _ _ hDc not_kd d2
        have dd := a24.hid.1 _ d1
        have rA := rAcc.mono a24
        cases hk : tkey y with
        | none => unfold kput at hput; rw [hk] at hput; cases hput
        | some k =>
          obtain ⟨p, rfl, q1, q2⟩ := tk_of hk hv
          refine ⟨es, k, p, rfl, q1, q2, hD4, krep_kdk rA, by rw [rA.len]; exact hlen, φ4, s', acc', _, dd, a24.notin d2 hDc not_kd, (ac.trans a24).atNew hD, r4.hidK dd hD4 (a24.notin d2 hDc not_kd), upd_same, ?_, hL⟩
          have := krep_put (u := .bool true) rA hk hv hput
          exact ⟨this.1.hidK dd hD4, this.2⟩
    · have e : i = xs.length := by omega
      subst e
      refine .inl ⟨w2 (Nat.le_refl _), ?_⟩
      rw [List.drop_length] at hL
      cases hL
      have sub : ∀ a ∈ φ1.hd, a ∈ φc.hd := ac.hid.1
      obtain ⟨ψ, eψ, fψ⟩ := ac.grow
      have rl : φc.cs.length = sF.length := rc.len
      refine go1 ⟨φc.cs ++ [D], φ1.hd⟩ Hc ⟨⟨ψ ++ [D], by show φc.cs ++ [D] = _; rw [eψ, List.append_assoc], fun a q => ?_⟩, ⟨fun _ h => h, fun _ h => .inl h⟩, ac.keep, ac.tups, ac.frzs, ac.there⟩ (rc.bareK sub d1 d2 (r1.out hD).2 hDc rAcc) _ (.ref ?_)
      · rcases List.mem_append.mp q with q | q
        · exact fψ a q
        · rw [List.mem_singleton.mp q]
          exact .of hD
      · show (φc.cs ++ [D])[sF.length]? = some D
        rw [← rl]
        simp
  · rw [hF] at go1
    exact go1.elim
/-- a dict of tuples -/
theorem s_kcomp {kx tg iter : Expr} {vk : Nat} {vp : Pos} {scope : Scope} {own : List (Str × Nat)} {tgs : List Nat} {g : TG} {gi : G.Env → Stt → R (List D)} {ge : G.Env → Stt → R D}
    (hK : X.K = Γ.K) (hW : X.w = Γ.w) (hu : X.A.units + 65 < cLine) (hc : X.calm = true) (hN : X.N.Nodup) (hi : PI X tg iter (dI Γ W gi)) (ok : BlkOk X.N X.env.scope scope own) (tk : TgOk Γ tgs g) (hs : ∀ i ∈ tgs, i ∈ own.map (·.2))
    (hg : ∀ (s : Shared) (H : Hp) (C : Addr) (cl : List (Str × Addr)) (fp : List Addr), PG (X.blk s H scope (compEnvC scope cl C X.env) fp) tg g)
    (he : ∀ (s : Shared) (H : Hp) (C : Addr) (cl : List (Str × Addr)) (fp : List Addr), PE (X.blk s H scope (compEnvC scope cl C X.env) fp) kx (dE Γ W0 ge)) (hst : ∀ x, foldedSetIterable iter X.env x = pure x) :
    PE X (.DictComp kx (.Constant (.bool true) vk vp) [⟨tg, iter, [], 0⟩] scope pos) (dE Γ W fun ρ s => (gi ρ s).bind fun xs s => (loopC (turnK tgs (own.map (·.2)) ge ρ) xs [] s).bind fun acc s => .ok (.ref s.length) (s ++ [.key acc])) :=
  (pe_kc hc (by omega) hN hi ok hg he hst).mono fun σ H Q h => by
    rw [hK, hW]
    exact kc_read tk hs h
theorem ss_kcomp {i : Nat} {y : Str} {py spos : Pos} {kx tg iter : Expr} {vk : Nat} {vp : Pos} {scope : Scope} {own : List (Str × Nat)} {tgs : List Nat} {g : TG} {gi : G.Env → Stt → R (List D)} {ge : G.Env → Stt → R D}
    (hK : X.K = Γ.K) (hW : X.w = Γ.w) (hu : X.A.units + 65 < cLine) (hc : X.calm = true) (hN : X.N.Nodup) (hy : X.N[i]? = some y) (hyl : X.env.scope.names.lookup y = some .local) (hsw : swapsWith (.DictComp kx (.Constant (.bool true) vk vp) [⟨tg, iter, [], 0⟩] scope pos) (some (.Name y py)) spos.line X.env = pure true)
    (hi : PI X tg iter (dI Γ W gi)) (ok : BlkOk X.N X.env.scope scope own) (tk : TgOk Γ tgs g) (hs : ∀ i ∈ tgs, i ∈ own.map (·.2))
    (hg : ∀ (s : Shared) (H : Hp) (C : Addr) (cl : List (Str × Addr)) (fp : List Addr), PG (X.blk s H scope (compEnvC scope cl C X.env) fp) tg g)
    (he : ∀ (s : Shared) (H : Hp) (C : Addr) (cl : List (Str × Addr)) (fp : List Addr), PE (X.blk s H scope (compEnvC scope cl C X.env) fp) kx (dE Γ W0 ge)) (hst : ∀ x, foldedSetIterable iter X.env x = pure x) :
    PS X (.Assign [.Name y py] (.DictComp kx (.Constant (.bool true) vk vp) [⟨tg, iter, [], 0⟩] scope pos) spos) (dS Γ W fun ρ s => ((gi ρ s).bind fun xs s => (loopC (turnK tgs (own.map (·.2)) ge ρ) xs [] s).bind fun acc s => .ok (.ref s.length) (s ++ [.key acc])).st ρ fun x s => .nx (ρ.set i (some x)) s) :=
  (ps_setKc hc (by omega) hN hy hyl hsw hi ok hg he hst).mono fun D σ H ⟨φ, ρ, s, er, rel, go⟩ => by
    rw [hK, hW]
    exact kc_read tk hs ⟨φ, ρ, s, er, rel, (go.st er).imp fun x s1 φ1 H1 a1 r1 go1 v hv => go1 φ1 H1 _ (.refl _ _) r1 ((er.mono a1).set hv i)⟩
theorem khas_go {ng : Bool} {φ : Fx} {H : Hp} {s : Stt} {x y z : D} {v u : V} {Q : VK} (e : khasF ng s x y = some z) (hx : Rep Γ φ H v x) (hy : Rep Γ φ H u y) (r : Rel Γ φ H s) (k : Ko Γ φ H s z Q) : rKin Γ.K Γ.w ng v u H Q := by
  unfold khasF at e
  split at e
  · split at e
    · rename_i ks kk h1 h2
      cases e
      cases hy with
      | ref hp =>
        obtain ⟨xs, q1, q2, q3⟩ := r.cell _ _ _ hp h1
        obtain ⟨a, rfl, k1, k2⟩ := tk_of h2 hx
        have kr : KRep Γ φ H xs ks := ⟨q2, q3⟩
        refine ⟨a, _, xs, kk, rfl, rfl, q1, krep_kdk kr, k1, k2, ?_⟩
        rw [← krep_has kr]
        exact k.here r (.bl _)
    · cases e
  · cases e
theorem s_khas (hK : X.K = Γ.K) (hW : X.w = Γ.w) (hu : X.A.units + 65 < cLine) (hm : behindInMarks .In b = false) (ha : PE X a (dE Γ W ga)) (hb : PE X b (dE Γ W gb)) :
    PE X (.Compare a [.In] [b] pos) (dE Γ W fun ρ s => (ga ρ s).bind fun x s => (gb ρ s).bind fun y s => R.of (khasF false s x y) s) :=
  s_op2 (F := khasF false) (pe_cmpR (hW ▸ hK ▸ op_kin hu) ha hb hm) fun e hx hy r k => khas_go e hx hy r k
theorem s_nkhas (hK : X.K = Γ.K) (hW : X.w = Γ.w) (hu : X.A.units + 65 < cLine) (hm : behindInMarks .NotIn b = false) (ha : PE X a (dE Γ W ga)) (hb : PE X b (dE Γ W gb)) :
    PE X (.Compare a [.NotIn] [b] pos) (dE Γ W fun ρ s => (ga ρ s).bind fun x s => (gb ρ s).bind fun y s => R.of (khasF true s x y) s) :=
  s_op2 (F := khasF true) (pe_cmpR (hW ▸ hK ▸ op_nkin hu) ha hb hm) fun e hx hy r k => khas_go e hx hy r k
theorem s_klen {p : Pos} (hK : X.K = Γ.K) (hW : X.w = Γ.w) (hu : X.A.units + 65 < cLine) (hg : Gl X (Bi.len).nm) (hm : X.mg (Bi.len).nm = none) (h : ns a = true) (ha : PE X a (dE Γ W ga)) :
    PE X (.Call (.Name (Bi.len).nm p) [a] [] pos) (dE Γ W fun ρ s => (ga ρ s).bind fun x s => R.of (klenF s x) s) :=
  (pe_bi (call_klen hu) (Bi.len).boot (Bi.len).vt hg hm (pa_cons ha pa_nil (star_ns h)) (Bi.len).nn.1 (Bi.len).nn.2 (by simp [h])).mono fun σ H Q ⟨φ, ρ, s, er, rel, go⟩ => by
  refine ⟨φ, ρ, s, er, rel, go.bind.imp fun x s1 φ1 H1 a1 r1 go1 v hv => ?_⟩
  obtain ⟨z, hz, k⟩ := go1.of
  unfold klenF at hz
  split at hz
  · split at hz
    · rename_i ks h1
      cases hz
      cases hv with
      | ref hp =>
        obtain ⟨xs, q1, q2, q3⟩ := r1.cell _ _ _ hp h1
        have kr : KRep Γ φ1 H1 xs ks := ⟨q2, q3⟩
        refine ⟨_, xs, rfl, by rw [hW]; exact q1, by rw [hK]; exact krep_kdk kr, ?_⟩
        rw [kr.len]
        exact k φ1 H1 (.refl _ _) r1 _ (.int _)
    · cases hz
  · cases hz
theorem strsD_dp {φ : Fx} {H : Hp} : ∀ {xs : List D} {vs : List V} {ts : List T}, strsD xs = some ts → Reps Γ φ H vs xs → vs = ts.map fun z => V.str (tS z)
  | [], _, _, h, .nil => by simp only [strsD, Option.some.injEq] at h; subst h; rfl
  | d :: xs, _, ts, h, .cons a r => by
    cases d <;> simp only [strsD, Option.map_eq_some_iff, reduceCtorEq] at h
    obtain ⟨ts', h1, rfl⟩ := h
    cases a
    rw [strsD_dp h1 r]
    rfl
theorem dp_strs (K : PySem.W.Frag) (H : Hp) : ∀ ts : List T, DpAll K H (ts.map fun z => V.str (tS z)) (ts.map fun z => PyData.str (tS z))
  | [] => .nil
  | t :: ts => .cons (.str _) (dp_strs K H ts)
theorem count_eqv (t : T) : ∀ ts : List T, ((ts.map fun z => PyData.str (tS z)).countP fun y => PyData.eqv y (.str (tS t))) = ts.countP fun y => decide (y = t)
  | [] => rfl
  | u :: ts => by
    rw [List.map_cons, List.countP_cons, List.countP_cons, count_eqv t ts]
    congr 1
    have : PyData.eqv (.str (tS u)) (.str (tS t)) = decide (u = t) := by
      by_cases e : u = t
      · subst e
        simp [PyData.eqv]
      · have : tS u ≠ tS t := fun z => e (tS_inj z)
        simp [PyData.eqv, this, e]
    rw [this]
theorem strs_plain : ∀ ts : List T, PyData.plainAll (ts.map fun z => PyData.str (tS z)) = true
  | [] => rfl
  | t :: ts => by
    rw [List.map_cons, PyData.plainAll, strs_plain ts]
    rfl
/-- how often a text is in a list of texts -/
theorem mt_countS {X : Cx} (hu : X.A.units + 65 < cLine) : MtR X "list.count" (fun x xs H Q => ∃ (p : Addr) (ts : List T) (t : T), x = .ref p ∧ xs = [.str (tS t)] ∧ SqL X.K H p (ts.map fun z => V.str (tS z)) ∧ Q (.int ((ts.countP fun y => decide (y = t) : Nat) : Int)) H) := by
  intro pins s σ H x xs v us Q I rx rxs h
  obtain ⟨p, ts, t, rfl, rfl, hs, q⟩ := h
  cases rx
  obtain ⟨u, rfl, ru⟩ := rxs.one
  obtain ⟨its, rv, pl, hlen⟩ := I.list hs
  obtain ⟨as, rs⟩ := Dp.readsAll I _ _ _ (dp_strs X.K H ts) rv
  obtain ⟨bs, r2⟩ := Dp.reads I (.str (tS t)) (.str (tS t)) u (.str _) ru
  have hz : PyData.depth (.str (tS t)) = 0 := rfl
  refine SeqAt.count_list_data pl.isList (by simpa using rs) r2 (strs_plain ts) rfl (by rw [hz]; omega) ?_
  rw [count_eqv]
  exact ⟨.int _, H, I.tok _, ⟨s.toks, rfl⟩, q⟩
theorem s_count {o : Expr} {apos cpos : Pos} {gs : G.Env → Stt → R (List D)} (hK : X.K = Γ.K) (hu : X.A.units + 65 < cLine) (hn : ns e = true) (hb : nc o = true) (hl : (apos.endLine == cpos.line) = true) (ho : PE X o (dE Γ W ga)) (he : PA X [e] (dA Γ W gs)) :
    PE X (.Call (.Attribute o "count" apos) [e] [] cpos) (dE Γ W fun ρ s => (ga ρ s).bind fun x s => if meOk .count s x = true then (gs ρ s).bind fun ys s => meF .count s x ys else .stuck) := (pe_bm (T := "list") PySem.F.plainAttrs_list PySem.F.slot_list_count PySem.F.type_list_count (mt_countS hu) ho he (base_nc hb) (few1 hn) hl (star_ns hn) (back_ns rfl)).mono fun σ H Q ⟨φ, ρ, s, er, rel, go⟩ => by
  refine ⟨φ, ρ, s, er, rel, go.bind.imp fun x s1 φ1 H1 a1 r1 go1 v hv => ?_⟩
  split at go1
  · rename_i hk
    obtain ⟨xs, rfl⟩ : ∃ xs, x = .lst xs := by
      cases x <;> first | exact ⟨_, rfl⟩ | (simp [meOk] at hk)
    cases hv with
    | lst b1 n1 c1 =>
      refine ⟨.inl ⟨rfl, _, SqL.of b1⟩, φ1, ρ, s1, er.mono a1, r1, go1.bind.imp fun ys s2 φ2 H2 a2 r2 go2 ws hws => ?_⟩
      have c2 := c1.mono a2
      have b2 := a2.keep _ _ b1 not_lst n1.1
      match ys, hws, go2 with
      | [.str t], .cons h1 .nil, go2 =>
        cases h1
        cases e1 : strsD xs with
        | none =>
          simp only [meF, e1] at go2
          exact go2.elim
        | some ts =>
          simp only [meF, e1] at go2
          rw [strsD_dp e1 c2] at b2
          exact ⟨_, ts, t, rfl, rfl, SqL.of b2, go2 φ2 H2 (.refl _ _) r2 _ (.int _)⟩
      | [], _, go2 => exact go2.elim
      | .non :: _, _, go2 => exact go2.elim
      | .bl _ :: _, _, go2 => exact go2.elim
      | .int _ :: _, _, go2 => exact go2.elim
      | .tup _ :: _, _, go2 => exact go2.elim
      | .lst _ :: _, _, go2 => exact go2.elim
      | .scr _ :: _, _, go2 => exact go2.elim
      | .ins .. :: _, _, go2 => exact go2.elim
      | .ref _ :: _, _, go2 => exact go2.elim
      | .dfn _ :: _, _, go2 => exact go2.elim
      | .str _ :: _ :: _, _, go2 => exact go2.elim
  · exact go1.elim
end
end G
set_option Elab.async false
set_option linter.all false
set_option maxRecDepth 100000
set_option maxHeartbeats 0
namespace G
open PySem L2 PyProof.Rows PySem.W
theorem not_ex {a : Addr} {o : Obj} : NoT (exO a o) := fun _ z => nomatch z
theorem ex_code {D : Addr} {e : Nat} {c : Addr} {q : Str} : exO D (seqObj "list" #[] e) ≠ LamX.CodeO c q := fun z => by
  unfold exO LamX.CodeO at z
  injection z with z
  obtain ⟨o0, ho0⟩ : ∃ o0 : Obj, o0 = { cls := .none, data := .fields #[.none, .str q 0] } := ⟨_, rfl⟩
  obtain ⟨h0, hh0⟩ : ∃ h0 : Heap, h0 = { objs := Array.replicate (c + 1) o0 } := ⟨_, rfl⟩
  have g : ∀ b o, h0.get? b = some o → o = o0 := fun b o hb => by
    unfold Heap.get? at hb
    by_cases hlt : b < c + 1
    · have z : h0.objs[b]? = some o0 := by rw [hh0]; simp [Array.getElem?_replicate, hlt]
      rw [z, ho0] at hb
      rw [ho0]
      exact (Option.some.inj hb).symm
    · have z : h0.objs[b]? = none := by rw [hh0]; simp [Array.getElem?_replicate, hlt]
      rw [z] at hb
      cases hb
  have gc : h0.get? c = some o0 := by
    unfold Heap.get?
    have z : h0.objs[c]? = some o0 := by rw [hh0]; simp [Array.getElem?_replicate]
    rw [z, ho0]
  have k : h0.get? D = some (seqObj "list" #[] e) := by
    have := congrFun z h0
    rw [this]
    exact ⟨o0, #[.none, .str q 0], 0, gc, by rw [ho0], rfl⟩
  have := g _ _ k
  rw [ho0] at this
  cases this
theorem tabs_ex {H : Hp} {D : Addr} {e : Nat} {o : HO} (h : H D = some (exO D (seqObj "list" #[] e))) {T : List (Addr × Str)} (t : LamX.Tabs T H) : LamX.Tabs T (upd H D o) := fun q hq => by
  obtain ⟨ps, h1, h2, h3⟩ := t q hq
  have n1 : q.1 ≠ D := fun z => by
    rw [z, h] at h1
    exact not_ex ps (Option.some.inj h1)
  refine ⟨ps, by rw [upd_ne n1]; exact h1, h2, fun pos cv hc => ?_⟩
  obtain ⟨c', e1, e2⟩ := h3 pos cv hc
  refine ⟨c', e1, ?_⟩
  have n2 : c' ≠ D := fun z => by
    rw [z, h] at e2
    exact ex_code (Option.some.inj e2)
  rw [upd_ne n2]
  exact e2
section
variable {Γ : Gm} {φ : Fx} {H : Hp}
theorem Rel.hidE {s : Stt} {p : Addr} {e : Nat} {vs : List V} (r : Rel Γ φ H s) (hp : p ∈ φ.hd) (h0 : H p = some (exO p (seqObj "list" #[] e))) (hc : p ∉ φ.cs) : Rel Γ φ (upd H p (.lst vs)) s := by
  refine ⟨r.len, r.nd, r.dis, fun a ha => ?_, fun n a c h1 h2 => ?_, tabs_ex h0 r.tab⟩
  · by_cases e : a = p
    · exact ⟨_, by rw [e, upd_same], not_lst⟩
    · obtain ⟨o, q, n⟩ := r.hid a ha
      exact ⟨o, by rw [upd_ne e]; exact q, n⟩
  · have ne : a ≠ p := fun e => hc (by rw [← e]; exact List.mem_of_getElem? h1)
    have q := r.cell n a c h1 h2
    cases c with
    | lst ds =>
      obtain ⟨xs, e, r'⟩ := q
      exact ⟨xs, by rw [upd_ne ne]; exact e, r'.hidK hp h0⟩
    | ins c ds =>
      obtain ⟨C, fn, dx, xs, h0', e, l, r'⟩ := q
      exact ⟨C, fn, dx, xs, h0', by rw [upd_ne ne]; exact e, l, r'.hidK hp h0⟩
    | dct kvs =>
      obtain ⟨vs, e, r'⟩ := q
      exact ⟨vs, by rw [upd_ne ne]; exact e, r'.hidK hp h0⟩
    | key ks =>
      obtain ⟨vs, e, r', e2⟩ := q
      exact ⟨vs, by rw [upd_ne ne]; exact e, r'.hidK hp h0, e2⟩
theorem reps_pairs : ∀ {l : List (V × D)}, (∀ p ∈ l, Rep Γ φ H p.1 p.2) → Reps Γ φ H (l.map (·.1)) (l.map (·.2))
  | [], _ => .nil
  | p :: l, h => .cons (h p List.mem_cons_self) (reps_pairs fun q hq => h q (List.mem_cons_of_mem _ hq))
theorem reps_zip : ∀ {vs : List V} {xs : List D}, Reps Γ φ H vs xs → ∀ p ∈ vs.zip xs, Rep Γ φ H p.1 p.2
  | _, _, .nil, _, h => nomatch h
  | _, _, .cons a b, p, h => by
    rcases List.mem_cons.mp h with e | e
    · rw [e]; exact a
    · exact reps_zip b p e
theorem zip3_1 {α β γ : Type} : ∀ {a : List α} {b : List β} {c : List γ}, a.length = b.length → ((a.zip b).zip c).map (fun t => (t.1.1, t.2)) = a.zip c
  | [], [], _, _ => rfl
  | x :: a, y :: b, [], _ => rfl
  | x :: a, y :: b, z :: c, h => by
    simp only [List.zip_cons_cons, List.map_cons]
    rw [zip3_1 (by simpa using h)]
theorem zip3_2 {α β γ : Type} : ∀ {a : List α} {b : List β} {c : List γ}, a.length = b.length → ((a.zip b).zip c).map (fun t => (t.1.2, t.2)) = b.zip c
  | [], [], _, _ => rfl
  | x :: a, y :: b, [], _ => rfl
  | x :: a, y :: b, z :: c, h => by
    simp only [List.zip_cons_cons, List.map_cons]
    rw [zip3_2 (by simpa using h)]
theorem reps_byKey {vs : List V} {xs : List D} {kz : List PyData} (r : Reps Γ φ H vs xs) : Reps Γ φ H (byKey vs kz) (byKeyD xs kz) := by
  have hl := r.len
  have e1 : byKey vs kz = ((((vs.zip xs).zip kz).mergeSort (dataLe false (·.2))).map (·.1)).map (·.1) := by
    unfold byKey
    rw [← zip3_1 hl, ← sort_maps (r := dataLe false (·.2)) (fun t : (V × D) × PyData => (t.1.1, t.2)) (fun a _ b _ => rfl), List.map_map, List.map_map]
    rfl
  have e2 : byKeyD xs kz = ((((vs.zip xs).zip kz).mergeSort (dataLe false (·.2))).map (·.1)).map (·.2) := by
    unfold byKeyD
    rw [← zip3_2 hl, ← sort_maps (r := dataLe false (·.2)) (fun t : (V × D) × PyData => (t.1.2, t.2)) (fun a _ b _ => rfl), List.map_map, List.map_map]
    rfl
  rw [e1, e2]
  refine reps_pairs fun p hp => ?_
  obtain ⟨t, ht, rfl⟩ := List.mem_map.mp hp
  have := (List.mergeSort_perm _ _).mem_iff.mp ht
  exact reps_zip r t.1 (List.of_mem_zip this).1
end
section
variable {Γ : Gm} {W : WX} {X : Cx} {pos : Pos} {e : Expr} {ga : G.Env → Stt → R D}
theorem alike_ok {ks : List PyData} (h : allAlikeB ks = true) : AllAlike ks := fun d hd d' hd' => by
  unfold allAlikeB at h
  exact List.all_eq_true.mp (List.all_eq_true.mp h d hd) d' hd'
theorem sortable_ok {ks : List PyData} (h : sortableB ks = true) : Sortable ks := by
  unfold sortableB at h
  rw [Bool.or_eq_true, List.all_eq_true, List.all_eq_true] at h
  rcases h with h | h
  · refine .inl fun d hd => ?_
    have := h d hd
    split at this
    · exact ⟨_, _, rfl⟩
    · cases this
  · refine .inr fun d hd => ?_
    have := h d hd
    split at this
    · cases this
    · cases this
    · rename_i n1 n2
      exact ⟨n1, n2⟩
theorem keysF_ok {g : List D → Stt → R D} : ∀ {xs acc : List D} {s : Stt}, (∃ a s', keysF g xs acc s = .ok a s') ∨ keysF g xs acc s = .stuck
  | [], acc, s => .inl ⟨acc, s, rfl⟩
  | x :: xs, acc, s => by
    unfold keysF
    cases g [x] s with
    | ok a s' => exact keysF_ok
    | exc c fs s' => exact .inr rfl
    | stuck => exact .inr rfl
theorem s_sortk {k kk : Nat} {f : Addr} {fd : FuncData} {ps : List Str} {g : List D → Stt → R D} {y : Str} {p p2 p3 : Pos} (hK : X.K = Γ.K) (F : FnOk X.prog X.w X.K X.mg X.base (L2.CX X.prog X.w) (4 * k + 3) f fd ps (spD Γ ps.length g)) (hr : Room (4 * k + 4) X.A) (hg : Gl X "sorted") (hm : X.mg "sorted" = none) (hn : ns e = true)
    (hgy : Gl X y) (hmy : X.mg y = some (.ref f)) (hdy : (y == ("__debug__" : Str)) = false) (hb : Binds X.K fd ps []) (hst : ∀ ds s, ds.length ≠ ps.length → g ds s = .stuck) (ha : PE X e (dE Γ W ga)) :
    PE X (.Call (.Name "sorted" p) [e] [⟨some "key", .Name y p2, p3⟩] pos) (dE Γ W fun ρ s => (ga ρ s).bind fun x s => match listF s x with
      | some xs => (keysF g xs [] s).bind fun ks s => R.of ((sortD xs ks).map .lst) s
      | none => .stuck) := by
  refine (pe_callBK (ks := [Str.ofString "key"]) (cr_sortK (X := X)) hg hm (by decide +kernel) (pa_cons ha pa_nil (star_ns hn)) (pk_cons (pe_glob (v := .ref f) hgy hmy rfl hdy) pk_nil) (he := by rw [star_ns hn]; rfl) (hpl := back_ns (es := [e]) (by simp [hn]))).mono fun σ H Q ⟨φ, ρ, s, er, rel, go⟩ => ?_
  refine ⟨φ, ρ, s, er, rel, go.bind.imp fun x s1 φ1 H1 a1 r1 go1 v hv => ?_⟩
  cases hx : listF s1 x with
  | none => rw [hx] at go1; exact go1.elim
  | some xs =>
    rw [hx] at go1
    simp only at go1
    obtain ⟨a, vs, rfl, hH, hR⟩ := listF_ok hx hv r1
    rcases keysF_ok (g := g) (xs := xs) (acc := []) (s := s1) with ⟨kF, sF, hF⟩ | hF
    · rw [hF] at go1
      obtain ⟨z, hz, kk2⟩ := Go.of (show Go Γ W φ1 H1 σ (R.of ((sortD xs kF).map D.lst) sF) _ from go1)
      obtain ⟨ys, hy, rfl⟩ := Option.map_eq_some_iff.mp hz
      unfold sortD at hy
      cases hp : D.toPs kF with
      | none => rw [hp] at hy; cases hy
      | some kz =>
        rw [hp] at hy
        simp only at hy
        split at hy
        · rename_i hc
          obtain ⟨c1, c2, c3, c4, c5⟩ := hc
          cases hy
          refine ⟨a, vs, f, fd, ps, _, _, rfl, rfl, by rw [hK]; exact SqL.of hH, by rw [hR.len]; exact c1, F, ⟨hr.hd, by have := hr.dp; show X.A.depth + 3 * _ + 5 < _; omega, by have := hr.un; show X.A.units + 1 + 1 + 16 * _ + 200 < _; omega⟩, hb, fun dA e0 hD => ?_⟩
          refine ⟨fun i ks H' => i ≤ xs.length ∧ ∃ φ' s' ds, dA ∈ φ'.hd ∧ dA ∉ φ'.cs ∧ After φ1 H1 φ' H' ∧ Rel Γ φ' H' s' ∧ H' dA = some (exO dA (seqObj "list" #[] e0)) ∧ Reps Γ φ' H' ks ds ∧ keysF g (xs.drop i) ds s' = .ok kF sF, ⟨Nat.zero_le _, φ1.hide dA, s1, [], List.mem_cons_self, (r1.out hD).1, .hide hD, r1.hide hD not_ex, upd_same, .nil, hF⟩, fun i ks H' ⟨_, _, _, _, _, _, _, _, q, _⟩ => q, ?_, ?_⟩
          · rintro i ks H' v ⟨hi, φ', s', ds, d1, d2, ac, rc, hDc, rk, hL⟩ hv
            have hlt : i < xs.length := by
              have := (List.getElem?_eq_some_iff.mp hv).1
              rw [hR.len] at this
              exact this
            rw [List.drop_eq_getElem_cons hlt] at hL
            obtain ⟨v', hv', rv⟩ := hR.get (List.getElem?_eq_getElem hlt)
            rw [hv] at hv'
            cases hv'
            generalize xs[i] = x at hL rv
            unfold keysF at hL
            cases hgx : g [x] s' with
            | stuck => rw [hgx] at hL; cases hL
            | exc c fs s2 => rw [hgx] at hL; cases hL
            | ok d s2 =>
              rw [hgx] at hL
              have l1 : ([x] : List D).length = ps.length := by
                by_cases q : ([x] : List D).length = ps.length
                · exact q
                · rw [hst [x] s' q] at hgx
                  cases hgx
              refine ⟨φ', s', [x], l1, .cons (rv.mono ac) .nil, rc, ?_⟩
              rw [hgx]
              intro φ2 H2 A2 R2 kv hkv
              exact ⟨hlt, φ2, s2, ds ++ [d], A2.hid.1 _ d1, A2.notin d2 hDc not_ex, ac.trans A2, R2, A2.keep _ _ hDc not_ex d2, (rk.mono A2).append (.cons hkv .nil), hL⟩
          · rintro ks H' ⟨_, φ', s', ds, d1, d2, ac, rc, hDc, rk, hL⟩
            rw [hR.len, List.drop_length] at hL
            cases hL
            refine ⟨kz, by rw [hK]; exact rk.dp hp, alike_ok c3, sortable_ok c4, fun d hd => by simpa using List.all_eq_true.mp c5 d hd, ?_⟩
            have sub : ∀ a ∈ φ1.hd, a ∈ φ'.hd := ac.hid.1
            have dd := (rc.hidE (vs := byKey vs kz) d1 hDc d2).show sub
            have aF : After φ1 H1 ⟨φ'.cs, φ1.hd⟩ (upd H' dA (.lst (byKey vs kz))) :=
              let ac' : After φ1 H1 ⟨φ'.cs, φ1.hd⟩ H' := ⟨ac.grow, ⟨fun _ h => h, fun _ h => .inl h⟩, ac.keep, ac.tups, ac.frzs, ac.there⟩
              ac'.atNew hD
            refine kk2 ⟨φ'.cs, φ1.hd⟩ _ aF dd _ (.lst upd_same ⟨d2, (r1.out hD).2⟩ ?_)
            exact reps_byKey (hR.mono aF)
        · cases hy
    · rw [hF] at go1
      exact go1.elim
end
end G
set_option Elab.async false
set_option linter.all false
set_option maxRecDepth 100000
namespace G
open PySem L2
def visB (sc : Scope) (x : Str) : Bool := match sc.names.lookup x with
  | some .local => true
  | some .cell => true
  | some .free => true
  | _ => false
def glB (sc : Scope) (x : Str) : Bool := match sc.names.lookup x with
  | some .globalImplicit => true
  | _ => false
def locB (sc : Scope) (x : Str) : Bool := match sc.names.lookup x with
  | some .local => true
  | _ => false
def nmB (x : Str) : Bool := !(x == ("__debug__" : Str)) && !(x == ("__classdict__" : Str))
def tyB (sc : Scope) (ts : List String) : Bool := ts.all fun t => isTy t && glB sc (Str.ofString t)
/-- the names of a target, local ones -/
def tgB (N : List Str) (sc : Scope) : List Nat → List Expr → Bool
  | [], [] => true
  | i :: is, .Name x _ :: es => decide (N[i]? = some x) && locB sc x && tgB N sc is es
  | _, _ => false
/-- the comprehension's own names by their places -/
def ownL (N : List Str) (own : List Nat) : List (Str × Nat) := own.map fun i => (N.getD i Str.empty, i)
/-- no parameters -/
def lamA : Arguments → Bool
  | ⟨[], [], none, [], [], none, []⟩ => true
  | _ => false
def celB (sc : Scope) (x : Str) : Bool := match sc.names.lookup x with
  | some .cell => true
  | _ => false
/-- what is walked -/
def itB : Expr → Bool
  | .Set .. => false
  | _ => true
/-- a comprehension over a cell -/
def ckLC (N : List Str) (sc : Scope) (own tg : List Nat) (fT : Scope → Expr → Bool) (fI : Expr → Bool) (fC : Scope → List Expr → Bool) (fE : Scope → Expr → Bool) : Expr → Bool
  | .ListComp elt [⟨t, iter, ifs, 0⟩] scope _ => decide (scope.kind = .function) && blkC N sc scope (ownL N own) && (tg.all fun i => decide (i ∈ own)) && itB iter && fT scope t && fI iter && fC scope ifs && fE scope elt
  | _ => false
/-- a comprehension over a cell by its places -/
def ckLE (N : List Str) (sc : Scope) (own tg : List Nat) (fT : Scope → Expr → Bool) (fI : Expr → Expr → Bool) (fC : Scope → List Expr → Bool) (fE : Scope → Expr → Bool) : Expr → Bool
  | .ListComp elt [⟨t, iter, ifs, 0⟩] scope _ => decide (scope.kind = .function) && blkC N sc scope (ownL N own) && (tg.all fun i => decide (i ∈ own)) && itB iter && fT scope t && fI t iter && fC scope ifs && fE scope elt
  | _ => false
/-- a dict of keys that are tuples -/
def ckKC (N : List Str) (sc : Scope) (own tg : List Nat) (fT : Scope → Expr → Bool) (fI : Expr → Expr → Bool) (fE : Scope → Expr → Bool) : Expr → Bool
  | .DictComp kx (.Constant (.bool true) _ _) [⟨t, iter, [], 0⟩] scope _ => decide (scope.kind = .function) && blkC N sc scope (ownL N own) && (tg.all fun i => decide (i ∈ own)) && itB iter && fT scope t && fI t iter && fE scope kx
  | _ => false
/-- len of such a dict -/
def ckKl (sc : Scope) (fA : Expr → Bool) : Expr → Bool
  | .Call (.Name x _) [e] [] _ => decide (x = Bi.len.nm) && glB sc x && ns e && fA e
  | _ => false
/-- sorted by a def -/
def ckSk (P : Prog) (sc : Scope) (f : Nat) (fA : Expr → Bool) : Expr → Bool
  | .Call (.Name x _) [e] [⟨some k, .Name y _, _⟩] _ => decide (x = "sorted") && glB sc x && ns e && decide (k = "key") && (match P.defs[f]? with | some df => df.pos && df.own.isNone && decide (df.name = y) | none => false) && glB sc y && nmB y && fA e
  | _ => false
/-- a slice of a cell -/
def ckSlc (fA : Expr → Bool) (fL fH : Option Expr → Bool) : Expr → Bool
  | .Subscript a' (.Slice lo' hi' none _) _ => fA a' && fL lo' && fH hi'
  | _ => false
/-- a method's name, and how many values it asks -/
def Me.nm' : Me → Str
  | .append => "append" | .popAt => "pop" | .pop => "pop" | .rfind => "rfind" | .index => "index" | .lindex => "index" | .upper => "upper" | .lower => "lower"
  | .join => "join" | .split => "split" | .part => "partition" | .reverse => "reverse" | .clear => "clear" | .insert => "insert" | .remove => "remove" | .count => "count"
def Me.ar : Me → Nat
  | .pop => 0 | .upper => 0 | .lower => 0 | .reverse => 0 | .clear => 0 | .insert => 2
  | _ => 1
def ckMet (m : Me) (fA : Expr → Bool) (fS : List Expr → Bool) : Expr → Bool
  | .Call (.Attribute o g apos) es [] cpos => decide (g = m.nm') && nc o && (apos.endLine == cpos.line) && decide (es.length = m.ar) && es.all ns && fA o && fS es
  | _ => false
/-- d[k]; k in d; {k: v}; a cell turned about -/
def ckSub (fA fB : Expr → Bool) : Expr → Bool
  | .Subscript a' i' _ => nsl i' && fA a' && fB i'
  | _ => false
def ckHas (ng : Bool) (fA fB : Expr → Bool) : Expr → Bool
  | .Compare a' [op] [b'] _ => decide (op = if ng then .NotIn else .In) && !behindInMarks op b' && fA a' && fB b'
  | _ => false
def ckCs (ng : Bool) (fA fB : Expr → Bool) : Expr → Bool
  | .Compare a' [op] [b'] _ => decide (op = (if ng = true then CmpOp.NotEq else CmpOp.Eq)) && !(behindInMarks (if ng = true then CmpOp.NotEq else CmpOp.Eq) b') && fA a' && fB b'
  | _ => false
def ckD1 (fA fB : Expr → Bool) : Expr → Bool
  | .Dict [some a'] [b'] _ => fA a' && fB b'
  | _ => false
def ckCat (fA fB : Expr → Bool) : Expr → Bool
  | .BinOp a' .Add b' _ => fA a' && fB b'
  | _ => false
def ckRv (fA : Expr → Bool) : Expr → Bool
  | .Subscript a' (.Slice none none (some (.UnaryOp .USub (.Constant (.int i) _ _) _)) _) _ => decide (i = 1) && fA a'
  | _ => false
/-- max of two -/
def ckMx (sc : Scope) (fA fB : Expr → Bool) : Expr → Bool
  | .Call (.Name x _) [e, e'] [] _ => decide (x = Bi.max.nm) && glB sc x && ns e && ns e' && fA e && fB e'
  | _ => false
section
variable (P : Prog) (N : List Str)
mutual
def ckE : Bool → Scope → E → Expr → Bool
  | lm, sc, .var i, .Name x _ => decide (N[i]? = some x) && visB sc x && nmB x
  | _, _, .int i, .Constant (.int j) _ _ => decide (i = j)
  | _, _, .bl b, .Constant (.bool c) _ _ => b == c
  | _, _, .non, .Constant .none _ _ => true
  | _, _, .str t, .Constant (.str x) _ _ => decide (x = tS t)
  | lm, sc, .glob g, .Name x _ => (match P.consts[g]? with | some q => decide (q.1 = x) | none => false) && glB sc x && nmB x
  | lm, sc, .bin o a b, .BinOp a' op b' _ => decide (op = o.op) && ckE lm sc a a' && ckE lm sc b b'
  | lm, sc, .neg a, .UnaryOp .USub a' _ => ckE lm sc a a'
  | lm, sc, .not a, .UnaryOp .Not a' _ => ckE lm sc a a'
  | lm, sc, .cmp o a b, .Compare a' [op] [b'] _ => decide (op = o.op) && !behindInMarks op b' && ckE lm sc a a' && ckE lm sc b b'
  | lm, sc, .chain o o' a b d, .Compare a' [op, op'] [b', d'] _ => decide (op = o.op) && decide (op' = o'.op) && !behindInMarks op' d' && ckE lm sc a a' && ckE lm sc b b' && ckE lm sc d d'
  | lm, sc, .and as, .BoolOp .And es _ => ckEs lm sc as es
  | lm, sc, .or as, .BoolOp .Or es _ => ckEs lm sc as es
  | lm, sc, .ite c a b, .IfExp c' a' b' _ => ckE lm sc c c' && ckE lm sc a a' && ckE lm sc b b'
  | lm, sc, .tup as, .Tuple es _ _ => ckEs lm sc as es
  | lm, sc, .lst _ as, .List es _ => ckEs lm sc as es
  | lm, sc, .ix a i, .Subscript a' i' _ => nsl i' && ckE lm sc a a' && ckE lm sc i i'
  | lm, sc, .sl a lo hi, .Subscript a' (.Slice lo' hi' none _) _ => ckE lm sc a a' && ckO lm sc lo lo' && ckO lm sc hi hi'
  | lm, sc, .call f as, .Call (.Name x _) es [] _ => (match P.defs[f]? with | some df => df.pos && df.own.isNone && decide (df.name = x) | none => false) && glB sc x && nmB x && ckEs lm sc as es
  | lm, sc, .callk j as ks, .Call (.Name x _) es kws _ => (match P.shapes[j]? with | some sh => kwNames kws sh.ks && (match P.defs[sh.f]? with | some df => df.own.isNone && decide (df.name = x) | none => false) | none => false) && glB sc x && nmB x && ckEs lm sc as es && ckKs lm sc ks kws
  | lm, sc, .bi b a, .Call (.Name x _) [e] [] _ => decide (x = b.nm) && glB sc x && ns e && ckE lm sc a e
  | lm, sc, .isi a false [t], .Call (.Name x _) [e, .Name y _] [] _ => decide (x = "isinstance") && glB sc x && ns e && decide (y = Str.ofString t) && tyB sc [t] && ckE lm sc a e
  | lm, sc, .isi a true ts, .Call (.Name x _) [e, .Tuple tes _ _] [] _ => decide (x = "isinstance") && glB sc x && ns e && tyNames ts tes && decide (ts.length ≤ 100) && tyB sc ts && ckE lm sc a e
  | lm, sc, .met m a as, x => ckMet m (fun o => ckE lm sc a o) (fun es => ckEs lm sc as es) x
  | lm, sc, .new c as, .Call (.Name x _) es [] _ => (match P.cls[c]? with | some oc => decide (oc.name = x) | none => false) && glB sc x && nmB x && ckEs lm sc as es
  | lm, sc, .fld a f, .Attribute o g _ => decide (f = g) && nc o && ckE lm sc a o
  | lm, sc, .mth a m as, .Call (.Attribute o g apos) es [] cpos => decide (m = g) && nc o && (apos.endLine == cpos.line) && decide (es.length ≤ 20) && ckE lm sc a o && ckEs lm sc as es
  | lm, sc, .isc a c, .Call (.Name x _) [e, .Name y _] [] _ => decide (x = "isinstance") && glB sc x && ns e && (match P.cls[c]? with | some oc => decide (oc.name = y) | none => false) && glB sc y && nmB y && ckE lm sc a e
  | lm, sc, .eqo a b, .Compare a' [.Eq] [b'] _ => ckE lm sc a a' && ckE lm sc b b'
  | lm, sc, .fstr ps, .JoinedStr vs _ => decide (2 ≤ vs.length) && ckEs lm sc ps vs
  | lm, sc, .fmt a, .FormattedValue e i none _ => decide (i = -1) && ckE lm sc a e
  | lm, sc, .mk a, .Call (.Name x _) [e] [] _ => decide (x = Bi.list.nm) && glB sc x && ns e && ckE lm sc a e
  | lm, sc, .rev a, .Subscript a' (.Slice none none (some (.UnaryOp .USub (.Constant (.int i) _ _) _)) _) _ => decide (i = 1) && ckE lm sc a a'
  | lm, sc, .comp _ e own tg k src c, .ListComp elt [⟨t, iter, ifs, 0⟩] scope _ => decide (scope.kind = .function) && blkC N sc scope (ownL N own) && (tg.all fun i => decide (i ∈ own)) && itB iter &&
      ckTg scope tg t && ckI lm sc k src t iter && ckC false (relS scope sc) c ifs && ckE false (relS scope sc) e elt
  | lm, sc, .compc e own tg a c, x => ckLC N sc own tg (fun s t => ckTg s tg t) (fun i => ckE lm sc a i) (fun s ifs => ckC false (relS s sc) c ifs) (fun s el => ckE false (relS s sc) e el) x
  | lm, sc, .compe e own tg src c, x => ckLE N sc own tg (fun s t => ckTg s tg t) (fun t i => ckI lm sc .enum src t i) (fun s ifs => ckC false (relS s sc) c ifs) (fun s el => ckE false (relS s sc) e el) x
  | lm, sc, .slc a lo hi, x => ckSlc (fun e => ckE lm sc a e) (fun o => ckO lm sc lo o) (fun o => ckO lm sc hi o) x
  | lm, sc, .dget a b, x => ckSub (fun e => ckE lm sc a e) (fun e => ckE lm sc b e) x
  | lm, sc, .dhas ng a b, x => ckHas ng (fun e => ckE lm sc a e) (fun e => ckE lm sc b e) x
  | lm, sc, .kcomp e own tg src, x => ckKC N sc own tg (fun s t => ckTg s tg t) (fun t i => ckI lm sc .seq src t i) (fun s el => ckE false (relS s sc) e el) x
  | lm, sc, .khas ng a b, x => ckHas ng (fun e => ckE lm sc a e) (fun e => ckE lm sc b e) x
  | lm, sc, .klen a, x => ckKl sc (fun e => ckE lm sc a e) x
  | lm, sc, .sortk f a, x => ckSk P sc f (fun e => ckE lm sc a e) x
  | lm, sc, .dct1 a b, x => ckD1 (fun e => ckE lm sc a e) (fun e => ckE lm sc b e) x
  | lm, sc, .catc a b, x => ckCat (fun e => ckE lm sc a e) (fun e => ckE lm sc b e) x
  | lm, sc, .revc a, x => ckRv (fun e => ckE lm sc a e) x
  | lm, sc, .revk a, x => ckRv (fun e => ckE lm sc a e) x
  | lm, sc, .cmps ng a b, x => ckCs ng (fun e => ckE lm sc a e) (fun e => ckE lm sc b e) x
  | lm, sc, .max2 a b, x => ckMx sc (fun e => ckE lm sc a e) (fun e => ckE lm sc b e) x
  | lm, sc, .told j e, .Call (.Name x _) [.Lambda params body scope _] [] _ => lm && (match P.tolds[j]? with | some td => decide (td.name = x) | none => false) && glB sc x && nmB x && lamA params && LamX.lamSB sc scope && ckE false scope e body
  | _, _, _, _ => false
/-- a target -/
def ckTg : Scope → List Nat → Expr → Bool
  | sc, [i], .Name x _ => decide (N[i]? = some x) && (locB sc x || celB sc x)
  | sc, is, .Tuple es _ _ => decide (2 ≤ is.length) && tgB N sc is es
  | _, _, _ => false
/-- what is walked -/
def ckI : Bool → Scope → It → List E → Expr → Expr → Bool
  | lm, sc, .seq, [a], _, e => ckE lm sc a e
  | lm, sc, .range1, [a], _, .Call (.Name x _) [e] [] _ => decide (x = "range") && glB sc x && ns e && ckE lm sc a e
  | lm, sc, .range2, [a, b], _, .Call (.Name x _) [e, e'] [] _ => decide (x = "range") && glB sc x && ns e && ns e' && ckE lm sc a e && ckE lm sc b e'
  | lm, sc, .range3, [a, b, d], _, .Call (.Name x _) [e, e', e2] [] _ => decide (x = "range") && glB sc x && ns e && ns e' && ns e2 && ckE lm sc a e && ckE lm sc b e' && ckE lm sc d e2
  | lm, sc, .enum, [a], .Tuple .., .Call (.Name x _) [e] [] _ => decide (x = "enumerate") && glB sc x && ns e && ckE lm sc a e
  | _, _, _, _, _, _ => false
def ckEs : Bool → Scope → List E → List Expr → Bool
  | _, _, [], [] => true
  | lm, sc, a :: as, e :: es => ns e && ckE lm sc a e && ckEs lm sc as es
  | _, _, _, _ => false
def ckKs : Bool → Scope → List E → List Keyword → Bool
  | _, _, [], [] => true
  | lm, sc, a :: as, ⟨_, e, _⟩ :: es => ckE lm sc a e && ckKs lm sc as es
  | _, _, _, _ => false
def ckO : Bool → Scope → Option E → Option Expr → Bool
  | _, _, none, none => true
  | lm, sc, some a, some e => ckE lm sc a e
  | _, _, _, _ => false
def ckC : Bool → Scope → Option E → List Expr → Bool
  | _, _, none, [] => true
  | lm, sc, some a, [e] => ckE lm sc a e
  | _, _, _, _ => false
end
end
end G
set_option Elab.async false
set_option linter.all false
set_option maxRecDepth 100000
set_option maxHeartbeats 0
namespace G
open PySem L2
def scB (N ps : List Str) (sc : Scope) : Bool := decide (sc.kind = .function) && !sc.isCoroutine && !sc.isGenerator && decide N.Nodup && decide (N.take ps.length = ps) && ps.all (fun x => locB sc x || celB sc x) && sc.names.all fun y => !decide (y.2 = .free)
theorem scB_ok {N ps : List Str} {sc : Scope} (h : scB N ps sc = true) : FnScope N ps sc := by
  unfold scB at h
  simp only [Bool.and_eq_true, decide_eq_true_eq, Bool.not_eq_true', List.all_eq_true, Bool.or_eq_true, decide_eq_false_iff_not] at h
  obtain ⟨⟨⟨⟨⟨⟨h1, h2⟩, h3⟩, h4⟩, h5⟩, h6⟩, h7⟩ := h
  refine ⟨h1, h2, h3, h4, h5, fun x hx => ?_, h7⟩
  rcases h6 x hx with q | q
  · unfold locB at q
    split at q
    · exact .inl (by assumption)
    · cases q
  · unfold celB at q
    split at q
    · exact .inr (by assumption)
    · cases q
def tyN1 (sc : Scope) (x y : Str) : Bool := decide (y = x) && glB sc y && nmB y
def ckTy (sc : Scope) : List Str → Expr → Bool
  | [x], .Name y _ => tyN1 sc x y
  | [x1, x2], .Tuple [.Name y1 _, .Name y2 _] _ _ => tyN1 sc x1 y1 && tyN1 sc x2 y2
  | [x1, x2, x3], .Tuple [.Name y1 _, .Name y2 _, .Name y3 _] _ _ => tyN1 sc x1 y1 && tyN1 sc x2 y2 && tyN1 sc x3 y3
  | [x1, x2, x3, x4], .Tuple [.Name y1 _, .Name y2 _, .Name y3 _, .Name y4 _] _ _ => tyN1 sc x1 y1 && tyN1 sc x2 y2 && tyN1 sc x3 y3 && tyN1 sc x4 y4
  | _, _ => false
def ckHs (sc : Scope) (n : Str) : List (List Str × List Nat × List Str) → List ExceptHandler → Bool
  | [], [] => true
  | (ns, _, fs) :: l, .ExceptHandler (some t) (some m) [.Return (some (.Tuple es _ _)) _] _ :: r => decide (m = n) && ckTy sc ns t && ckFs n fs es && decide (fs.length ≤ 100) && ckHs sc n l r
  | _, _ => false
def ckTB (td : Told) (sc : Scope) : List Stmt → Bool
  | [.Try [.Return (some (.Tuple [.Constant (.str z) _ _, .Call (.Name a _) [] [] _] _ _)) _] (h :: hds) [] [] _] => decide (z = tS toldT) && decide (a = td.par) && ckHs sc td.as_ td.hs (h :: hds)
  | _ => false
/-- the def's text is the told one's -/
def ckTold (td : Told) (st : Stmt) : Bool := scB [td.par, td.as_] [td.par] (defScope st) && locB (defScope st) td.as_ && nmB td.as_ && nmB td.par && (locB (defScope st) td.par || celB (defScope st) td.par) && ckTB td (defScope st) (defBody st)
def hdsL (K : PySem.W.Frag) (cl : Str → Value) (hs : List (List Str × List Nat × List Str)) : List ClS := hs.map fun h => (h.1.map cl, tHd K h.2.2)
/-- what it makes of what is called -/
def TTd (K : PySem.W.Frag) (l : List ClS) : (XK → Hp → VK → Prop) → Hp → VK → Prop := fun tl H Q =>
  tl (fun cls d H' => ∀ σ, wAsL K 1 (fun _ _ _ _ => False) { nx := fun _ H' => Q .non H', rt := Q } l cls d σ H') H fun v H1 => [V.str (tS toldT), v].length ≤ sizeLine ∧ ∀ p, H1 p = none → Q (.ref p) (upd H1 p (.tup [.str (tS toldT), v]))
def ToldOk (P : Prog) (Γ : Gm) (mg : Str → Option Value) (td : Told) : Prop := ∃ dvs kws g fd st, FunD Γ.K td.name td.name (defArgs st) (defBody st) (defScope st) dvs kws g fd ∧ mg td.name = some (.ref g) ∧ Binds Γ.K fd [td.par] [] ∧ ckTold td st = true ∧
  ∃ cl : Str → Value, (∀ h ∈ td.hs, ∀ n ∈ h.1, mg n = some (cl n)) ∧ ∀ h ∈ td.hs, ∀ (c : Nat) x C, P.xcls[c]? = some x → Γ.xcl c = some (C, x.all) → PySem.W.exmAny Γ.K (.ref C) (h.1.map cl) = some (h.2.1.contains c)
section
variable {X : Cx}
theorem nm_of' {x : Str} (h : nmB x = true) : (x == ("__debug__" : Str)) = false ∧ (x == ("__classdict__" : Str)) = false := by
  unfold nmB at h
  simpa using h
theorem names_of {sc : Scope} {x y : Str} {v : Value} (hs : X.env.scope = sc) (h : tyN1 sc x y = true) (hm : X.mg x = some v) : Names X y v := by
  unfold tyN1 at h
  simp only [Bool.and_eq_true, decide_eq_true_eq] at h
  obtain ⟨⟨rfl, h1⟩, h2⟩ := h
  refine ⟨?_, (nm_of' h2).1, .inl hm⟩
  show X.env.scope.names.lookup y = _
  rw [hs]
  unfold glB at h1
  split at h1
  · assumption
  · cases h1
theorem ext_ok {sc : Scope} {cl : Str → Value} (hs : X.env.scope = sc) : ∀ {ns : List Str} {t : Expr}, ckTy sc ns t = true → (∀ n ∈ ns, X.mg n = some (cl n)) → ExTest X t (ns.map cl) := by
  intro ns t h hm
  unfold ckTy at h
  split at h
  · exact ext_one (names_of hs h (hm _ (by simp)))
  · simp only [Bool.and_eq_true] at h
    exact ext_two (names_of hs h.1 (hm _ (by simp))) (names_of hs h.2 (hm _ (by simp)))
  · simp only [Bool.and_eq_true] at h
    exact ext_three (names_of hs h.1.1 (hm _ (by simp))) (names_of hs h.1.2 (hm _ (by simp))) (names_of hs h.2 (hm _ (by simp)))
  · simp only [Bool.and_eq_true] at h
    exact ext_four (names_of hs h.1.1.1 (hm _ (by simp))) (names_of hs h.1.1.2 (hm _ (by simp))) (names_of hs h.1.2 (hm _ (by simp))) (names_of hs h.2 (hm _ (by simp)))
  · cases h
theorem hds_ok {sc : Scope} {cl : Str → Value} {n : Str} (hs : X.env.scope = sc) (hN : X.N[1]? = some n) (he : sc.names.lookup n = some .local) (h1 : (n == ("__debug__" : Str)) = false) (h2 : (n == ("__classdict__" : Str)) = false) :
    ∀ {l : List (List Str × List Nat × List Str)} {r : List ExceptHandler}, ckHs sc n l r = true → (∀ h ∈ l, ∀ n ∈ h.1, X.mg n = some (cl n)) → HdsA X n r (hdsL X.K cl l)
  | [], [], _, _ => .nil
  | [], _ :: _, h, _ => by simp [ckHs] at h
  | _ :: _, [], h, _ => by simp [ckHs] at h
  | (ns, cs, fs) :: l, e :: r, h, hm => by
    unfold ckHs at h
    split at h <;> first | contradiction | skip
    rename_i heq1 heq2
    cases heq1
    cases heq2
    simp only [Bool.and_eq_true, decide_eq_true_eq] at h
    obtain ⟨⟨⟨⟨rfl, h3⟩, h4⟩, h5⟩, h6⟩ := h
    refine .cons (ext_ok hs h3 (hm _ (List.mem_cons_self ..))) (fun a oe cls d pn hz hf => ps_hd hN (by rw [hs]; exact he) h1 h2 hz hf h4) (hds_ok hs hN he h1 h2 h6 fun h hh => hm h (List.mem_cons_of_mem _ hh))
theorem told_nm {td : Told} {st : Stmt} (h : ckTold td st = true) : (td.par == ("__debug__" : Str)) = false ∧ (td.par == ("__classdict__" : Str)) = false := by
  unfold ckTold at h
  simp only [Bool.and_eq_true] at h
  exact nm_of' h.1.1.2
theorem told_gives {td : Told} {st : Stmt} {g : Addr} {cdg : Value} {q : Str} {cl : Str → Value} (h : ckTold td st = true) (hm : ∀ h ∈ td.hs, ∀ n ∈ h.1, X.mg n = some (cl n)) : FnScope [td.par, td.as_] [td.par] (defScope st) ∧ Vis (defScope st) td.par ∧
    LamX.GivesTo X [td.par, td.as_] td.name (defScope st) g cdg (defBody st) td.par q (TTd X.K (hdsL X.K cl td.hs)) := by
  have hnm := told_nm h
  unfold ckTold at h
  simp only [Bool.and_eq_true] at h
  obtain ⟨⟨⟨⟨⟨h1, h2⟩, h3⟩, h4⟩, h5⟩, h6⟩ := h
  have S := scB_ok h1
  refine ⟨S, ?_, ?_⟩
  · rcases S.par td.par (by simp) with k | k
    · exact .inl k
    · exact .inr (.inl k)
  · intro f c' s H Q tl act hc hq
    unfold ckTB at h6
    split at h6 <;> first | contradiction | skip
    rename_i z kj p1 a p2 p3 kk p4 p5 h hds p6 heq
    rw [heq]
    simp only [Bool.and_eq_true, decide_eq_true_eq] at h6
    obtain ⟨⟨rfl, rfl⟩, h7⟩ := h6
    have hl : (defScope st).names.lookup td.as_ = some .local := by
      unfold locB at h2
      split at h2
      · assumption
      · cases h2
    have hh := hds_ok (X := (cxOf C8.CX0 X.prog X.w X.K X.mg X.base [td.par, td.as_] td.name (defScope st) g cdg X.A X.stack s H C8.E0).nox) (sc := defScope st) (cl := cl) (n := td.as_) rfl rfl hl (nm_of' h3).1 (nm_of' h3).2 h7 hm
    have hnd : ([td.par, td.as_] : List Str).Nodup := S.nd
    refine ⟨_, pss_one (ps_try_asL (X := (cxOf C8.CX0 X.prog X.w X.K X.mg X.base [td.par, td.as_] td.name (defScope st) g cdg X.A X.stack s H C8.E0).nox) (i := 1) (Wout := fun _ _ _ _ => False)
      (tb := fun W D σ H => ∃ Ech : XK, (∀ cls d σ' H', Ech cls d H' → W cls d σ' H') ∧ σ[0]? = some (some (.ref f)) ∧ H c' = some (LamX.CodeO c' q) ∧ tl Ech H fun v H1 => [V.str (tS toldT), v].length ≤ sizeLine ∧ ∀ p, H1 p = none → D.rt (.ref p) (upd H1 p (.tup [.str (tS toldT), v])))
      rfl rfl hnd rfl hl L2.takes0 (fun W pn xe tk _ => ?_) hh), ?_⟩
    · refine ⟨fun pins s' σ H' D I h' => ?_⟩
      obtain ⟨Ech, hW, g1, g2, g3⟩ := h'
      have hp := act W pn xe Ech p2 p3 tk hW
      have hq := pss_one (ps_ret (pos := p5) (pe_tup (x1 := kk) (pos := p4) (pa_cons (pe_str (x := tS toldT) (j := kj) (pos := p1)) (pa_cons hp pa_nil))))
      exact hq.run pins s' σ H' D I ⟨g1, g2, g3⟩
    · exact ⟨fun cls d H' => ∀ σ, wAsL X.K 1 (fun _ _ _ _ => False) { nx := fun _ H' => Q .non H', rt := Q } (hdsL X.K cl td.hs) cls d σ H', fun cls d σ' H' w => w σ', rfl, hc, hq⟩
theorem hs_few {sc : Scope} {n : Str} : ∀ {l : List (List Str × List Nat × List Str)} {r : List ExceptHandler}, ckHs sc n l r = true → ∀ h ∈ l, h.2.2.length ≤ 100
  | [], _, _, h, hh => nomatch hh
  | _ :: _, [], h, _, _ => by simp [ckHs] at h
  | (ns, cs, fs) :: l, e :: r, h, k, hk => by
    unfold ckHs at h
    split at h <;> first | contradiction | skip
    rename_i heq1 heq2
    cases heq1
    cases heq2
    simp only [Bool.and_eq_true, decide_eq_true_eq] at h
    rcases List.mem_cons.mp hk with e | e
    · subst e
      exact h.1.2
    · exact hs_few h.2 k e
theorem told_few {td : Told} {st : Stmt} (h : ckTold td st = true) : ∀ h ∈ td.hs, h.2.2.length ≤ 100 := by
  unfold ckTold at h
  simp only [Bool.and_eq_true] at h
  have h6 := h.2
  unfold ckTB at h6
  split at h6 <;> first | contradiction | skip
  simp only [Bool.and_eq_true] at h6
  exact hs_few h6.2
theorem zip_look {f : Str} {d : D} : ∀ {fn : List Str} {fs : List D}, (fn.zip fs).lookup f = some d → ∃ i : Nat, fn[i]? = some f ∧ fs[i]? = some d
  | [], _, h => by simp at h
  | _ :: _, [], h => by simp at h
  | g :: fn, e :: fs, h => by
    simp only [List.zip_cons_cons, List.lookup] at h
    split at h
    · rename_i q
      cases h
      exact ⟨0, by rw [beq_iff_eq.mp q]; rfl, rfl⟩
    · obtain ⟨i, h1, h2⟩ := zip_look h
      exact ⟨i + 1, h1, h2⟩
end
section
variable {Γ : Gm} {φ : Fx} {H : Hp}
theorem tellF_ok {x : XCls} {fs : List D} {l : List (Str × V)} (hf : ∀ (i : Nat) f e, x.all[i]? = some f → fs[i]? = some e → ∃ v, l.lookup f = some v ∧ Rep Γ φ H v e) : ∀ {ns : List Str} {ds : List D}, tellF x fs ns = some ds →
    ∃ vs, vs.length = ns.length ∧ Reps Γ φ H vs ds ∧ (∀ (i : Nat) f v, ns[i]? = some f → vs[i]? = some v → l.lookup f = some v) ∧ ∀ f ∈ ns, f ∈ x.all
  | [], ds, h => by
    simp only [tellF, Option.some.injEq] at h
    subst h
    exact ⟨[], rfl, .nil, fun i f v h => by simp at h, fun _ h => nomatch h⟩
  | n :: ns, ds, h => by
    simp only [tellF] at h
    split at h
    · rename_i d ds' h1 h2
      cases h
      obtain ⟨i, g1, g2⟩ := zip_look h1
      obtain ⟨v, g3, g4⟩ := hf i n d g1 g2
      obtain ⟨vs, k1, k2, k3, k4⟩ := tellF_ok hf h2
      refine ⟨v :: vs, by simp [k1], .cons g4 k2, fun i f u e1 e2 => ?_, fun f hf' => ?_⟩
      · cases i with
        | zero =>
          cases e1
          cases e2
          exact g3
        | succ i => exact k3 i f u (by simpa using e1) (by simpa using e2)
      · rcases List.mem_cons.mp hf' with e | e
        · subst e
          exact List.mem_of_getElem? g1
        · exact k4 f e
    · cases h
theorem tell_ok {K : PySem.W.Frag} {cl : Str → Value} {x : XCls} {c : Nat} {C d : Addr} {fs : List D} {l : List (Str × V)} {σ : L2.St} {D : Ends} {s : Stt} {Q : VK} (xf : XfC K C) (no : ∀ f ∈ x.all, PySem.W.findIn K (.ref C) f = some none) (hd : H d = some (.xd l))
    (hf : ∀ (i : Nat) f e, x.all[i]? = some f → fs[i]? = some e → ∃ v, l.lookup f = some v ∧ Rep Γ φ H v e) (rel : Rel Γ φ H s) (hD : D.rt = Q) : ∀ {hs : List (List Str × List Nat × List Str)} {z : G.D}, (∀ h ∈ hs, h.2.2.length ≤ 100) → (∀ h ∈ hs, PySem.W.exmAny K (.ref C) (h.1.map cl) = some (h.2.1.contains c)) →
    tellH x c fs hs = some z → Ko Γ φ H s z Q → wAsL K 1 (fun _ _ _ _ => False) D (hdsL K cl hs) (.ref C) (some d) σ H
  | [], z, _, _, h, _ => by simp [tellH] at h
  | (ns, cs, fn) :: hs, z, hl, hx, h, k => by
    refine ⟨cs.contains c, hx _ (List.mem_cons_self ..), fun hb a ha => ?_, fun hb => ?_⟩
    · simp only [tellH, hb, if_true, Option.map_eq_some_iff] at h
      obtain ⟨ds, h1, rfl⟩ := h
      obtain ⟨vs, g1, g2, g3, g4⟩ := tellF_ok hf h1
      refine ⟨⟨σ, rfl⟩, C, d, l, vs, rfl, rfl, xf, fun f hf => no f (g4 f hf), hd, g1, ?_, g3, fun p hp => ?_⟩
      · have := hl _ (List.mem_cons_self ..)
        have sl : (sizeLine : Nat) = 16777216 := sizeLine_eq
        simp only at this
        omega
      · show D.rt _ _
        rw [hD]
        exact k.tup rel g2 hp
    · simp only [tellH, hb, Bool.false_eq_true, if_false] at h
      exact tell_ok xf no hd hf rel hD (fun h hh => hl h (List.mem_cons_of_mem _ hh)) (fun h hh => hx h (List.mem_cons_of_mem _ hh)) h k
theorem told_read {P : Prog} {X : Cx} {W : WX} {call : CallS} {j : Nat} {e : E} {td : Told} {cl : Str → Value} {σ : L2.St} {Q : VK} (e1 : P.tolds[j]? = some td) (eK : X.K = Γ.K) (few : ∀ h ∈ td.hs, h.2.2.length ≤ 100) (xc : ∀ (c : Nat) x, P.xcls[c]? = some x → ∃ C, XOk Γ X.prog X.w X.mg X.base c x C)
    (g2 : ∀ h ∈ td.hs, ∀ (c : Nat) x C, P.xcls[c]? = some x → Γ.xcl c = some (C, x.all) → PySem.W.exmAny Γ.K (.ref C) (h.1.map cl) = some (h.2.1.contains c)) (h : dE Γ W (evE P call (.told j e)) σ H Q) :
    LamX.tLam Γ.T (TTd X.K (hdsL X.K cl td.hs)) (fun E => dE Γ (fun cls d _ H => E cls d H) (evE P call e)) σ H Q := by
  obtain ⟨φ, ρ, s, er, rel, go⟩ := h
  refine ⟨rel.tab, fun H1 eN t1 => ?_⟩
  have A : After φ H φ H1 := After.extN eN
  have rel1 := rel.extN eN t1
  have go1 := Go.from A go
  refine ⟨φ, ρ, s, er.mono A, rel1, ?_⟩
  rw [evE] at go1
  cases hev : evE P call e ρ s with
  | ok v s' =>
    rw [hev] at go1
    intro φ2 H2 a2 r2 u hu
    refine ⟨by have sl : (sizeLine : Nat) = 16777216 := sizeLine_eq; simp; omega, fun p hp => ?_⟩
    exact go1 φ2 _ (a2.trans (.fresh hp)) (r2.fresh hp) _ (.tup (SqT.of upd_same) (.cons (.str _) (.cons (hu.mono (.fresh hp)) .nil)))
  | stuck => rw [hev] at go1; exact go1.elim
  | exc c fs s' =>
    rw [hev] at go1
    obtain ⟨z, hz, k⟩ := go1.of
    intro φ2 H2 cls dd a2 r2 xr σ'
    unfold toldD at hz
    rw [e1] at hz
    cases hx : P.xcls[c]? with
    | none => rw [hx] at hz; cases hz
    | some x =>
      rw [hx] at hz
      obtain ⟨C, O⟩ := xc c x hx
      obtain ⟨C', fn, d, l, q1, rfl, rfl, hd, hlen, hf⟩ := xr
      rw [O.cl] at q1
      cases q1
      rw [eK]
      exact tell_ok (σ := σ') (Q := Q) O.xf O.no hd hf r2 rfl few (fun h hh => g2 h hh c x C hx O.cl) hz fun φ3 H3 a3 r3 v hv => k φ3 H3 (a2.trans a3) r3 v hv
end
end G
set_option Elab.async false
set_option linter.all false
set_option maxRecDepth 100000
set_option maxHeartbeats 0
namespace G
open PySem L2
/-- what a def knows in which lambdas stand -/
structure LamOk (P : Prog) (Γ : Gm) (k : Nat) (X : Cx) : Prop where
  room : Room (4 * k + 6) X.A
  tab : ∃ c T, X.env.code = .ref c ∧ LamX.TabB X.base X.mg c T ∧ (T, X.env.qual ++ "<lambda>") ∈ Γ.T ∧ ∀ p ∈ Γ.T, p.1 = T → p.2 = X.env.qual ++ "<lambda>"
  told : ∀ (j : Nat) td, P.tolds[j]? = some td → ToldOk P Γ X.mg td
/-- what an expression's context knows -/
structure CxE (P : Prog) (Γ : Gm) (k : Nat) (N : List Str) (lm : Bool) (sc : Scope) (W : WX) (X : Cx) : Prop where
  eK : X.K = Γ.K
  eW : X.w = Γ.w
  eN : X.N = N
  nd : N.Nodup
  eS : X.env.scope = sc
  kf : sc.kind = .function
  calm : X.calm = true
  room : Room (4 * k + 4) X.A
  takes : Takes X W
  mgb : ∀ x ∈ bnames, X.mg x = none
  con : ∀ (g : Nat) x d, P.consts[g]? = some (x, d) → ∃ v u, X.mg x = some u ∧ RelV v u ∧ ∀ φ H, Rep Γ φ H v d
  def_ : ∀ (f : Nat) df, P.defs[f]? = some df → ∃ a fd, (df.own = none → X.mg df.name = some (.ref a)) ∧ PySem.W.keepIn X.K (.ref a) = true ∧ FnOk X.prog X.w X.K X.mg X.base (L2.CX X.prog X.w) (4 * k + 3) a fd df.ps (spD Γ df.ps.length (callD P k f)) ∧ (df.pos = true → Binds X.K fd df.ps []) ∧ (∀ sh ∈ P.shapes, sh.f = f → ShOk Γ X.K fd df.ps sh) ∧ ∀ z, df.own = some z → ∃ C, X.mg z = some (.ref C) ∧ Meth X.K C df.name a
  xc : ∀ (c : Nat) x, P.xcls[c]? = some x → ∃ C, XOk Γ X.prog X.w X.mg X.base c x C
  lam : lm = true → LamOk P Γ k X
  ocs : OcsOk P Γ X.K X.mg
theorem callD_len {P : Prog} {k f : Nat} {df : Def} (h : P.defs[f]? = some df) (ds : List D) (s : Stt) (hl : ds.length ≠ df.ps.length) : callD P k f ds s = .stuck := by
  cases k with
  | zero => rfl
  | succ k =>
    unfold callD
    rw [h]
    exact if_neg hl
section
variable {P : Prog} {Γ : Gm} {k : Nat} {N : List Str} {lm : Bool} {sc : Scope} {W : WX} {X : Cx}
theorem CxE.room3 (c : CxE P Γ k N lm sc W X) : Room (4 * k + 3) X.A := c.room.mono (by omega)
theorem CxE.mth (c : CxE P Γ k N lm sc W X) : MthOk P Γ X k (4 * k + 3) := fun g df z hg ho => by
  obtain ⟨a, fd, h1, h2, h3, h4, h5, h6⟩ := c.def_ g df hg
  obtain ⟨C, q1, q2⟩ := h6 z ho
  exact ⟨C, a, fd, q1, q2, h3, h4⟩
theorem CxE.hu (c : CxE P Γ k N lm sc W X) : X.A.units + 65 < cLine := by have := c.room.un; omega
theorem vis_of (c : CxE P Γ k N lm sc W X) {x : Str} (h : visB sc x = true) : Vis X.env.scope x := by
  rw [c.eS]
  unfold visB at h
  split at h
  · exact .inl (by assumption)
  · exact .inr (.inl (by assumption))
  · exact .inr (.inr (by assumption))
  · cases h
theorem gl_of (c : CxE P Γ k N lm sc W X) {x : Str} (h : glB sc x = true) : Gl X x := by
  show X.env.scope.names.lookup x = _
  rw [c.eS]
  unfold glB at h
  split at h
  · assumption
  · cases h
theorem nm_of {x : Str} (h : nmB x = true) : (x == ("__debug__" : Str)) = false ∧ (x == ("__classdict__" : Str)) = false := by
  unfold nmB at h
  simpa using h
theorem nosl_ix {e : Expr} (h : nsl e = true) : NoSl e := by
  intro o i
  cases e <;> first | rfl | exact nomatch h
theorem plain_ix {e : Expr} (h : nsl e = true) : PlainIx e := by
  intro o i
  cases e <;> first | rfl | exact nomatch h
/-- the context of a comprehension's block -/
theorem CxE.blk (c : CxE P Γ k N lm sc W X) {scope : Scope} (hk : scope.kind = .function) (s : Shared) (H : Hp) (C : Addr) (cl : List (Str × Addr)) (fp : List Addr) :
    CxE P Γ k N false (relS scope sc) W0 (X.blk s H scope (compEnvC scope cl C X.env) fp) :=
  ⟨c.eK, c.eW, c.eN, c.nd, by rw [← c.eS]; rfl, hk, c.calm, c.room, takes0, c.mgb, c.con, c.def_, c.xc, fun z => Bool.noConfusion z, c.ocs⟩
theorem pe_stuck {e : Expr} : PE X e (dE Γ W fun _ _ => .stuck) := ⟨fun _ _ _ _ _ _ ⟨_, _, _, _, _, go⟩ => go.elim⟩
theorem pt_stuck {e : Expr} : PT X e (dT Γ W fun _ _ => .stuck) := ⟨fun _ _ _ _ _ _ ⟨_, _, _, _, _, go⟩ => go.elim⟩
theorem pw_stuck {e : Expr} : PW X e (dT Γ W fun _ _ => .stuck) := ⟨fun _ _ _ _ _ _ _ ⟨_, _, _, _, _, go⟩ => go.elim⟩
theorem tg_pgs (hN : X.N = N) (hnd : N.Nodup) (sc' : Scope) (hl : ∀ x, locB sc' x = true → X.env.scope.names.lookup x = some .local) : ∀ {is : List Nat} {es : List Expr}, tgB N sc' is es = true → PGs X es (gNames is) ∧ (assignEach es X.env).length = is.length ∧ (assignEach es X.env).findIdx? (·.1) = none
  | [], [], _ => ⟨pgs_nil, rfl, rfl⟩
  | i :: is, .Name x p :: es, h => by
    simp only [tgB, Bool.and_eq_true, decide_eq_true_eq] at h
    obtain ⟨h1, h2, h3⟩ := tg_pgs hN hnd sc' hl h.2
    refine ⟨pgs_cons (pg_name (by rw [hN]; exact hnd) (by rw [hN]; exact h.1.1) (.inl (hl x h.1.2)) (.inr (hl x h.1.2))) h1, ?_, ?_⟩
    · show (assignEach es X.env).length + 1 = is.length + 1
      rw [h2]
    · show List.findIdx? _ ((false, assign (.Name x p) X.env) :: assignEach es X.env) = none
      rw [List.findIdx?_cons]
      simp [h3]
  | [], _ :: _, h => by simp [tgB] at h
  | _ :: _, [], h => by simp [tgB] at h
  | _ :: _, .BoolOp .. :: _, h => by simp [tgB] at h
  | _ :: _, .NamedExpr .. :: _, h => by simp [tgB] at h
  | _ :: _, .BinOp .. :: _, h => by simp [tgB] at h
  | _ :: _, .UnaryOp .. :: _, h => by simp [tgB] at h
  | _ :: _, .Lambda .. :: _, h => by simp [tgB] at h
  | _ :: _, .IfExp .. :: _, h => by simp [tgB] at h
  | _ :: _, .Dict .. :: _, h => by simp [tgB] at h
  | _ :: _, .Set .. :: _, h => by simp [tgB] at h
  | _ :: _, .ListComp .. :: _, h => by simp [tgB] at h
  | _ :: _, .SetComp .. :: _, h => by simp [tgB] at h
  | _ :: _, .DictComp .. :: _, h => by simp [tgB] at h
  | _ :: _, .GeneratorExp .. :: _, h => by simp [tgB] at h
  | _ :: _, .Await .. :: _, h => by simp [tgB] at h
  | _ :: _, .Yield .. :: _, h => by simp [tgB] at h
  | _ :: _, .YieldFrom .. :: _, h => by simp [tgB] at h
  | _ :: _, .Compare .. :: _, h => by simp [tgB] at h
  | _ :: _, .Call .. :: _, h => by simp [tgB] at h
  | _ :: _, .FormattedValue .. :: _, h => by simp [tgB] at h
  | _ :: _, .JoinedStr .. :: _, h => by simp [tgB] at h
  | _ :: _, .Constant .. :: _, h => by simp [tgB] at h
  | _ :: _, .Attribute .. :: _, h => by simp [tgB] at h
  | _ :: _, .Subscript .. :: _, h => by simp [tgB] at h
  | _ :: _, .Starred .. :: _, h => by simp [tgB] at h
  | _ :: _, .List .. :: _, h => by simp [tgB] at h
  | _ :: _, .Tuple .. :: _, h => by simp [tgB] at h
  | _ :: _, .Slice .. :: _, h => by simp [tgB] at h
theorem tgB_len {sc' : Scope} : ∀ {is : List Nat} {es : List Expr}, tgB N sc' is es = true → is.length = es.length
  | [], [], _ => rfl
  | [], _ :: _, h => by simp [tgB] at h
  | _ :: _, [], h => by simp [tgB] at h
  | i :: is, e :: es, h => by
    cases e <;> simp only [tgB, Bool.false_eq_true, Bool.and_eq_true] at h
    simp [tgB_len h.2]
/-- a target's rule, the same at every state of a block -/
theorem tg_ok (hN : X.N = N) (hnd : N.Nodup) (hK : X.K = Γ.K) (hc : X.calm = true) {sc' : Scope} (hl : ∀ x, locB sc' x = true → X.env.scope.names.lookup x = some .local) (hf : ∀ x, celB sc' x = true → X.env.scope.names.lookup x = some .cell ∧ X.fn x = true) {tg : List Nat} {t : Expr} (h : ckTg P N sc' tg t = true) : PG X t (match tg, t with
    | [i], .Name _ _ => gName i
    | is, _ => gTup Γ.K is.length (gNames is)) := by
  unfold ckTg at h
  split at h
  · simp only [Bool.and_eq_true, Bool.or_eq_true, decide_eq_true_eq] at h
    rcases h.2 with z | z
    · exact pg_name (by rw [hN]; exact hnd) (by rw [hN]; exact h.1) (.inl (hl _ z)) (.inr (hl _ z))
    · exact pg_name (by rw [hN]; exact hnd) (by rw [hN]; exact h.1) (.inr (hf _ z).1) (.inl (hf _ z).2)
  · rename_i is es _ _ hx
    simp only [Bool.and_eq_true, decide_eq_true_eq] at h
    obtain ⟨h1, h2, h3⟩ := tg_pgs hN hnd sc' hl h.2
    have q := pg_tup hc h1 h2 h3 (k := by assumption) (pos := by assumption)
    rw [hK] at q
    match tg, h.1, q with
    | [_], h, _ => simp at h
    | [], _, q => exact q
    | _ :: _ :: _, _, q => exact q
  · cases h
theorem tg_tk {sc' : Scope} {tg : List Nat} {t : Expr} (h : ckTg P N sc' tg t = true) : TgOk Γ tg (match tg, t with
    | [i], .Name _ _ => gName i
    | is, _ => gTup Γ.K is.length (gNames is)) := by
  unfold ckTg at h
  split at h
  · exact tg_one
  · simp only [Bool.and_eq_true, decide_eq_true_eq] at h
    match tg, h.1 with
    | [_], h => simp at h
    | [], h => simp at h
    | _ :: _ :: _, h => exact tg_tup rfl h
  · cases h
/-- what a block's local names are where it runs -/
theorem relS_loc {scope sc' : Scope} {x : Str} (h : locB scope x = true) : (relS scope sc').names.lookup x = some .local := by
  unfold locB at h
  split at h
  · exact lookup_relS_keep (by decide) (by assumption)
  · cases h
theorem cel_of {scope : Scope} {x : Str} (h : celB scope x = true) : scope.names.lookup x = some .cell := by
  unfold celB at h
  split at h
  · assumption
  · cases h
theorem relS_cel {scope sc' : Scope} {x : Str} (h : celB scope x = true) : (relS scope sc').names.lookup x = some .cell := lookup_relS_keep (by decide) (cel_of h)
theorem fn_cel {scope : Scope} {x : Str} (h : celB scope x = true) : (scope.names.lookup x == some .cell) = true := by
  rw [cel_of h]
  rfl
theorem loc_of (c : CxE P Γ k N lm sc W X) {x : Str} (h : locB sc x = true) : X.env.scope.names.lookup x = some .local := by
  rw [c.eS]
  unfold locB at h
  split at h
  · assumption
  · cases h
theorem b_mem (b : Bi) : b.nm ∈ bnames := by cases b <;> decide +kernel
theorem ty_mem {t : String} (h : isTy t = true) : Str.ofString t ∈ bnames := by
  unfold isTy at h
  simp only [Bool.or_eq_true, beq_iff_eq] at h
  rcases h with (((rfl | rfl) | rfl) | rfl) | rfl <;> decide +kernel
theorem folded {e : Expr} {env : PySem.Env} (h : itB e = true) : ∀ x, foldedSetIterable e env x = pure x := by
  intro x
  cases e <;> first | rfl | exact nomatch h
theorem own_map (own : List Nat) : (ownL N own).map (·.2) = own := by
  unfold ownL
  rw [List.map_map]
  exact List.map_id own
theorem ckEs_ns : ∀ {ms : List E} {es : List Expr}, ckEs P N lm sc ms es = true → es.all ns = true
  | [], [], _ => rfl
  | [], _ :: _, h => by simp [ckEs] at h
  | _ :: _, [], h => by simp [ckEs] at h
  | m :: ms, e :: es, h => by
    simp only [ckEs, Bool.and_eq_true] at h
    rw [List.all_cons, h.1.1, ckEs_ns h.2]
    rfl
theorem pCall {f : Nat} {as : List E} {x : Str} {es : List Expr} {p pos : Pos} (c : CxE P Γ k N lm sc W X) (h0 : (match P.defs[f]? with | some df => df.pos && df.own.isNone && decide (df.name = x) | none => false) = true) (h1 : glB sc x = true) (h2 : nmB x = true) (h3 : ckEs P N lm sc as es = true)
    (ha : PA X es (dA Γ W (evEs P (callD P k) as))) : PE X (.Call (.Name x p) es [] pos) (dE Γ W (evE P (callD P k) (.call f as))) := by
  cases e1 : P.defs[f]? with
  | none => rw [e1] at h0; cases h0
  | some df =>
    rw [e1] at h0
    simp only [Bool.and_eq_true, decide_eq_true_eq] at h0
    obtain ⟨⟨hp, ho⟩, rfl⟩ := h0
    obtain ⟨a, fd, hm, hk, F, hb, _⟩ := c.def_ f df e1
    have hm := hm (Option.isNone_iff_eq_none.mp ho)
    cases es with
    | nil =>
      cases as with
      | nil => exact s_call0 F c.room3 (gl_of c h1) hm hk (hb hp) c.takes (fun ds s hl => callD_len e1 ds s hl) (nm_of h2).1
      | cons _ _ => simp [ckEs] at h3
    | cons e es => exact s_call F c.room3 (gl_of c h1) hm hk (hb hp) c.takes (ckEs_ns h3) (fun ds s hl => callD_len e1 ds s hl) ha (nm_of h2).1
theorem pBi {b : Bi} {a : E} {x : Str} {e : Expr} {p pos : Pos} (c : CxE P Γ k N lm sc W X) (h0 : x = b.nm) (h1 : glB sc x = true) (h2 : ns e = true) (ha : PE X e (dE Γ W (evE P (callD P k) a))) :
    PE X (.Call (.Name x p) [e] [] pos) (dE Γ W (evE P (callD P k) (.bi b a))) := by
  subst h0
  exact s_bi c.eK c.calm (gl_of c h1) (c.mgb _ (b_mem b)) h2 ha
theorem pMax2 {a b : E} {x : Str} {e e' : Expr} {p pos : Pos} (c : CxE P Γ k N lm sc W X) (h0 : x = Bi.max.nm) (h1 : glB sc x = true) (h2 : ns e = true) (h3 : ns e' = true) (ha : PE X e (dE Γ W (evE P (callD P k) a))) (hb : PE X e' (dE Γ W (evE P (callD P k) b))) :
    PE X (.Call (.Name x p) [e, e'] [] pos) (dE Γ W (evE P (callD P k) (.max2 a b))) := by
  subst h0
  exact s_max2 c.calm (gl_of c h1) (c.mgb _ (b_mem .max)) h2 h3 ha hb
/-- sorted by a def -/
theorem pSortk {f : Nat} {a : E} {y : Str} {e : Expr} {p p2 p3 pos : Pos} (c : CxE P Γ k N lm sc W X) (h1 : glB sc "sorted" = true) (h2 : ns e = true) (h3 : (match P.defs[f]? with | some df => df.pos && df.own.isNone && decide (df.name = y) | none => false) = true) (h4 : glB sc y = true) (h5 : nmB y = true) (ha : PE X e (dE Γ W (evE P (callD P k) a))) :
    PE X (.Call (.Name "sorted" p) [e] [⟨some "key", .Name y p2, p3⟩] pos) (dE Γ W (evE P (callD P k) (.sortk f a))) := by
  cases e1 : P.defs[f]? with
  | none => rw [e1] at h3; cases h3
  | some df =>
    rw [e1] at h3
    simp only [Bool.and_eq_true, decide_eq_true_eq] at h3
    obtain ⟨⟨hp, ho⟩, rfl⟩ := h3
    obtain ⟨b, fd, hm, hk, F, hb, _⟩ := c.def_ f df e1
    have hm := hm (Option.isNone_iff_eq_none.mp ho)
    exact s_sortk (kk := 0) c.eK F c.room (gl_of c h1) (c.mgb _ (by decide +kernel)) h2 (gl_of c h4) hm (nm_of h5).1 (hb hp) (fun ds s hl => callD_len e1 ds s hl) ha
/-- an instance is made -/
theorem pNew {cc : Nat} {as : List E} {x : Str} {es : List Expr} {p pos : Pos} (c : CxE P Γ k N lm sc W X) (h0 : (match P.cls[cc]? with | some oc => decide (oc.name = x) | none => false) = true) (h1 : glB sc x = true) (h2 : nmB x = true) (h3 : ckEs P N lm sc as es = true)
    (ha : PA X es (dA Γ W (evEs P (callD P k) as))) : PE X (.Call (.Name x p) es [] pos) (dE Γ W (evE P (callD P k) (.new cc as))) := by
  cases e1 : P.cls[cc]? with
  | none => rw [e1] at h0; cases h0
  | some oc =>
    rw [e1] at h0
    obtain rfl : oc.name = x := by simpa using h0
    obtain ⟨C, O⟩ := c.ocs cc oc e1
    obtain ⟨df, d1, dp, d2, d3⟩ := O.init
    obtain ⟨a, fd, q1, q2, q3, q4, q5, q6⟩ := c.def_ _ df d1
    obtain ⟨C2, m1, m2⟩ := q6 _ d2
    rw [O.gl] at m1
    cases m1
    rw [d3] at m2
    have M : Mk X.K C a := ⟨O.makes, m2.at_, m2.fn, O.kp⟩
    have ev : evE P (callD P k) (.new cc as) = fun ρ s => (evEs P (callD P k) as ρ s).bind fun xs s => newD oc cc (callD P k oc.init) xs s := by
      funext ρ s
      show (match P.cls[cc]? with | some oc => _ | none => _) = _
      rw [e1]
    rw [ev]
    cases es with
    | nil =>
      cases as with
      | nil => exact s_new0 O.cl M q3 c.room (gl_of c h1) O.gl (q4 dp) c.takes (fun ds s hl => callD_len d1 ds s hl) (nm_of h2).1
      | cons _ _ => simp [ckEs] at h3
    | cons e es => exact s_new O.cl M q3 c.room (gl_of c h1) O.gl (q4 dp) c.takes (ckEs_ns h3) (fun ds s hl => callD_len d1 ds s hl) ha (nm_of h2).1
theorem pMth {m : Str} {a : E} {as : List E} {o : Expr} {es : List Expr} {apos pos : Pos} (c : CxE P Γ k N lm sc W X) (h1 : nc o = true) (h2 : (apos.endLine == pos.line) = true) (h4 : es.length ≤ 20) (h3 : ckEs P N lm sc as es = true) (ho : PE X o (dE Γ W (evE P (callD P k) a)))
    (ha : PA X es (dA Γ W (evEs P (callD P k) as))) : PE X (.Call (.Attribute o m apos) es [] pos) (dE Γ W (evE P (callD P k) (.mth a m as))) := by
  have hn := ckEs_ns h3
  obtain ⟨pl, ht⟩ := call_form (o := o) (m := m) (apos := apos) (pos := pos) (es := es) (env := X.env) (base_nc h1) (few_n hn h4) h2
  cases es with
  | nil =>
    cases as with
    | nil => exact s_mth0 c.ocs c.mth c.room3 c.takes h1 ho ht
    | cons _ _ => simp [ckEs] at h3
  | cons e es => exact s_mth c.ocs c.mth c.room3 c.takes hn h1 h2 ho ha ht
theorem pIsc {a : E} {cc : Nat} {x y : Str} {e : Expr} {p p2 pos : Pos} (c : CxE P Γ k N lm sc W X) (h0 : x = "isinstance") (h1 : glB sc x = true) (h2 : ns e = true) (h3 : (match P.cls[cc]? with | some oc => decide (oc.name = y) | none => false) = true) (h4 : glB sc y = true) (h5 : nmB y = true) (ha : PE X e (dE Γ W (evE P (callD P k) a))) :
    PE X (.Call (.Name x p) [e, .Name y p2] [] pos) (dE Γ W (evE P (callD P k) (.isc a cc))) := by
  subst h0
  cases e1 : P.cls[cc]? with
  | none => rw [e1] at h3; cases h3
  | some oc =>
    rw [e1] at h3
    obtain rfl : oc.name = y := by simpa using h3
    obtain ⟨C, O⟩ := c.ocs cc oc e1
    exact s_isc c.eK O (gl_of c h1) (c.mgb _ (by decide +kernel)) (gl_of c h4) (nm_of h5).1 h2 ha
theorem tyB_of (c : CxE P Γ k N lm sc W X) {ts : List String} (h : tyB sc ts = true) : ts.all isTy = true ∧ ∀ t ∈ ts, Gl X (Str.ofString t) ∧ X.mg (Str.ofString t) = none := by
  unfold tyB at h
  rw [List.all_eq_true] at h
  refine ⟨List.all_eq_true.mpr fun t ht => ?_, fun t ht => ?_⟩
  · have := h t ht
    simp only [Bool.and_eq_true] at this
    exact this.1
  · have := h t ht
    simp only [Bool.and_eq_true] at this
    exact ⟨gl_of c this.2, c.mgb _ (ty_mem this.1)⟩
theorem pIsi1 {t : String} {a : E} {x y : Str} {e : Expr} {p p2 pos : Pos} (c : CxE P Γ k N lm sc W X) (h0 : x = "isinstance") (h1 : glB sc x = true) (h2 : ns e = true) (h3 : y = Str.ofString t) (h4 : tyB sc [t] = true) (ha : PE X e (dE Γ W (evE P (callD P k) a))) :
    PE X (.Call (.Name x p) [e, .Name y p2] [] pos) (dE Γ W (evE P (callD P k) (.isi a false [t]))) := by
  subst h0 h3
  obtain ⟨q1, q2⟩ := tyB_of c h4
  have q := q2 t (by simp)
  simp only [List.all_cons, List.all_nil, Bool.and_true] at q1
  exact s_isi1 c.eK q1 (gl_of c h1) (c.mgb _ (by decide +kernel)) q.1 q.2 h2 ha
theorem pIsiT {ts : List String} {a : E} {x : Str} {e : Expr} {tes : List Expr} {kk} {p p2 pos : Pos} (c : CxE P Γ k N lm sc W X) (h0 : x = "isinstance") (h1 : glB sc x = true) (h2 : ns e = true) (h3 : tyNames ts tes = true) (hl : ts.length ≤ 100) (h4 : tyB sc ts = true) (ha : PE X e (dE Γ W (evE P (callD P k) a))) :
    PE X (.Call (.Name x p) [e, .Tuple tes kk p2] [] pos) (dE Γ W (evE P (callD P k) (.isi a true ts))) := by
  subst h0
  obtain ⟨q1, q2⟩ := tyB_of c h4
  exact s_isiT c.eK h3 q1 hl (gl_of c h1) (c.mgb _ (by decide +kernel)) q2 h2 ha
theorem inv_r1 {a : E} {tg e : Expr} (h : ckI P N lm sc .range1 [a] tg e = true) : ∃ x p e' pos, e = .Call (.Name x p) [e'] [] pos ∧ x = "range" ∧ glB sc x = true ∧ ns e' = true ∧ ckE P N lm sc a e' = true := by
  unfold ckI at h
  split at h <;> first | contradiction | skip
  rename_i heq
  cases heq
  simp only [Bool.and_eq_true, decide_eq_true_eq] at h
  exact ⟨_, _, _, _, rfl, h.1.1.1, h.1.1.2, h.1.2, h.2⟩
theorem inv_r2 {a b : E} {tg e : Expr} (h : ckI P N lm sc .range2 [a, b] tg e = true) : ∃ x p e' e2 pos, e = .Call (.Name x p) [e', e2] [] pos ∧ x = "range" ∧ glB sc x = true ∧ ns e' = true ∧ ns e2 = true ∧ ckE P N lm sc a e' = true ∧ ckE P N lm sc b e2 = true := by
  unfold ckI at h
  split at h <;> first | contradiction | skip
  rename_i heq
  cases heq
  simp only [Bool.and_eq_true, decide_eq_true_eq] at h
  exact ⟨_, _, _, _, _, rfl, h.1.1.1.1.1, h.1.1.1.1.2, h.1.1.1.2, h.1.1.2, h.1.2, h.2⟩
theorem inv_r3 {a b d : E} {tg e : Expr} (h : ckI P N lm sc .range3 [a, b, d] tg e = true) : ∃ x p e' e2 e3 pos, e = .Call (.Name x p) [e', e2, e3] [] pos ∧ x = "range" ∧ glB sc x = true ∧ ns e' = true ∧ ns e2 = true ∧ ns e3 = true ∧ ckE P N lm sc a e' = true ∧ ckE P N lm sc b e2 = true ∧ ckE P N lm sc d e3 = true := by
  unfold ckI at h
  split at h <;> first | contradiction | skip
  rename_i heq
  cases heq
  simp only [Bool.and_eq_true, decide_eq_true_eq] at h
  exact ⟨_, _, _, _, _, _, rfl, h.1.1.1.1.1.1.1, h.1.1.1.1.1.1.2, h.1.1.1.1.1.2, h.1.1.1.1.2, h.1.1.1.2, h.1.1.2, h.1.2, h.2⟩
theorem inv_en {a : E} {tg e : Expr} (h : ckI P N lm sc .enum [a] tg e = true) : ∃ es kk tp x p e' pos, tg = .Tuple es kk tp ∧ e = .Call (.Name x p) [e'] [] pos ∧ x = "enumerate" ∧ glB sc x = true ∧ ns e' = true ∧ ckE P N lm sc a e' = true := by
  unfold ckI at h
  split at h <;> first | contradiction | skip
  rename_i heq
  cases heq
  simp only [Bool.and_eq_true, decide_eq_true_eq] at h
  exact ⟨_, _, _, _, _, _, _, rfl, rfl, h.1.1.1, h.1.1.2, h.1.2, h.2⟩
/-- the lambda's context -/
theorem CxE.lamC (c : CxE P Γ k N lm sc W X) {scope : Scope} (L : LamX.LamS sc scope) {A : Around} {outer : List PySem.Env} {s : Shared} {H : Hp} {E : XK} {f c' : Addr} (hr : Room (4 * k + 4) (A.deeper (LamX.lamEnv X scope s.heap.objs.size f c'))) :
    CxE P Γ k N false scope (fun cls d _ H => E cls d H) (LamX.lamCx X A outer s H E scope f c') :=
  ⟨c.eK, c.eW, c.eN, c.nd, rfl, L.kind, rfl, hr, takes_of rfl rfl rfl rfl, c.mgb, c.con, c.def_, c.xc, fun z => Bool.noConfusion z, c.ocs⟩
theorem pTold {j : Nat} {e : E} {x : Str} {params : Arguments} {body : Expr} {scope : Scope} {p lpos pos : Pos} (c : CxE P Γ k N lm sc W X) (h0 : lm = true) (h1 : (match P.tolds[j]? with | some td => decide (td.name = x) | none => false) = true) (h2 : glB sc x = true) (h3 : nmB x = true) (h4 : lamA params = true) (L : LamX.LamS sc scope) (h6 : ckE P N false scope e body = true)
    (hb : ∀ {W : WX} {X : Cx}, CxE P Γ k N false scope W X → PE X body (dE Γ W (evE P (callD P k) e))) : PE X (.Call (.Name x p) [.Lambda params body scope lpos] [] pos) (dE Γ W (evE P (callD P k) (.told j e))) := by
  obtain ⟨room, ⟨cc, T, t1, t2, t3, t4⟩, td_⟩ := c.lam h0
  cases e1 : P.tolds[j]? with
  | none => rw [e1] at h1; cases h1
  | some td =>
    rw [e1] at h1
    obtain rfl : td.name = x := by simpa using h1
    have hp : params = ⟨[], [], none, [], [], none, []⟩ := by
      unfold lamA at h4
      split at h4
      · rfl
      · cases h4
    subst hp
    have L' : LamX.LamS X.env.scope scope := by rw [c.eS]; exact L
    obtain ⟨dvs, kws, g, fd, st, F, hmg, hbd, ht, hcl⟩ := td_ j td e1
    obtain ⟨oc, od, dV, kV, doc, pm, an, cdv, ct, osl, rfl, lk, hcd, _, _⟩ := F.ex
    obtain ⟨cl, g1, g2⟩ := hcl
    have hkp := F.kp
    rw [← c.eK] at lk hcd hkp hbd
    obtain ⟨s1, s2, s3⟩ := told_gives (X := X) (g := g) (cdg := cdv) (q := X.env.qual ++ "<lambda>") ht g1
    have q := LamX.pe_lamcall (p := p) (lpos := lpos) (pos := pos) (k := 4 * k + 4) (T := Γ.T) (params := ⟨[], [], none, [], [], none, []⟩) (body := body) (scope := scope) (t := fun E => dE Γ (fun cls d _ H => E cls d H) (evE P (callD P k) e)) (gl_of c h2) hmg hkp lk hcd hbd s1 rfl s2 s3 t2 t1 t3 t4 room L' rfl (by intro _ _ _ _ _; rfl)
      (fun A outer s H E f c' hr => hb (c.lamC L hr)) (nm_of h3).1 (told_nm ht).1 (told_nm ht).2
    exact q.mono fun σ H Q h => told_read e1 c.eK (told_few ht) (fun i x hx => c.xc i x hx) g2 h
theorem evFs_eq {P : Prog} {call : CallS} : ∀ (ps : List E) (acc : T) (ρ : G.Env) (s : Stt), evFs P call ps acc ρ s = evFL (ps.map (evE P call)) acc ρ s
  | [], acc, ρ, s => by rw [evFs]; rfl
  | p :: ps, acc, ρ, s => by
    rw [evFs, List.map_cons, evFL]
    congr 1
    funext x s
    cases x <;> try rfl
    simp only
    split
    · exact evFs_eq ps _ ρ s
    · rfl
mutual
theorem sE (m : E) : ∀ {lm : Bool} {sc : Scope} {W : WX} {X : Cx} {e : Expr}, CxE P Γ k N lm sc W X → ckE P N lm sc m e = true → PE X e (dE Γ W (evE P (callD P k) m)) := by
  intro lm sc W X e c h
  cases m with
  | var i =>
    cases e <;> try simp only [ckE, Bool.false_eq_true, Bool.and_eq_true, decide_eq_true_eq] at h
    exact s_var (pe_var (by rw [c.eN]; exact h.1.1) (vis_of c h.1.2) (nm_of h.2).1 (nm_of h.2).2)
  | int i =>
    cases e <;> try simp only [ckE, Bool.false_eq_true] at h
    rename_i q _ _
    cases q <;> try simp only [ckE, Bool.false_eq_true, decide_eq_true_eq] at h
    subst h
    exact s_int
  | bl i =>
    cases e <;> try simp only [ckE, Bool.false_eq_true] at h
    rename_i q _ _
    cases q <;> try simp only [ckE, Bool.false_eq_true, beq_iff_eq] at h
    subst h
    exact s_bl
  | non =>
    cases e <;> try simp only [ckE, Bool.false_eq_true] at h
    rename_i q _ _
    cases q <;> try simp only [ckE, Bool.false_eq_true] at h
    exact s_non
  | str t =>
    cases e <;> try simp only [ckE, Bool.false_eq_true] at h
    rename_i q _ _
    cases q <;> try simp only [ckE, Bool.false_eq_true, decide_eq_true_eq] at h
    subst h
    exact s_str
  | glob g =>
    cases e <;> try simp only [ckE, Bool.false_eq_true, Bool.and_eq_true] at h
    rename_i x pos
    obtain ⟨⟨h1, h2⟩, h3⟩ := h
    cases e1 : P.consts[g]? with
    | none => rw [e1] at h1; cases h1
    | some q =>
      rw [e1] at h1
      simp only [decide_eq_true_eq] at h1
      obtain ⟨x', d⟩ := q
      obtain rfl : x' = x := h1
      obtain ⟨v, u, hm, r, hr⟩ := c.con g x' d e1
      refine (pe_glob (gl_of c h2) hm r (nm_of h3).1).mono fun σ H Q hq => dE_ok (x := d) (fun ρ s => ?_) hr hq
      unfold evE
      rw [e1]
      rfl
  | bin o a b =>
    cases e <;> try simp only [ckE, Bool.false_eq_true, Bool.and_eq_true, decide_eq_true_eq] at h
    obtain ⟨⟨rfl, h1⟩, h2⟩ := h
    exact s_bin c.eK (sE a c h1) (sE b c h2)
  | neg a =>
    cases e <;> try simp only [ckE, Bool.false_eq_true] at h
    rename_i q _ _
    cases q <;> try simp only [ckE, Bool.false_eq_true] at h
    exact s_neg (sE a c h)
  | not a =>
    cases e <;> try simp only [ckE, Bool.false_eq_true] at h
    rename_i q _ _
    cases q <;> try simp only [ckE, Bool.false_eq_true] at h
    exact s_not (sE a c h)
  | cmp o a b =>
    cases e <;> try simp only [ckE, Bool.false_eq_true] at h
    rename_i l ops cs pos
    match ops, cs, h with
    | [op], [b'], h =>
      simp only [ckE, Bool.and_eq_true, decide_eq_true_eq, Bool.not_eq_true'] at h
      obtain ⟨⟨⟨rfl, h0⟩, h1⟩, h2⟩ := h
      exact s_cmp c.eK c.hu h0 (sE a c h1) (sE b c h2)
    | [], _, h => simp [ckE] at h
    | _ :: _ :: _, _, h => simp [ckE] at h
    | [_], [], h => simp [ckE] at h
    | [_], _ :: _ :: _, h => simp [ckE] at h
  | chain o o' a b d =>
    unfold ckE at h
    split at h <;> first | contradiction | skip
    rename_i heq
    cases heq
    simp only [Bool.and_eq_true, decide_eq_true_eq, Bool.not_eq_true'] at h
    obtain ⟨⟨⟨⟨⟨rfl, rfl⟩, h0⟩, h1⟩, h2⟩, h3⟩ := h
    exact s_chain c.eK c.hu h0 (sE a c h1) (sE b c h2) (sE d c h3)
  | and as =>
    cases e <;> try simp only [ckE, Bool.false_eq_true] at h
    rename_i o es pos
    cases o <;> simp only [ckE, Bool.false_eq_true] at h
    exact sAnd as c h
  | or as =>
    cases e <;> try simp only [ckE, Bool.false_eq_true] at h
    rename_i o es pos
    cases o <;> simp only [ckE, Bool.false_eq_true] at h
    exact sOr as c h
  | ite a b d =>
    cases e <;> try simp only [ckE, Bool.false_eq_true, Bool.and_eq_true] at h
    exact s_ite (sT a c h.1.1) (sE b c h.1.2) (sE d c h.2)
  | tup as =>
    cases e <;> try simp only [ckE, Bool.false_eq_true] at h
    exact s_tup (sEs as c h)
  | lst cell as =>
    cases e <;> try simp only [ckE, Bool.false_eq_true] at h
    cases cell with
    | true => exact s_lstC (sEs as c h)
    | false => exact s_lst (sEs as c h)
  | ix a i =>
    cases e <;> try simp only [ckE, Bool.false_eq_true, Bool.and_eq_true] at h
    exact s_ix c.eK (plain_ix h.1.1) (sE a c h.1.2) (sE i c h.2)
  | sl a lo hi =>
    cases e <;> try simp only [ckE, Bool.false_eq_true] at h
    rename_i a' i' pos
    cases i' <;> try simp only [ckE, Bool.false_eq_true] at h
    rename_i lo' hi' st p2
    cases st <;> simp only [ckE, Bool.false_eq_true, Bool.and_eq_true] at h
    exact s_sl c.eK (sE a c h.1.1) (sO lo c h.1.2) (sO hi c h.2)
  | call f as =>
    unfold ckE at h
    split at h <;> first | contradiction | skip
    rename_i heq
    cases heq
    simp only [Bool.and_eq_true] at h
    exact pCall c h.1.1.1 h.1.1.2 h.1.2 h.2 (sEs as c h.2)
  | callk j as ks =>
    unfold ckE at h
    split at h <;> first | contradiction | skip
    rename_i heq
    cases heq
    simp only [Bool.and_eq_true] at h
    obtain ⟨⟨⟨⟨h0, h1⟩, h2⟩, h3⟩, h4⟩ := h
    cases e1 : P.shapes[j]? with
    | none => rw [e1] at h0; cases h0
    | some sh =>
      rw [e1] at h0
      simp only [Bool.and_eq_true] at h0
      obtain ⟨hk, h0⟩ := h0
      cases e2 : P.defs[sh.f]? with
      | none => rw [e2] at h0; cases h0
      | some df =>
        rw [e2] at h0
        simp only [Bool.and_eq_true, decide_eq_true_eq] at h0
        obtain ⟨ho, h0⟩ := h0
        subst h0
        obtain ⟨a, fd, hm, hkp, F, h6, hS, h7⟩ := c.def_ sh.f df e2
        clear h6 h7
        have hm := hm (Option.isNone_iff_eq_none.mp ho)
        have S := hS sh (List.mem_of_getElem? e1) rfl
        rename_i x es kws p pos
        have ev : evE P (callD P k) (.callk j as ks) = fun ρ s => (evEs P (callD P k) as ρ s).bind fun xs s => (evEs P (callD P k) ks ρ s).bind fun ys s => callK sh (callD P k sh.f) xs ys s := by
          funext ρ s
          show (match P.shapes[j]? with | some sh => _ | none => _) = _
          rw [e1]
        rw [ev]
        cases es with
        | nil =>
          cases as with
          | nil => exact s_callk0 F S c.room3 (gl_of c h1) hm hkp c.takes (fun ds s hl => callD_len e2 ds s hl) hk (sKs ks c h4) (nm_of h2).1
          | cons _ _ => simp [ckEs] at h3
        | cons e es => exact s_callk F S c.room3 (gl_of c h1) hm hkp c.takes (ckEs_ns h3) (fun ds s hl => callD_len e2 ds s hl) hk (sEs as c h3) (sKs ks c h4) (nm_of h2).1
  | bi b a =>
    unfold ckE at h
    split at h <;> first | contradiction | skip
    rename_i heq
    cases heq
    simp only [Bool.and_eq_true, decide_eq_true_eq] at h
    exact pBi c h.1.1.1 h.1.1.2 h.1.2 (sE a c h.2)
  | max2 a b =>
    simp only [ckE] at h
    unfold ckMx at h
    split at h <;> first | contradiction | skip
    simp only [Bool.and_eq_true, decide_eq_true_eq] at h
    obtain ⟨⟨⟨⟨⟨h0, h1⟩, h2⟩, h3⟩, h4⟩, h5⟩ := h
    exact pMax2 c h0 h1 h2 h3 (sE a c h4) (sE b c h5)
  | dget a b =>
    simp only [ckE] at h
    unfold ckSub at h
    split at h <;> first | contradiction | skip
    simp only [Bool.and_eq_true] at h
    exact s_dget c.hu (nosl_ix h.1.1) (sE a c h.1.2) (sE b c h.2)
  | dhas ng a b =>
    simp only [ckE] at h
    unfold ckHas at h
    split at h <;> first | contradiction | skip
    simp only [Bool.and_eq_true, decide_eq_true_eq, Bool.not_eq_true'] at h
    obtain ⟨⟨⟨rfl, h0⟩, h1⟩, h2⟩ := h
    cases ng with
    | true => exact s_dnin c.hu h0 (sE a c h1) (sE b c h2)
    | false => exact s_din c.hu h0 (sE a c h1) (sE b c h2)
  | khas ng a b =>
    simp only [ckE] at h
    unfold ckHas at h
    split at h <;> first | contradiction | skip
    simp only [Bool.and_eq_true, decide_eq_true_eq, Bool.not_eq_true'] at h
    obtain ⟨⟨⟨rfl, h0⟩, h1⟩, h2⟩ := h
    cases ng with
    | true => exact s_nkhas c.eK c.eW c.hu h0 (sE a c h1) (sE b c h2)
    | false => exact s_khas c.eK c.eW c.hu h0 (sE a c h1) (sE b c h2)
  | klen a =>
    simp only [ckE] at h
    unfold ckKl at h
    split at h <;> first | contradiction | skip
    simp only [Bool.and_eq_true, decide_eq_true_eq] at h
    obtain ⟨⟨⟨rfl, h1⟩, h2⟩, h3⟩ := h
    exact s_klen c.eK c.eW c.hu (gl_of c h1) (c.mgb _ (b_mem .len)) h2 (sE a c h3)
  | sortk f a =>
    simp only [ckE] at h
    unfold ckSk at h
    split at h <;> first | contradiction | skip
    simp only [Bool.and_eq_true, decide_eq_true_eq] at h
    obtain ⟨⟨⟨⟨⟨⟨⟨rfl, h1⟩, h2⟩, rfl⟩, h3⟩, h4⟩, h5⟩, h6⟩ := h
    exact pSortk c h1 h2 h3 h4 h5 (sE a c h6)
  | kcomp d own tg src =>
    simp only [ckE] at h
    unfold ckKC at h
    split at h <;> first | contradiction | skip
    rename_i vk vp tt iter scp pos
    simp only [Bool.and_eq_true, decide_eq_true_eq, List.all_eq_true] at h
    obtain ⟨⟨⟨⟨⟨⟨hk, hb⟩, ht⟩, hit⟩, h1⟩, h2⟩, h4⟩ := h
    have hK := c.eK
    have B := fun s H C cl fp => c.blk hk s H C cl fp
    have q := s_kcomp (vk := vk) (vp := vp) (pos := pos) (W := W) (own := ownL N own) (tgs := tg) c.eK c.eW c.hu c.calm (by rw [c.eN]; exact c.nd) (sI .seq src c h2) (by rw [c.eN, c.eS]; exact blkOk_by hb) (tg_tk h1) (by rw [own_map]; exact ht)
      (fun s H C cl fp => tg_ok (B s H C cl fp).eN (B s H C cl fp).nd (B s H C cl fp).eK (B s H C cl fp).calm (fun x hx => by rw [(B s H C cl fp).eS]; exact relS_loc hx) (fun x hx => ⟨by rw [(B s H C cl fp).eS]; exact relS_cel hx, fn_cel hx⟩) h1)
      (fun s H C cl fp => sE d (B s H C cl fp) h4) (folded hit)
    rw [own_map] at q
    exact q
  | cmps ng a b =>
    simp only [ckE] at h
    unfold ckCs at h
    split at h <;> first | contradiction | skip
    simp only [Bool.and_eq_true, decide_eq_true_eq, Bool.not_eq_true'] at h
    obtain ⟨⟨⟨rfl, h0⟩, h1⟩, h2⟩ := h
    exact s_cmps c.eK c.hu h0 (sE a c h1) (sE b c h2)
  | revk a =>
    simp only [ckE] at h
    unfold ckRv at h
    split at h <;> first | contradiction | skip
    simp only [Bool.and_eq_true, decide_eq_true_eq] at h
    obtain ⟨rfl, h1⟩ := h
    exact s_revk c.eK (sE a c h1)
  | dct1 a b =>
    simp only [ckE] at h
    unfold ckD1 at h
    split at h <;> first | contradiction | skip
    simp only [Bool.and_eq_true] at h
    exact s_dct1 (sE a c h.1) (sE b c h.2)
  | catc a b =>
    simp only [ckE] at h
    unfold ckCat at h
    split at h <;> first | contradiction | skip
    simp only [Bool.and_eq_true] at h
    exact s_catc (sE a c h.1) (sE b c h.2)
  | revc a =>
    simp only [ckE] at h
    unfold ckRv at h
    split at h <;> first | contradiction | skip
    simp only [Bool.and_eq_true, decide_eq_true_eq] at h
    obtain ⟨rfl, h1⟩ := h
    exact s_revc c.eK (sE a c h1)
  | isi a many ts =>
    unfold ckE at h
    split at h <;> first | contradiction | skip
    · rename_i heq
      cases heq
      simp only [Bool.and_eq_true, decide_eq_true_eq] at h
      exact pIsi1 c h.1.1.1.1.1 h.1.1.1.1.2 h.1.1.1.2 h.1.1.2 h.1.2 (sE a c h.2)
    · rename_i heq
      cases heq
      simp only [Bool.and_eq_true, decide_eq_true_eq] at h
      exact pIsiT c h.1.1.1.1.1.1 h.1.1.1.1.1.2 h.1.1.1.1.2 h.1.1.1.2 h.1.1.2 h.1.2 (sE a c h.2)
  | met m a as =>
    simp only [ckE] at h
    unfold ckMet at h
    split at h <;> first | contradiction | skip
    rename_i o g apos es cpos
    simp only [Bool.and_eq_true, decide_eq_true_eq] at h
    obtain ⟨⟨⟨⟨⟨⟨h0, h1⟩, h2⟩, h3⟩, h4⟩, h5⟩, h6⟩ := h
    subst h0
    cases m with
    | append =>
      match es, h3, h4, h6 with
      | [e], _, h4, h6 =>
        have h4 : ns e = true := by simpa using h4
        exact s_append c.eK h4 h1 h2 (sE a c h5) (sEs as c h6)
    | pop =>
      match es, h3, h6 with
      | [], _, h6 =>
        cases as with
        | nil => exact s_pop c.eK h1 h2 (sE a c h5)
        | cons _ _ => simp [ckEs] at h6
    | popAt =>
      match es, h3, h4, h6 with
      | [e], _, h4, h6 =>
        have h4 : ns e = true := by simpa using h4
        exact s_popAt c.eK h4 h1 h2 (sE a c h5) (sEs as c h6)
    | index =>
      match es, h3, h4, h6 with
      | [e], _, h4, h6 =>
        have h4 : ns e = true := by simpa using h4
        exact s_sindex h4 h1 h2 (sE a c h5) (sEs as c h6)
    | rfind =>
      match es, h3, h4, h6 with
      | [e], _, h4, h6 =>
        have h4 : ns e = true := by simpa using h4
        exact s_rfind h4 h1 h2 (sE a c h5) (sEs as c h6)
    | upper =>
      match es, h3, h6 with
      | [], _, h6 =>
        cases as with
        | nil => exact s_upper h1 h2 (sE a c h5)
        | cons _ _ => simp [ckEs] at h6
    | lower =>
      match es, h3, h6 with
      | [], _, h6 =>
        cases as with
        | nil => exact s_lower h1 h2 (sE a c h5)
        | cons _ _ => simp [ckEs] at h6
    | lindex =>
      match es, h3, h4, h6 with
      | [e], _, h4, h6 =>
        have h4 : ns e = true := by simpa using h4
        exact s_lindex c.eK h4 h1 h2 (sE a c h5) (sEs as c h6)
    | join =>
      match es, h3, h4, h6 with
      | [e], _, h4, h6 =>
        have h4 : ns e = true := by simpa using h4
        exact s_join c.eK h4 h1 h2 (sE a c h5) (sEs as c h6)
    | split =>
      match es, h3, h4, h6 with
      | [e], _, h4, h6 =>
        have h4 : ns e = true := by simpa using h4
        exact s_split h4 h1 h2 (sE a c h5) (sEs as c h6)
    | part =>
      match es, h3, h4, h6 with
      | [e], _, h4, h6 =>
        have h4 : ns e = true := by simpa using h4
        exact s_part h4 h1 h2 (sE a c h5) (sEs as c h6)
    | reverse =>
      match es, h3, h6 with
      | [], _, h6 =>
        cases as with
        | nil => exact s_reverse c.eK h1 h2 (sE a c h5)
        | cons _ _ => simp [ckEs] at h6
    | clear =>
      match es, h3, h6 with
      | [], _, h6 =>
        cases as with
        | nil => exact s_clear c.eK h1 h2 (sE a c h5)
        | cons _ _ => simp [ckEs] at h6
    | insert =>
      match es, h3, h4, h6 with
      | [e, e2], _, h4, h6 =>
        have h4 : ns e = true ∧ ns e2 = true := by simpa using h4
        exact s_insert c.eK h4.1 h4.2 h1 h2 (sE a c h5) (sEs as c h6)
    | count =>
      match es, h3, h4, h6 with
      | [e], _, h4, h6 =>
        have h4 : ns e = true := by simpa using h4
        exact s_count c.eK c.hu h4 h1 h2 (sE a c h5) (sEs as c h6)
    | remove =>
      match es, h3, h4, h6 with
      | [e], _, h4, h6 =>
        have h4 : ns e = true := by simpa using h4
        exact s_remove c.eK c.hu h4 h1 h2 (sE a c h5) (sEs as c h6)
  | new cc as =>
    unfold ckE at h
    split at h <;> first | contradiction | skip
    rename_i heq
    cases heq
    simp only [Bool.and_eq_true] at h
    exact pNew c h.1.1.1 h.1.1.2 h.1.2 h.2 (sEs as c h.2)
  | fld a f =>
    unfold ckE at h
    split at h <;> first | contradiction | skip
    rename_i heq
    cases heq
    simp only [Bool.and_eq_true, decide_eq_true_eq] at h
    obtain ⟨⟨rfl, h1⟩, h2⟩ := h
    exact s_fld c.ocs h1 (sE a c h2)
  | mth a m as =>
    unfold ckE at h
    split at h <;> first | contradiction | skip
    rename_i heq
    cases heq
    simp only [Bool.and_eq_true, decide_eq_true_eq] at h
    obtain ⟨⟨⟨⟨⟨rfl, h1⟩, h2⟩, h3⟩, h4⟩, h5⟩ := h
    exact pMth c h1 h2 h3 h5 (sE a c h4) (sEs as c h5)
  | isc a cc =>
    unfold ckE at h
    split at h <;> first | contradiction | skip
    rename_i heq
    cases heq
    simp only [Bool.and_eq_true, decide_eq_true_eq] at h
    obtain ⟨⟨⟨⟨⟨⟨h0, h1⟩, h2⟩, h3⟩, h4⟩, h5⟩, h6⟩ := h
    exact pIsc c h0 h1 h2 h3 h4 h5 (sE a c h6)
  | eqo a b =>
    unfold ckE at h
    split at h <;> first | contradiction | skip
    rename_i heq
    cases heq
    simp only [Bool.and_eq_true] at h
    exact s_eqo c.ocs c.mth c.room3 (sE a c h.1) (sE b c h.2)
  | fstr ps =>
    cases e <;> try simp only [ckE, Bool.false_eq_true, Bool.and_eq_true, decide_eq_true_eq] at h
    rename_i vs pos
    obtain ⟨h1, h2⟩ := h
    have q := sPs ps c h2
    match vs, h1, q with
    | v1 :: v2 :: rest, _, q =>
      have ev : evE P (callD P k) (.fstr ps) = evFL (ps.map (evE P (callD P k))) [] := by
        funext ρ s
        rw [evE, evFs_eq]
      rw [ev]
      exact s_fstr q
  | fmt a =>
    cases e <;> try simp only [ckE, Bool.false_eq_true] at h
    rename_i a' i sp pos
    cases sp <;> simp only [ckE, Bool.false_eq_true, Bool.and_eq_true, decide_eq_true_eq] at h
    obtain ⟨rfl, h⟩ := h
    exact s_fmt (sE a c h)
  | rev a =>
    unfold ckE at h
    split at h <;> first | contradiction | skip
    rename_i heq
    cases heq
    simp only [Bool.and_eq_true, decide_eq_true_eq] at h
    obtain ⟨rfl, h1⟩ := h
    exact s_rev c.eK (sE a c h1)
  | mk a =>
    unfold ckE at h
    split at h <;> first | contradiction | skip
    rename_i heq
    cases heq
    simp only [Bool.and_eq_true, decide_eq_true_eq] at h
    obtain ⟨⟨⟨rfl, h1⟩, h2⟩, h3⟩ := h
    exact s_mk c.eK c.calm (gl_of c h1) (c.mgb _ (b_mem .list)) h2 (sE a c h3)
  | told j e =>
    unfold ckE at h
    split at h <;> first | contradiction | skip
    rename_i heq
    cases heq
    simp only [Bool.and_eq_true, decide_eq_true_eq] at h
    obtain ⟨⟨⟨⟨⟨⟨h0, h1⟩, h2⟩, h3⟩, h4⟩, h5⟩, h6⟩ := h
    exact pTold c h0 h1 h2 h3 h4 (LamX.lamS_by h5) h6 fun B => sE e B h6
  | comp cell d own tg kk src cc =>
    unfold ckE at h
    split at h <;> first | contradiction | skip
    rename_i pos heq
    cases heq
    simp only [Bool.and_eq_true, decide_eq_true_eq, List.all_eq_true] at h
    obtain ⟨⟨⟨⟨⟨⟨⟨hk, hb⟩, ht⟩, hit⟩, h1⟩, h2⟩, h3⟩, h4⟩ := h
    have hK := c.eK
    have B := fun s H C cl fp => c.blk hk s H C cl fp
    have q := s_comp (cell := cell) (pos := pos) (W := W) (own := ownL N own) (tgs := tg) c.calm (by rw [c.eN]; exact c.nd) (sI kk src c h2) (by rw [c.eN, c.eS]; exact blkOk_by hb) (tg_tk h1) (by rw [own_map]; exact ht)
      (fun s H C cl fp => tg_ok (B s H C cl fp).eN (B s H C cl fp).nd (B s H C cl fp).eK (B s H C cl fp).calm (fun x hx => by rw [(B s H C cl fp).eS]; exact relS_loc hx) (fun x hx => ⟨by rw [(B s H C cl fp).eS]; exact relS_cel hx, fn_cel hx⟩) h1)
      (fun s H C cl fp => sC cc (B s H C cl fp) h3) (fun s H C cl fp => sE d (B s H C cl fp) h4) (folded hit)
    rw [own_map] at q
    exact q
  | compc d own tg src cc =>
    simp only [ckE] at h
    unfold ckLC at h
    split at h <;> first | contradiction | skip
    rename_i pos
    simp only [Bool.and_eq_true, decide_eq_true_eq, List.all_eq_true] at h
    obtain ⟨⟨⟨⟨⟨⟨⟨hk, hb⟩, ht⟩, hit⟩, h1⟩, h2⟩, h3⟩, h4⟩ := h
    have hK := c.eK
    have B := fun s H C cl fp => c.blk hk s H C cl fp
    have q := s_compc (pos := pos) (W := W) (own := ownL N own) (tgs := tg) hK c.calm (by rw [c.eN]; exact c.nd) (sE src c h2) (by rw [c.eN, c.eS]; exact blkOk_by hb) (tg_tk h1) (by rw [own_map]; exact ht)
      (fun s H C cl fp => tg_ok (B s H C cl fp).eN (B s H C cl fp).nd (B s H C cl fp).eK (B s H C cl fp).calm (fun x hx => by rw [(B s H C cl fp).eS]; exact relS_loc hx) (fun x hx => ⟨by rw [(B s H C cl fp).eS]; exact relS_cel hx, fn_cel hx⟩) h1)
      (fun s H C cl fp => sC cc (B s H C cl fp) h3) (fun s H C cl fp => sE d (B s H C cl fp) h4) (folded hit)
    rw [own_map] at q
    exact q
  | compe d own tg src cc =>
    simp only [ckE] at h
    unfold ckLE at h
    split at h <;> first | contradiction | skip
    rename_i pos
    simp only [Bool.and_eq_true, decide_eq_true_eq, List.all_eq_true] at h
    obtain ⟨⟨⟨⟨⟨⟨⟨hk, hb⟩, ht⟩, hit⟩, h1⟩, h2⟩, h3⟩, h4⟩ := h
    have hK := c.eK
    have B := fun s H C cl fp => c.blk hk s H C cl fp
    match src with
    | [] => simp [ckI] at h2
    | [a] =>
      obtain ⟨es, kk, tp, x, p, e', ipos, rfl, rfl, rfl, k1, k2, k3⟩ := inv_en h2
      have q := s_compe (pos := pos) (W := W) (own := ownL N own) (tgs := tg) hK c.calm (by rw [c.eN]; exact c.nd) (gl_of c k1) (c.mgb _ (by decide +kernel)) k2 (s_cons k2 (sE a c k3) s_nil) (by rw [c.eN, c.eS]; exact blkOk_by hb) (tg_tk h1) (by rw [own_map]; exact ht)
        (fun s H C cl fp => tg_ok (B s H C cl fp).eN (B s H C cl fp).nd (B s H C cl fp).eK (B s H C cl fp).calm (fun x hx => by rw [(B s H C cl fp).eS]; exact relS_loc hx) (fun x hx => ⟨by rw [(B s H C cl fp).eS]; exact relS_cel hx, fn_cel hx⟩) h1)
        (fun s H C cl fp => sC cc (B s H C cl fp) h3) (fun s H C cl fp => sE d (B s H C cl fp) h4) (folded hit)
      rw [own_map] at q
      exact q
    | _ :: _ :: _ => simp [ckI] at h2
  | slc a lo hi =>
    simp only [ckE] at h
    unfold ckSlc at h
    split at h <;> first | contradiction | skip
    simp only [Bool.and_eq_true] at h
    exact s_slc c.eK (sE a c h.1.1) (sO lo c h.1.2) (sO hi c h.2)
theorem sT (m : E) : ∀ {lm : Bool} {sc : Scope} {W : WX} {X : Cx} {e : Expr}, CxE P Γ k N lm sc W X → ckE P N lm sc m e = true → PT X e (dT Γ W (evT P (callD P k) m)) := by
  intro lm sc W X e c h
  cases m with
  | var i =>
    cases e <;> try simp only [ckE, Bool.false_eq_true, Bool.and_eq_true, decide_eq_true_eq] at h
    exact s_truth c.eK (s_var (pe_var (by rw [c.eN]; exact h.1.1) (vis_of c h.1.2) (nm_of h.2).1 (nm_of h.2).2)) (fun _ => rfl)
  | not a =>
    cases e <;> try simp only [ckE, Bool.false_eq_true] at h
    rename_i q _ _
    cases q <;> try simp only [ckE, Bool.false_eq_true] at h
    exact s_tnot (sT a c h)
  | cmp o a b =>
    unfold ckE at h
    split at h <;> first | contradiction | skip
    rename_i heq
    cases heq
    simp only [ckE, Bool.and_eq_true, decide_eq_true_eq, Bool.not_eq_true'] at h
    obtain ⟨⟨⟨rfl, h0⟩, h1⟩, h2⟩ := h
    exact s_tcmp c.eK c.hu h0 (sE a c h1) (sE b c h2)
  | chain o o' a b d =>
    unfold ckE at h
    split at h <;> first | contradiction | skip
    rename_i heq
    cases heq
    simp only [Bool.and_eq_true, decide_eq_true_eq, Bool.not_eq_true'] at h
    obtain ⟨⟨⟨⟨⟨rfl, rfl⟩, h0⟩, h1⟩, h2⟩, h3⟩ := h
    exact s_tchain c.eK c.hu h0 (sE a c h1) (sE b c h2) (sE d c h3)
  | cmps ng a b =>
    simp only [ckE] at h
    unfold ckCs at h
    split at h <;> first | contradiction | skip
    simp only [Bool.and_eq_true, decide_eq_true_eq, Bool.not_eq_true'] at h
    obtain ⟨⟨⟨rfl, h0⟩, h1⟩, h2⟩ := h
    exact s_tcmps c.eK c.hu h0 (sE a c h1) (sE b c h2)
  | dhas ng a b =>
    simp only [ckE] at h
    unfold ckHas at h
    split at h <;> first | contradiction | skip
    simp only [Bool.and_eq_true, decide_eq_true_eq, Bool.not_eq_true'] at h
    obtain ⟨⟨⟨rfl, h0⟩, h1⟩, h2⟩ := h
    cases ng with
    | true => exact s_tdnin c.hu h0 (sE a c h1) (sE b c h2)
    | false => exact s_tdin c.hu h0 (sE a c h1) (sE b c h2)
  | and as =>
    cases e <;> try simp only [ckE, Bool.false_eq_true] at h
    rename_i o es pos
    cases o <;> simp only [ckE, Bool.false_eq_true] at h
    exact (sTAnd as c h).pt
  | or as =>
    cases e <;> try simp only [ckE, Bool.false_eq_true] at h
    rename_i o es pos
    cases o <;> simp only [ckE, Bool.false_eq_true] at h
    exact (sTOr as c h).pt
  | call f as =>
    unfold ckE at h
    split at h <;> first | contradiction | skip
    rename_i heq
    cases heq
    simp only [Bool.and_eq_true] at h
    exact s_truth c.eK (pCall c h.1.1.1 h.1.1.2 h.1.2 h.2 (sEs as c h.2)) (fun _ => rfl)
  | bi b a =>
    unfold ckE at h
    split at h <;> first | contradiction | skip
    rename_i heq
    cases heq
    simp only [Bool.and_eq_true, decide_eq_true_eq] at h
    exact s_truth c.eK (pBi c h.1.1.1 h.1.1.2 h.1.2 (sE a c h.2)) (fun _ => rfl)
  | isi a many ts =>
    unfold ckE at h
    split at h <;> first | contradiction | skip
    · rename_i heq
      cases heq
      simp only [Bool.and_eq_true, decide_eq_true_eq] at h
      exact s_truth c.eK (pIsi1 c h.1.1.1.1.1 h.1.1.1.1.2 h.1.1.1.2 h.1.1.2 h.1.2 (sE a c h.2)) (fun _ => rfl)
    · rename_i heq
      cases heq
      simp only [Bool.and_eq_true, decide_eq_true_eq] at h
      exact s_truth c.eK (pIsiT c h.1.1.1.1.1.1 h.1.1.1.1.1.2 h.1.1.1.1.2 h.1.1.1.2 h.1.1.2 h.1.2 (sE a c h.2)) (fun _ => rfl)
  | bl b =>
    cases e <;> try simp only [ckE, Bool.false_eq_true] at h
    rename_i v _ _
    cases v <;> simp only [ckE, Bool.false_eq_true] at h
    obtain rfl := eq_of_beq h
    exact (s_truth c.eK s_bl (fun _ => rfl)).mono fun σ H Q h => h
  | mth a m as =>
    unfold ckE at h
    split at h <;> first | contradiction | skip
    rename_i heq
    cases heq
    simp only [Bool.and_eq_true, decide_eq_true_eq] at h
    obtain ⟨⟨⟨⟨⟨rfl, h1⟩, h2⟩, h3⟩, h4⟩, h5⟩ := h
    exact s_truth c.eK (pMth c h1 h2 h3 h5 (sE a c h4) (sEs as c h5)) (fun _ => rfl)
  | isc a cc =>
    unfold ckE at h
    split at h <;> first | contradiction | skip
    rename_i heq
    cases heq
    simp only [Bool.and_eq_true, decide_eq_true_eq] at h
    obtain ⟨⟨⟨⟨⟨⟨h0, h1⟩, h2⟩, h3⟩, h4⟩, h5⟩, h6⟩ := h
    exact s_truth c.eK (pIsc c h0 h1 h2 h3 h4 h5 (sE a c h6)) (fun _ => rfl)
  | eqo a b =>
    unfold ckE at h
    split at h <;> first | contradiction | skip
    rename_i heq
    cases heq
    simp only [Bool.and_eq_true] at h
    exact s_teqo c.ocs c.mth c.room3 (sE a c h.1) (sE b c h.2)
  | _ => exact pt_stuck
theorem sI (kk : G.It) (src : List E) : ∀ {lm : Bool} {sc : Scope} {W : WX} {X : Cx} {tg e : Expr}, CxE P Γ k N lm sc W X → ckI P N lm sc kk src tg e = true → PI X tg e (dI Γ W fun ρ s => (evEs P (callD P k) src ρ s).bind fun ds s => R.of (srcF kk s ds) s) := by
  intro lm sc W X tg e c h
  match src with
  | [] => cases kk <;> simp [ckI] at h
  | [a] =>
    cases kk with
    | seq => exact s_iseq' c.eK (sE a c (by simpa [ckI] using h))
    | range1 =>
      obtain ⟨x, p, e', pos, rfl, rfl, h1, h2, h3⟩ := inv_r1 h
      exact s_irng1 (gl_of c h1) (c.mgb _ (by decide +kernel)) h2 (s_cons h2 (sE a c h3) s_nil)
    | range2 => simp [ckI] at h
    | range3 => simp [ckI] at h
    | enum =>
      obtain ⟨es, kk, tp, x, p, e', pos, rfl, rfl, rfl, h1, h2, h3⟩ := inv_en h
      exact s_ienum c.eK (gl_of c h1) (c.mgb _ (by decide +kernel)) h2 (s_cons h2 (sE a c h3) s_nil)
  | [a, b] =>
    cases kk with
    | range2 =>
      obtain ⟨x, p, e', e2, pos, rfl, rfl, h1, h2, h3, h4, h5⟩ := inv_r2 h
      exact s_irng2 (gl_of c h1) (c.mgb _ (by decide +kernel)) h2 h3 (s_cons h2 (sE a c h4) (s_cons h3 (sE b c h5) s_nil))
    | seq => simp [ckI] at h
    | range1 => simp [ckI] at h
    | range3 => simp [ckI] at h
    | enum => simp [ckI] at h
  | [a, b, d] =>
    cases kk with
    | range3 =>
      obtain ⟨x, p, e', e2, e3, pos, rfl, rfl, h1, h2, h3, h4, h5, h6, h7⟩ := inv_r3 h
      exact s_irng3 (gl_of c h1) (c.mgb _ (by decide +kernel)) h2 h3 h4 (s_cons h2 (sE a c h5) (s_cons h3 (sE b c h6) (s_cons h4 (sE d c h7) s_nil)))
    | seq => simp [ckI] at h
    | range1 => simp [ckI] at h
    | range2 => simp [ckI] at h
    | enum => simp [ckI] at h
  | _ :: _ :: _ :: _ :: _ => cases kk <;> simp [ckI] at h
theorem sC (m : Option E) : ∀ {lm : Bool} {sc : Scope} {W : WX} {X : Cx} {o : List Expr}, CxE P Γ k N lm sc W X → ckC P N lm sc m o = true → PTs X o (dT Γ W (evC P (callD P k) m)) := by
  intro lm sc W X o c h
  match m, o, h with
  | none, [], h => exact ⟨fun pins s σ H Q I ⟨φ, ρ, s0, er, rel, go⟩ => pts_nil.run pins s σ H Q I (go φ H (.refl _ _) rel)⟩
  | some m, [e], h =>
    exact pts_one (sT m c (by simpa [ckC] using h))
  | none, _ :: _, h => simp [ckC] at h
  | some _, [], h => simp [ckC] at h
  | some _, _ :: _ :: _, h => simp [ckC] at h
theorem sKs (ms : List E) : ∀ {lm : Bool} {sc : Scope} {W : WX} {X : Cx} {es : List Keyword}, CxE P Γ k N lm sc W X → ckKs P N lm sc ms es = true → PK X es (dA Γ W (evEs P (callD P k) ms)) := by
  intro lm sc W X es c h
  cases ms with
  | nil =>
    cases es <;> simp only [ckKs, Bool.false_eq_true] at h
    exact s_knil
  | cons m ms =>
    cases es with
    | nil => simp [ckKs] at h
    | cons kw es =>
      obtain ⟨nm, e, kp⟩ := kw
      simp only [ckKs, Bool.and_eq_true] at h
      exact s_kcons (sE m c h.1) (sKs ms c h.2)
theorem sTAnd (ms : List E) : ∀ {lm : Bool} {sc : Scope} {W : WX} {X : Cx} {es : List Expr} {pos : Pos}, CxE P Γ k N lm sc W X → ckEs P N lm sc ms es = true → PW X (.BoolOp .And es pos) (dT Γ W (evTAnd P (callD P k) ms)) := by
  intro lm sc W X es pos c h
  match ms, es, h with
  | [], _, _ => exact pw_stuck
  | [m], [e], h =>
    simp only [ckEs, Bool.and_eq_true] at h
    exact s_tand1 (sT m c h.1.2)
  | m :: m2 :: r, e :: e2 :: es, h =>
    simp only [ckEs, Bool.and_eq_true] at h
    refine s_tand (sT m c h.1.2) (sTAnd (m2 :: r) c ?_)
    simp only [ckEs, Bool.and_eq_true]
    exact h.2
  | [_], [], h => simp [ckEs] at h
  | [_], _ :: _ :: _, h => simp [ckEs] at h
  | _ :: _ :: _, [], h => simp [ckEs] at h
  | _ :: _ :: _, [_], h => simp [ckEs] at h
theorem sTOr (ms : List E) : ∀ {lm : Bool} {sc : Scope} {W : WX} {X : Cx} {es : List Expr} {pos : Pos}, CxE P Γ k N lm sc W X → ckEs P N lm sc ms es = true → PW X (.BoolOp .Or es pos) (dT Γ W (evTOr P (callD P k) ms)) := by
  intro lm sc W X es pos c h
  match ms, es, h with
  | [], _, _ => exact pw_stuck
  | [m], [e], h =>
    simp only [ckEs, Bool.and_eq_true] at h
    exact s_tor1 (sT m c h.1.2)
  | m :: m2 :: r, e :: e2 :: es, h =>
    simp only [ckEs, Bool.and_eq_true] at h
    refine s_tor (sT m c h.1.2) (sTOr (m2 :: r) c ?_)
    simp only [ckEs, Bool.and_eq_true]
    exact h.2
  | [_], [], h => simp [ckEs] at h
  | [_], _ :: _ :: _, h => simp [ckEs] at h
  | _ :: _ :: _, [], h => simp [ckEs] at h
  | _ :: _ :: _, [_], h => simp [ckEs] at h
theorem sEs (ms : List E) : ∀ {lm : Bool} {sc : Scope} {W : WX} {X : Cx} {es : List Expr}, CxE P Γ k N lm sc W X → ckEs P N lm sc ms es = true → PA X es (dA Γ W (evEs P (callD P k) ms)) := by
  intro lm sc W X es c h
  cases ms with
  | nil => 
    cases es <;> simp only [ckEs, Bool.false_eq_true] at h
    exact s_nil
  | cons m ms =>
    cases es <;> simp only [ckEs, Bool.false_eq_true, Bool.and_eq_true] at h
    exact s_cons h.1.1 (sE m c h.1.2) (sEs ms c h.2)
theorem sPs (ms : List E) : ∀ {lm : Bool} {sc : Scope} {W : WX} {X : Cx} {es : List Expr}, CxE P Γ k N lm sc W X → ckEs P N lm sc ms es = true → PJs X Γ W es (ms.map (evE P (callD P k))) := by
  intro lm sc W X es c h
  cases ms with
  | nil =>
    cases es <;> simp only [ckEs, Bool.false_eq_true] at h
    exact .nil
  | cons m ms =>
    cases es <;> simp only [ckEs, Bool.false_eq_true, Bool.and_eq_true] at h
    exact .cons (sE m c h.1.2) (sPs ms c h.2)
theorem sO (m : Option E) : ∀ {lm : Bool} {sc : Scope} {W : WX} {X : Cx} {o : Option Expr}, CxE P Γ k N lm sc W X → ckO P N lm sc m o = true → PO X o (dO Γ W (evO P (callD P k) m)) := by
  intro lm sc W X o c h
  cases m with
  | none =>
    cases o <;> simp only [ckO, Bool.false_eq_true] at h
    exact s_onone
  | some m =>
    cases o <;> simp only [ckO, Bool.false_eq_true] at h
    exact s_osome (sE m c h)
theorem sAnd (ms : List E) : ∀ {lm : Bool} {sc : Scope} {W : WX} {X : Cx} {es : List Expr} {pos : Pos}, CxE P Γ k N lm sc W X → ckEs P N lm sc ms es = true → PE X (.BoolOp .And es pos) (dE Γ W (evAnd P (callD P k) ms)) := by
  intro lm sc W X es pos c h
  match ms, es, h with
  | [], _, _ => exact pe_stuck
  | [m], [e], h =>
    simp only [ckEs, Bool.and_eq_true] at h
    exact s_one (sE m c h.1.2)
  | m :: m2 :: r, e :: e2 :: es, h =>
    have h' := h
    simp only [ckEs, Bool.and_eq_true] at h
    refine s_and (sE m c h.1.2) (sAnd (m2 :: r) c ?_)
    simp only [ckEs, Bool.and_eq_true]
    exact h.2
  | [_], [], h => simp [ckEs] at h
  | [_], _ :: _ :: _, h => simp [ckEs] at h
  | _ :: _ :: _, [], h => simp [ckEs] at h
  | _ :: _ :: _, [_], h => simp [ckEs] at h
theorem sOr (ms : List E) : ∀ {lm : Bool} {sc : Scope} {W : WX} {X : Cx} {es : List Expr} {pos : Pos}, CxE P Γ k N lm sc W X → ckEs P N lm sc ms es = true → PE X (.BoolOp .Or es pos) (dE Γ W (evOr P (callD P k) ms)) := by
  intro lm sc W X es pos c h
  match ms, es, h with
  | [], _, _ => exact pe_stuck
  | [m], [e], h =>
    simp only [ckEs, Bool.and_eq_true] at h
    exact s_one (sE m c h.1.2)
  | m :: m2 :: r, e :: e2 :: es, h =>
    have h' := h
    simp only [ckEs, Bool.and_eq_true] at h
    refine s_or (sE m c h.1.2) (sOr (m2 :: r) c ?_)
    simp only [ckEs, Bool.and_eq_true]
    exact h.2
  | [_], [], h => simp [ckEs] at h
  | [_], _ :: _ :: _, h => simp [ckEs] at h
  | _ :: _ :: _, [], h => simp [ckEs] at h
  | _ :: _ :: _, [_], h => simp [ckEs] at h
end
end
end G
set_option Elab.async false
set_option linter.all false
set_option maxRecDepth 100000
set_option maxHeartbeats 0
namespace G
open PySem L2
/-- whether name = value is stored within the comprehension -/
def swV (sc : Scope) (t : Str) (p : Pos) : Expr → Option Bool
  | .ListComp _ _ s q => some (locB sc t && p.line == q.line && !(s.names.any fun (n, k) => n == t && (k == .local || k == .cell)))
  | .SetComp .. => none
  | .DictComp _ _ _ s q => some (locB sc t && p.line == q.line && !(s.names.any fun (n, k) => n == t && (k == .local || k == .cell)))
  | _ => some false
theorem swV_ok {env : PySem.Env} {t : Str} {p : Pos} {e : Expr} {l : Nat} {b : Bool} (hk : env.scope.kind = .function) (h : swV env.scope t p e = some b) : swapsWith e (some (.Name t p)) l env = pure b := by
  cases e <;> try (simp only [swV, Option.some.injEq] at h; subst h; rfl)
  case ListComp a1 a2 s q =>
    simp only [swV, Option.some.injEq] at h
    subst h
    have hb : env.blockKind = .function := by unfold Env.blockKind; rw [hk]; rfl
    unfold swapsWith
    simp only [hb, Expr.pos]
    have e1 : (env.kindOf t == some NameKind.local) = locB env.scope t := by
      show (env.scope.names.lookup t == some NameKind.local) = _
      unfold locB
      cases q : env.scope.names.lookup t with
      | none => rfl
      | some k => cases k <;> rfl
    rw [e1]
    rfl
  case SetComp => simp [swV] at h
  case DictComp a0 a1 a2 s q =>
    simp only [swV, Option.some.injEq] at h
    subst h
    have hb : env.blockKind = .function := by unfold Env.blockKind; rw [hk]; rfl
    unfold swapsWith
    simp only [hb, Expr.pos]
    have e1 : (env.kindOf t == some NameKind.local) = locB env.scope t := by
      show (env.scope.names.lookup t == some NameKind.local) = _
      unfold locB
      cases q : env.scope.names.lookup t with
      | none => rfl
      | some k => cases k <;> rfl
    rw [e1]
    rfl
section
variable (N : List Str) (sc : Scope)
/-- names that may be cells -/
def tgC : List Nat → List Expr → Bool
  | [], [] => true
  | i :: is, .Name x _ :: es => decide (N[i]? = some x) && (locB sc x || celB sc x) && tgC is es
  | _, _ => false
def ckTgC : List Nat → Expr → Bool
  | [i], .Name x _ => decide (N[i]? = some x) && (locB sc x || celB sc x)
  | is, .Tuple es _ _ => decide (2 ≤ is.length) && tgC N sc is es
  | _, _ => false
end
section
variable (P : Prog) (N : List Str) (lm : Bool) (sc : Scope)
/-- no walk over a cell -/
def nccB : E → Bool
  | .compc .. => false
  | _ => true
/-- no walk over a cell by its places -/
def nceB : E → Bool
  | .compe .. => false
  | _ => true
/-- how many statements a scope holds -/
def scLen : S → Nat
  | .scope b => b.length
  | .fresh b => b.length
  | _ => 0
mutual
def ckS : S → Stmt → Bool
  | .set i e, .Assign [.Name x p] v _ => decide (N[i]? = some x) && (locB sc x || celB sc x) && (swV sc x p v).isSome && ckE P N lm sc e v && nccB e
  | .par is as, .Assign [.Tuple tes _ _] (.Tuple es _ _) _ => ckEs P N lm sc as es && (match swK sc tes es with
    | some none => decide (2 ≤ is.length) && decide (is.length ≤ 100) && tgC N sc is tes
    | some (some _) => tgB N sc is tes && decide (is.Nodup) && (decide (swK sc tes es = some (some (is.map fun i => N.getD i Str.empty))))
    | none => false)
  | .unp is e, .Assign [.Tuple tes _ _] v _ => decide (2 ≤ is.length) && tgC N sc is tes && ncomp v && ntup v && ckE P N lm sc e v
  | .unpl is e, .Assign [.Tuple tes _ _] v _ => tgC N sc is tes && ncomp v && ntup v && ckE P N lm sc e v
  | .setix o i e, .Assign [.Subscript o' i' _] v _ => nsl i' && ncomp v && ckE P N lm sc o o' && ckE P N lm sc i i' && ckE P N lm sc e v
  | .dset o i e, .Assign [.Subscript o' i' _] v _ => ncomp v && ckE P N lm sc o o' && ckE P N lm sc i i' && ckE P N lm sc e v
  | .expr e, .Expr v _ => ncomp v && ckE P N lm sc e v
  | .ret e, .Return (some v) _ => ckE P N lm sc e v
  | .retN, .Return none _ => true
  | .ite c a b, .If c' a' b' _ => ckE P N lm sc c c' && ckSs a a' && ckSs b b'
  | .for tg k src b, .For t it b' [] _ => itB it && ckTgC N sc tg t && ckI P N lm sc k src t it && ckSs b b'
  | .while c b, .While c' b' [] _ => ckE P N lm sc c c' && ckSs b b'
  | .pass, .Pass _ => true
  | .brk, .Break _ => true
  | .cont, .Continue _ => true
  | .aug i .add e, .AugAssign (.Name x _) .Add v _ => decide (N[i]? = some x) && (locB sc x || celB sc x) && ckE P N lm sc e v
  | .raise c as, .Raise (some (.Call (.Name x _) es [] _)) none _ => (match P.xcls[c]? with | some xc => decide (x = tS xc.name) | none => false) && glB sc x && nmB x && ckEs P N lm sc as es
  | .setfld o f e, .Assign [.Attribute o' g _] v _ => decide (f = g) && ckE P N lm sc o o' && ckE P N lm sc e v
  | .unpfld i fs e, .Assign [.Tuple tes _ _] v _ => fldsB N sc i (fun x => visB sc x && nmB x) fs tes && ncomp v && ntup v && ckE P N lm sc e v
  | .forc tg e b, .For t it b' [] _ => itB it && ckTgC N sc tg t && ckE P N lm sc e it && ckSs b b'
  | .fore tg src b, .For t it b' [] _ => itB it && ckTgC N sc tg t && ckI P N lm sc .enum src t it && ckSs b b'
  | .never, _ => true
  | _, _ => false
def ckSs : List S → List Stmt → Bool
  | [], [] => true
  | a :: as, s :: ss => ckS a s && ckSs as ss || ckM a ((s :: ss).take (scLen a)) && ckSs as ((s :: ss).drop (scLen a))
  | _, _ => false
/-- a row of statements behind which its cells go -/
def ckM : S → List Stmt → Bool
  | .scope b, ss => ckSs b ss
  | .fresh b, ss => ckSs b ss
  | _, _ => false
end
end
/-- what a statement's context knows -/
structure CxS (P : Prog) (Γ : Gm) (k : Nat) (N : List Str) (lm : Bool) (sc : Scope) (W : WX) (X : Cx) : Prop where
  e : CxE P Γ k N lm sc W X
  po : PassesOwn (model X.prog X.w) X.A X.env X.xe
  fn : ∀ x, X.fn x = true
section
variable {P : Prog} {Γ : Gm} {k : Nat} {N : List Str} {lm : Bool} {sc : Scope} {W : WX} {X : Cx}
theorem loc_or (c : CxE P Γ k N lm sc W X) {x : Str} (h : (locB sc x || celB sc x) = true) : Loc X.env.scope x := by
  simp only [Bool.or_eq_true] at h
  rcases h with h | h
  · exact .inl (loc_of c h)
  · rw [c.eS]
    unfold celB at h
    split at h
    · exact .inr (by assumption)
    · cases h
theorem tgC_pgs (c : CxS P Γ k N lm sc W X) : ∀ {is : List Nat} {es : List Expr}, tgC N sc is es = true → PGs X es (gNames is) ∧ (assignEach es X.env).length = is.length ∧ (assignEach es X.env).findIdx? (·.1) = none
  | [], [], _ => ⟨pgs_nil, rfl, rfl⟩
  | i :: is, .Name x p :: es, h => by
    simp only [tgC, Bool.and_eq_true, decide_eq_true_eq] at h
    obtain ⟨h1, h2, h3⟩ := tgC_pgs c h.2
    refine ⟨pgs_cons (pg_name (by rw [c.e.eN]; exact c.e.nd) (by rw [c.e.eN]; exact h.1.1) (loc_or c.e h.1.2) (.inl (c.fn x))) h1, ?_, ?_⟩
    · show (assignEach es X.env).length + 1 = is.length + 1
      rw [h2]
    · show List.findIdx? _ ((false, assign (.Name x p) X.env) :: assignEach es X.env) = none
      rw [List.findIdx?_cons]
      simp [h3]
  | [], _ :: _, h => by simp [tgC] at h
  | _ :: _, [], h => by simp [tgC] at h
  | _ :: _, .BoolOp .. :: _, h => by simp [tgC] at h
  | _ :: _, .NamedExpr .. :: _, h => by simp [tgC] at h
  | _ :: _, .BinOp .. :: _, h => by simp [tgC] at h
  | _ :: _, .UnaryOp .. :: _, h => by simp [tgC] at h
  | _ :: _, .Lambda .. :: _, h => by simp [tgC] at h
  | _ :: _, .IfExp .. :: _, h => by simp [tgC] at h
  | _ :: _, .Dict .. :: _, h => by simp [tgC] at h
  | _ :: _, .Set .. :: _, h => by simp [tgC] at h
  | _ :: _, .ListComp .. :: _, h => by simp [tgC] at h
  | _ :: _, .SetComp .. :: _, h => by simp [tgC] at h
  | _ :: _, .DictComp .. :: _, h => by simp [tgC] at h
  | _ :: _, .GeneratorExp .. :: _, h => by simp [tgC] at h
  | _ :: _, .Await .. :: _, h => by simp [tgC] at h
  | _ :: _, .Yield .. :: _, h => by simp [tgC] at h
  | _ :: _, .YieldFrom .. :: _, h => by simp [tgC] at h
  | _ :: _, .Compare .. :: _, h => by simp [tgC] at h
  | _ :: _, .Call .. :: _, h => by simp [tgC] at h
  | _ :: _, .FormattedValue .. :: _, h => by simp [tgC] at h
  | _ :: _, .JoinedStr .. :: _, h => by simp [tgC] at h
  | _ :: _, .Constant .. :: _, h => by simp [tgC] at h
  | _ :: _, .Attribute .. :: _, h => by simp [tgC] at h
  | _ :: _, .Subscript .. :: _, h => by simp [tgC] at h
  | _ :: _, .Starred .. :: _, h => by simp [tgC] at h
  | _ :: _, .List .. :: _, h => by simp [tgC] at h
  | _ :: _, .Tuple .. :: _, h => by simp [tgC] at h
  | _ :: _, .Slice .. :: _, h => by simp [tgC] at h
/-- a tuple of names -/
theorem tgC_pg (c : CxS P Γ k N lm sc W X) {is : List Nat} {es : List Expr} {kk} {tp : Pos} (h : tgC N sc is es = true) : PG X (.Tuple es kk tp) (gTup X.K is.length (gNames is)) := by
  obtain ⟨h1, h2, h3⟩ := tgC_pgs c h
  exact pg_tup c.e.calm h1 h2 h3
theorem tgC_pl (c : CxS P Γ k N lm sc W X) {is : List Nat} {es : List Expr} {kk} {tp : Pos} (h : tgC N sc is es = true) : PG X (.Tuple es kk tp) (gUnl X.K is.length (gNames is)) := by
  obtain ⟨h1, h2, h3⟩ := tgC_pgs c h
  exact pg_unl c.e.calm h1 h2 h3
theorem tgC_ok (c : CxS P Γ k N lm sc W X) {tg : List Nat} {t : Expr} (h : ckTgC N sc tg t = true) : ∃ g, PG X t g ∧ TgOk Γ tg g := by
  unfold ckTgC at h
  split at h
  · simp only [Bool.and_eq_true, decide_eq_true_eq] at h
    exact ⟨_, pg_name (by rw [c.e.eN]; exact c.e.nd) (by rw [c.e.eN]; exact h.1) (loc_or c.e h.2) (.inl (c.fn _)), tg_one⟩
  · simp only [Bool.and_eq_true, decide_eq_true_eq] at h
    refine ⟨gTup Γ.K _ (gNames _), ?_, tg_tup rfl h.1⟩
    rw [← c.e.eK]
    exact tgC_pg c h.2
  · cases h
theorem lcInv {m : E} {e1 : Expr} {ts} {s : Scope} {q : Pos} (hm : nccB m = true) (hm2 : nceB m = true) (h : ckE P N lm sc m (.ListComp e1 ts s q) = true) : ∃ cell d own tg kk src cc t it ifs, m = .comp cell d own tg kk src cc ∧ ts = [⟨t, it, ifs, 0⟩] ∧
    s.kind = .function ∧ blkC N sc s (ownL N own) = true ∧ (∀ i ∈ tg, i ∈ own) ∧ itB it = true ∧ ckTg P N s tg t = true ∧ ckI P N lm sc kk src t it = true ∧ ckC P N false (relS s sc) cc ifs = true ∧ ckE P N false (relS s sc) d e1 = true := by
  unfold ckE at h
  split at h <;> first | contradiction | skip
  all_goals first | (cases hm; done) | (cases hm2; done) | skip
  rename_i heq
  cases heq
  simp only [Bool.and_eq_true, decide_eq_true_eq, List.all_eq_true] at h
  obtain ⟨⟨⟨⟨⟨⟨⟨hk, hb⟩, ht⟩, hit⟩, h1⟩, h2⟩, h3⟩, h4⟩ := h
  exact ⟨_, _, _, _, _, _, _, _, _, _, rfl, rfl, hk, hb, ht, hit, h1, h2, h3, h4⟩
theorem kcInv {m : E} {kx vx : Expr} {ts} {s : Scope} {q : Pos} (h : ckE P N lm sc m (.DictComp kx vx ts s q) = true) : ∃ d own tg src t it vk vp, m = .kcomp d own tg src ∧ vx = .Constant (.bool true) vk vp ∧ ts = [⟨t, it, [], 0⟩] ∧
    s.kind = .function ∧ blkC N sc s (ownL N own) = true ∧ (∀ i ∈ tg, i ∈ own) ∧ itB it = true ∧ ckTg P N s tg t = true ∧ ckI P N lm sc .seq src t it = true ∧ ckE P N false (relS s sc) d kx = true := by
  unfold ckE at h
  split at h <;> first | contradiction | skip
  unfold ckKC at h
  split at h <;> first | contradiction | skip
  rename_i heq
  cases heq
  simp only [Bool.and_eq_true, decide_eq_true_eq, List.all_eq_true] at h
  obtain ⟨⟨⟨⟨⟨⟨hk, hb⟩, ht⟩, hit⟩, h1⟩, h2⟩, h4⟩ := h
  exact ⟨_, _, _, _, _, _, _, _, rfl, rfl, rfl, hk, hb, ht, hit, h1, h2, h4⟩
theorem pSetK (c : CxS P Γ k N lm sc W X) {i : Nat} {m : E} {x : Str} {p pos : Pos} {kx vx : Expr} {ts} {s : Scope} {q : Pos} (hi : X.N[i]? = some x) (hN : X.N.Nodup) (h4 : ckE P N lm sc m (.DictComp kx vx ts s q) = true) (hsw : swapsWith (.DictComp kx vx ts s q) (some (.Name x p)) pos.line X.env = pure true)
    (hb : swV sc x p (.DictComp kx vx ts s q) = some true) : PS X (.Assign [.Name x p] (.DictComp kx vx ts s q) pos) (dS Γ W (evS P (callD P k) (.set i m))) := by
  obtain ⟨d, own, tg, src, t, it, vk, vp, rfl, rfl, rfl, hk, hbk, ht, hit, h1, h2, h3⟩ := kcInv h4
  simp only [swV, Option.some.injEq, Bool.and_eq_true] at hb
  have hl : X.env.scope.names.lookup x = some .local := loc_of c.e hb.1.1
  have B := fun s H C cl fp => c.e.blk hk s H C cl fp
  have r := ss_kcomp (W := W) (i := i) (own := ownL N own) (tgs := tg) c.e.eK c.e.eW c.e.hu c.e.calm hN hi hl hsw (sI .seq src c.e h2) (by rw [c.e.eN, c.e.eS]; exact blkOk_by hbk) (tg_tk h1) (by rw [own_map]; exact ht)
    (fun s H C cl fp => tg_ok (B s H C cl fp).eN (B s H C cl fp).nd (B s H C cl fp).eK (B s H C cl fp).calm (fun x hx => by rw [(B s H C cl fp).eS]; exact relS_loc hx) (fun x hx => ⟨by rw [(B s H C cl fp).eS]; exact relS_cel hx, fn_cel hx⟩) h1)
    (fun s H C cl fp => sE d (B s H C cl fp) h3) (folded hit)
  rw [own_map] at r
  exact r
theorem pSet (c : CxS P Γ k N lm sc W X) {i : Nat} {m : E} {x : Str} {p pos : Pos} {v : Expr} (h1 : N[i]? = some x) (h2 : (locB sc x || celB sc x) = true) (h3 : (swV sc x p v).isSome = true) (h4 : ckE P N lm sc m v = true) (h5 : nccB m = true) : PS X (.Assign [.Name x p] v pos) (dS Γ W (evS P (callD P k) (.set i m))) := by
  obtain ⟨b, hb⟩ := Option.isSome_iff_exists.mp h3
  have hN : X.N.Nodup := by rw [c.e.eN]; exact c.e.nd
  have hi : X.N[i]? = some x := by rw [c.e.eN]; exact h1
  have hsw := swV_ok (env := X.env) (l := pos.line) (by rw [c.e.eS]; exact c.e.kf) (by rw [c.e.eS]; exact hb)
  cases b with
  | false =>
    exact (ps_set hN hi (loc_or c.e h2) (sE m c.e h4) hsw (.inl (c.fn x))).mono fun D σ H ⟨φ, ρ, s, er, rel, go⟩ =>
      ⟨φ, ρ, s, er, rel, (go.st er).imp fun x s1 φ1 H1 a1 r1 go1 v hv => go1.here r1 ((er.mono a1).set hv i)⟩
  | true =>
    cases v <;> try (simp [swV] at hb; done)
    case DictComp kx vx ts s q => exact pSetK c hi hN h4 hsw hb
    rename_i e1 ts s q
    by_cases h6 : nceB m = true
    case neg =>
      cases m <;> try (exact absurd rfl h6)
      rename_i d own tg src cc
      simp only [ckE] at h4
      unfold ckLE at h4
      split at h4 <;> first | contradiction | skip
      rename_i heq
      cases heq
      simp only [Bool.and_eq_true, decide_eq_true_eq, List.all_eq_true] at h4
      obtain ⟨⟨⟨⟨⟨⟨⟨hk, hbk⟩, ht⟩, hit⟩, g1⟩, g2⟩, g3⟩, g4⟩ := h4
      have hl : X.env.scope.names.lookup x = some .local := by
        simp only [swV, Option.some.injEq, Bool.and_eq_true] at hb
        exact loc_of c.e hb.1.1
      have B := fun s' H C cl fp => c.e.blk hk s' H C cl fp
      match src with
      | [] => simp [ckI] at g2
      | [a] =>
        obtain ⟨es, kk, tp, x', p', e', ipos, rfl, rfl, rfl, k1, k2, k3⟩ := inv_en g2
        have qq := ss_lce (pos := q) (spos := pos) (W := W) (own := ownL N own) (tgs := tg) c.e.eK c.e.calm hN hi hl hsw (gl_of c.e k1) (c.e.mgb _ (by decide +kernel)) k2 (s_cons k2 (sE a c.e k3) s_nil) (by rw [c.e.eN, c.e.eS]; exact blkOk_by hbk) (tg_tk g1) (by rw [own_map]; exact ht)
          (fun s H C cl fp => tg_ok (B s H C cl fp).eN (B s H C cl fp).nd (B s H C cl fp).eK (B s H C cl fp).calm (fun x hx => by rw [(B s H C cl fp).eS]; exact relS_loc hx) (fun x hx => ⟨by rw [(B s H C cl fp).eS]; exact relS_cel hx, fn_cel hx⟩) g1)
          (fun s H C cl fp => sC cc (B s H C cl fp) g3) (fun s H C cl fp => sE d (B s H C cl fp) g4) (folded hit)
        rw [own_map] at qq
        exact qq
      | _ :: _ :: _ => simp [ckI] at g2
    obtain ⟨cell, d, own, tg, kk, src, cc, t, it, ifs, rfl, rfl, hk, hbk, ht, hit, g1, g2, g3, g4⟩ := lcInv h5 h6 h4
    have hl : X.env.scope.names.lookup x = some .local := by
      simp only [swV, Option.some.injEq, Bool.and_eq_true] at hb
      exact loc_of c.e hb.1.1
    have B := fun s' H C cl fp => c.e.blk hk s' H C cl fp
    have qq := ss_lc (cell := cell) (pos := q) (spos := pos) (W := W) (own := ownL N own) (tgs := tg) c.e.calm hN hi hl hsw (sI kk src c.e g2) (by rw [c.e.eN, c.e.eS]; exact blkOk_by hbk) (tg_tk g1) (by rw [own_map]; exact ht)
      (fun s H C cl fp => tg_ok (B s H C cl fp).eN (B s H C cl fp).nd (B s H C cl fp).eK (B s H C cl fp).calm (fun x hx => by rw [(B s H C cl fp).eS]; exact relS_loc hx) (fun x hx => ⟨by rw [(B s H C cl fp).eS]; exact relS_cel hx, fn_cel hx⟩) g1)
      (fun s H C cl fp => sC cc (B s H C cl fp) g3) (fun s H C cl fp => sE d (B s H C cl fp) g4) (folded hit)
    rw [own_map] at qq
    exact qq
theorem len2 {α : Type} {l : List α} (h : l.length = 2) : ∃ a b, l = [a, b] := by
  match l, h with
  | [a, b], _ => exact ⟨a, b, rfl⟩
theorem len3 {α : Type} {l : List α} (h : l.length = 3) : ∃ a b c, l = [a, b, c] := by
  match l, h with
  | [a, b, c], _ => exact ⟨a, b, c, rfl⟩
theorem tgB_inv {i : Nat} {is : List Nat} {e : Expr} {es : List Expr} (h : tgB N sc (i :: is) (e :: es) = true) : ∃ x p, e = .Name x p ∧ N[i]? = some x ∧ locB sc x = true ∧ tgB N sc is es = true := by
  cases e <;> simp only [tgB, Bool.false_eq_true, Bool.and_eq_true, decide_eq_true_eq] at h
  exact ⟨_, _, rfl, h.1.1, h.1.2, h.2⟩
theorem pPar (c : CxS P Γ k N lm sc W X) {is : List Nat} {as : List E} {tes es : List Expr} {kt k2 pt p2 pos} (h1 : ckEs P N lm sc as es = true) (h2 : (match swK sc tes es with
    | some none => decide (2 ≤ is.length) && decide (is.length ≤ 100) && tgC N sc is tes
    | some (some _) => tgB N sc is tes && decide (is.Nodup) && (decide (swK sc tes es = some (some (is.map fun i => N.getD i Str.empty))))
    | none => false) = true) : PS X (.Assign [.Tuple tes kt pt] (.Tuple es k2 p2) pos) (dS Γ W (evS P (callD P k) (.par is as))) := by
  have ha := sEs as c.e h1
  have hb : X.env.scope.kind = .function := by rw [c.e.eS]; exact c.e.kf
  have hN : X.N.Nodup := by rw [c.e.eN]; exact c.e.nd
  split at h2
  · rename_i q
    simp only [Bool.and_eq_true, decide_eq_true_eq] at h2
    exact ss_parN c.e.calm c.e.eK rfl h2.1.1 h2.1.2 (tgC_pg c h2.2) hb ha (by rw [c.e.eS]; exact q)
  · simp only [Bool.and_eq_true, decide_eq_true_eq] at h2
    obtain ⟨⟨t1, t2⟩, t3⟩ := h2
    have l1 := tgB_len t1
    have lq : (tes.length = 2 ∨ tes.length = 3) ∧ es.length = tes.length := by
      unfold swK at t3
      split at t3
      · cases t3
      · rename_i q
        simp only [Bool.or_eq_true, Bool.not_eq_true', Bool.or_eq_false_iff, beq_eq_false_iff_ne, bne_iff_ne, ne_eq, not_or, not_and] at q
        constructor
        · by_cases e : tes.length = 2
          · exact .inl e
          · exact .inr (Classical.byContradiction fun e3 => absurd e3 (by simpa using q.1 e))
        · exact Classical.byContradiction fun e3 => q.2 e3
    obtain ⟨lq, le⟩ := lq
    rcases lq with lq | lq
    · obtain ⟨u, v, rfl⟩ := len2 lq
      obtain ⟨a, b, rfl⟩ := len2 le
      obtain ⟨i, j, rfl⟩ := len2 l1
      · 
        obtain ⟨x, px, rfl, n1, k1, t1⟩ := tgB_inv t1
        obtain ⟨y, py, rfl, n2, k2, t1⟩ := tgB_inv t1
        simp only [List.nodup_cons, List.mem_singleton, List.not_mem_nil, not_false_eq_true, List.nodup_nil, and_true] at t2
        have e1 : N.getD i Str.empty = x := by rw [List.getD_eq_getElem?_getD, n1]; rfl
        have e2 : N.getD j Str.empty = y := by rw [List.getD_eq_getElem?_getD, n2]; rfl
        simp only [List.map_cons, List.map_nil, e1, e2] at t3
        exact ss_par2 c.e.calm hN (by rw [c.e.eN]; exact n1) (by rw [c.e.eN]; exact n2) t2 hb (loc_of c.e k1) (loc_of c.e k2) ha (by rw [c.e.eS]; exact t3)
    · obtain ⟨u, v, w, rfl⟩ := len3 lq
      obtain ⟨a, b, d, rfl⟩ := len3 le
      obtain ⟨i, j, l, rfl⟩ := len3 l1
      · 
        obtain ⟨x, px, rfl, n1, k1, t1⟩ := tgB_inv t1
        obtain ⟨y, py, rfl, n2, k2, t1⟩ := tgB_inv t1
        obtain ⟨z, pz, rfl, n3, k3, t1⟩ := tgB_inv t1
        simp only [List.nodup_cons, List.mem_cons, List.mem_singleton, List.not_mem_nil, or_false, not_or, not_false_eq_true, List.nodup_nil, and_true] at t2
        have e1 : N.getD i Str.empty = x := by rw [List.getD_eq_getElem?_getD, n1]; rfl
        have e2 : N.getD j Str.empty = y := by rw [List.getD_eq_getElem?_getD, n2]; rfl
        have e3 : N.getD l Str.empty = z := by rw [List.getD_eq_getElem?_getD, n3]; rfl
        simp only [List.map_cons, List.map_nil, e1, e2, e3] at t3
        exact ss_par3 c.e.calm hN (by rw [c.e.eN]; exact n1) (by rw [c.e.eN]; exact n2) (by rw [c.e.eN]; exact n3) t2.1.1 t2.1.2 t2.2 hb (loc_of c.e k1) (loc_of c.e k2) (loc_of c.e k3) ha (by rw [c.e.eS]; exact t3)
  · cases h2
theorem inv_for {tg : List Nat} {kk : G.It} {src : List E} {b : List S} {st : Stmt} (h : ckS P N lm sc (.for tg kk src b) st = true) : ∃ t it b' pos, st = .For t it b' [] pos ∧ itB it = true ∧ ckTgC N sc tg t = true ∧ ckI P N lm sc kk src t it = true ∧ ckSs P N lm sc b b' = true := by
  unfold ckS at h
  split at h <;> first | contradiction | skip
  rename_i heq
  cases heq
  simp only [Bool.and_eq_true] at h
  exact ⟨_, _, _, _, rfl, h.1.1.1, h.1.1.2, h.1.2, h.2⟩
theorem inv_forc {tg : List Nat} {e : E} {b : List S} {st : Stmt} (h : ckS P N lm sc (.forc tg e b) st = true) : ∃ t it b' pos, st = .For t it b' [] pos ∧ itB it = true ∧ ckTgC N sc tg t = true ∧ ckE P N lm sc e it = true ∧ ckSs P N lm sc b b' = true := by
  unfold ckS at h
  split at h <;> first | contradiction | skip
  rename_i heq
  cases heq
  simp only [Bool.and_eq_true] at h
  exact ⟨_, _, _, _, rfl, h.1.1.1, h.1.1.2, h.1.2, h.2⟩
theorem inv_fore {tg : List Nat} {src : List E} {b : List S} {st : Stmt} (h : ckS P N lm sc (.fore tg src b) st = true) : ∃ t it b' pos, st = .For t it b' [] pos ∧ itB it = true ∧ ckTgC N sc tg t = true ∧ ckI P N lm sc .enum src t it = true ∧ ckSs P N lm sc b b' = true := by
  unfold ckS at h
  split at h <;> first | contradiction | skip
  rename_i heq
  cases heq
  simp only [Bool.and_eq_true] at h
  exact ⟨_, _, _, _, rfl, h.1.1.1, h.1.1.2, h.1.2, h.2⟩
theorem inv_while {d : E} {b : List S} {st : Stmt} (h : ckS P N lm sc (.while d b) st = true) : ∃ d' b' pos, st = .While d' b' [] pos ∧ ckE P N lm sc d d' = true ∧ ckSs P N lm sc b b' = true := by
  unfold ckS at h
  split at h <;> first | contradiction | skip
  rename_i heq
  cases heq
  simp only [Bool.and_eq_true] at h
  exact ⟨_, _, _, rfl, h.1, h.2⟩
theorem pRaise (c : CxS P Γ k N lm sc W X) {cc : Nat} {as : List E} {x : Str} {es : List Expr} {p pos pos2 : Pos} (h0 : (match P.xcls[cc]? with | some xc => decide (x = tS xc.name) | none => false) = true) (h1 : glB sc x = true) (h2 : nmB x = true) (h3 : ckEs P N lm sc as es = true)
    (ha : PA X es (dA Γ W (evEs P (callD P k) as))) : PS X (.Raise (some (.Call (.Name x p) es [] pos)) none pos2) (dS Γ W (evS P (callD P k) (.raise cc as))) := by
  cases e1 : P.xcls[cc]? with
  | none => rw [e1] at h0; cases h0
  | some xc =>
    rw [e1] at h0
    obtain rfl : x = tS xc.name := by simpa using h0
    obtain ⟨C, O⟩ := c.e.xc cc xc e1
    have hr : Room 3 X.A := c.e.room.mono (by omega)
    have ev : evS P (callD P k) (.raise cc as) = fun ρ s => (evEs P (callD P k) as ρ s).st ρ fun xs s => if xs.length = xc.fs.length then .exc cc (.str xc.name :: xs) ρ s else .stuck := by
      funext ρ s
      show (evEs P (callD P k) as ρ s).st ρ (fun xs s => match P.xcls[cc]? with
        | some x => if xs.length = x.fs.length then RS.exc cc (.str x.name :: xs) ρ s else RS.stuck
        | none => RS.stuck) = _
      rw [e1]
    rw [ev]
    cases es with
    | nil =>
      cases as with
      | nil => exact ss_raise0 O c.e.eK c.e.calm hr c.e.takes (gl_of c.e h1) (nm_of h2).1
      | cons _ _ => simp [ckEs] at h3
    | cons e es => exact ss_raise O c.e.eK c.e.calm hr c.e.takes (gl_of c.e h1) (nm_of h2).1 (ckEs_ns h3) ha
/-- two rows of statements -/
theorem execs_append {env : PySem.Env} : ∀ (a b : List Stmt), execs (a ++ b) env = (execs a env >>= fun f => match f with
    | .next => execs b env
    | f => pure f)
  | [], b => by
    show execs b env = _
    unfold execs
    rw [pure_bind]
  | st :: a, b => by
    show execs (st :: (a ++ b)) env = _
    rw [execs_cons, execs_cons, bind_assoc]
    congr 1
    funext f
    cases f with
    | next => exact execs_append a b
    | _ => rw [pure_bind]
theorem pss_append {X : Cx} {a b : List Stmt} {t u : TS} (h1 : PSs X a t) (h2 : PSs X b u) : PSs X (a ++ b) (tSeq t u) := by
  refine ⟨fun pins s σ H D I h => ?_⟩
  rw [execs_append]
  refine wpAny_bind (thn (h1.run pins s σ H { D with nx := u D } I h) fun f s1 q => ?_)
  cases f with
  | next =>
    obtain ⟨σ', H', I', q⟩ := q
    exact h2.run pins s1 σ' H' D I' q
  | _ => exact wpAny_pure q
theorem ss_append {X : Cx} {sts sts' : List Stmt} {g1 g2 : G.Env → Stt → RS} (h1 : PSs X sts (dS Γ W g1)) (h2 : PSs X sts' (dS Γ W g2)) : PSs X (sts ++ sts') (dS Γ W fun ρ s => (g1 ρ s).seq fun ρ s => g2 ρ s) := (pss_append h1 h2).mono fun D σ H ⟨φ, ρ, s, er, rel, go⟩ => by
  refine ⟨φ, ρ, s, er, rel, ?_⟩
  have q := go.seq
  cases e : g1 ρ s with
  | nx ρ1 s1 =>
    rw [e] at q
    exact fun φ1 H1 σ1 a r e => let ⟨ρ', s', φ', x1, x2, x3⟩ := q φ1 H1 σ1 a r e; ⟨φ', ρ', s', x1, x2, x3⟩
  | bk ρ1 s1 => rw [e] at q; exact q
  | ct ρ1 s1 => rw [e] at q; exact q
  | rt d s1 => rw [e] at q; exact q
  | exc c fs ρ1 s1 => rw [e] at q; exact q
  | stuck => rw [e] at q; exact q
theorem ss_scope {X : Cx} {sts : List Stmt} {g : G.Env → Stt → RS} (h : PSs X sts (dS Γ W g)) : PSs X sts (dS Γ W fun ρ s => cleanS s.length (g ρ s)) := h.mono fun D σ H ⟨φ, ρ, s, er, rel, go⟩ => by
  refine ⟨φ, ρ, s, er, rel, ?_⟩
  cases e : g ρ s with
  | nx ρ1 s1 =>
    simp only [e, cleanS] at go
    split at go
    · exact go
    · split at go
      · rename_i hu
        intro φ' H' σ' x r er'
        obtain ⟨ψ, e1, f⟩ := x.grow
        have e2 : (φ'.cutAt s.length).cs = φ.cs := by
          show φ'.cs.take s.length = φ.cs
          rw [e1, ← rel.len, List.take_left']
          rfl
        have A : After φ H (φ'.cutAt s.length) H' := ⟨⟨[], by rw [e2]; simp, fun _ h => nomatch h⟩, x.hid, x.keep, x.tups, x.frzs, x.there⟩
        refine go _ H' σ' A (r.trunc hu) ⟨by rw [List.length_map]; exact er'.1, fun i d hd => ?_⟩
        rw [List.getElem?_map] at hd
        cases e3 : ρ1[i]? with
        | none => rw [e3] at hd; cases hd
        | some o =>
          rw [e3] at hd
          cases o with
          | none => cases hd
          | some d0 =>
            have hd : G.D.freeze s.length s1 d0 = some d := by simpa using hd
            obtain ⟨v, q1, q2⟩ := er'.2 i d0 e3
            exact ⟨v, q1, Rep.freeze r hd q2⟩
      · exact go.elim
  | _ => simp only [e, cleanS] at go; exact go
theorem ss_fresh {X : Cx} {sts : List Stmt} {g : G.Env → Stt → RS} (h : PSs X sts (dS Γ W g)) : PSs X sts (dS Γ W fun ρ s => freshS s.length (g ρ s)) := h.mono fun D σ H ⟨φ, ρ, s, er, rel, go⟩ => by
  refine ⟨φ, ρ, s, er, rel, ?_⟩
  cases e : g ρ s with
  | rt d s1 =>
    simp only [e] at go
    cases d with
    | ref m =>
      simp only [freshS] at go
      split at go
      · rename_i hm
        split at go
        · rename_i xs hx
          split at go
          · rename_i hu
            intro φ' H' v x r hv
            obtain ⟨ψ, e1, f⟩ := x.grow
            cases hv with
            | ref hp =>
              rename_i a
              have e2 : φ'.cs.take s.length = φ.cs := by
                rw [e1, ← rel.len, List.take_left']
                rfl
              have hl : m < φ'.cs.length := (List.getElem?_eq_some_iff.mp hp).1
              have ha : a ∈ ψ := by
                rw [e1, List.getElem?_append_right (by rw [rel.len]; exact hm)] at hp
                exact List.mem_of_getElem? hp
              have A : After φ H (φ'.cutTo s.length a) H' := ⟨⟨[a], by show φ'.cs.take s.length ++ [a] = _; rw [e2], fun b hb => by rw [List.mem_singleton.mp hb]; exact f a ha⟩, x.hid, x.keep, x.tups, x.frzs, x.there⟩
              refine go _ H' (.ref a) A (r.cutTo hu.2 hm hp hx hu.1) (.ref ?_)
              show (φ'.cs.take s.length ++ [a])[s.length]? = some a
              have lt : (φ'.cs.take s.length).length = s.length := by rw [List.length_take]; omega
              rw [List.getElem?_append_right (by omega), lt, Nat.sub_self]
              rfl
          · exact go.elim
        · exact go.elim
      · exact go.elim
    | _ => exact go.elim
  | _ => simp only [e, freshS] at go; exact go
mutual
theorem sS (m : S) : ∀ {X : Cx} {st : Stmt}, CxS P Γ k N lm sc W X → ckS P N lm sc m st = true → PS X st (dS Γ W (evS P (callD P k) m)) := by
  intro X st c h
  cases m with
  | set i e =>
    unfold ckS at h
    split at h <;> first | contradiction | skip
    rename_i heq
    cases heq
    simp only [Bool.and_eq_true, decide_eq_true_eq] at h
    exact pSet c h.1.1.1.1 h.1.1.1.2 h.1.1.2 h.1.2 h.2
  | par is as =>
    unfold ckS at h
    split at h <;> first | contradiction | skip
    rename_i heq
    cases heq
    rw [Bool.and_eq_true] at h
    exact pPar c h.1 h.2
  | unp is e =>
    unfold ckS at h
    split at h <;> first | contradiction | skip
    rename_i heq
    cases heq
    simp only [Bool.and_eq_true, decide_eq_true_eq] at h
    obtain ⟨⟨⟨⟨h1, h2⟩, h3⟩, h4⟩, h5⟩ := h
    refine (ss_unp c.e.calm c.e.eK rfl h1 (tgC_pg c h2) h3 h4 (sE e c.e h5)).mono fun D σ H ⟨φ, ρ, s, er, rel, go⟩ => ⟨φ, ρ, s, er, rel, ?_⟩
    have ee : (fun (x : G.D) (s : Stt) => (match x with
      | .tup xs => if is.length = xs.length then RS.nx ((is.zip xs).foldl (fun ρ p => ρ.set p.1 (some p.2)) ρ) s else RS.stuck
      | _ => RS.stuck)) = fun x s => (match tgF is x ρ with
      | some ρ' => RS.nx ρ' s
      | none => RS.stuck) := by
      funext x s
      match is, h1 with
      | _ :: _ :: _, _ =>
        cases x <;> try rfl
        simp only [tgF]
        split <;> rfl
    exact Eq.mp (congrArg (fun f => GoS Γ W φ H ((evE P (callD P k) e ρ s).st ρ f) D) ee) go
  | unpl is e =>
    unfold ckS at h
    split at h <;> first | contradiction | skip
    rename_i heq
    cases heq
    simp only [Bool.and_eq_true] at h
    obtain ⟨⟨⟨h2, h3⟩, h4⟩, h5⟩ := h
    exact ss_unpl c.e.eK rfl (tgC_pl c h2) h3 h4 (sE e c.e h5)
  | setix o i e =>
    unfold ckS at h
    split at h <;> first | contradiction | skip
    rename_i heq
    cases heq
    simp only [Bool.and_eq_true, decide_eq_true_eq] at h
    exact ss_setix h.1.1.1.1 h.1.1.1.2 (sE o c.e h.1.1.2) (sE i c.e h.1.2) (sE e c.e h.2)
  | dset o i e =>
    unfold ckS at h
    split at h <;> first | contradiction | skip
    rename_i heq
    cases heq
    simp only [Bool.and_eq_true, decide_eq_true_eq] at h
    exact ss_dset c.e.hu h.1.1.1 (sE o c.e h.1.1.2) (sE i c.e h.1.2) (sE e c.e h.2)
  | aug i o e =>
    unfold ckS at h
    split at h <;> first | contradiction | skip
    rename_i heq
    cases heq
    simp only [Bool.and_eq_true, decide_eq_true_eq] at h
    exact ss_aug (by rw [c.e.eN]; exact c.e.nd) (by rw [c.e.eN]; exact h.1.1) (loc_or c.e h.1.2) (.inl (c.fn _)) (sE e c.e h.2)
  | expr e =>
    unfold ckS at h
    split at h <;> first | contradiction | skip
    rename_i heq
    cases heq
    simp only [Bool.and_eq_true] at h
    exact ss_expr h.1 (sE e c.e h.2)
  | ret e =>
    unfold ckS at h
    split at h <;> first | contradiction | skip
    rename_i heq
    cases heq
    exact ss_ret (sE e c.e h)
  | retN =>
    unfold ckS at h
    split at h <;> first | contradiction | skip
    exact ss_retN
  | ite d a b =>
    cases st <;> try simp only [ckS, Bool.false_eq_true, Bool.and_eq_true] at h
    exact ss_if (sT d c.e h.1.1) (sSs a c h.1.2) (sSs b c h.2)
  | «for» tg kk src b =>
    obtain ⟨t, it, b', pos, rfl, h1, h2, h3, h4⟩ := inv_for h
    obtain ⟨g, hg, tk⟩ := tgC_ok c h2
    exact ss_for c.po c.e.calm (sI kk src c.e h3) tk hg (sSs b c h4) (folded h1)
  | «while» d b =>
    obtain ⟨d', b', pos, rfl, h1, h2⟩ := inv_while h
    exact ss_while c.po (sT d c.e h1) (sSs b c h2) WF
  | pass =>
    cases st <;> simp only [ckS, Bool.false_eq_true] at h
    exact ss_pass
  | brk =>
    cases st <;> simp only [ckS, Bool.false_eq_true] at h
    exact ss_brk
  | cont =>
    cases st <;> simp only [ckS, Bool.false_eq_true] at h
    exact ss_cont
  | raise cc as =>
    unfold ckS at h
    split at h <;> first | contradiction | skip
    rename_i heq
    cases heq
    simp only [Bool.and_eq_true] at h
    obtain ⟨⟨⟨h0, h1⟩, h2⟩, h3⟩ := h
    exact pRaise c h0 h1 h2 h3 (sEs as c.e h3)
  | setfld o f e =>
    unfold ckS at h
    split at h <;> first | contradiction | skip
    rename_i heq
    cases heq
    simp only [Bool.and_eq_true, decide_eq_true_eq] at h
    obtain ⟨⟨rfl, h1⟩, h2⟩ := h
    exact ss_setfld c.e.ocs (sE o c.e h1) (sE e c.e h2)
  | unpfld i fs e =>
    unfold ckS at h
    split at h <;> first | contradiction | skip
    rename_i heq
    cases heq
    simp only [Bool.and_eq_true] at h
    obtain ⟨⟨⟨h1, h2⟩, h3⟩, h4⟩ := h
    refine ss_unpfld c.e.ocs (fun x p n1 n2 => ?_) c.e.calm c.e.eK h1 h2 h3 (sE e c.e h4)
    rw [Bool.and_eq_true] at n2
    exact pe_var (by rw [c.e.eN]; exact n1) (vis_of c.e n2.1) (nm_of n2.2).1 (nm_of n2.2).2
  | forc tg e b =>
    obtain ⟨t, it, b', pos, rfl, h1, h2, h3, h4⟩ := inv_forc h
    obtain ⟨g, hg, tk⟩ := tgC_ok c h2
    exact ss_forc c.e.eK c.po c.e.calm (sE e c.e h3) tk hg (sSs b c h4) (folded h1)
  | fore tg src b =>
    obtain ⟨t, it, b', pos, rfl, h1, h2, h3, h4⟩ := inv_fore h
    match src with
    | [] => simp [ckI] at h3
    | [a] =>
      obtain ⟨es, kk, tp, x, p, e', ipos, rfl, rfl, rfl, k1, k2, k3⟩ := inv_en h3
      obtain ⟨g, hg, tk⟩ := tgC_ok c h2
      exact ss_fore c.e.eK c.po c.e.calm (gl_of c.e k1) (c.e.mgb _ (by decide +kernel)) k2 (s_cons k2 (sE a c.e k3) s_nil) tk hg (sSs b c h4) (folded h1)
    | _ :: _ :: _ => simp [ckI] at h3
  | never => exact ss_never
  | scope b => exact absurd h (by unfold ckS; exact Bool.false_ne_true)
  | fresh b => exact absurd h (by unfold ckS; exact Bool.false_ne_true)
theorem sSs (ms : List S) : ∀ {X : Cx} {sts : List Stmt}, CxS P Γ k N lm sc W X → ckSs P N lm sc ms sts = true → PSs X sts (dS Γ W (evSs P (callD P k) ms)) := by
  intro X sts c h
  cases ms with
  | nil =>
    cases sts <;> simp only [ckSs, Bool.false_eq_true] at h
    exact ss_nil
  | cons m ms =>
    cases sts with
    | nil => simp only [ckSs, Bool.false_eq_true] at h
    | cons st sts =>
      simp only [ckSs, Bool.or_eq_true, Bool.and_eq_true] at h
      rcases h with h | h
      · exact ss_cons (sS m c h.1) (sSs ms c h.2)
      · have q := ss_append (sM m c h.1) (sSs ms c h.2)
        rw [List.take_append_drop] at q
        exact q
theorem sM (m : S) : ∀ {X : Cx} {sts : List Stmt}, CxS P Γ k N lm sc W X → ckM P N lm sc m sts = true → PSs X sts (dS Γ W (evS P (callD P k) m)) := by
  intro X sts c h
  cases m <;> simp only [ckM, Bool.false_eq_true] at h
  · exact ss_scope (sSs _ c h)
  · exact ss_fresh (sSs _ c h)
end
end
end G
set_option Elab.async false
set_option linter.all false
set_option maxRecDepth 100000
set_option maxHeartbeats 0
namespace G
open PySem L2
end G
set_option Elab.async false
set_option linter.all false
set_option maxRecDepth 100000
set_option maxHeartbeats 0
namespace G
open PySem L2
section
variable {Γ : Gm} {φ : Fx} {H : Hp}
theorem Reps.ofLen {vs : List V} {ds : List D} (r : Reps Γ φ H vs ds) (N : List Str) : ER Γ φ H (L2.start N vs) (ds.map some ++ List.replicate (N.length - ds.length) none) := by
  refine ⟨by simp [L2.start, r.len], fun i d h => ?_⟩
  by_cases hi : i < ds.length
  · rw [List.getElem?_append_left (by simpa using hi), List.getElem?_map] at h
    cases e : ds[i]? with
    | none => rw [e] at h; cases h
    | some d' =>
      rw [e] at h
      cases h
      obtain ⟨v, h1, h2⟩ := r.get e
      refine ⟨v, ?_, h2⟩
      unfold L2.start
      rw [List.getElem?_append_left (by simpa [r.len] using hi), List.getElem?_map, h1]
      rfl
  · rw [List.getElem?_append_right (by simpa using hi)] at h
    have := List.mem_of_getElem? h
    simp at this
/-- what the written text shows of a def: its terms are mine -/
def ckDef (P : Prog) (df : Def) (st : Stmt) : Bool := scB df.N df.ps (defScope st) && ckSs P df.N df.lam (defScope st) df.body (defBody st)
end
/-- the table of a def in which lambdas stand -/
def LamF (Γ : Gm) (mg : Str → Option Value) (base : Heap) (qual : Str) (fd : FuncData) : Prop := ∃ c T, fd.code = .ref c ∧ LamX.TabB base mg c T ∧ (T, (qual ++ ".<locals>.") ++ "<lambda>") ∈ Γ.T ∧ ∀ p ∈ Γ.T, p.1 = T → p.2 = (qual ++ ".<locals>.") ++ "<lambda>"
/-- what of the top is known -/
structure Top (prog : Program) (w : World) (Γ : Gm) (mg : Str → Option Value) (base : Heap) (P : Prog) : Prop where
  mgb : ∀ x ∈ bnames, mg x = none
  con : ∀ (g : Nat) x d, P.consts[g]? = some (x, d) → ∃ v u, mg x = some u ∧ RelV v u ∧ ∀ φ H, Rep Γ φ H v d
  def_ : ∀ (f : Nat) df, P.defs[f]? = some df → ∃ x qual st dvs kws a fd, FunD Γ.K x qual (defArgs st) (defBody st) (defScope st) dvs kws a fd ∧ ckDef P df st = true ∧ ((df.own = none → mg df.name = some (.ref a)) ∧ ∀ z, df.own = some z → ∃ C, mg z = some (.ref C) ∧ Meth Γ.K C df.name a) ∧ ((df.pos = true → Binds Γ.K fd df.ps []) ∧ ∀ sh ∈ P.shapes, sh.f = f → ShOk Γ Γ.K fd df.ps sh) ∧ (df.lam = true → LamF Γ mg base qual fd)
  xc : ∀ (c : Nat) x, P.xcls[c]? = some x → ∃ C, XOk Γ prog w mg base c x C
  told : ∀ (j : Nat) td, P.tolds[j]? = some td → ToldOk P Γ mg td
  ocs : OcsOk P Γ Γ.K mg
  ew : w = Γ.w
section
variable {prog : Program} {w : World} {Γ : Gm} {mg : Str → Option Value} {base : Heap} {P : Prog}
theorem callD_ok {k f : Nat} {df : Def} (hf : P.defs[f]? = some df) {ds : List D} {s : Stt} (hl : ds.length = df.ps.length) : callD P (k + 1) f ds s = (match evSs P (callD P k) df.body (ds.map some ++ List.replicate (df.N.length - ds.length) none) s with
      | .rt d s' => leave df.keep s.length d s'
      | .nx _ s' => leave df.keep s.length .non s'
      | .exc c fs _ s' => leaveX s.length c fs s'
      | _ => .stuck) := by
  unfold callD
  rw [hf]
  exact if_pos hl
theorem all_ok (T : Top prog w Γ mg base P) : ∀ (k f : Nat) (df : Def), P.defs[f]? = some df → ∃ a fd, ((df.own = none → mg df.name = some (.ref a)) ∧ ∀ z, df.own = some z → ∃ C, mg z = some (.ref C) ∧ Meth Γ.K C df.name a) ∧ PySem.W.keepIn Γ.K (.ref a) = true ∧ FnOk prog w Γ.K mg base (L2.CX prog w) (4 * k + 3) a fd df.ps (spD Γ df.ps.length (callD P k f)) ∧ (df.pos = true → Binds Γ.K fd df.ps []) ∧ (∀ sh ∈ P.shapes, sh.f = f → ShOk Γ Γ.K fd df.ps sh) ∧ ∃ oc od osl, Γ.K.lookup a = some ⟨oc, od, .func fd, osl⟩ := by
  intro k
  induction k with
  | zero =>
    intro f df hf
    obtain ⟨x, qual, st, dvs, kws, a, fd, F, hc, hm, ⟨hb, hs⟩, hlam⟩ := T.def_ f df hf
    have lk : ∃ oc od osl, Γ.K.lookup a = some ⟨oc, od, .func fd, osl⟩ := by
      obtain ⟨oc, od, _, _, _, _, _, _, _, osl, _, lk, _⟩ := F.ex
      exact ⟨oc, od, osl, lk⟩
    exact ⟨a, fd, hm, F.kp, ⟨fun _ _ _ _ h => spD_len h, fun _ _ _ _ _ _ _ _ _ _ _ _ _ ⟨_, _, _, _, _, _, go⟩ => go.elim⟩, hb, hs, lk⟩
  | succ k ih =>
    intro f df hf
    obtain ⟨x, qual, st, dvs, kws, a, fd, F, hc, hm, ⟨hb, hs⟩, hlam⟩ := T.def_ f df hf
    unfold ckDef at hc
    rw [Bool.and_eq_true] at hc
    have S := scB_ok hc.1
    have lk : ∃ oc od osl, Γ.K.lookup a = some ⟨oc, od, .func fd, osl⟩ := by
      obtain ⟨oc, od, _, _, _, _, _, _, _, osl, _, lk, _⟩ := F.ex
      exact ⟨oc, od, osl, lk⟩
    refine ⟨a, fd, hm, F.kp, ?_, hb, hs, lk⟩
    clear lk
    obtain ⟨oc, od, dV, kV, doc, pm, an, cdv, ct, osl, rfl, lk, hcd, _, _⟩ := F.ex
    have lv : 4 * (k + 1) + 3 = (4 * k + 6) + 1 := by omega
    rw [lv]
    refine fn_of lk hcd S (fun _ _ _ _ h => spD_len h) fun A outer s0 H vs Q E hr hsp => ?_
    have hr3 := hr.mono (show 4 * k + 4 ≤ 4 * k + 6 by omega)
    have cE : CxE P Γ k df.N df.lam (defScope st) (fun cls dd _ H => E cls dd H) (cxOf (L2.CX prog w) prog w Γ.K mg base df.N qual (defScope st) a cdv A outer s0 H E) :=
      ⟨rfl, T.ew, rfl, S.nd, rfl, S.kind, rfl, hr3, takes_of rfl rfl rfl rfl, T.mgb, T.con, (fun g dg hg => by
        obtain ⟨a, fd, h1, h2, h3, h4, h5, _⟩ := ih g dg hg
        exact ⟨a, fd, h1.1, h2, h3, h4, h5, h1.2⟩), T.xc, fun hl => by
        obtain ⟨c, t, e1, e2, e3, e4⟩ := hlam hl
        exact ⟨hr, ⟨c, t, e1, e2, e3, e4⟩, T.told⟩, T.ocs⟩
    have cS : CxS P Γ k df.N df.lam (defScope st) (fun cls dd _ H => E cls dd H) (cxOf (L2.CX prog w) prog w Γ.K mg base df.N qual (defScope st) a cdv A outer s0 H E) :=
      ⟨cE, passes_of rfl, fun _ => rfl⟩
    refine ⟨_, sSs df.body cS hc.2, ?_⟩
    obtain ⟨φ, s, ds, hl, reps, rel, go⟩ := hsp
    refine ⟨φ, _, s, reps.ofLen df.N, rel, ?_⟩
    rw [callD_ok hf hl] at go
    cases e : evSs P (callD P k) df.body (ds.map some ++ List.replicate (df.N.length - ds.length) none) s with
    | nx ρ s' => rw [e] at go; exact fun φ' H' σ' x r er => Go.leave rel go x r .non
    | rt d s' => rw [e] at go; exact fun φ' H' v x r hv => Go.leave rel go x r hv
    | bk ρ s' => rw [e] at go; exact go.elim
    | ct ρ s' => rw [e] at go; exact go.elim
    | exc c fs ρ s' => rw [e] at go; exact fun φ' H' σ' cls dd x r er q => Go.leaveX rel go x r q
    | stuck => rw [e] at go; exact go.elim
end
/-- the facts of the defs, one behind another -/
inductive AllF (R : Nat → Def → Prop) : Nat → List Def → Prop
  | nil {n : Nat} : AllF R n []
  | cons {n : Nat} {d : Def} {ds : List Def} : R n d → AllF R (n + 1) ds → AllF R n (d :: ds)
theorem AllF.get {R : Nat → Def → Prop} : ∀ {n : Nat} {ds : List Def}, AllF R n ds → ∀ (f : Nat) df, ds[f]? = some df → R (n + f) df
  | _, _, .nil, f, df, h => by simp at h
  | _, _, .cons a b, 0, df, h => by simp at h; subst h; exact a
  | n, _, .cons a b, f + 1, df, h => by
    have := AllF.get b f df (by simpa using h)
    rw [Nat.add_right_comm] at this
    exact this
/-- the law's end: what its def tells of every script -/
theorem law_sp {Γ : Gm} {P : Prog} {k f : Nat} (H : Hp) (a : Addr) (ns : List Int) (h : ∃ s', callD P k f [.scr ns] [] = .ok (.bl true) s') (hT : LamX.Tabs Γ.T H) (hS : SqL Γ.K H a (ns.map V.int)) :
    spD Γ 1 (callD P k f) [.ref a] H (fun v _ => v = .bl true) fun _ _ _ => False := by
  obtain ⟨s', e⟩ := h
  refine ⟨⟨[], []⟩, [], [.scr ns], rfl, .cons ?_ .nil, ⟨rfl, List.nodup_nil, fun _ h => (nomatch h), fun _ h => (nomatch h), fun m a c h => by simp at h, hT⟩, ?_⟩
  · rcases hS with (hS | hS) | hS
    · exact .scrL hS ⟨(fun z => nomatch z), fun z => nomatch z⟩
    · exact .scr (.inl hS)
    · exact .scr (.inr hS)
  · rw [e]
    intro φ' H' x r v hv
    cases hv
    rfl
end G
set_option Elab.async false
set_option linter.all false
set_option maxRecDepth 100000
set_option maxHeartbeats 0
namespace G
open PySem L2
mutual
theorem repB_ok {Γ : Gm} : ∀ {d : D} {u : Value}, repB Γ.K d u = true → RelV (vOf u) u ∧ ∀ φ H, Rep Γ φ H (vOf u) d
  | .non, u, h => by
    cases u <;> first | (cases h; done) | exact ⟨rfl, fun _ _ => .non⟩
  | .bl b, u, h => by
    cases u <;> first | (cases h; done) | skip
    have e := eq_of_beq h
    subst e
    exact ⟨rfl, fun _ _ => .bl _⟩
  | .int i, u, h => by
    cases u <;> first | (cases h; done) | skip
    have e := of_decide_eq_true h
    subst e
    exact ⟨He.relB_ok (show He.relB (.int i) _ = true from decide_eq_true rfl), fun _ _ => .int _⟩
  | .str t, u, h => by
    cases u <;> first | (cases h; done) | skip
    have e := of_decide_eq_true h
    subst e
    exact ⟨He.relB_ok (show He.relB (.str (tS t)) _ = true from decide_eq_true rfl), fun _ _ => .str _⟩
  | .tup ds, u, h => by
    cases u <;> first | (cases h; done) | skip
    rename_i a
    refine ⟨rfl, fun φ H => ?_⟩
    unfold repB at h
    split at h
    · rename_i c od its n sl q
      simp only [Bool.and_eq_true, decide_eq_true_eq] at h
      obtain ⟨vs, h1, h2⟩ := repsB_ok h.2.2
      refine .tup (xs := vs) (.inr ⟨_, its, n, q, congrArg Value.type h.1, rfl, h.2.1, h1⟩) (h2 φ H)
    · cases h
  | .lst _, u, h => by cases u <;> cases h
  | .scr _, u, h => by cases u <;> cases h
  | .ins _ _, u, h => by cases u <;> cases h
  | .ref _, u, h => by cases u <;> cases h
  | .dfn _, u, h => by cases u <;> cases h
theorem repsB_ok {Γ : Gm} : ∀ {ds : List D} {us : List Value}, repsB Γ.K ds us = true → ∃ vs, Vals vs us ∧ ∀ φ H, Reps Γ φ H vs ds
  | [], [], _ => ⟨[], .nil, fun _ _ => .nil⟩
  | [], _ :: _, h => by cases h
  | _ :: _, [], h => by cases h
  | d :: ds, u :: us, h => by
    simp only [repsB, Bool.and_eq_true] at h
    obtain ⟨h1, h2⟩ := repB_ok h.1
    obtain ⟨vs, h3, h4⟩ := repsB_ok h.2
    exact ⟨_, .cons h1 h3, fun φ H => .cons (h2 φ H) (h4 φ H)⟩
end
theorem cl_ok {P : Prog} {Γ : Gm} {mg : Str → Option Value} {h : Heap} {c : Nat} {oc : OCls} (X : Γ.K.In h) (N : h.Ns mainGlobals mg) (hcl : Γ.cls c = some (He.ga Γ.K oc.name, oc.fs)) (hb : clB P Γ.K oc = true) : OcOk P Γ Γ.K mg c oc (He.ga Γ.K oc.name) := by
  unfold clB at hb
  simp only [Bool.and_eq_true, decide_eq_true_eq, List.all_eq_true] at hb
  obtain ⟨⟨⟨⟨⟨⟨⟨⟨⟨⟨⟨⟨⟨⟨⟨⟨h0, h1⟩, h2⟩, h3⟩, h4⟩, h5⟩, h6⟩, h7⟩, h8⟩, h9⟩, h10⟩, h11⟩, h12⟩, h13⟩, h14⟩, h15⟩, h16⟩ := hb
  refine ⟨hcl, h8, h9, PySem.W.mg_of X N (He.eqO_ok h0), ⟨h1, h2, h3, He.eqO_ok h4⟩, fun f hf => He.eqO_ok (h5 f hf), h6, h7, ?_, h10, ⟨He.eqO_ok h11, He.eqO_ok h12, h13, h14⟩, fun m g hg => ?_⟩
  · cases e : P.defs[oc.init]? with
    | none => rw [e] at h15; cases h15
    | some df =>
      rw [e] at h15
      simp only [Bool.and_eq_true, decide_eq_true_eq] at h15
      exact ⟨df, rfl, h15.1.1, h15.1.2, h15.2⟩
  · have mem : (m, g) ∈ oc.meths := by
      have : ∀ {l : List (Str × Nat)}, l.lookup m = some g → (m, g) ∈ l := by
        intro l
        induction l with
        | nil => intro h; cases h
        | cons q l ih =>
          intro h
          obtain ⟨a, b⟩ := q
          rw [List.lookup_cons] at h
          cases e : m == a with
          | true =>
            rw [e] at h
            cases h
            rw [eq_of_beq e]
            exact List.mem_cons_self
          | false =>
            rw [e] at h
            exact List.mem_cons_of_mem _ (ih h)
      exact this hg
    obtain ⟨q1, q2⟩ := h16 _ mem
    refine ⟨by simpa using q1, ?_⟩
    cases e : P.defs[g]? with
    | none => simp only [e] at q2; cases q2
    | some df =>
      simp only [e, Bool.and_eq_true, decide_eq_true_eq] at q2
      exact ⟨df, rfl, q2.1.1, q2.1.2, q2.2⟩
theorem conB_ok {Γ : Gm} {mg : Str → Option Value} {h : Heap} (X : Γ.K.In h) (N : h.Ns mainGlobals mg) {x : Str} {d : D} (c : conB Γ.K x d = true) : ∃ v u, mg x = some u ∧ RelV v u ∧ ∀ φ H, Rep Γ φ H v d := by
  unfold conB at c
  split at c
  · rename_i u q
    obtain ⟨h1, h2⟩ := repB_ok c
    exact ⟨_, u, PySem.W.mg_of X N q, h1, h2⟩
  · cases c
theorem Vals.app {vs ws : List V} {us zs : List Value} (h1 : Vals vs us) (h2 : Vals ws zs) : Vals (vs ++ ws) (us ++ zs) := h1.append h2
/-- what is to be shown of the f-th def -/
def LamT (Γ : Gm) (cs : List (Addr × Addr)) (qual : Str) (fd : FuncData) : Prop := ∃ c T, fd.code = .ref c ∧ (c, T) ∈ cs ∧ (T, (qual ++ ".<locals>.") ++ "<lambda>") ∈ Γ.T ∧ ∀ p ∈ Γ.T, p.1 = T → p.2 = (qual ++ ".<locals>.") ++ "<lambda>"
def DefOk (Γ : Gm) (mg : Str → Option Value) (P : Prog) (cs : List (Addr × Addr)) (f : Nat) (df : Def) : Prop := ∃ x qual st dvs kws a fd, FunD Γ.K x qual (defArgs st) (defBody st) (defScope st) dvs kws a fd ∧ ckDef P df st = true ∧ ((df.own = none → mg df.name = some (.ref a)) ∧ ∀ z, df.own = some z → ∃ C, mg z = some (.ref C) ∧ Meth Γ.K C df.name a) ∧ ((df.pos = true → Binds Γ.K fd df.ps []) ∧ ∀ sh ∈ P.shapes, sh.f = f → ShOk Γ Γ.K fd df.ps sh) ∧ (df.lam = true → LamT Γ cs qual fd)
theorem defOk {Γ : Gm} {mg : Str → Option Value} {P : Prog} {h : Heap} {fn : List He.DefD} {ex : PySem.W.Frag → Bool} {cs : List (Addr × Addr)} (X : Γ.K.In h) (N : h.Ns mainGlobals mg) (c : SaysG (faOf P) fn ex Γ.K) (f : Nat) {df : Def} {x : Str} {st : Stmt} {dfl : List He.Dv} {kwd : List (Str × He.Dv)}
    (hf : P.defs[f]? = some df) (hx : df.name = x) (ho : df.own = none) (h2 : fn[f]? = some (ddOf x st dfl kwd)) (h3 : ckDef P df st = true)
    (hb : ∀ {fd : FuncData}, FunD Γ.K x x (defArgs st) (defBody st) (defScope st) (dfl.map (He.Dv.v Γ.K)) (kwd.map fun q => (q.1, q.2.v Γ.K)) (He.ga Γ.K x) fd → (df.pos = true → Binds Γ.K fd df.ps []) ∧ ∀ sh ∈ P.shapes, sh.f = f → ShOk Γ Γ.K fd df.ps sh) (hl : ∀ {fd : FuncData}, FunD Γ.K x x (defArgs st) (defBody st) (defScope st) (dfl.map (He.Dv.v Γ.K)) (kwd.map fun q => (q.1, q.2.v Γ.K)) (He.ga Γ.K x) fd → df.lam = true → LamT Γ cs x fd) : DefOk Γ mg P cs f df := by
  obtain ⟨fd, F⟩ := c.1.def_ f h2
  have F : FunD Γ.K x x (defArgs st) (defBody st) (defScope st) (dfl.map (He.Dv.v Γ.K)) (kwd.map fun q => (q.1, q.2.v Γ.K)) (He.ga Γ.K x) fd := F
  obtain ⟨b1, b2⟩ := hb F
  have g : mg x = some (.ref (He.ga Γ.K x)) := by
    refine He.glo_ok X N (c.1.facts (List.mem_append_left _ (List.mem_append_left _ ?_)))
    rw [← hx]
    exact List.mem_map_of_mem (f := fun d : Def => He.Fa.glo d.name) (List.mem_filter.mpr ⟨List.mem_of_getElem? hf, by rw [ho]; rfl⟩)
  exact ⟨x, x, st, _, _, _, fd, F, h3, ⟨fun _ => by rw [hx]; exact g, fun z hz => by rw [ho] at hz; cases hz⟩, ⟨b1, b2⟩, hl F⟩
theorem exG_parts {P : Prog} {dv : List (He.Dv × D)} {lam : List Str} {K : PySem.W.Frag} (h : exG P dv lam K = true) : (∀ q ∈ P.consts, conB K q.1 q.2 = true) ∧ (∀ q ∈ dv, dvB K q.1 q.2 = true) ∧ (∀ x ∈ P.xcls, xcB K x = true) ∧ (P.xcls.isEmpty = true ∨ stB K = true) ∧ (∀ td ∈ P.tolds, tdB P K td = true) ∧ tabsU K lam = true ∧ (∀ oc ∈ P.cls, clB P K oc = true) ∧ mtsB P K = true := by
  unfold exG at h
  simp only [Bool.and_eq_true, List.all_eq_true, Bool.or_eq_true] at h
  exact ⟨h.1.1.1.1.1.1.1, h.1.1.1.1.1.1.2, h.1.1.1.1.1.2, h.1.1.1.1.2, h.1.1.1.2, h.1.1.2, h.1.2, h.2⟩
theorem topOf {prog : Program} {w : World} {Γ : Gm} {mg : Str → Option Value} {P : Prog} {base h : Heap} {fn : List He.DefD} {dv : List (He.Dv × D)} {lam : List Str} {cs : List (Addr × Addr)} (X : Γ.K.In h) (N : h.Ns mainGlobals mg) (c : SaysG (faOf P) fn (exG P dv lam) Γ.K) (hd : AllF (DefOk Γ mg P cs) 0 P.defs)
    (hcl : ∀ (c : Nat) oc, P.cls[c]? = some oc → Γ.cls c = some (He.ga Γ.K oc.name, oc.fs)) (hx : ∀ (c : Nat) x, P.xcls[c]? = some x → ∃ C, XOk Γ prog w mg base c x C) (ht : ∀ (j : Nat) td, P.tolds[j]? = some td → ToldOk P Γ mg td) (hT : ∀ p ∈ cs, LamX.TabB base mg p.1 p.2) (ew : w = Γ.w := by rfl) : Top prog w Γ mg base P := by
  refine ⟨fun x hx => ?_, fun g x d hg => ?_, fun f df hf => ?_, hx, ht, fun cc oc hc => ⟨_, cl_ok X N (hcl cc oc hc) ((exG_parts c.2).2.2.2.2.2.2.1 oc (List.mem_of_getElem? hc))⟩, ew⟩
  · exact He.free_ok X N (c.1.facts (List.mem_append_right _ (List.mem_map_of_mem hx)))
  · exact conB_ok X N ((exG_parts c.2).1 _ (List.mem_of_getElem? hg))
  · have := hd.get f df hf
    rw [Nat.zero_add] at this
    obtain ⟨x, qual, st, dvs, kws, a, fd, F, h1, h2, h3, h4⟩ := this
    exact ⟨x, qual, st, dvs, kws, a, fd, F, h1, h2, h3, fun hl => let ⟨c, T, e1, e2, e3, e4⟩ := h4 hl; ⟨c, T, e1, hT _ e2, e3, e4⟩⟩
end G
namespace G
open PySem L2
def CXe : CXT := fun outer H s E u s' => ∃ P w, L2.CX P w outer H s E u s'
theorem cxe_no (H : Hp) (s : Shared) (e : Value) (s' : Shared) (h : CXe [] H s (fun _ _ _ => False) e s') : False := by
  obtain ⟨P, w, a, B, H', cls, d, _, _, _, _, _, _, _, z⟩ := h
  exact z
theorem FnOk.cxe {P : Program} {w : World} {K : PySem.W.Frag} {mg : Str → Option Value} {base : Heap} {k : Nat} {f : Addr} {fd : FuncData} {ps : List Str} {sp : Sp} (F : FnOk P w K mg base (L2.CX P w) k f fd ps sp) : FnOk P w K mg base CXe k f fd ps sp :=
  ⟨F.len, fun A outer s H args us vs Q E hr he hb hv hs => codeAny_mono (F.run A outer s H args us vs Q E hr he hb hv hs) fun r s' h => by
    cases r with
    | error e => exact ⟨P, w, h⟩
    | ok fl => cases fl <;> exact h⟩
inductive AllX (R : Nat → XCls → Prop) : Nat → List XCls → Prop
  | nil {n : Nat} : AllX R n []
  | cons {n : Nat} {d : XCls} {ds : List XCls} : R n d → AllX R (n + 1) ds → AllX R n (d :: ds)
theorem AllX.get {R : Nat → XCls → Prop} : ∀ {n : Nat} {ds : List XCls}, AllX R n ds → ∀ (f : Nat) df, ds[f]? = some df → R (n + f) df
  | _, _, .nil, f, df, h => by simp at h
  | _, _, .cons a b, 0, df, h => by simp at h; subst h; exact a
  | n, _, .cons a b, f + 1, df, h => by
    have := AllX.get b f df (by simpa using h)
    rw [Nat.add_right_comm] at this
    exact this
inductive AllT (R : Told → Prop) : List Told → Prop
  | nil : AllT R []
  | cons {d : Told} {ds : List Told} : R d → AllT R ds → AllT R (d :: ds)
theorem AllT.get {R : Told → Prop} : ∀ {ds : List Told}, AllT R ds → ∀ d ∈ ds, R d
  | _, .nil, _, h => nomatch h
  | _, .cons a b, d, h => by
    rcases List.mem_cons.mp h with e | e
    · rw [e]; exact a
    · exact AllT.get b d e
/-- a law's end over a head by facts, with tables -/
theorem walk_ofET {l : PySem.W.OpenLaw} {n k : Nat} {q : Program} {loose : List Str} {XP : (Str → Option Value) → Heap → Prop} {YP : World → Heap → Prop} {d : DefRec} {CX : CXT} {x : Str}
    (hn : l.most = some n) (hn2 : n ≤ sizeLine) (hdf : d.params.defaults = []) (hr : Room k callerA)
    (F : ∀ (w : World) (mg : Str → Option Value) (fa : Addr) (h : Heap), YP w h → h.Ns mainGlobals mg → mg d.name = some (.ref fa) →
      ∃ (K : PySem.W.Frag) (fd : FuncData) (cs : List (Addr × Addr)) (sp : Sp), K.In h ∧ (∀ p ∈ cs, h.get? p.2 = some { cls := .none, data := .fields #[] }) ∧ (∀ p ∈ cs, K.lookup p.2 = none) ∧ (∀ p ∈ cs, PySem.W.CodeHd h p.1 p.2) ∧ (∀ (s : Shared) (u : Value), BindsTo s fd ⟨[u], []⟩ [(x, u)]) ∧
        (∀ (H : Hp) (a : Addr) (ns : List Int), ns.length ≤ n → (∀ z ∈ ns, Builtin.Int.intBits z ≤ 1048576) → (∀ p ∈ cs, H p.2 = some (.tbl #[])) → SqL K H a (ns.map V.int) → sp [.ref a] H (fun v _ => v = .bl true) fun _ _ _ => False) ∧
        ∀ base : Heap, K.In base → base.Ns mainGlobals mg → (∀ p ∈ cs, LamX.TabB base mg p.1 p.2) → FnOk l.prog w K mg base CX k fa fd [x] sp)
    (hCX : ∀ (H : Hp) (s : Shared) (e : Value) (s' : Shared), CX [] H s (fun _ _ _ => False) e s' → False) :
    PySem.W.WalkO q loose XP YP l.row.toRowW d [] (fun f vs => PySem.call f vs) := by
  refine Att.attach_callB hn hdf fun w s₀ s₁ mg mb fa o pm cd doc a vs ns G Y ho hd hcd hmg hobj hints hlen hbits hg => ?_
  obtain ⟨K, fd, cs, sp, KX, hT, nT, C, hb, hsp, hF⟩ := F w mg fa _ Y G.T.g hmg
  exact LamX.law_callTs KX G.T.g G.T.b G.T.builtins G.T.nolimit hg hT nT C G.T.bmain hobj hints (Nat.le_trans hlen hn2) hr hF hb (fun H hH hS => hsp H a ns hlen hbits hH hS) fun H e s' => hCX H s₁ e s'
/-- the end: what the law's def answers is all that is left to be shown -/
theorem law_end {prog : Program} {w : World} {Γ : Gm} {mg : Str → Option Value} {h : Heap} {P : Prog} {k f : Nat} {df : Def} {a : Addr} {x : Str} {st : Stmt} {fd : FuncData} {n : Nat} {lam : List Str} (KX : Γ.K.In h) (tg : TabsG lam Γ.K h) (hTt : Γ.T = tOf Γ.K lam) (hm : mg x = some (.ref a)) (T : ∀ base : Heap, (∀ p ∈ csOf Γ.K lam, LamX.TabB base mg p.1 p.2) → Top prog w Γ mg base P)
    (hf : P.defs[f]? = some df) (hx : df.name = x) (ho : df.own = none) (hps : df.ps = [("_law_script" : Str)]) (F : FunD Γ.K x x (defArgs st) (defBody st) (defScope st) [] [] a fd)
    (hb : ∀ (kV doc pm : Value) (an : Option Addr) (cdv ct : Value) (us : List Value), us.length = ([("_law_script" : Str)] : List Str).length → bindArgs (PySem.W.fnOf x x (defArgs st) (defBody st) (defScope st) .none kV doc pm an cdv ct) ⟨us, []⟩ = pure (([("_law_script" : Str)] : List Str).zip us))
    (hs : ∀ ns : List Int, ns.length ≤ n → (∀ z ∈ ns, Builtin.Int.intBits z ≤ 1048576) → ∃ s', callD P k f [.scr ns] [] = .ok (.bl true) s')
    : ∃ (K : PySem.W.Frag) (fd : FuncData) (cs : List (Addr × Addr)) (sp : Sp), K.In h ∧ (∀ p ∈ cs, h.get? p.2 = some { cls := .none, data := .fields #[] }) ∧ (∀ p ∈ cs, K.lookup p.2 = none) ∧ (∀ p ∈ cs, PySem.W.CodeHd h p.1 p.2) ∧ (∀ (s : Shared) (u : Value), BindsTo s fd ⟨[u], []⟩ [(("_law_script" : Str), u)]) ∧
        (∀ (H : Hp) (a : Addr) (ns : List Int), ns.length ≤ n → (∀ z ∈ ns, Builtin.Int.intBits z ≤ 1048576) → (∀ p ∈ cs, H p.2 = some (.tbl #[])) → SqL K H a (ns.map V.int) → sp [.ref a] H (fun v _ => v = .bl true) fun _ _ _ => False) ∧
        ∀ base : Heap, K.In base → base.Ns mainGlobals mg → (∀ p ∈ cs, LamX.TabB base mg p.1 p.2) → FnOk prog w K mg base CXe (4 * k + 3) a fd [("_law_script" : Str)] sp := by
  have b := FunD.bindsA (ps := [("_law_script" : Str)]) F hb
  have look : ∀ p ∈ csOf Γ.K lam, ∃ x ∈ lam, PySem.W.tabIn Γ.K x = some p ∧ PySem.W.codeHdIn Γ.K p.1 p.2 = true ∧ h.get? p.2 = some (PySem.W.tabObj #[]) ∧ Γ.K.lookup p.2 = none := fun p hp => by
    obtain ⟨x, hx, e⟩ := List.mem_filterMap.mp hp
    obtain ⟨c, P, h1, h2, h3, h4⟩ := tg x hx
    rw [h1] at e
    cases e
    exact ⟨x, hx, h1, h2, h3, h4⟩
  refine ⟨Γ.K, fd, csOf Γ.K lam, spD Γ 1 (callD P k f), KX, fun p hp => let ⟨_, _, _, _, z, _⟩ := look p hp; z, fun p hp => let ⟨_, _, _, _, _, z⟩ := look p hp; z, fun p hp => let ⟨_, _, _, z, _⟩ := look p hp; PySem.W.codeHd_of_K KX z, fun s v => b s [v] rfl, fun H a ns hl hbits hT hS => law_sp H a ns (hs ns hl hbits) ?_ hS, fun base _ _ hTB => ?_⟩
  · intro p hp
    rw [hTt] at hp
    obtain ⟨x, hx, e⟩ := List.mem_filterMap.mp hp
    obtain ⟨q, e1, e2⟩ := Option.map_eq_some_iff.mp e
    subst e2
    exact LamX.TabS.nil (hT q (List.mem_filterMap.mpr ⟨x, hx, e1⟩))
  · obtain ⟨a', fd', h1, h2, h3, h4, h5, oc', od', osl', lk'⟩ := all_ok (T base hTB) k f df hf
    have h1 := h1.1 ho
    rw [hx, hm] at h1
    cases h1
    obtain ⟨oc, od, _, _, _, _, _, _, _, osl, _, lk, _⟩ := F.ex
    rw [lk] at lk'
    cases lk'
    rw [hps] at h3
    exact FnOk.cxe h3
end G
namespace K10
open PySem PySem.Spec PyProof.Rows L2 G
theorem ck_flaw_in : ckDef P d_flaw_in s_flaw_in = true := by decide +kernel
theorem ck_is_word : ckDef P d_is_word s_is_word = true := by decide +kernel
theorem ck_is_call : ckDef P d_is_call s_is_call = true := by decide +kernel
theorem ck_call_key : ckDef P d_call_key s_call_key = true := by decide +kernel
theorem ck_law_bag : ckDef P d_law_bag s_law_bag = true := by decide +kernel
theorem ck_law_pull : ckDef P d_law_pull s_law_pull = true := by decide +kernel
theorem ck_law_of : ckDef P d_law_of s_law_of = true := by decide +kernel
theorem ck_law_shuffled : ckDef P d_law_shuffled s_law_shuffled = true := by decide +kernel
theorem ck_law_same : ckDef P d_law_same s_law_same = true := by decide +kernel
theorem ck_law_word : ckDef P d_law_word s_law_word = true := by decide +kernel
theorem ck_law_odd_word : ckDef P d_law_odd_word s_law_odd_word = true := by decide +kernel
theorem ck_law_word_flaw : ckDef P d_law_word_flaw s_law_word_flaw = true := by decide +kernel
theorem ck_law_is_call : ckDef P d_law_is_call s_law_is_call = true := by decide +kernel
theorem ck_law : ckDef P d_law s_law = true := by decide +kernel
abbrev Ga (w : World) (K : PySem.W.Frag) : Gm := ⟨K, fun c => (P.cls[c]?).map fun x => (He.ga K x.name, x.fs), fun _ => none, fun c => (P.xcls[c]?).map fun x => (He.ga K (tS x.name), x.all), tOf K lam, w⟩
theorem nosh_flaw_in : ∀ sh ∈ P.shapes, sh.f ≠ i_flaw_in := fun _ h => nomatch h
theorem nosh_is_word : ∀ sh ∈ P.shapes, sh.f ≠ i_is_word := fun _ h => nomatch h
theorem nosh_is_call : ∀ sh ∈ P.shapes, sh.f ≠ i_is_call := fun _ h => nomatch h
theorem nosh_call_key : ∀ sh ∈ P.shapes, sh.f ≠ i_call_key := fun _ h => nomatch h
theorem nosh_law_bag : ∀ sh ∈ P.shapes, sh.f ≠ i_law_bag := fun _ h => nomatch h
theorem nosh_law_pull : ∀ sh ∈ P.shapes, sh.f ≠ i_law_pull := fun _ h => nomatch h
theorem nosh_law_of : ∀ sh ∈ P.shapes, sh.f ≠ i_law_of := fun _ h => nomatch h
theorem nosh_law_shuffled : ∀ sh ∈ P.shapes, sh.f ≠ i_law_shuffled := fun _ h => nomatch h
theorem nosh_law_same : ∀ sh ∈ P.shapes, sh.f ≠ i_law_same := fun _ h => nomatch h
theorem nosh_law_word : ∀ sh ∈ P.shapes, sh.f ≠ i_law_word := fun _ h => nomatch h
theorem nosh_law_odd_word : ∀ sh ∈ P.shapes, sh.f ≠ i_law_odd_word := fun _ h => nomatch h
theorem nosh_law_word_flaw : ∀ sh ∈ P.shapes, sh.f ≠ i_law_word_flaw := fun _ h => nomatch h
theorem nosh_law_is_call : ∀ sh ∈ P.shapes, sh.f ≠ i_law_is_call := fun _ h => nomatch h
theorem nosh_law : ∀ sh ∈ P.shapes, sh.f ≠ i_law := fun _ h => nomatch h
theorem facts {w : World} {K : PySem.W.Frag} {mg : Str → Option Value} {base h : Heap} (X : (Ga w K).K.In h) (N : h.Ns mainGlobals mg) (c : SaysG (faOf P) fn ex (Ga w K).K) (tg : TabsG lam (Ga w K).K h) (hT : ∀ p ∈ csOf (Ga w K).K lam, LamX.TabB base mg p.1 p.2) : Top PySem.Challenge.pw_gapstone_k10_words_and_calls w (Ga w K) mg base P := by
  have E := exG_parts c.2
  have mV : mg "ValueError" = none := He.free_ok X N (c.1.facts (List.mem_append_right _ (List.mem_map_of_mem (f := He.Fa.free) (by decide +kernel : ("ValueError" : Str) ∈ bnames))))
  refine topOf (cs := csOf (Ga w K).K lam) X N c ?_ (fun cc oc h => by show (P.cls[cc]?).map (fun x => (He.ga K x.name, x.fs)) = _; rw [h]; rfl) ?_ ?_ hT
  rotate_left
  · intro c x hx
    cases hx
  · intro j td h
    cases h
  refine .cons (defOk X N c 0 (x := "flaw_in") (st := s_flaw_in) (dfl := []) (kwd := []) p_flaw_in rfl rfl rfl ck_flaw_in (fun {fd} F => ⟨(fun _ => FunD.bindsN F fun _ _ _ _ _ _ us hl => match us, hl with | [_], _ => rfl), (fun sh hs e => absurd e (nosh_flaw_in sh hs))⟩) (fun {fd} F e => by cases e)) ?_
  refine .cons (defOk X N c 1 (x := "is_word") (st := s_is_word) (dfl := []) (kwd := []) p_is_word rfl rfl rfl ck_is_word (fun {fd} F => ⟨(fun _ => FunD.bindsN F fun _ _ _ _ _ _ us hl => match us, hl with | [_], _ => rfl), (fun sh hs e => absurd e (nosh_is_word sh hs))⟩) (fun {fd} F e => by cases e)) ?_
  refine .cons (defOk X N c 2 (x := "is_call") (st := s_is_call) (dfl := []) (kwd := []) p_is_call rfl rfl rfl ck_is_call (fun {fd} F => ⟨(fun _ => FunD.bindsN F fun _ _ _ _ _ _ us hl => match us, hl with | [_], _ => rfl), (fun sh hs e => absurd e (nosh_is_call sh hs))⟩) (fun {fd} F e => by cases e)) ?_
  refine .cons (defOk X N c 3 (x := "call_key") (st := s_call_key) (dfl := []) (kwd := []) p_call_key rfl rfl rfl ck_call_key (fun {fd} F => ⟨(fun _ => FunD.bindsN F fun _ _ _ _ _ _ us hl => match us, hl with | [_], _ => rfl), (fun sh hs e => absurd e (nosh_call_key sh hs))⟩) (fun {fd} F e => by cases e)) ?_
  refine .cons (defOk X N c 4 (x := "_law_bag") (st := s_law_bag) (dfl := []) (kwd := []) p_law_bag rfl rfl rfl ck_law_bag (fun {fd} F => ⟨(fun _ => FunD.bindsN F fun _ _ _ _ _ _ us hl => match us, hl with | [_], _ => rfl), (fun sh hs e => absurd e (nosh_law_bag sh hs))⟩) (fun {fd} F e => by cases e)) ?_
  refine .cons (defOk X N c 5 (x := "_law_pull") (st := s_law_pull) (dfl := []) (kwd := []) p_law_pull rfl rfl rfl ck_law_pull (fun {fd} F => ⟨(fun _ => FunD.bindsN F fun _ _ _ _ _ _ us hl => match us, hl with | [_, _], _ => rfl), (fun sh hs e => absurd e (nosh_law_pull sh hs))⟩) (fun {fd} F e => by cases e)) ?_
  refine .cons (defOk X N c 6 (x := "_law_of") (st := s_law_of) (dfl := []) (kwd := []) p_law_of rfl rfl rfl ck_law_of (fun {fd} F => ⟨(fun _ => FunD.bindsN F fun _ _ _ _ _ _ us hl => match us, hl with | [_, _], _ => rfl), (fun sh hs e => absurd e (nosh_law_of sh hs))⟩) (fun {fd} F e => by cases e)) ?_
  refine .cons (defOk X N c 7 (x := "_law_shuffled") (st := s_law_shuffled) (dfl := []) (kwd := []) p_law_shuffled rfl rfl rfl ck_law_shuffled (fun {fd} F => ⟨(fun _ => FunD.bindsN F fun _ _ _ _ _ _ us hl => match us, hl with | [_, _], _ => rfl), (fun sh hs e => absurd e (nosh_law_shuffled sh hs))⟩) (fun {fd} F e => by cases e)) ?_
  refine .cons (defOk X N c 8 (x := "_law_same") (st := s_law_same) (dfl := []) (kwd := []) p_law_same rfl rfl rfl ck_law_same (fun {fd} F => ⟨(fun _ => FunD.bindsN F fun _ _ _ _ _ _ us hl => match us, hl with | [_, _], _ => rfl), (fun sh hs e => absurd e (nosh_law_same sh hs))⟩) (fun {fd} F e => by cases e)) ?_
  refine .cons (defOk X N c 9 (x := "_law_word") (st := s_law_word) (dfl := []) (kwd := []) p_law_word rfl rfl rfl ck_law_word (fun {fd} F => ⟨(fun _ => FunD.bindsN F fun _ _ _ _ _ _ us hl => match us, hl with | [_, _], _ => rfl), (fun sh hs e => absurd e (nosh_law_word sh hs))⟩) (fun {fd} F e => by cases e)) ?_
  refine .cons (defOk X N c 10 (x := "_law_odd_word") (st := s_law_odd_word) (dfl := []) (kwd := []) p_law_odd_word rfl rfl rfl ck_law_odd_word (fun {fd} F => ⟨(fun _ => FunD.bindsN F fun _ _ _ _ _ _ us hl => match us, hl with | [_, _], _ => rfl), (fun sh hs e => absurd e (nosh_law_odd_word sh hs))⟩) (fun {fd} F e => by cases e)) ?_
  refine .cons (defOk X N c 11 (x := "_law_word_flaw") (st := s_law_word_flaw) (dfl := []) (kwd := []) p_law_word_flaw rfl rfl rfl ck_law_word_flaw (fun {fd} F => ⟨(fun _ => FunD.bindsN F fun _ _ _ _ _ _ us hl => match us, hl with | [_], _ => rfl), (fun sh hs e => absurd e (nosh_law_word_flaw sh hs))⟩) (fun {fd} F e => by cases e)) ?_
  refine .cons (defOk X N c 12 (x := "_law_is_call") (st := s_law_is_call) (dfl := []) (kwd := []) p_law_is_call rfl rfl rfl ck_law_is_call (fun {fd} F => ⟨(fun _ => FunD.bindsN F fun _ _ _ _ _ _ us hl => match us, hl with | [_], _ => rfl), (fun sh hs e => absurd e (nosh_law_is_call sh hs))⟩) (fun {fd} F e => by cases e)) ?_
  refine .cons (defOk X N c 13 (x := "law") (st := s_law) (dfl := []) (kwd := []) p_law rfl rfl rfl ck_law (fun {fd} F => ⟨(fun _ => FunD.bindsN F fun _ _ _ _ _ _ us hl => match us, hl with | [_], _ => rfl), (fun sh hs e => absurd e (nosh_law sh hs))⟩) (fun {fd} F e => by cases e)) ?_
  exact .nil
theorem glo_law : He.Fa.glo "law" ∈ faOf P := List.mem_append_left _ (List.mem_append_left _ (List.mem_map_of_mem (f := fun d : Def => He.Fa.glo d.name) (List.mem_filter.mpr ⟨List.mem_of_getElem? p_law, rfl⟩)))
end K10
set_option Elab.async false
set_option linter.all false
set_option maxRecDepth 100000
namespace G
open PySem
def RS.fin (keep : Bool) (n : Nat) : RS → R D
  | .rt d s' => leave keep n d s'
  | .nx _ s' => leave keep n .non s'
  | .exc c fs _ s' => leaveX n c fs s'
  | _ => .stuck
theorem callD_fin {P : Prog} {k f : Nat} {df : Def} (hf : P.defs[f]? = some df) {ds : List D} {s : Stt} (hl : ds.length = df.ps.length) : callD P (k + 1) f ds s = RS.fin df.keep s.length (evSs P (callD P k) df.body (ds.map some ++ List.replicate (df.N.length - ds.length) none) s) := by
  rw [callD_ok hf hl]
  cases evSs P (callD P k) df.body (ds.map some ++ List.replicate (df.N.length - ds.length) none) s <;> rfl
theorem leave_eq {keep : Bool} {n : Nat} {d : D} {s : Stt} (h : s.length = n) : leave keep n d s = .ok d s := by
  unfold leave
  split
  · rfl
  · first | rw [if_pos h] | simp [h]
theorem leaveX_eq {n c : Nat} {fs : List D} {s : Stt} (h : s.length = n) : leaveX n c fs s = .exc c fs s := if_pos h
/-- every turn goes on; env and store by an invariant that counts the turns -/
theorem loopF_inv {body : D → Env → Stt → RS} (I : Nat → Env → Stt → Prop) : ∀ (ds : List D) (n : Nat) (ρ : Env) (s : Stt), I n ρ s → (∀ i d ρ s, ds[i]? = some d → I (n + i) ρ s → ∃ ρ' s', body d ρ s = .nx ρ' s' ∧ I (n + i + 1) ρ' s') → ∃ ρ' s', loopF body ds ρ s = .nx ρ' s' ∧ I (n + ds.length) ρ' s'
  | [], n, ρ, s, h, _ => ⟨ρ, s, rfl, h⟩
  | d :: ds, n, ρ, s, h, hb => by
    obtain ⟨ρ1, s1, e1, h1⟩ := hb 0 d ρ s rfl h
    obtain ⟨ρ2, s2, e2, h2⟩ := loopF_inv I ds (n + 1) ρ1 s1 h1 fun i d ρ s hi hI => by
      have := hb (i + 1) d ρ s hi (by rw [← Nat.add_assoc, Nat.add_right_comm]; exact hI)
      rw [← Nat.add_assoc, Nat.add_right_comm n i 1] at this
      exact this
    refine ⟨ρ2, s2, ?_, by rw [List.length_cons, Nat.add_comm ds.length, ← Nat.add_assoc]; exact h2⟩
    unfold loopF
    rw [e1]
    exact e2
theorem loopC_inv {body : D → List D → Stt → R (List D)} (I : Nat → List D → Stt → Prop) : ∀ (ds : List D) (n : Nat) (acc : List D) (s : Stt), I n acc s → (∀ i d acc s, ds[i]? = some d → I (n + i) acc s → ∃ acc' s', body d acc s = .ok acc' s' ∧ I (n + i + 1) acc' s') → ∃ acc' s', loopC body ds acc s = .ok acc' s' ∧ I (n + ds.length) acc' s'
  | [], n, ρ, s, h, _ => ⟨ρ, s, rfl, h⟩
  | d :: ds, n, ρ, s, h, hb => by
    obtain ⟨ρ1, s1, e1, h1⟩ := hb 0 d ρ s rfl h
    obtain ⟨ρ2, s2, e2, h2⟩ := loopC_inv I ds (n + 1) ρ1 s1 h1 fun i d ρ s hi hI => by
      have := hb (i + 1) d ρ s hi (by rw [← Nat.add_assoc, Nat.add_right_comm]; exact hI)
      rw [← Nat.add_assoc, Nat.add_right_comm n i 1] at this
      exact this
    refine ⟨ρ2, s2, ?_, by rw [List.length_cons, Nat.add_comm ds.length, ← Nat.add_assoc]; exact h2⟩
    unfold loopC
    rw [e1]
    exact e2
/-- a comprehension that maps, the store as it is -/
theorem loopC_map {body : D → List D → Stt → R (List D)} {s : Stt} (f : D → D) : ∀ (ds acc : List D), acc.length + ds.length ≤ sizeLine → (∀ d acc, d ∈ ds → acc.length < sizeLine → body d acc s = .ok (acc ++ [f d]) s) → loopC body ds acc s = .ok (acc ++ ds.map f) s
  | [], acc, _, _ => by simp [loopC]
  | d :: ds, acc, hl, h => by
    rw [List.length_cons] at hl
    unfold loopC
    rw [h d acc (List.mem_cons_self ..) (by omega)]
    show loopC body ds (acc ++ [f d]) s = _
    rw [loopC_map f ds (acc ++ [f d]) (by rw [List.length_append, List.length_singleton]; omega) fun d acc hd => h d acc (List.mem_cons_of_mem _ hd)]
    simp
theorem evSs_cons {P : Prog} {call : CallS} {a : S} {r : List S} {ρ : Env} {s : Stt} : evSs P call (a :: r) ρ s = (evS P call a ρ s).seq fun ρ s => evSs P call r ρ s := by rw [evSs]
theorem evSs_nil {P : Prog} {call : CallS} {ρ : Env} {s : Stt} : evSs P call [] ρ s = .nx ρ s := by rw [evSs]
theorem seq_nx {ρ : Env} {s : Stt} {f : Env → Stt → RS} : (RS.nx ρ s).seq f = f ρ s := rfl
theorem seq_rt {d : D} {s : Stt} {f : Env → Stt → RS} : (RS.rt d s).seq f = .rt d s := rfl
theorem st_ok {α : Type} {a : α} {s : Stt} {ρ : Env} {f : α → Stt → RS} : (R.ok a s).st ρ f = f a s := rfl
theorem of_some {α : Type} {a : α} {s : Stt} : R.of (some a) s = .ok a s := rfl
theorem fin_rt {keep : Bool} {n : Nat} {d : D} {s : Stt} : RS.fin keep n (.rt d s) = leave keep n d s := rfl
theorem fin_nx {keep : Bool} {n : Nat} {ρ : Env} {s : Stt} : RS.fin keep n (.nx ρ s) = leave keep n .non s := rfl
def compB (P : Prog) (call : CallS) (e : E) (own tg : List Nat) (c : Option E) (ρ : Env) (d : D) (acc : List D) (s : Stt) : R (List D) := match tgF tg d (wipeE ρ own) with
  | none => .stuck
  | some ρ' => (evC P call c ρ' s).bind fun k s => if k = true then (evE P call e ρ' s).bind fun y s => if acc.length < sizeLine then .ok (acc ++ [y]) s else .stuck else .ok acc s
theorem evE_comp {P : Prog} {call : CallS} {cell : Bool} {e : E} {own tg : List Nat} {k : It} {src : List E} {c : Option E} {ρ : Env} {s : Stt} : evE P call (.comp cell e own tg k src c) ρ s = ((evEs P call src ρ s).bind fun ds s => R.of (srcF k s ds) s).bind fun xs s => (loopC (compB P call e own tg c ρ) xs [] s).bind fun acc s =>
    if cell = true then .ok (.ref s.length) (s ++ [.lst acc]) else .ok (.lst acc) s := by rw [evE]; rfl
def forB (P : Prog) (call : CallS) (tg : List Nat) (b : List S) (d : D) (ρ : Env) (s : Stt) : RS := match tgF tg d ρ with
  | none => .stuck
  | some ρ' => evSs P call b ρ' s
theorem evS_for {P : Prog} {call : CallS} {tg : List Nat} {k : It} {src : List E} {b : List S} {ρ : Env} {s : Stt} : evS P call (.for tg k src b) ρ s = ((evEs P call src ρ s).bind fun ds s => R.of (srcF k s ds) s).st ρ fun xs s => loopF (forB P call tg b) xs ρ s := by rw [evS]; rfl
theorem rbind_ok {α β : Type} {a : α} {s : Stt} {f : α → Stt → R β} : (R.ok a s).bind f = f a s := rfl
theorem compB_of {P : Prog} {call : CallS} {e : E} {own tg : List Nat} {ρ ρ' : Env} {d y : D} {acc : List D} {s s' : Stt} (h1 : tgF tg d (wipeE ρ own) = some ρ') (h2 : evE P call e ρ' s = .ok y s') (ha : acc.length < sizeLine) : compB P call e own tg none ρ d acc s = .ok (acc ++ [y]) s' := by
  unfold compB
  rw [h1]
  show (evC P call none ρ' s).bind _ = _
  rw [evC, rbind_ok, if_pos rfl, h2, rbind_ok, if_pos ha]
theorem tg_own {v : Nat} {d : D} {ρ : Env} : tgF [v] d (wipeE ρ [v]) = some (ρ.set v (some d)) := by
  show some ((wipeE ρ [v]).set v (some d)) = _
  simp [wipeE]
theorem log2_le {n k : Nat} (h : n < 2 ^ k) : n.log2 ≤ k := by
  by_cases e : n = 0
  · subst e
    simp
  · exact Nat.le_of_lt ((Nat.log2_lt e).mpr h)
theorem bin_mul {i j : Int} {m n : Nat} (h1 : i.natAbs < 2 ^ m) (h2 : j.natAbs < 2 ^ n) (h : m + n < 1000000) : binF .mul (.int i) (.int j) = some (.int (i * j)) := by
  show (if i.natAbs.log2 + j.natAbs.log2 < 1000000 then some (D.int (i * j)) else none) = _
  rw [if_pos]
  have := log2_le h1
  have := log2_le h2
  omega
theorem fdiv_if {i j : Int} (h0 : 0 < j) (h : Builtin.divisionGoesByPylong i j = false) : binF .fdiv (.int i) (.int j) = some (.int (i / j)) := by
  show (if 0 < j ∧ Builtin.divisionGoesByPylong i j = false then some (D.int (i / j)) else none) = _
  rw [if_pos ⟨h0, h⟩]
theorem bin_fdiv {i j : Int} {n : Nat} (h0 : 0 < j) (h2 : j.natAbs < 2 ^ n) (h : n < 9000) : binF .fdiv (.int i) (.int j) = some (.int (i / j)) := by
  have := log2_le h2
  refine fdiv_if h0 (PyProof.noPylong_of_log2 ?_)
  by_cases z : j.natAbs = 0
  · rw [z]; decide
  · have := (Nat.log2_lt z).mpr h2
    omega
theorem bin_mod {i j : Int} (h0 : 0 < j) : binF .mod (.int i) (.int j) = some (.int (i % j)) := by
  show (if 0 < j then some (D.int (i % j)) else none) = _
  rw [if_pos h0]
theorem bin_add {i j : Int} : binF .add (.int i) (.int j) = some (.int (i + j)) := rfl
theorem bin_sub {i j : Int} : binF .sub (.int i) (.int j) = some (.int (i - j)) := rfl
theorem eqF_int {i j : Int} : eqF (.int i) (.int j) = some (decide (i = j)) := by
  have h : ∀ i : Int, SeqAt.shaped (PyData.int i) = true := fun i => by simp [SeqAt.shaped, PyData.canLay0, PyData.depth]
  simp only [eqF, D.toP, h, and_self, if_true, PyData.eqv, Option.some.injEq]
  by_cases e : i = j <;> simp [e]
theorem eqF_bl {i j : Bool} : eqF (.bl i) (.bl j) = some (i == j) := by
  have h : ∀ i : Bool, SeqAt.shaped (PyData.bool i) = true := fun i => by simp [SeqAt.shaped, PyData.canLay0, PyData.depth]
  simp only [eqF, D.toP, h, and_self, if_true, PyData.eqv]
/-- texts -/
def Tx (t : T) : Prop := t.length ≤ 1000 ∧ ∀ c ∈ t, c < 1114112
theorem Tx.app {a b : T} (h1 : Tx a) (h2 : Tx b) (h : a.length + b.length ≤ 1000) : Tx (a ++ b) := ⟨by simpa using h, fun c hc => by
  rcases List.mem_append.mp hc with q | q
  · exact h1.2 c q
  · exact h2.2 c q⟩
theorem Tx.le {t : T} (h : Tx t) : t.length ≤ sizeLine := Nat.le_trans h.1 (by decide)
def txB (t : T) : Bool := t.all fun c => decide (c < 1114112)
theorem Tx.b {t : T} (h : Tx t) : txB t = true := List.all_eq_true.mpr fun c hc => decide_eq_true (h.2 c hc)
theorem txB_ok {t : T} (h : txB t = true) : PyData.strOk (tS t) = true := by
  unfold PyData.strOk tS
  simp
  intro c hc
  exact of_decide_eq_true (List.all_eq_true.mp h c hc)
theorem eqF_strB {a b : T} (h1 : txB a = true) (h2 : txB b = true) : eqF (.str a) (.str b) = some (decide (a = b)) := by
  have h : ∀ t : T, txB t = true → SeqAt.shaped (PyData.str (tS t)) = true := fun t ht => by
    simp [SeqAt.shaped, PyData.canLay0, PyData.depth, txB_ok ht]
  simp only [eqF, D.toP, h a h1, h b h2, and_self, if_true, PyData.eqv, Option.some.injEq]
  by_cases e : a = b
  · subst e; simp
  · have : ¬ tS a = tS b := fun z => e (tS_inj z)
    simp [e, this]
theorem eqF_str {a b : T} (h1 : Tx a) (h2 : Tx b) : eqF (.str a) (.str b) = some (decide (a = b)) := eqF_strB h1.b h2.b
mutual
def D.pl (n : Nat) : D → Bool
  | .non => true
  | .bl _ => true
  | .int _ => true
  | .str t => txB t
  | .tup xs => decide (0 < n ∧ xs.length ≤ 1000000) && D.pls (n - 1) xs
  | .lst xs => decide (0 < n ∧ xs.length ≤ 1000000) && D.pls (n - 1) xs
  | _ => false
def D.pls (n : Nat) : List D → Bool
  | [] => true
  | x :: xs => D.pl n x && D.pls n xs
end
mutual
theorem pl_toP {n : Nat} : ∀ {d : D}, D.pl n d = true → ∃ p, d.toP = some p ∧ p.canLay0 = true ∧ p.depth ≤ n ∧ PyData.eqv p p = true
  | .non, _ => ⟨_, rfl, by simp [PyData.canLay0], by simp [PyData.depth], by simp [PyData.eqv]⟩
  | .bl _, _ => ⟨_, rfl, by simp [PyData.canLay0], by simp [PyData.depth], by simp [PyData.eqv]⟩
  | .int _, _ => ⟨_, rfl, by simp [PyData.canLay0], by simp [PyData.depth], by simp [PyData.eqv]⟩
  | .str t, h => ⟨_, rfl, by simp only [D.pl] at h; simp [PyData.canLay0, txB_ok h], by simp [PyData.depth], by simp [PyData.eqv]⟩
  | .tup xs, h => by
    simp only [D.pl, Bool.and_eq_true, decide_eq_true_eq] at h
    obtain ⟨ps, e, h1, h2, h3⟩ := pls_toP h.2
    exact ⟨.tuple ps, by simp [D.toP, e], by simpa [PyData.canLay0] using h1, by simp only [PyData.depth]; omega, by simpa [PyData.eqv] using h3⟩
  | .lst xs, h => by
    simp only [D.pl, Bool.and_eq_true, decide_eq_true_eq] at h
    obtain ⟨ps, e, h1, h2, h3⟩ := pls_toP h.2
    exact ⟨.list ps, by simp [D.toP, e], by simpa [PyData.canLay0] using h1, by simp only [PyData.depth]; omega, by simpa [PyData.eqv] using h3⟩
  | .scr _, h => by simp [D.pl] at h
  | .ins _ _, h => by simp [D.pl] at h
  | .ref _, h => by simp [D.pl] at h
  | .dfn _, h => by simp [D.pl] at h
theorem pls_toP {n : Nat} : ∀ {ds : List D}, D.pls n ds = true → ∃ ps, D.toPs ds = some ps ∧ PyData.canLayAll0 ps = true ∧ PyData.depthAll ps ≤ n ∧ PyData.eqvAll ps ps = true
  | [], _ => ⟨[], rfl, by simp [PyData.canLayAll0], by simp [PyData.depthAll], by simp [PyData.eqvAll]⟩
  | d :: ds, h => by
    simp only [D.pls, Bool.and_eq_true] at h
    obtain ⟨p, e, h1, h2, h3⟩ := pl_toP h.1
    obtain ⟨ps, e', h1', h2', h3'⟩ := pls_toP h.2
    exact ⟨p :: ps, by simp [D.toPs, e, e'], by simp [PyData.canLayAll0, h1, h1'], by simp only [PyData.depthAll]; omega, by simp [PyData.eqvAll, h3, h3']⟩
end
theorem eqF_self {n : Nat} {d : D} (h : D.pl n d = true) (hn : n ≤ 64) : eqF d d = some true := by
  obtain ⟨p, e, h1, h2, h3⟩ := pl_toP h
  have : SeqAt.shaped p = true := by
    simp only [SeqAt.shaped, h1, Bool.true_and, decide_eq_true_eq]
    omega
  simp only [eqF, e, this, and_self, if_true, h3]
def qD (q : Rat) : D := .tup [.int q.num, .int q.den]
def Sz (n : Nat) (q : Rat) : Prop := q.num.natAbs < 2 ^ n ∧ q.den < 2 ^ n
theorem Sz.mono {m n : Nat} {q : Rat} (h : Sz m q) (hn : m ≤ n) : Sz n q := ⟨Nat.lt_of_lt_of_le h.1 (Nat.pow_le_pow_right (by decide) hn), Nat.lt_of_lt_of_le h.2 (Nat.pow_le_pow_right (by decide) hn)⟩
theorem Sz.divInt {n : Nat} {a b : Int} (h0 : b ≠ 0) (ha : a.natAbs < 2 ^ n) (hb : b.natAbs < 2 ^ n) : Sz n (Rat.divInt a b) := by
  constructor
  · rw [Rat.num_divInt, Int.natAbs_ediv_of_dvd]
    · refine Nat.lt_of_le_of_lt (Nat.div_le_self _ _) ?_
      rw [Int.natAbs_mul]
      refine Nat.lt_of_le_of_lt ?_ ha
      refine Nat.le_trans (Nat.mul_le_mul_right _ (show b.sign.natAbs ≤ 1 from ?_)) (Nat.le_of_eq (Nat.one_mul _))
      rw [Int.natAbs_sign]
      split <;> omega
    · exact Int.dvd_mul_of_dvd_right (Int.gcd_dvd_right ..)
  · rw [Rat.den_divInt, if_neg h0]
    exact Nat.lt_of_le_of_lt (Nat.div_le_self _ _) hb
end G
set_option Elab.async false
set_option linter.all false
set_option maxRecDepth 100000
set_option exponentiation.threshold 300
namespace G
open PySem
end G
set_option Elab.async false
set_option linter.all false
set_option maxRecDepth 100000
set_option exponentiation.threshold 300
namespace G
open PySem L2
theorem callD_rt {P : Prog} {k f : Nat} {df : Def} {ds : List D} {s s' : Stt} {d : D} (hf : P.defs[f]? = some df) (hl : ds.length = df.ps.length) (h : evSs P (callD P k) df.body (ds.map some ++ List.replicate (df.N.length - ds.length) none) s = .rt d s') (hs : s'.length = s.length) : callD P (k + 1) f ds s = .ok d s' := by
  rw [callD_fin hf hl, h, fin_rt, leave_eq hs]
def LowOk (call : CallS) (f : Nat) : Prop := ∀ (a b : Int) (n : Nat) (s : Stt), b ≠ 0 → a.natAbs < 2 ^ n → b.natAbs < 2 ^ n → n < 13400 → call f [.int a, .int b] s = .ok (qD (Rat.divInt a b)) s
def OpOk (op : Rat → Rat → Rat) (call : CallS) (f : Nat) : Prop := ∀ (p q : Rat) (m n : Nat) (s : Stt), Sz m p → Sz n q → m + n + 1 < 13400 → call f [qD p, qD q] s = .ok (qD (op p q)) s
def PerOk (call : CallS) (f : Nat) : Prop := ∀ (p q : Rat) (m n : Nat) (s : Stt), q ≠ 0 → Sz m p → Sz n q → m + n + 1 < 13400 → call f [qD p, qD q] s = .ok (qD (p / q)) s
theorem den_ne (q : Rat) : (q.den : Int) ≠ 0 := by exact_mod_cast q.den_nz
theorem den_ne' (q : Rat) : ((q.den : Int) : Rat) ≠ 0 := by
  intro h
  exact den_ne q (by exact_mod_cast h)
theorem rat_eq (q : Rat) : q = ((q.num : Int) : Rat) / ((q.den : Int) : Rat) := by
  conv => lhs; rw [← Rat.num_divInt_den q]
  rw [Rat.divInt_eq_div]
theorem q_add (p q : Rat) : Rat.divInt (p.num * q.den + q.num * p.den) (p.den * q.den) = p + q := by
  rw [Rat.divInt_eq_div, Rat.intCast_add, Rat.intCast_mul, Rat.intCast_mul, Rat.intCast_mul]
  have e1 := rat_eq p
  have e2 := rat_eq q
  have n1 := den_ne' p
  have n2 := den_ne' q
  generalize ((p.num : Int) : Rat) = a at *
  generalize ((p.den : Int) : Rat) = b at *
  generalize ((q.num : Int) : Rat) = c at *
  generalize ((q.den : Int) : Rat) = d at *
  rw [e1, e2]
  grind
theorem q_sub (p q : Rat) : Rat.divInt (p.num * q.den - q.num * p.den) (p.den * q.den) = p - q := by
  rw [Rat.divInt_eq_div, Rat.intCast_sub, Rat.intCast_mul, Rat.intCast_mul, Rat.intCast_mul]
  have e1 := rat_eq p
  have e2 := rat_eq q
  have n1 := den_ne' p
  have n2 := den_ne' q
  generalize ((p.num : Int) : Rat) = a at *
  generalize ((p.den : Int) : Rat) = b at *
  generalize ((q.num : Int) : Rat) = c at *
  generalize ((q.den : Int) : Rat) = d at *
  rw [e1, e2]
  grind
theorem q_mul (p q : Rat) : Rat.divInt (p.num * q.num) (p.den * q.den) = p * q := by
  rw [Rat.divInt_eq_div, Rat.intCast_mul, Rat.intCast_mul]
  have e1 := rat_eq p
  have e2 := rat_eq q
  have n1 := den_ne' p
  have n2 := den_ne' q
  generalize ((p.num : Int) : Rat) = a at *
  generalize ((p.den : Int) : Rat) = b at *
  generalize ((q.num : Int) : Rat) = c at *
  generalize ((q.den : Int) : Rat) = d at *
  rw [e1, e2]
  grind
theorem num_ne {q : Rat} (h : q ≠ 0) : q.num ≠ 0 := fun e => h (by
  have := rat_eq q
  rw [e] at this
  rw [this]
  simp [Rat.div_def])
theorem q_div (p q : Rat) (h : q ≠ 0) : Rat.divInt (p.num * q.den) (p.den * q.num) = p / q := by
  rw [Rat.divInt_eq_div, Rat.intCast_mul, Rat.intCast_mul]
  have e1 := rat_eq p
  have e2 := rat_eq q
  have n1 := den_ne' p
  have n2 := den_ne' q
  have n3 : ((q.num : Int) : Rat) ≠ 0 := fun e => num_ne h (by exact_mod_cast e)
  generalize ((p.num : Int) : Rat) = a at *
  generalize ((p.den : Int) : Rat) = b at *
  generalize ((q.num : Int) : Rat) = c at *
  generalize ((q.den : Int) : Rat) = d at *
  rw [e1, e2]
  grind
theorem Sz.mulN {m n : Nat} {i j : Int} (h1 : i.natAbs < 2 ^ m) (h2 : j.natAbs < 2 ^ n) : (i * j).natAbs < 2 ^ (m + n) := by
  rw [Int.natAbs_mul, Nat.pow_add]
  exact Nat.mul_lt_mul'' h1 h2
theorem Sz.up {a m n : Nat} (h : a < 2 ^ m) (hn : m ≤ n) : a < 2 ^ n := Nat.lt_of_lt_of_le h (Nat.pow_le_pow_right (by decide) hn)
theorem Sz.addN {n : Nat} {i j : Int} (h1 : i.natAbs < 2 ^ n) (h2 : j.natAbs < 2 ^ n) : (i + j).natAbs < 2 ^ (n + 1) := by
  rw [Nat.pow_succ]
  omega
theorem Sz.subN {n : Nat} {i j : Int} (h1 : i.natAbs < 2 ^ n) (h2 : j.natAbs < 2 ^ n) : (i - j).natAbs < 2 ^ (n + 1) := by
  rw [Nat.pow_succ]
  omega
theorem Sz.den {n : Nat} {q : Rat} (h : Sz n q) : (q.den : Int).natAbs < 2 ^ n := by simpa using h.2
theorem mul_ne {a b : Int} (h1 : a ≠ 0) (h2 : b ≠ 0) : a * b ≠ 0 := Int.mul_ne_zero h1 h2
theorem Sz.add {m n : Nat} {p q : Rat} (h1 : Sz m p) (h2 : Sz n q) : Sz (m + n + 1) (p + q) := by
  rw [← q_add]
  refine Sz.divInt (mul_ne (den_ne p) (den_ne q)) (Sz.addN (Sz.mulN h1.1 h2.den) ?_) (Sz.up (Sz.mulN h1.den h2.den) (by omega))
  rw [Nat.add_comm m n]
  exact Sz.mulN h2.1 h1.den
theorem Sz.sub {m n : Nat} {p q : Rat} (h1 : Sz m p) (h2 : Sz n q) : Sz (m + n + 1) (p - q) := by
  rw [← q_sub]
  refine Sz.divInt (mul_ne (den_ne p) (den_ne q)) (Sz.subN (Sz.mulN h1.1 h2.den) ?_) (Sz.up (Sz.mulN h1.den h2.den) (by omega))
  rw [Nat.add_comm m n]
  exact Sz.mulN h2.1 h1.den
theorem Sz.mul {m n : Nat} {p q : Rat} (h1 : Sz m p) (h2 : Sz n q) : Sz (m + n) (p * q) := by
  rw [← q_mul]
  exact Sz.divInt (mul_ne (den_ne p) (den_ne q)) (Sz.mulN h1.1 h2.1) (Sz.mulN h1.den h2.den)
theorem Sz.div {m n : Nat} {p q : Rat} (h : q ≠ 0) (h1 : Sz m p) (h2 : Sz n q) : Sz (m + n) (p / q) := by
  rw [← q_div p q h]
  exact Sz.divInt (mul_ne (den_ne p) (num_ne h)) (Sz.mulN h1.1 h2.den) (Sz.mulN h1.den h2.1)
def bagC (cs : List Int) (i cur seed : Int) : Cell := .lst [.lst (cs.map .int), .int i, .int cur, .int seed]
def BagOK (c : Cell) : Prop := ∃ (cs : List Int) (i cur seed : Int), c = bagC cs i cur seed ∧ 0 ≤ i ∧ i ≤ cs.length ∧ 0 ≤ cur ∧ 0 ≤ seed ∧ seed < 2147483647
def PullOk (call : CallS) (f : Nat) : Prop := ∀ (b : Cell) (rest : Stt) (many : Int) (n : Nat), BagOK b → 0 < many → many.natAbs < 2 ^ n → n < 9000 → ∃ v b', call f [.ref 0, .int many] (b :: rest) = .ok (.int v) (b' :: rest) ∧ BagOK b' ∧ 0 ≤ v ∧ v < many
def B_pull1 : S := .ite (.and [.cmp .eq (.ix (.var 0) (.int 2)) (.int 0), .cmp .lt (.ix (.var 0) (.int 1)) (.bi .len (.ix (.var 0) (.int 0)))]) [.set 2 (.ix (.ix (.var 0) (.int 0)) (.ix (.var 0) (.int 1))), .setix (.var 0) (.int 1) (.bin .add (.ix (.var 0) (.int 1)) (.int 1)), .ite (.cmp .ge (.var 2) (.bin .pow (.int 10) (.int 18))) [.setix (.var 0) (.int 2) (.var 2)] [.setix (.var 0) (.int 3) (.bin .mod (.bin .add (.bin .add (.bin .mul (.ix (.var 0) (.int 3)) (.int 69621)) (.bin .mul (.bin .mod (.var 2) (.int 2147483629)) (.int 48271))) (.int 7)) (.int 2147483647))]] []
def B_pull2 : List S := [.ite (.cmp .gt (.ix (.var 0) (.int 2)) (.int 0)) [.set 3 (.bin .mod (.ix (.var 0) (.int 2)) (.var 1)), .setix (.var 0) (.int 2) (.bin .fdiv (.ix (.var 0) (.int 2)) (.var 1)), .ret (.var 3)] [], .set 4 (.ix (.var 0) (.int 3)), .set 4 (.bin .mod (.bin .add (.bin .add (.bin .mul (.bin .mod (.bin .mul (.var 4) (.var 4)) (.int 2147483587)) (.int 5)) (.bin .mul (.var 4) (.int 16807))) (.int 1013904229)) (.int 2147483647)), .setix (.var 0) (.int 3) (.var 4), .ret (.bin .mod (.bin .add (.bin .fdiv (.var 4) (.int 53)) (.bin .mul (.bin .mod (.var 4) (.int 8191)) (.int 31))) (.var 1))]
def B_pull : List S := B_pull1 :: B_pull2
section
variable {cs : List Int} {i cur seed : Int} {rest : Stt} {P : Prog} {call : CallS}
theorem ix_bag0 : ixF (bagC cs i cur seed :: rest) (.ref 0) (.int 0) = some (.lst (cs.map .int)) := rfl
theorem ix_bag1 : ixF (bagC cs i cur seed :: rest) (.ref 0) (.int 1) = some (.int i) := rfl
theorem ix_bag2 : ixF (bagC cs i cur seed :: rest) (.ref 0) (.int 2) = some (.int cur) := rfl
theorem ix_bag3 : ixF (bagC cs i cur seed :: rest) (.ref 0) (.int 3) = some (.int seed) := rfl
theorem small_mul {i j : Int} (h1 : 0 ≤ i) (h2 : i < 4294967296) (h3 : 0 ≤ j) (h4 : j < 4294967296) : binF .mul (.int i) (.int j) = some (.int (i * j)) := by
  refine bin_mul (m := 32) (n := 32) ?_ ?_ (by decide)
  · have : (2 : Nat) ^ 32 = 4294967296 := by decide
    omega
  · have : (2 : Nat) ^ 32 = 4294967296 := by decide
    omega
theorem set_bag {ρ : Env} {a b c d e : Option D} {j : Nat} {z : Int} {x : E} {y : Int} {xs : List D} (h : evE P call x (some (.ref 0) :: ρ) (.lst xs :: rest) = .ok (.int y) (.lst xs :: rest)) (hj : ixN xs.length z = some j) : evS P call (.setix (.var 0) (.int z) x) (some (.ref 0) :: ρ) (.lst xs :: rest) = .nx (some (.ref 0) :: ρ) (.lst (xs.set j (.int y)) :: rest) := by
  simp only [evS, h, R.st, evE, R.of, List.getElem?_cons_zero, Option.join_some, hj, List.set_cons_zero]
theorem atI_of {α : Type} {xs : List α} {i : Int} {x : α} (h0 : 0 ≤ i) (h : xs[i.toNat]? = some x) : atI xs i = some x := by
  have hl := (List.getElem?_eq_some_iff.mp h).1
  unfold atI ixN
  rw [if_pos h0, if_pos (by omega)]
  exact h
theorem pow18 : binF .pow (.int 10) (.int 18) = some (.int 1000000000000000000) := by
  show (if 0 ≤ (18 : Int) ∧ (18 : Int) ≤ 1000000 ∧ (10 : Int).natAbs < 2 ^ 64 then some (D.int (10 ^ (18 : Int).toNat)) else none) = _
  rw [if_pos ⟨by decide, by decide, by decide⟩]
  rfl
theorem pull1 {m : D} {o : Option D} (h0 : 0 ≤ i) (h1 : i ≤ cs.length) (h2 : 0 ≤ cur) (h3 : 0 ≤ seed) (h4 : seed < 2147483647) : ∃ i' cur' seed' o', evS P call B_pull1 [some (.ref 0), some m, o, none, none] (bagC cs i cur seed :: rest) = .nx [some (.ref 0), some m, o', none, none] (bagC cs i' cur' seed' :: rest) ∧ 0 ≤ i' ∧ i' ≤ cs.length ∧ 0 ≤ cur' ∧ 0 ≤ seed' ∧ seed' < 2147483647 := by
  by_cases c1 : cur = 0
  · by_cases c2 : i < cs.length
    · have hi : i.toNat < cs.length := by omega
      have x : ixF (bagC cs i cur seed :: rest) (.lst (cs.map .int)) (.int i) = some (.int cs[i.toNat]) := by
        show atI (cs.map D.int) i = _
        exact atI_of h0 (by rw [List.getElem?_map, List.getElem?_eq_getElem hi]; rfl)
      generalize cs[i.toNat] = z at x
      have e1 : ∀ ρ, evS P call (.setix (.var 0) (.int 1) (.bin .add (.ix (.var 0) (.int 1)) (.int 1))) (some (.ref 0) :: ρ) (bagC cs i cur seed :: rest) = .nx (some (.ref 0) :: ρ) (bagC cs (i + 1) cur seed :: rest) := fun ρ => by
        unfold bagC
        rw [set_bag (a := none) (b := none) (c := none) (d := none) (e := none) (j := 1) (y := i + 1) ?_ rfl]
        · rfl
        · have := @ix_bag1 cs i cur seed rest
          unfold bagC at this
          simp [evE, R.of, R.bind, this, bin_add]
      have e0 : evT P call (.and [.cmp .eq (.ix (.var 0) (.int 2)) (.int 0), .cmp .lt (.ix (.var 0) (.int 1)) (.bi .len (.ix (.var 0) (.int 0)))]) [some (.ref 0), some m, o, none, none] (bagC cs i cur seed :: rest) = .ok true (bagC cs i cur seed :: rest) := by
        simp [evT, evTAnd, evE, R.of, R.bind, ix_bag0, ix_bag1, ix_bag2, biF, itemsF, cmpF, eqF_int, c1, c2]
      have ea : evS P call (.set 2 (.ix (.ix (.var 0) (.int 0)) (.ix (.var 0) (.int 1)))) [some (.ref 0), some m, o, none, none] (bagC cs i cur seed :: rest) = .nx [some (.ref 0), some m, some (.int z), none, none] (bagC cs i cur seed :: rest) := by
        simp [evS, evE, R.of, R.bind, R.st, ix_bag0, ix_bag1, x]
      by_cases c3 : (1000000000000000000 : Int) ≤ z
      · refine ⟨i + 1, z, seed, some (.int z), ?_, by omega, by omega, by omega, h3, h4⟩
        have e2 : ∀ ρ, evS P call (.setix (.var 0) (.int 2) (.var 2)) (some (.ref 0) :: some m :: some (.int z) :: ρ) (bagC cs (i + 1) cur seed :: rest) = .nx (some (.ref 0) :: some m :: some (.int z) :: ρ) (bagC cs (i + 1) z seed :: rest) := fun ρ => by
          unfold bagC
          rw [set_bag (a := none) (b := none) (c := none) (d := none) (e := none) (j := 2) (y := z) ?_ rfl]
          · rfl
          · simp [evE, R.of]
        have e4 : evT P call (.cmp .ge (.var 2) (.bin .pow (.int 10) (.int 18))) [some (.ref 0), some m, some (.int z), none, none] (bagC cs (i + 1) cur seed :: rest) = .ok true (bagC cs (i + 1) cur seed :: rest) := by
          simp [evT, evE, R.of, R.bind, pow18, cmpF, c3]
        rw [B_pull1, evS, e0, st_ok, if_pos rfl, evSs_cons, ea, seq_nx, evSs_cons, e1, seq_nx, evSs_cons, evS, e4, st_ok, if_pos rfl, evSs_cons, e2, seq_nx, evSs_nil, seq_nx, evSs_nil]
      · refine ⟨i + 1, cur, (seed * 69621 + z % 2147483629 * 48271 + 7) % 2147483647, some (.int z), ?_, by omega, by omega, h2, by omega, by omega⟩
        have e2 : ∀ ρ, evS P call (.setix (.var 0) (.int 3) (.bin .mod (.bin .add (.bin .add (.bin .mul (.ix (.var 0) (.int 3)) (.int 69621)) (.bin .mul (.bin .mod (.var 2) (.int 2147483629)) (.int 48271))) (.int 7)) (.int 2147483647))) (some (.ref 0) :: some m :: some (.int z) :: ρ) (bagC cs (i + 1) cur seed :: rest) = .nx (some (.ref 0) :: some m :: some (.int z) :: ρ) (bagC cs (i + 1) cur ((seed * 69621 + z % 2147483629 * 48271 + 7) % 2147483647) :: rest) := fun ρ => by
          unfold bagC
          rw [set_bag (a := none) (b := none) (c := none) (d := none) (e := none) (j := 3) (y := (seed * 69621 + z % 2147483629 * 48271 + 7) % 2147483647) ?_ rfl]
          · rfl
          · have q := @ix_bag3 cs (i + 1) cur seed rest
            unfold bagC at q
            have m1 := small_mul (i := seed) (j := 69621) h3 (by omega) (by omega) (by omega)
            have m2 := small_mul (i := z % 2147483629) (j := 48271) (by omega) (by omega) (by omega) (by omega)
            have m3 := bin_mod (i := z) (j := 2147483629) (by omega)
            have m4 := bin_mod (i := seed * 69621 + z % 2147483629 * 48271 + 7) (j := 2147483647) (by omega)
            simp [evE, R.of, R.bind, q, bin_add, m1, m2, m3, m4]
        have e4 : evT P call (.cmp .ge (.var 2) (.bin .pow (.int 10) (.int 18))) [some (.ref 0), some m, some (.int z), none, none] (bagC cs (i + 1) cur seed :: rest) = .ok false (bagC cs (i + 1) cur seed :: rest) := by
          simp [evT, evE, R.of, R.bind, pow18, cmpF, c3]
        rw [B_pull1, evS, e0, st_ok, if_pos rfl, evSs_cons, ea, seq_nx, evSs_cons, e1, seq_nx, evSs_cons, evS, e4, st_ok, if_neg (by decide), evSs_cons, e2, seq_nx, evSs_nil, seq_nx, evSs_nil]
    · refine ⟨i, cur, seed, o, ?_, h0, h1, h2, h3, h4⟩
      simp [B_pull1, evS, evSs, evT, evTAnd, evE, R.of, R.bind, R.st, ix_bag0, ix_bag1, ix_bag2, biF, itemsF, cmpF, eqF_int, c1, c2]
  · refine ⟨i, cur, seed, o, ?_, h0, h1, h2, h3, h4⟩
    simp [B_pull1, evS, evSs, evT, evTAnd, evE, R.of, R.bind, R.st, ix_bag2, cmpF, eqF_int, c1]
theorem pull2 {many : Int} {o : Option D} {n : Nat} (hm : 0 < many) (hn : many.natAbs < 2 ^ n) (hk : n < 9000) (h0 : 0 ≤ i) (h1 : i ≤ cs.length) (h2 : 0 ≤ cur) (h3 : 0 ≤ seed) (h4 : seed < 2147483647) : ∃ v b', evSs P call B_pull2 [some (.ref 0), some (.int many), o, none, none] (bagC cs i cur seed :: rest) = .rt (.int v) (b' :: rest) ∧ BagOK b' ∧ 0 ≤ v ∧ v < many := by
  have q0 := fun z => bin_mod (i := z) hm
  have q1 := fun z => bin_fdiv (i := z) hm hn hk
  by_cases c1 : 0 < cur
  · refine ⟨cur % many, bagC cs i (cur / many) seed, ?_, ⟨cs, i, cur / many, seed, rfl, h0, h1, Int.ediv_nonneg h2 (by omega), h3, h4⟩, Int.emod_nonneg _ (by omega), Int.emod_lt_of_pos _ hm⟩
    have e2 : ∀ ρ, evS P call (.setix (.var 0) (.int 2) (.bin .fdiv (.ix (.var 0) (.int 2)) (.var 1))) (some (.ref 0) :: some (.int many) :: ρ) (bagC cs i cur seed :: rest) = .nx (some (.ref 0) :: some (.int many) :: ρ) (bagC cs i (cur / many) seed :: rest) := fun ρ => by
      unfold bagC
      rw [set_bag (a := none) (b := none) (c := none) (d := none) (e := none) (j := 2) (y := cur / many) ?_ rfl]
      · rfl
      · have q := @ix_bag2 cs i cur seed rest
        unfold bagC at q
        simp [evE, R.of, R.bind, q, q1]
    have e1 : ∀ ρ, evS P call (.set 3 (.bin .mod (.ix (.var 0) (.int 2)) (.var 1))) (some (.ref 0) :: some (.int many) :: ρ) (bagC cs i cur seed :: rest) = .nx ((some (.ref 0) :: some (.int many) :: ρ).set 3 (some (.int (cur % many)))) (bagC cs i cur seed :: rest) := fun ρ => by
      simp [evS, evE, R.of, R.bind, R.st, ix_bag2, q0]
    have e0 : ∀ ρ, evT P call (.cmp .gt (.ix (.var 0) (.int 2)) (.int 0)) (some (.ref 0) :: ρ) (bagC cs i cur seed :: rest) = .ok true (bagC cs i cur seed :: rest) := fun ρ => by
      simp [evT, evE, R.of, R.bind, ix_bag2, cmpF, c1]
    rw [B_pull2, evSs_cons]
    have e3 : evS P call (.ite (.cmp .gt (.ix (.var 0) (.int 2)) (.int 0)) [.set 3 (.bin .mod (.ix (.var 0) (.int 2)) (.var 1)), .setix (.var 0) (.int 2) (.bin .fdiv (.ix (.var 0) (.int 2)) (.var 1)), .ret (.var 3)] []) [some (.ref 0), some (.int many), o, none, none] (bagC cs i cur seed :: rest) = .rt (.int (cur % many)) (bagC cs i (cur / many) seed :: rest) := by
      rw [evS, e0, st_ok, if_pos rfl, evSs_cons, e1, seq_nx, evSs_cons]
      simp only [List.set_cons_succ, List.set_cons_zero]
      rw [e2, seq_nx]
      simp [evSs, evS, evE, R.of, R.st, RS.seq]
    rw [e3, seq_rt]
  · obtain ⟨x, hx⟩ : ∃ x : Int, x = (seed * seed % 2147483587 * 5 + seed * 16807 + 1013904229) % 2147483647 := ⟨_, rfl⟩
    have x0 : 0 ≤ x := by omega
    have x1 : x < 2147483647 := by omega
    refine ⟨(x / 53 + x % 8191 * 31) % many, bagC cs i cur x, ?_, ⟨cs, i, cur, x, rfl, h0, h1, h2, x0, x1⟩, Int.emod_nonneg _ (by omega), Int.emod_lt_of_pos _ hm⟩
    have e0 : ∀ ρ, evT P call (.cmp .gt (.ix (.var 0) (.int 2)) (.int 0)) (some (.ref 0) :: ρ) (bagC cs i cur seed :: rest) = .ok false (bagC cs i cur seed :: rest) := fun ρ => by
      simp [evT, evE, R.of, R.bind, ix_bag2, cmpF, c1]
    have e2 : ∀ (a b c : Option D), evS P call (.setix (.var 0) (.int 3) (.var 4)) [some (.ref 0), a, b, c, some (.int x)] (bagC cs i cur seed :: rest) = .nx [some (.ref 0), a, b, c, some (.int x)] (bagC cs i cur x :: rest) := fun a b c => by
      unfold bagC
      rw [set_bag (a := none) (b := none) (c := none) (d := none) (e := none) (j := 3) (y := x) ?_ rfl]
      · rfl
      · simp [evE, R.of]
    have m1 := small_mul (i := seed) (j := seed) h3 (by omega) h3 (by omega)
    have m2 := small_mul (i := seed * seed % 2147483587) (j := 5) (by omega) (by omega) (by omega) (by omega)
    have m3 := small_mul (i := seed) (j := 16807) h3 (by omega) (by omega) (by omega)
    have m4 := small_mul (i := x % 8191) (j := 31) (by omega) (by omega) (by omega) (by omega)
    have d1 := fun z => bin_mod (i := z) (j := 2147483587) (by omega)
    have d2 := fun z => bin_mod (i := z) (j := 2147483647) (by omega)
    have d3 := fun z => bin_mod (i := z) (j := 8191) (by omega)
    have d4 := fun z => bin_fdiv (i := z) (j := 53) (n := 6) (by omega) (by decide) (by decide)
    have e5 : evS P call (.set 4 (.bin .mod (.bin .add (.bin .add (.bin .mul (.bin .mod (.bin .mul (.var 4) (.var 4)) (.int 2147483587)) (.int 5)) (.bin .mul (.var 4) (.int 16807))) (.int 1013904229)) (.int 2147483647))) [some (.ref 0), some (.int many), o, none, some (.int seed)] (bagC cs i cur seed :: rest) = .nx [some (.ref 0), some (.int many), o, none, some (.int x)] (bagC cs i cur seed :: rest) := by
      rw [hx]
      simp only [evS, evE, R.of, R.bind, R.st, List.getElem?_cons_zero, List.getElem?_cons_succ, Option.join_some, m1, d1, m2, m3, bin_add, d2, List.set_cons_succ, List.set_cons_zero]
    have e4 : evS P call (.set 4 (.ix (.var 0) (.int 3))) [some (.ref 0), some (.int many), o, none, none] (bagC cs i cur seed :: rest) = .nx [some (.ref 0), some (.int many), o, none, some (.int seed)] (bagC cs i cur seed :: rest) := by
      simp only [evS, evE, R.of, R.bind, R.st, List.getElem?_cons_zero, Option.join_some, ix_bag3, List.set_cons_succ, List.set_cons_zero]
    have e3 : ∀ w, evS P call (.ite (.cmp .gt (.ix (.var 0) (.int 2)) (.int 0)) w []) [some (.ref 0), some (.int many), o, none, none] (bagC cs i cur seed :: rest) = .nx [some (.ref 0), some (.int many), o, none, none] (bagC cs i cur seed :: rest) := fun w => by
      rw [evS, e0, st_ok, if_neg (by decide), evSs_nil]
    rw [B_pull2, evSs_cons, e3, seq_nx, evSs_cons, e4, seq_nx, evSs_cons, e5, seq_nx, evSs_cons, e2, seq_nx]
    simp only [evSs, evS, evE, R.of, R.bind, R.st, RS.seq, List.getElem?_cons_zero, List.getElem?_cons_succ, Option.join_some, d4, d3, m4, bin_add, q0]
end
theorem pullOk {P : Prog} {k f : Nat} {df : Def} (hf : P.defs[f]? = some df) (h1 : df.ps.length = 2) (h2 : df.N.length = 5) (hb : df.body = B_pull) : PullOk (callD P (k + 1)) f := fun b rest many n ⟨cs, i, cur, seed, e, h0, h1', h2', h3, h4⟩ hm hn hk => by
  subst e
  obtain ⟨i', cur', seed', o', e1, g0, g1, g2, g3, g4⟩ := pull1 (P := P) (call := callD P k) (rest := rest) (m := .int many) (o := none) h0 h1' h2' h3 h4
  obtain ⟨v, b', e2, hb', l1, l2⟩ := pull2 (P := P) (call := callD P k) (rest := rest) (o := o') hm hn hk g0 g1 g2 g3 g4
  refine ⟨v, b', callD_rt hf h1.symm ?_ rfl, hb', l1, l2⟩
  rw [hb, h2, B_pull, evSs_cons]
  show (evS P (callD P k) B_pull1 [some (.ref 0), some (.int many), none, none, none] _).seq _ = _
  rw [e1, seq_nx, e2]
end G
set_option Elab.async false
set_option linter.all false
set_option maxRecDepth 100000
set_option exponentiation.threshold 300
namespace G
open PySem L2
section
variable {P : Prog} {call : CallS}
theorem comp_map {e : E} {v : Nat} {k : It} {src : List E} {ρ : Env} {s : Stt} {ds xs : List D} (f : D → D) (hs : evEs P call src ρ s = .ok ds s) (hx : srcF k s ds = some xs) (hl : xs.length ≤ sizeLine) (he : ∀ x ∈ xs, evE P call e (ρ.set v (some x)) s = .ok (f x) s) :
    evE P call (.comp false e [v] [v] k src none) ρ s = .ok (.lst (xs.map f)) s := by
  rw [evE_comp, hs, rbind_ok, hx, of_some, rbind_ok, loopC_map f xs [] (by simpa using hl) fun d acc hd ha => compB_of tg_own (he d hd) ha]
  rfl
def Draw (r : R D) (rest : Stt) (Q : D → Prop) : Prop := ∃ d b', r = .ok d (b' :: rest) ∧ BagOK b' ∧ Q d
def B_same (same : Nat) : List S := [.ite (.isi (.var 1) true ["list", "tuple"]) [.ite (.or [.cmp .ne (.isi (.var 0) false ["list"]) (.isi (.var 1) false ["list"]), .cmp .ne (.isi (.var 0) false ["tuple"]) (.isi (.var 1) false ["tuple"])]) [.ret (.bl false)] [], .ret (.and [.cmp .eq (.bi .len (.var 0)) (.bi .len (.var 1)), .bi .all (.comp false (.call same [.ix (.var 0) (.var 2), .ix (.var 1) (.var 2)]) [2] [2] .range1 [.bi .len (.var 1)] none)])] [], .ite (.or [.cmp .isN (.var 1) (.non), .cmp .isN (.var 0) (.non)]) [.ret (.and [.cmp .isN (.var 1) (.non), .cmp .isN (.var 0) (.non)])] [], .ite (.or [.cmp .ne (.isi (.var 0) false ["bool"]) (.isi (.var 1) false ["bool"]), .cmp .ne (.isi (.var 0) false ["int"]) (.isi (.var 1) false ["int"])]) [.ret (.bl false)] [], .ret (.and [.cmp .eq (.isi (.var 0) false ["str"]) (.isi (.var 1) false ["str"]), .cmp .eq (.var 0) (.var 1)])]
theorem pls_get {n : Nat} : ∀ {ds : List D}, D.pls n ds = true → ∀ (i : Nat) d, ds[i]? = some d → D.pl n d = true
  | [], _, i, d, h => by simp at h
  | x :: xs, h, 0, d, hi => by
    simp only [D.pls, Bool.and_eq_true] at h
    simp at hi
    subst hi
    exact h.1
  | x :: xs, h, i + 1, d, hi => by
    simp only [D.pls, Bool.and_eq_true] at h
    exact pls_get h.2 i d (by simpa using hi)
theorem bools_true : ∀ n : Nat, bools (List.replicate n (D.bl true)) = some (List.replicate n true)
  | 0 => rfl
  | n + 1 => by
    rw [List.replicate_succ, List.replicate_succ]
    simp [bools, bools_true n]
theorem same_seq {same : Nat} {s : Stt} {d : D} {xs : List D} (hd : d = .tup xs ∨ d = .lst xs) (hl : xs.length ≤ 1000000) (h : ∀ x ∈ xs, call same [x, x] s = .ok (.bl true) s) : evSs P call (B_same same) [some d, some d, none] s = .rt (.bl true) s := by
  have hi : itemsF s d = some xs := by rcases hd with e | e <;> subst e <;> rfl
  have hx : ∀ i : Nat, i < xs.length → ∃ x, xs[i]? = some x ∧ ixF s d (.int i) = some x := fun i q => by
    refine ⟨xs[i], List.getElem?_eq_getElem q, ?_⟩
    have : atI xs (i : Int) = some xs[i] := atI_of (by omega) (by simp)
    rcases hd with e | e <;> subst e <;> exact this
  have hlen : biF .len s d = some (.int xs.length) := by
    rcases hd with e | e <;> subst e <;> rfl
  have c := comp_map (P := P) (call := call) (e := .call same [.ix (.var 0) (.var 2), .ix (.var 1) (.var 2)]) (v := 2) (k := .range1) (src := [.bi .len (.var 1)]) (ρ := [some d, some d, none]) (s := s) (ds := [.int xs.length]) (xs := (List.range xs.length).map fun i => .int (i : Nat)) (fun _ => .bl true)
    (by simp [evEs, evE, R.of, R.bind, hlen]) (by
      simp only [srcF]
      rw [if_pos (by omega), Int.toNat_natCast]) (by rw [List.length_map, List.length_range]; exact Nat.le_trans hl (by decide)) (fun x hx' => by
      obtain ⟨i, hi', rfl⟩ := List.mem_map.mp hx'
      obtain ⟨y, hy, hy2⟩ := hx i (List.mem_range.mp hi')
      have q := h y (List.mem_of_getElem? hy)
      simp [evE, evEs, R.of, R.bind, hy2, q])
  have a : biF .all s (.lst (((List.range xs.length).map fun i => D.int (i : Nat)).map fun _ => D.bl true)) = some (.bl true) := by
    have : (((List.range xs.length).map fun i => D.int (i : Nat)).map fun _ => D.bl true) = List.replicate xs.length (D.bl true) := by
      rw [List.map_map, List.eq_replicate_iff]
      simp
    rw [this]
    simp [biF, listF, bools_true]
  have t1 : isiS s d ["list", "tuple"] = some (.bl true) := by rcases hd with e | e <;> subst e <;> rfl
  obtain ⟨z1, t2⟩ : ∃ z, isiS s d ["list"] = some (.bl z) := by rcases hd with e | e <;> subst e <;> exact ⟨_, rfl⟩
  obtain ⟨z2, t3⟩ : ∃ z, isiS s d ["tuple"] = some (.bl z) := by rcases hd with e | e <;> subst e <;> exact ⟨_, rfl⟩
  have h1 : evT P call (.isi (.var 1) true ["list", "tuple"]) [some d, some d, none] s = .ok true s := by
    simp [evT, R.of, R.bind, t1, truF, evE]
  have h2 : evS P call (.ite (.or [.cmp .ne (.isi (.var 0) false ["list"]) (.isi (.var 1) false ["list"]), .cmp .ne (.isi (.var 0) false ["tuple"]) (.isi (.var 1) false ["tuple"])]) [.ret (.bl false)] []) [some d, some d, none] s = .nx [some d, some d, none] s := by
    simp [evS, evSs, evT, evTOr, evE, R.of, R.bind, R.st, t2, t3, cmpF, eqF_bl]
  have h3 : evE P call (.and [.cmp .eq (.bi .len (.var 0)) (.bi .len (.var 1)), .bi .all (.comp false (.call same [.ix (.var 0) (.var 2), .ix (.var 1) (.var 2)]) [2] [2] .range1 [.bi .len (.var 1)] none)]) [some d, some d, none] s = .ok (.bl true) s := by
    have : evE P call (.bi .all (.comp false (.call same [.ix (.var 0) (.var 2), .ix (.var 1) (.var 2)]) [2] [2] .range1 [.bi .len (.var 1)] none)) [some d, some d, none] s = .ok (.bl true) s := by
      rw [evE, c, rbind_ok, a, of_some]
    have h4 : evE P call (.cmp .eq (.bi .len (.var 0)) (.bi .len (.var 1))) [some d, some d, none] s = .ok (.bl true) s := by
      simp [evE, R.of, R.bind, hlen, cmpF, eqF_int]
    rw [evE, evAnd, h4, rbind_ok, evAnd, this]
  rw [B_same, evSs_cons, evS, h1, st_ok, if_pos rfl, evSs_cons, h2, seq_nx, evSs_cons, evS, h3, st_ok, seq_rt, seq_rt]
theorem same_leaf {same : Nat} {s : Stt} {d : D} (hd : d = .non ∨ (∃ b, d = .bl b) ∨ (∃ i, d = .int i) ∨ ∃ t, d = .str t ∧ txB t = true) : evSs P call (B_same same) [some d, some d, none] s = .rt (.bl true) s := by
  rcases hd with e | ⟨b, e⟩ | ⟨i, e⟩ | ⟨t, e, ht⟩ <;> subst e
  · simp [B_same, evSs, evS, evT, evTOr, evE, evAnd, R.of, R.bind, R.st, RS.seq, isiS, isiF, tyN, heir, truF, cmpF]
  · simp [B_same, evSs, evS, evT, evTOr, evE, evAnd, R.of, R.bind, R.st, RS.seq, isiS, isiF, tyN, heir, truF, cmpF, eqF_bl]
  · simp [B_same, evSs, evS, evT, evTOr, evE, evAnd, R.of, R.bind, R.st, RS.seq, isiS, isiF, tyN, heir, truF, cmpF, eqF_bl, eqF_int]
  · simp [B_same, evSs, evS, evT, evTOr, evE, evAnd, R.of, R.bind, R.st, RS.seq, isiS, isiF, tyN, heir, truF, cmpF, eqF_bl, eqF_strB ht ht]
end
/-- told and due are one: n levels deep -/
def SameOk (n : Nat) (call : CallS) (f : Nat) : Prop := ∀ (d : D) (s : Stt), D.pl n d = true → call f [d, d] s = .ok (.bl true) s
theorem sameOk {P : Prog} {f : Nat} {df : Def} (hf : P.defs[f]? = some df) (h1 : df.ps.length = 2) (h2 : df.N.length = 3) (hb : df.body = B_same f) (k : Nat) : ∀ n : Nat, SameOk n (callD P (k + 1 + n)) f
  | 0, d, s, h => by
    refine callD_rt hf h1.symm ?_ rfl
    rw [hb, h2]
    cases d <;> first | (exact same_leaf (.inl rfl)) | (exact same_leaf (.inr (.inl ⟨_, rfl⟩))) | (exact same_leaf (.inr (.inr (.inl ⟨_, rfl⟩)))) | (exact same_leaf (.inr (.inr (.inr ⟨_, rfl, by simpa [D.pl] using h⟩)))) | (simp [D.pl] at h)
  | n + 1, d, s, h => by
    refine callD_rt hf h1.symm ?_ rfl
    rw [hb, h2]
    have ih := sameOk hf h1 h2 hb k n
    cases d with
    | tup xs =>
      simp only [D.pl, Bool.and_eq_true, decide_eq_true_eq, Nat.add_sub_cancel] at h
      refine same_seq (.inl rfl) h.1.2 fun x hx => ?_
      obtain ⟨i, hi⟩ := List.getElem?_of_mem hx
      exact ih x s (pls_get h.2 i x hi)
    | lst xs =>
      simp only [D.pl, Bool.and_eq_true, decide_eq_true_eq, Nat.add_sub_cancel] at h
      refine same_seq (.inr rfl) h.1.2 fun x hx => ?_
      obtain ⟨i, hi⟩ := List.getElem?_of_mem hx
      exact ih x s (pls_get h.2 i x hi)
    | non => exact same_leaf (.inl rfl)
    | bl b => exact same_leaf (.inr (.inl ⟨_, rfl⟩))
    | int i => exact same_leaf (.inr (.inr (.inl ⟨_, rfl⟩)))
    | str t => exact same_leaf (.inr (.inr (.inr ⟨_, rfl, by simpa [D.pl] using h⟩)))
    | _ => simp [D.pl] at h
def B_bag (salt : Int) : List S := [.set 1 (.int salt), .for [2] .seq [.sl (.var 0) none (some (.int 63))] [.set 1 (.bin .mod (.bin .add (.bin .add (.bin .mul (.var 1) (.int 48271)) (.bin .mod (.var 2) (.int 2147483629))) (.int 17)) (.int 2147483647))], .ret (.lst true [.bi .list (.sl (.var 0) none (some (.int 63))), .int 0, .int 0, .var 1])]
def BagMk (call : CallS) (f : Nat) : Prop := ∀ ns : List Int, ∃ b, call f [.scr ns] [] = .ok (.ref 0) [b] ∧ BagOK b
theorem bagMk {P : Prog} {k f : Nat} {df : Def} {salt : Int} (hf : P.defs[f]? = some df) (h1 : df.ps.length = 1) (h2 : df.N.length = 3) (hb : df.body = B_bag salt) (hk : df.keep = true) (s0 : 0 ≤ salt) (s1 : salt < 2147483647) : BagMk (callD P (k + 1)) f := fun ns => by
  rw [callD_fin hf (ds := [.scr ns]) (s := []) h1.symm, hb, h2, hk]
  have e0 : ∀ a b c : Option D, evE P (callD P k) (.sl (.var 0) none (some (.int 63))) [some (.scr ns), b, c] [] = .ok (.lst ((cut ns none (some 63)).map .int)) [] := fun a b c => by
    simp [evE, evO, R.of, R.bind, slF]
  have e1 : evS P (callD P k) (.set 1 (.int salt)) [some (.scr ns), none, none] [] = .nx [some (.scr ns), some (.int salt), none] [] := by
    simp [evS, evE, R.st]
  obtain ⟨ρ', s', e2, x, y, e3, e4, hx0, hx1⟩ := loopF_inv (body := forB P (callD P k) [2] [.set 1 (.bin .mod (.bin .add (.bin .add (.bin .mul (.var 1) (.int 48271)) (.bin .mod (.var 2) (.int 2147483629))) (.int 17)) (.int 2147483647))])
    (fun _ ρ s => ∃ (x : Int) (y : Option D), ρ = [some (.scr ns), some (.int x), y] ∧ s = [] ∧ 0 ≤ x ∧ x < 2147483647) ((cut ns none (some 63)).map .int) 0 [some (.scr ns), some (.int salt), none] [] ⟨salt, none, rfl, rfl, s0, s1⟩
    fun i d ρ s hi ⟨x, y, e3, e4, h3, h4⟩ => by
      subst e3 e4
      rw [List.getElem?_map] at hi
      obtain ⟨z, hz, e5⟩ := Option.map_eq_some_iff.mp hi
      subst e5
      have m1 := small_mul (i := x) (j := 48271) h3 (by omega) (by omega) (by omega)
      have d1 := fun z => bin_mod (i := z) (j := 2147483629) (by omega)
      have d2 := fun z => bin_mod (i := z) (j := 2147483647) (by omega)
      refine ⟨[some (.scr ns), some (.int ((x * 48271 + z % 2147483629 + 17) % 2147483647)), some (.int z)], [], ?_, _, _, rfl, rfl, by omega, by omega⟩
      simp only [forB, tgF, List.set_cons_succ, List.set_cons_zero, evSs, evS, evE, R.of, R.bind, R.st, RS.seq, List.getElem?_cons_zero, List.getElem?_cons_succ, Option.join_some, m1, d1, d2, bin_add]
  have e5 : evS P (callD P k) (.for [2] .seq [.sl (.var 0) none (some (.int 63))] [.set 1 (.bin .mod (.bin .add (.bin .add (.bin .mul (.var 1) (.int 48271)) (.bin .mod (.var 2) (.int 2147483629))) (.int 17)) (.int 2147483647))]) [some (.scr ns), some (.int salt), none] [] = .nx [some (.scr ns), some (.int x), y] [] := by
    rw [evS_for, evEs, e0 none, rbind_ok, evEs, rbind_ok, rbind_ok]
    simp only [srcF, of_some, st_ok]
    rw [e2, e3, e4]
  have e6 : evS P (callD P k) (.ret (.lst true [.bi .list (.sl (.var 0) none (some (.int 63))), .int 0, .int 0, .var 1])) [some (.scr ns), some (.int x), y] [] = .rt (.ref 0) [bagC (cut ns none (some 63)) 0 0 x] := by
    have : evE P (callD P k) (.bi .list (.sl (.var 0) none (some (.int 63)))) [some (.scr ns), some (.int x), y] [] = .ok (.lst ((cut ns none (some 63)).map .int)) [] := by
      rw [evE, e0 none, rbind_ok]
      rfl
    rw [evS, evE, evEs, this, rbind_ok]
    simp [evEs, evE, R.of, R.bind, R.st, bagC]
    rw [if_pos (by decide)]
  refine ⟨bagC (cut ns none (some 63)) 0 0 x, ?_, _, _, _, _, rfl, by omega, by omega, by omega, hx0, hx1⟩
  show RS.fin true 0 (evSs P (callD P k) (B_bag salt) [some (.scr ns), none, none] []) = _
  rw [B_bag, evSs_cons, e1, seq_nx, evSs_cons, e5, seq_nx, evSs_cons, e6, seq_rt, fin_rt]
  rfl
end G
namespace G
open PySem L2
end G
set_option Elab.async false
set_option linter.all false
set_option maxRecDepth 100000
set_option exponentiation.threshold 300
namespace G
open PySem L2
class SzC (n : outParam Nat) (q : Rat) : Prop where
  sz : Sz n q
instance {m n : Nat} {p q : Rat} [a : SzC m p] [b : SzC n q] : SzC (m + n + 1) (p + q) := ⟨a.sz.add b.sz⟩
instance {m n : Nat} {p q : Rat} [a : SzC m p] [b : SzC n q] : SzC (m + n + 1) (p - q) := ⟨a.sz.sub b.sz⟩
instance {m n : Nat} {p q : Rat} [a : SzC m p] [b : SzC n q] : SzC (m + n) (p * q) := ⟨a.sz.mul b.sz⟩
instance {m n : Nat} {p q : Rat} [a : SzC m p] [b : SzC n q] : SzC (m + n) (p / q) := ⟨by
  by_cases h : q = 0
  · subst h
    have : p / 0 = 0 := by rw [Rat.div_def, Rat.inv_zero, Rat.mul_zero]
    rw [this]
    have h0 : Sz m p := a.sz
    have p1 : 1 < 2 ^ m := by
      have := h0.2
      have := p.den_pos
      omega
    exact Sz.mono ⟨by show 0 < 2 ^ m; omega, p1⟩ (Nat.le_add_right _ _)
  · exact Sz.div h a.sz b.sz⟩
instance : SzC 1 0 := ⟨⟨by decide, by decide⟩⟩
instance : SzC 1 1 := ⟨⟨by decide, by decide⟩⟩
theorem LowOk.run {call : CallS} {f : Nat} (h : LowOk call f) (n : Nat) {a b : Int} {s : Stt} (h0 : b ≠ 0) (ha : a.natAbs < 2 ^ n) (hb : b.natAbs < 2 ^ n) (hn : n < 13400) : call f [.int a, .int b] s = .ok (qD (Rat.divInt a b)) s := h a b n s h0 ha hb hn
theorem OpOk.run {op : Rat → Rat → Rat} {call : CallS} {f : Nat} (h : OpOk op call f) {p q : Rat} {m n : Nat} {s : Stt} [a : SzC m p] [b : SzC n q] (hn : m + n + 1 < 13400) : call f [qD p, qD q] s = .ok (qD (op p q)) s := h p q m n s a.sz b.sz hn
theorem PerOk.run {call : CallS} {f : Nat} (h : PerOk call f) {p q : Rat} {m n : Nat} {s : Stt} [a : SzC m p] [b : SzC n q] (h0 : q ≠ 0) (hn : m + n + 1 < 13400) : call f [qD p, qD q] s = .ok (qD (p / q)) s := h p q m n s h0 a.sz b.sz hn
def placeD (p : Rat × Rat) : D := .tup [qD p.1, qD p.2]
structure Disc where
  back : Rat
  bend : Rat
  x : Rat
  y : Rat
theorem le4 : (4 : Nat) ≤ sizeLine := by decide
theorem le3 : (3 : Nat) ≤ sizeLine := by decide
theorem le2 : (2 : Nat) ≤ sizeLine := by decide
end G
set_option Elab.async false
set_option linter.all false
set_option maxRecDepth 100000
set_option exponentiation.threshold 300
namespace G
open PySem L2
theorem callD_new {P : Prog} {k f : Nat} {df : Def} {ds : List D} {s s1 s2 : Stt} {d d' : D} (hf : P.defs[f]? = some df) (hl : ds.length = df.ps.length) (hk : df.keep = false) (h : evSs P (callD P k) df.body (ds.map some ++ List.replicate (df.N.length - ds.length) none) s = .rt d (s1 ++ s2)) (hs : s1.length = s.length) (h2 : s2 ≠ []) (hfr : d.freeze s.length (s1 ++ s2) = some d') (hu : s1.all (·.under s.length) = true) : callD P (k + 1) f ds s = .ok d' s1 := by
  rw [callD_fin hf hl, h, fin_rt, hk]
  unfold leave
  have : 0 < s2.length := List.length_pos_iff.mpr h2
  rw [if_neg (by decide), if_neg (by rw [List.length_append]; omega), hfr]
  have e : (s1 ++ s2).take s.length = s1 := by rw [← hs]; simp
  rw [e]
  show (if _ then _ else _) = _
  rw [if_pos hu]
def RestOk (rest : Stt) : Prop := ∀ n, rest.all (·.under n) = true
theorem unders_ints (n : Nat) : ∀ cs : List Int, D.unders n (cs.map .int) = true
  | [] => rfl
  | c :: cs => by simp [D.unders, D.under, unders_ints n cs]
theorem BagOK.under {b : Cell} (h : BagOK b) (n : Nat) : b.under n = true := by
  obtain ⟨cs, i, cur, seed, rfl, _⟩ := h
  simp [bagC, Cell.under, D.unders, D.under, unders_ints]
theorem restOk_nil : RestOk [] := fun _ => rfl
theorem bag_under {b : Cell} {rest : Stt} (h : BagOK b) (hr : RestOk rest) (n : Nat) : (b :: rest).all (·.under n) = true := by
  rw [List.all_cons, h.under n, hr n]
  rfl
def apartQ (p q : Rat × Rat) : Rat := (p.1 - q.1) * (p.1 - q.1) + (p.2 - q.2) * (p.2 - q.2)
def centerQ (d : Disc) : Rat × Rat := (d.x / d.bend, d.y / d.bend)
/-- sizes of a disc's parts -/
class SzD (n : outParam Nat) (d : Disc) : Prop where
  back : Sz n d.back
  bend : Sz n d.bend
  x : Sz n d.x
  y : Sz n d.y
class SzP (n : outParam Nat) (p : Rat × Rat) : Prop where
  x : Sz n p.1
  y : Sz n p.2
instance {n : Nat} {d : Disc} [h : SzD n d] : SzC n d.back := ⟨h.back⟩
instance {n : Nat} {d : Disc} [h : SzD n d] : SzC n d.bend := ⟨h.bend⟩
instance {n : Nat} {d : Disc} [h : SzD n d] : SzC n d.x := ⟨h.x⟩
instance {n : Nat} {d : Disc} [h : SzD n d] : SzC n d.y := ⟨h.y⟩
instance {n : Nat} {d : Rat × Rat} [h : SzP n d] : SzC n d.1 := ⟨h.x⟩
instance {n : Nat} {d : Rat × Rat} [h : SzP n d] : SzC n d.2 := ⟨h.y⟩
instance {n : Nat} {d : Disc} [h : SzD n d] : SzP (n + n) (centerQ d) := ⟨(inferInstance : SzC (n + n) (d.x / d.bend)).sz, (inferInstance : SzC (n + n) (d.y / d.bend)).sz⟩
theorem SzP.mono {m n : Nat} {p : Rat × Rat} (h : SzP m p) (hn : m ≤ n) : SzP n p := ⟨h.x.mono hn, h.y.mono hn⟩
theorem SzD.mono {m n : Nat} {p : Disc} (h : SzD m p) (hn : m ≤ n) : SzD n p := ⟨h.back.mono hn, h.bend.mono hn, h.x.mono hn, h.y.mono hn⟩
section
variable {P : Prog} {k f plus minus by_ per apart center : Nat} {df : Def} {s : Stt}
instance {m n : Nat} {p q : Rat × Rat} [SzP m p] [SzP n q] : SzC (m + n + 1 + (m + n + 1) + (m + n + 1 + (m + n + 1)) + 1) (apartQ p q) := inferInstanceAs (SzC _ ((p.1 - q.1) * (p.1 - q.1) + (p.2 - q.2) * (p.2 - q.2)))
end
def SpotOk (call : CallS) (f : Nat) : Prop := ∀ (b : Cell) (rest : Stt) (most reach : Int), BagOK b → RestOk rest → 0 < most → most ≤ 100 → 0 < reach → reach ≤ 100 → Draw (call f [.ref 0, .int most, .int reach] (b :: rest)) rest fun d => ∃ p, d = placeD p ∧ SzP 14 p
/-- a drawn part: an under from 1 to m, within -r and r -/
def GridQ (m r : Int) (q : Rat) : Prop := ∃ u a : Int, 0 < u ∧ u ≤ m ∧ 0 ≤ a ∧ a ≤ 2 * r * u ∧ q = Rat.divInt (a - r * u) u
def SpotG (call : CallS) (f : Nat) : Prop := ∀ (b : Cell) (rest : Stt) (most reach : Int), BagOK b → RestOk rest → 0 < most → most ≤ 100 → 0 < reach → reach ≤ 100 → Draw (call f [.ref 0, .int most, .int reach] (b :: rest)) rest fun d => ∃ p, d = placeD p ∧ SzP 14 p ∧ GridQ most reach p.1 ∧ GridQ most reach p.2
theorem SpotG.ok {call : CallS} {f : Nat} (h : SpotG call f) : SpotOk call f := fun b rest most reach ob hr m0 m1 r0 r1 => by
  obtain ⟨d, b', e, o, p, h1, h2, _⟩ := h b rest most reach ob hr m0 m1 r0 r1
  exact ⟨d, b', e, o, p, h1, h2⟩
theorem get_last {b : Cell} {rest : Stt} {c : Cell} : (b :: (rest ++ [c]))[rest.length + 1]? = some c := by simp
theorem set_last {b : Cell} {rest : Stt} {c c' : Cell} : (b :: (rest ++ [c])).set (rest.length + 1) c' = b :: (rest ++ [c']) := by simp
end G
set_option Elab.async false
set_option linter.all false
set_option maxRecDepth 100000
set_option exponentiation.threshold 300
namespace G
open PySem L2
def B_of (pull : Nat) : List S := [.ret (.ix (.var 1) (.call pull [.var 0, .bi .len (.var 1)]))]
/-- one of a list -/
def OfOk (call : CallS) (f : Nat) : Prop := ∀ (b : Cell) (rest : Stt) (xs : List D), BagOK b → 0 < xs.length → xs.length ≤ 1000000 → Draw (call f [.ref 0, .lst xs] (b :: rest)) rest fun d => d ∈ xs
theorem ofOk {P : Prog} {k f pull : Nat} {df : Def} (hf : P.defs[f]? = some df) (h1 : df.ps.length = 2) (h2 : df.N.length = 2) (hb : df.body = B_of pull) (hp : PullOk (callD P k) pull) : OfOk (callD P (k + 1)) f := fun b rest xs ob h0 hl => by
  have z : (2 : Nat) ^ 20 = 1048576 := by decide
  obtain ⟨v, b', e, ob', g, l⟩ := hp b rest xs.length 20 ob (by omega) (by omega) (by decide)
  have hv : v.toNat < xs.length := by omega
  have e2 : ixF (b' :: rest) (.lst xs) (.int v) = some xs[v.toNat] := atI_of g (List.getElem?_eq_getElem hv)
  refine ⟨xs[v.toNat], b', callD_rt hf h1.symm ?_ rfl, ob', List.getElem_mem hv⟩
  rw [hb, h2]
  simp [B_of, evSs, evS, evE, evEs, R.of, R.bind, R.st, RS.seq, biF, itemsF, e, e2]
end G
namespace G
open PySem L2
theorem srcF_range {s : Stt} {v : Int} (h0 : 0 ≤ v) (h1 : v ≤ 1000000) : srcF .range1 s [.int v] = some ((List.range v.toNat).map fun i => .int (i : Nat)) := by
  simp only [srcF]
  rw [if_pos (by omega)]
end G
set_option Elab.async false
set_option linter.all false
set_option maxRecDepth 100000
namespace G
open PySem L2
section
variable {P : Prog} {k f bag m n : Nat} {df : Def} {turnB tl : List S}
/-- one turn keeps the bag, whatever stands in the other names -/
def TurnK (P : Prog) (k m : Nat) (turnB : List S) : Prop := ∀ (b : Cell) (x0 : Option D) (env : Env), BagOK b → env.length = m → ∃ b' env', BagOK b' ∧ env'.length = m ∧ evSs P (callD P k) turnB (x0 :: some (.ref 0) :: env) [b] = .nx (x0 :: some (.ref 0) :: env') [b']
/-- what stands behind the turns answers True -/
def EndK (P : Prog) (k m : Nat) (tl : List S) : Prop := ∀ (b : Cell) (x0 : Option D) (env : Env), BagOK b → env.length = m → ∃ s', evSs P (callD P k) tl (x0 :: some (.ref 0) :: env) [b] = .rt (.bl true) s'
theorem law_for (turn : TurnK P k m turnB) (hn : n ≤ 1000000) {b : Cell} {x0 : Option D} {env : Env} (ob : BagOK b) (he : env.length = m) :
    ∃ b' env', BagOK b' ∧ env'.length = m ∧ evS P (callD P k) (.for [2] .range1 [.int n] turnB) (x0 :: some (.ref 0) :: env) [b] = .nx (x0 :: some (.ref 0) :: env') [b'] := by
  obtain ⟨ρ', s', e2, b', env', e3, e4, o2, l2⟩ := loopF_inv (body := forB P (callD P k) [2] turnB) (fun _ ρ s => ∃ b env, ρ = x0 :: some (.ref 0) :: env ∧ s = [b] ∧ BagOK b ∧ env.length = m)
    ((List.range n).map fun i => .int (i : Nat)) 0 (x0 :: some (.ref 0) :: env) [b] ⟨b, env, rfl, rfl, ob, he⟩
    fun i d ρ s hi ⟨b, env, e3, e4, o, l⟩ => by
      subst e3 e4
      obtain ⟨b1, env1, o1, l1, e5⟩ := turn b x0 (env.set 0 (some d)) o (by simpa using l)
      exact ⟨_, [b1], e5, b1, env1, rfl, rfl, o1, l1⟩
  refine ⟨b', env', o2, l2, ?_⟩
  rw [evS_for]
  have : ∀ ρ s, evEs P (callD P k) [.int n] ρ s = .ok [.int n] s := fun ρ s => by simp [evEs, evE, R.bind]
  rw [this, rbind_ok, srcF_range (by omega) (by omega), of_some, st_ok]
  simp only [Int.toNat_natCast]
  exact e2.trans (by rw [e3, e4])
theorem law_good (hf : P.defs[f]? = some df) (h1 : df.ps.length = 1) (h2 : df.N.length = m + 2) (hk : df.keep = false) (hb : df.body = .set 1 (.call bag [.var 0]) :: .for [2] .range1 [.int n] turnB :: tl) (hbag : BagMk (callD P k) bag) (turn : TurnK P k m turnB) (hn : n ≤ 1000000) (hend : EndK P k m tl) (ns : List Int) :
    ∃ s', callD P (k + 1) f [.scr ns] [] = .ok (.bl true) s' := by
  obtain ⟨b, e1, o1⟩ := hbag ns
  obtain ⟨b2, env2, o2, l2, e2⟩ := law_for (n := n) (x0 := some (.scr ns)) (env := List.replicate m none) turn hn o1 (by simp)
  obtain ⟨s', e3⟩ := hend b2 (some (.scr ns)) env2 o2 l2
  refine ⟨[], ?_⟩
  rw [callD_fin hf (ds := [.scr ns]) (s := []) h1.symm, hb, h2, hk]
  have e0 : ([.scr ns] : List D).map some ++ List.replicate (m + 2 - ([.scr ns] : List D).length) none = some (.scr ns) :: none :: List.replicate m none := by
    show some (D.scr ns) :: List.replicate (m + 1) none = _
    rw [List.replicate_succ]
  rw [e0]
  have s1 : evS P (callD P k) (.set 1 (.call bag [.var 0])) (some (.scr ns) :: none :: List.replicate m none) [] = .nx (some (.scr ns) :: some (.ref 0) :: List.replicate m none) [b] := by
    simp [evS, evEs, evE, R.of, R.bind, R.st, e1]
  rw [evSs_cons, s1, seq_nx, evSs_cons, e2, seq_nx, e3, fin_rt]
  unfold leave
  rw [if_neg (by decide)]
  split
  · rename_i h
    have : s' = [] := List.eq_nil_of_length_eq_zero h
    rw [this]
  · show (if (s'.take 0).all (·.under 0) = true then R.ok (D.bl true) (s'.take 0) else .stuck) = _
    simp
end
end G
namespace G
open PySem L2
section
variable {P : Prog} {call : CallS}
/-- if not same(told, due): return False -/
theorem same_if {same n : Nat} (h : SameOk n call same) {a b : E} {ρ : Env} {s s0 : Stt} {d : D} (he : evEs P call [a, b] ρ s0 = .ok [d, d] s) (hd : D.pl n d = true) : evS P call (.ite (.not (.call same [a, b])) [.ret (.bl false)] []) ρ s0 = .nx ρ s := by
  have := h d s hd
  rw [evS, evT, evT, he, rbind_ok, this, rbind_ok]
  simp [truF, R.of, R.bind, R.st, evSs]
theorem same_if1 {same n : Nat} (h : SameOk n call same) {a b : E} {ρ : Env} {s s0 : Stt} {d : D} (h1 : evE P call a ρ s0 = .ok d s) (h2 : evE P call b ρ s = .ok d s) (hd : D.pl n d = true) : evS P call (.ite (.not (.call same [a, b])) [.ret (.bl false)] []) ρ s0 = .nx ρ s :=
  same_if h (by simp [evEs, h1, h2, R.bind]) hd
end
end G
set_option Elab.async false
set_option linter.all false
set_option maxRecDepth 100000
namespace G
def push (w : T) (c : Nat) : T := if w.getLast? = some c then w.dropLast else w ++ [c]
def run (acc t : T) : T := t.foldl push acc
/-- no two alike neighbours -/
def Red : T → Prop
  | [] => True
  | [_] => True
  | a :: b :: r => a ≠ b ∧ Red (b :: r)
theorem red_app_one : ∀ {w : T} {c : Nat}, Red (w ++ [c]) ↔ Red w ∧ w.getLast? ≠ some c
  | [], c => by simp [Red]
  | [a], c => by simp [Red]
  | a :: b :: r, c => by
    have := red_app_one (w := b :: r) (c := c)
    simp only [List.cons_append] at this
    simp only [List.cons_append, Red, this, List.getLast?_cons_cons, and_assoc]
theorem snoc_cases (w : T) : w = [] ∨ ∃ v c, w = v ++ [c] := by
  rcases List.eq_nil_or_concat w with h | ⟨v, c, h⟩
  · exact .inl h
  · exact .inr ⟨v, c, by simpa using h⟩
theorem red_rev : ∀ {w : T}, Red w → Red w.reverse
  | [], _ => trivial
  | [a], _ => trivial
  | a :: b :: r, h => by
    rw [List.reverse_cons]
    refine red_app_one.mpr ⟨red_rev h.2, ?_⟩
    rw [List.reverse_cons]
    simp
    exact fun e => h.1 e.symm
def pre (l : Nat) (w : T) : T := (w.reverse.dropWhile (· != l)).reverse
end G
set_option Elab.async false
set_option linter.all false
set_option maxRecDepth 100000
namespace G
open PySem L2
theorem sIx_m1 (n d : Nat) : HT.sIx n d (some (-1)) = n - 1 := by
  show (if (-1 : Int) < 0 then ((-1 : Int) + (n : Int)).toNat else min (-1 : Int).toNat n) = _
  rw [if_pos (by decide)]
  omega
theorem cut_last (a : T) : cut a (some (-1)) none = a.drop (a.length - 1) := by
  unfold cut
  rw [sIx_m1, HT.sIx_none]
  exact List.take_of_length_le (by simp)
theorem last_eq {a : T} {c : Nat} : a.drop (a.length - 1) = [c] ↔ a.getLast? = some c := by
  rcases snoc_cases a with e | ⟨v, d, e⟩
  · subst e; simp
  · subst e
    simp
theorem sl_last {t : T} (h : Tx t) : slF (.str t) (some (-1)) none = some (.str (t.drop (t.length - 1))) := by
  show (if t.length ≤ sizeLine then _ else _) = _
  rw [if_pos h.le, cut_last]
theorem add_str {a b : T} (h : a.length + b.length ≤ 1000) : binF .add (.str a) (.str b) = some (.str (a ++ b)) := if_pos (Nat.le_trans h (by decide))
theorem len_str {s : Stt} {t : T} (h : Tx t) : biF .len s (.str t) = some (.int t.length) := if_pos h.le
theorem Tx.sub {a b : T} (h : Tx b) (hl : a.length ≤ b.length) (hs : ∀ c ∈ a, c ∈ b) : Tx a := ⟨Nat.le_trans hl h.1, fun c hc => h.2 c (hs c hc)⟩
theorem Tx.rev {t : T} (h : Tx t) : Tx t.reverse := h.sub (by simp) (by simp)
theorem Tx.drop {t : T} (h : Tx t) (n : Nat) : Tx (t.drop n) := h.sub (by simp) fun c hc => List.mem_of_mem_drop hc
theorem Tx.take {t : T} (h : Tx t) (n : Nat) : Tx (t.take n) := h.sub (by simp; omega) fun c hc => List.mem_of_mem_take hc
theorem tx_one {c : Nat} (h : c < 1114112) : Tx [c] := ⟨by simp, by simpa using h⟩
theorem tx_nil : Tx [] := ⟨by simp, by simp⟩
def abcd : T := [97, 98, 99, 100]
def great : T := [65, 66, 67, 68]
def Abc (t : T) : Prop := ∀ c ∈ t, c ∈ abcd
theorem Abc.tx {t : T} (h : Abc t) (hl : t.length ≤ 1000) : Tx t := ⟨hl, fun c hc => by
  have := h c hc
  simp [abcd] at this
  omega⟩
def Word (t : T) : Prop := Abc t ∧ Red t
theorem Word.nil : Word [] := ⟨fun _ h => (nomatch h), trivial⟩
theorem Abc.app {a b : T} (h1 : Abc a) (h2 : Abc b) : Abc (a ++ b) := fun c hc => by
  rcases List.mem_append.mp hc with q | q
  · exact h1 c q
  · exact h2 c q
theorem Abc.rev {a : T} (h1 : Abc a) : Abc a.reverse := fun c hc => h1 c (by simpa using hc)
theorem Word.rev {a : T} (h : Word a) : Word a.reverse := ⟨h.1.rev, red_rev h.2⟩
def ct (p : T) (l : Nat) : T := if p = [] then [l - 32] else p
theorem abcd_cases {l : Nat} (h : l ∈ abcd) : l = 97 ∨ l = 98 ∨ l = 99 ∨ l = 100 := by simpa [abcd] using h
theorem not_great {c : Nat} (h : c ∈ abcd) : c ∉ great := by
  rcases abcd_cases h with e | e | e | e <;> subst e <;> decide
theorem occ_great {p : T} (h : Abc p) (h0 : p ≠ []) : inT p great = false := by
  unfold inT
  split
  · rename_i c
    exact decide_eq_false (not_great (h c (by simp)))
  · rename_i p' hp
    have : ¬ ((!(Builtin.Str.occurrences (tS great) (tS p) 0 (tS great).length 1).isEmpty) = true) := fun q => by
      obtain ⟨i, h1, h2⟩ := (StrLaws.found_iff (tS great) (tS p)).mp q
      match p, h0 with
      | c :: r, _ =>
        unfold Builtin.Str.subAt at h2
        have e := eq_of_beq h2
        have m : c ∈ great := by
          have m1 : c ∈ ((tS great).cps.extract i (i + (tS (c :: r)).length)).toList := by
            rw [e]
            simp [tS]
          rw [Array.toList_extract] at m1
          have := List.mem_of_mem_take m1
          exact List.mem_of_mem_drop this
        exact not_great (h c (by simp)) m
    simpa using this
theorem ix_text {s : Stt} {t : T} {i : Int} {c : Nat} (h : Tx t) (hi : atI t i = some c) : ixF s (.str t) (.int i) = some (.str [c]) := by
  show (if t.length ≤ sizeLine then (atI t i).map fun c => D.str [c] else none) = _
  rw [if_pos h.le, hi]
  rfl
theorem tx_abcd : Tx abcd := ⟨by decide, by decide⟩
theorem loopC_filter {body : D → List D → Stt → R (List D)} {s : Stt} (f : Nat → D) (g : Nat → Bool) : ∀ (cs : List Nat) (acc : List D), acc.length + cs.length ≤ sizeLine → (∀ c ∈ cs, ∀ acc : List D, acc.length < sizeLine → body (f c) acc s = .ok (if g c = true then acc ++ [f c] else acc) s) → loopC body (cs.map f) acc s = .ok (acc ++ (cs.filter g).map f) s
  | [], acc, _, _ => by simp [loopC]
  | c :: cs, acc, hl, h => by
    rw [List.length_cons] at hl
    rw [List.map_cons]
    unfold loopC
    rw [h c (List.mem_cons_self ..) acc (by omega)]
    by_cases q : g c = true
    · simp only [q, if_true]
      rw [loopC_filter f g cs (acc ++ [f c]) (by rw [List.length_append, List.length_singleton]; omega) fun d hd => h d (List.mem_cons_of_mem _ hd)]
      simp [q]
    · simp only [q, if_false]
      show loopC body (cs.map f) acc s = _
      rw [loopC_filter f g cs acc (by omega) fun d hd => h d (List.mem_cons_of_mem _ hd)]
      simp [q]
theorem in_one {c : Nat} {t : T} : inD (.str [c]) (.str t) = some (decide (c ∈ t)) := rfl
structure Is (P : Prog) (f np nn : Nat) (b : List S) : Prop where
  of : ∃ df, P.defs[f]? = some df ∧ df.ps.length = np ∧ df.N.length = nn ∧ df.body = b
theorem Is.rt {P : Prog} {f np nn k : Nat} {b : List S} (h : Is P f np nn b) {ds : List D} {s s' : Stt} {d : D} (hl : ds.length = np) (he : evSs P (callD P k) b (ds.map some ++ List.replicate (nn - np) none) s = .rt d s') (hs : s'.length = s.length) : callD P (k + 1) f ds s = .ok d s' := by
  obtain ⟨df, h1, rfl, rfl, rfl⟩ := h.of
  exact callD_rt h1 hl (by rw [hl]; exact he) hs
theorem Is.nx {P : Prog} {f np nn k : Nat} {b : List S} (h : Is P f np nn b) {ds : List D} {s s' : Stt} {ρ : Env} (hl : ds.length = np) (he : evSs P (callD P k) b (ds.map some ++ List.replicate (nn - np) none) s = .nx ρ s') (hs : s'.length = s.length) : callD P (k + 1) f ds s = .ok .non s' := by
  obtain ⟨df, h1, rfl, rfl, rfl⟩ := h.of
  rw [callD_fin h1 hl, hl, he, fin_nx, leave_eq hs]
theorem Is.exc {P : Prog} {f np nn k c : Nat} {b : List S} (h : Is P f np nn b) {ds fs : List D} {s s' : Stt} {ρ : Env} (hl : ds.length = np) (he : evSs P (callD P k) b (ds.map some ++ List.replicate (nn - np) none) s = .exc c fs ρ s') (hs : s'.length = s.length) : callD P (k + 1) f ds s = .exc c fs s' := by
  obtain ⟨df, h1, rfl, rfl, rfl⟩ := h.of
  rw [callD_fin h1 hl, hl, he]
  show leaveX _ _ _ _ = _
  rw [← hs]
  exact leaveX_eq rfl
def thr : RS → Prop
  | .rt _ _ => True
  | .exc _ _ _ _ => True
  | _ => False
theorem loopF_find {body : D → Env → Stt → RS} {s : Stt} (I : Env → Prop) (p : Nat → Bool) (v : Nat → RS → Prop) (hv : ∀ i r, v i r → thr r) : ∀ (ds : List D) (n : Nat) (ρ : Env), I ρ → (∀ i d ρ, ds[i]? = some d → I ρ → (p (n + i) = true ∧ v (n + i) (body d ρ s)) ∨ (p (n + i) = false ∧ ∃ ρ', body d ρ s = .nx ρ' s ∧ I ρ')) →
    (∃ i, (List.range' n ds.length).find? p = some i ∧ v i (loopF body ds ρ s)) ∨ ((List.range' n ds.length).find? p = none ∧ ∃ ρ', loopF body ds ρ s = .nx ρ' s ∧ I ρ')
  | [], n, ρ, h, _ => .inr ⟨rfl, ρ, rfl, h⟩
  | d :: ds, n, ρ, h, hb => by
    rw [List.length_cons, List.range'_succ, List.find?_cons]
    rcases hb 0 d ρ rfl h with ⟨e1, e2⟩ | ⟨e1, ρ', e2, h'⟩
    · left
      rw [Nat.add_zero] at e1 e2
      refine ⟨n, by rw [e1], ?_⟩
      have := hv n _ e2
      unfold loopF
      split <;> rename_i q <;> rw [q] at this e2 <;> first | exact e2 | exact this.elim
    · rw [Nat.add_zero] at e1
      rw [e1]
      unfold loopF
      rw [e2]
      refine loopF_find I p v hv ds (n + 1) ρ' h' fun i d ρ hi hI => ?_
      have := hb (i + 1) d ρ hi hI
      rwa [← Nat.add_assoc, Nat.add_right_comm] at this
def badAt (t : T) (i : Nat) : Bool := match t[i]? with
  | some c => !decide (c ∈ abcd) || (decide (0 < i) && decide (t[i - 1]? = some c))
  | none => false
def flawT (t : T) : Option Nat := match (List.range' 0 t.length).find? (badAt t) with
  | some i => some i
  | none => if 40 < t.length then some 40 else none
def flawD : Option Nat → D
  | some i => .int i
  | none => .non
end G
set_option Elab.async false
set_option linter.all false
set_option maxRecDepth 100000
namespace G
open PySem L2
section
variable {P : Prog} {k f : Nat}
theorem ix_at {s : Stt} {t : T} {i c : Nat} (h : Tx t) (hi : t[i]? = some c) : ixF s (.str t) (.int (i : Nat)) = some (.str [c]) := ix_text h (atI_of (by omega) (by rw [Int.toNat_natCast]; exact hi))
theorem same_before {call : CallS} {t : T} {i c : Nat} {s : Stt} {e : E} {ρ : Env} (h : Tx t) (hc : t[i]? = some c) (h0 : ρ[0]?.join = some (.str t)) {v : Nat} (h1 : ρ[v]?.join = some (.int (i : Nat))) (h2 : evE P call e ρ s = .ok (.str [c]) s) : evT P call (.and [.cmp .gt (.var v) (.int 0), .cmp .eq (.ix (.var 0) (.bin .sub (.var v) (.int 1))) e]) ρ s = .ok (decide (0 < i) && decide (t[i - 1]? = some c)) s := by
  cases i with
  | zero => simp [evT, evTAnd, evE, R.of, R.bind, cmpF, h1]
  | succ i =>
    have hi' : i + 1 < t.length := (List.getElem?_eq_some_iff.mp hc).1
    have hb : t[i]? = some t[i] := List.getElem?_eq_getElem (by omega)
    have cb : t[i] < 1114112 := h.2 _ (List.getElem_mem _)
    have cc : c < 1114112 := h.2 _ (List.mem_of_getElem? hc)
    have x1 := ix_at (s := s) h hb
    have p1 : (0 : Int) < ((i + 1 : Nat) : Int) := by omega
    have p2 : ((i + 1 : Nat) : Int) - 1 = (i : Nat) := by omega
    simp only [evT, evTAnd, evE, R.of, R.bind, h0, h1, h2, cmpF, p1, decide_true, if_true, bin_sub, p2, x1, eqF_str (tx_one cb) (tx_one cc), Option.map_some]
    simp [hb]
def flawB (cL : Nat) : List S := [.ite (.or [.cmp .nin (.var 2) (.glob cL), .and [.cmp .gt (.var 1) (.int 0), .cmp .eq (.ix (.var 0) (.bin .sub (.var 1) (.int 1))) (.var 2)]]) [.ret (.var 1)] []]
def B_flaw (cL cM : Nat) : List S := [.for [1, 2] .enum [.var 0] (flawB cL), .ret (.ite (.cmp .gt (.bi .len (.var 0)) (.glob cM)) (.glob cM) (.non))]
def FlawOk (call : CallS) (f : Nat) : Prop := ∀ (t : T) (s : Stt), Tx t → call f [.str t] s = .ok (flawD (flawT t)) s
theorem flawOk {cL cM : Nat} {nL nM : Str} (hf : Is P f 1 3 (B_flaw cL cM)) (hL : P.consts[cL]? = some (nL, .str abcd)) (hM : P.consts[cM]? = some (nM, .int 40)) : FlawOk (callD P (k + 1)) f := fun t s tx => by
  refine hf.rt rfl ?_ rfl
  show evSs P (callD P k) (B_flaw cL cM) [some (.str t), none, none] s = _
  have key := loopF_find (body := forB P (callD P k) [1, 2] (flawB cL)) (s := s) (fun ρ => ∃ x y, ρ = [some (.str t), x, y]) (badAt t) (fun i r => r = .rt (.int (i : Nat)) s) (fun i r h => by rw [h]; trivial)
    (t.mapIdx fun i c => .tup [.int i, .str [c]]) 0 [some (.str t), none, none] ⟨none, none, rfl⟩ fun i d ρ hi ⟨x, y, e3⟩ => by
      subst e3
      rw [List.getElem?_mapIdx] at hi
      obtain ⟨c, hc, rfl⟩ := Option.map_eq_some_iff.mp hi
      rw [Nat.zero_add]
      have q2 := same_before (P := P) (call := callD P k) (s := s) (e := .var 2) (v := 1) (ρ := [some (.str t), some (.int i), some (.str [c])]) tx hc rfl rfl (by simp [evE, R.of])
      have q1 : evT P (callD P k) (.cmp .nin (.var 2) (.glob cL)) [some (.str t), some (.int i), some (.str [c])] s = .ok (!decide (c ∈ abcd)) s := by
        simp [evT, evE, R.of, R.bind, hL, cmpF, in_one]
      have e0 : forB P (callD P k) [1, 2] (flawB cL) (.tup [.int i, .str [c]]) [some (.str t), x, y] s = evSs P (callD P k) (flawB cL) [some (.str t), some (.int i), some (.str [c])] s := rfl
      have q3 : badAt t i = (!decide (c ∈ abcd) || (decide (0 < i) && decide (t[i - 1]? = some c))) := by simp [badAt, hc]
      rw [e0, flawB, evSs_cons, evS, evT, evTOr, q1, rbind_ok, q3]
      by_cases m : c ∈ abcd
      · simp only [m, decide_true, Bool.not_true, Bool.false_or, Bool.false_eq_true, if_false]
        rw [evTOr, q2, st_ok]
        by_cases z : (decide (0 < i) && decide (t[i - 1]? = some c)) = true
        · left
          rw [z]
          exact ⟨rfl, by simp [evSs, evS, evE, R.of, R.st, RS.seq]⟩
        · right
          rw [Bool.not_eq_true] at z
          rw [z]
          exact ⟨rfl, [some (.str t), some (.int i), some (.str [c])], by simp [evSs, RS.seq], _, _, rfl⟩
      · left
        simp only [m, decide_false, Bool.not_false, Bool.true_or, if_true, st_ok]
        exact ⟨trivial, by simp [evSs, evS, evE, R.of, R.st, RS.seq]⟩
  rw [List.length_mapIdx] at key
  have e5 : evS P (callD P k) (.for [1, 2] .enum [.var 0] (flawB cL)) [some (.str t), none, none] s = loopF (forB P (callD P k) [1, 2] (flawB cL)) (t.mapIdx fun i c => .tup [.int i, .str [c]]) [some (.str t), none, none] s := by
    rw [evS_for]
    have : evEs P (callD P k) [.var 0] [some (.str t), none, none] s = .ok [.str t] s := by simp [evEs, evE, R.of, R.bind]
    rw [this, rbind_ok]
    simp only [srcF, of_some, st_ok]
  rw [B_flaw, evSs_cons, e5]
  rcases key with ⟨i, h1, h2⟩ | ⟨h1, ρ', h2, x, y, e3⟩
  · rw [h2, seq_rt]
    simp only [flawT, h1, flawD]
  · rw [h2, seq_nx, e3]
    simp only [flawT, h1]
    by_cases hlt : 40 < t.length
    · have : (40 : Int) < t.length := by omega
      simp [evSs, evS, evT, evE, R.of, R.bind, R.st, RS.seq, len_str tx, hM, cmpF, hlt, this, flawD]
    · have : ¬ (40 : Int) < t.length := by omega
      simp [evSs, evS, evT, evE, R.of, R.bind, R.st, RS.seq, len_str tx, hM, cmpF, hlt, this, flawD]
def lflawB : List S := [.ite (.or [.cmp .nin (.ix (.var 0) (.var 1)) (.str [97, 98, 99, 100]), .and [.cmp .gt (.var 1) (.int 0), .cmp .eq (.ix (.var 0) (.bin .sub (.var 1) (.int 1))) (.ix (.var 0) (.var 1))]]) [.ret (.var 1)] []]
def B_lflaw : List S := [.for [1] .range1 [.bi .len (.var 0)] lflawB, .ret (.ite (.cmp .gt (.bi .len (.var 0)) (.int 40)) (.int 40) (.non))]
theorem lflawOk (hf : Is P f 1 2 B_lflaw) : FlawOk (callD P (k + 1)) f := fun t s tx => by
  refine hf.rt rfl ?_ rfl
  show evSs P (callD P k) B_lflaw [some (.str t), none] s = _
  have key := loopF_find (body := forB P (callD P k) [1] lflawB) (s := s) (fun ρ => ∃ x, ρ = [some (.str t), x]) (badAt t) (fun i r => r = .rt (.int (i : Nat)) s) (fun i r h => by rw [h]; trivial)
    ((List.range t.length).map fun i => .int (i : Nat)) 0 [some (.str t), none] ⟨none, rfl⟩ fun i d ρ hi ⟨x, e3⟩ => by
      subst e3
      rw [List.getElem?_map] at hi
      obtain ⟨i', hi', rfl⟩ := Option.map_eq_some_iff.mp hi
      have hlt : i < t.length := by
        have := (List.getElem?_eq_some_iff.mp hi').1
        simpa using this
      rw [List.getElem?_range hlt] at hi'
      cases hi'
      have hc : t[i]? = some t[i] := List.getElem?_eq_getElem hlt
      generalize t[i] = c at hc
      rw [Nat.zero_add]
      have x0 := ix_at (s := s) tx hc
      have q0 : evE P (callD P k) (.ix (.var 0) (.var 1)) [some (.str t), some (.int i)] s = .ok (.str [c]) s := by simp [evE, R.of, R.bind, x0]
      have q2 := same_before (P := P) (call := callD P k) (s := s) (e := .ix (.var 0) (.var 1)) (v := 1) (ρ := [some (.str t), some (.int i)]) tx hc rfl rfl q0
      have q1 : evT P (callD P k) (.cmp .nin (.ix (.var 0) (.var 1)) (.str [97, 98, 99, 100])) [some (.str t), some (.int i)] s = .ok (!decide (c ∈ abcd)) s := by
        rw [evT, q0, rbind_ok]
        simp [evE, R.of, R.bind, cmpF, in_one, abcd]
      have e0 : forB P (callD P k) [1] lflawB (.int (i : Nat)) [some (.str t), x] s = evSs P (callD P k) lflawB [some (.str t), some (.int i)] s := rfl
      have q3 : badAt t i = (!decide (c ∈ abcd) || (decide (0 < i) && decide (t[i - 1]? = some c))) := by simp [badAt, hc]
      rw [e0, lflawB, evSs_cons, evS, evT, evTOr, q1, rbind_ok, q3]
      by_cases m : c ∈ abcd
      · simp only [m, decide_true, Bool.not_true, Bool.false_or, Bool.false_eq_true, if_false]
        rw [evTOr, q2, st_ok]
        by_cases z : (decide (0 < i) && decide (t[i - 1]? = some c)) = true
        · left
          rw [z]
          exact ⟨rfl, by simp [evSs, evS, evE, R.of, R.st, RS.seq]⟩
        · right
          rw [Bool.not_eq_true] at z
          rw [z]
          exact ⟨rfl, [some (.str t), some (.int i)], by simp [evSs, RS.seq], _, rfl⟩
      · left
        simp only [m, decide_false, Bool.not_false, Bool.true_or, if_true, st_ok]
        exact ⟨trivial, by simp [evSs, evS, evE, R.of, R.st, RS.seq]⟩
  rw [List.length_map, List.length_range] at key
  have e5 : evS P (callD P k) (.for [1] .range1 [.bi .len (.var 0)] lflawB) [some (.str t), none] s = loopF (forB P (callD P k) [1] lflawB) ((List.range t.length).map fun i => .int (i : Nat)) [some (.str t), none] s := by
    rw [evS_for]
    have : evEs P (callD P k) [.bi .len (.var 0)] [some (.str t), none] s = .ok [.int t.length] s := by simp [evEs, evE, R.of, R.bind, len_str tx]
    rw [this, rbind_ok, srcF_range (by omega) (by have := tx.1; omega), of_some, st_ok]
    simp only [Int.toNat_natCast]
  rw [B_lflaw, evSs_cons, e5]
  rcases key with ⟨i, h1, h2⟩ | ⟨h1, ρ', h2, x, e3⟩
  · rw [h2, seq_rt]
    simp only [flawT, h1, flawD]
  · rw [h2, seq_nx, e3]
    simp only [flawT, h1]
    by_cases hlt : 40 < t.length
    · have : (40 : Int) < t.length := by omega
      simp [evSs, evS, evT, evE, R.of, R.bind, R.st, RS.seq, len_str tx, cmpF, hlt, this, flawD]
    · have : ¬ (40 : Int) < t.length := by omega
      simp [evSs, evS, evT, evE, R.of, R.bind, R.st, RS.seq, len_str tx, cmpF, hlt, this, flawD]
end
end G
set_option Elab.async false
set_option linter.all false
set_option maxRecDepth 100000
namespace G
open PySem L2
def oneGreat (t : T) : Bool := decide (t ∈ [[65], [66], [67], [68]])
def isCallT (t : T) : Bool := oneGreat t || (!decide (t = []) && (flawT t).isNone)
theorem eqF_nil {t : T} (h : Tx t) : eqF (.str t) (.str []) = some (decide (t = [])) := eqF_str h tx_nil
theorem one_great {t : T} (h : t.length = 1) : inT t great = oneGreat t := by
  match t, h with
  | [c], _ => simp [inT, great, oneGreat]
theorem one_great_len {t : T} (h : oneGreat t = true) : t.length = 1 := by
  simp [oneGreat] at h
  rcases h with e | e | e | e <;> subst e <;> rfl
section
variable {P : Prog} {k f : Nat}
def B_isw (flaw : Nat) : List S := [.ret (.cmp .isN (.call flaw [.var 0]) (.non))]
def IsWordOk (call : CallS) (f : Nat) : Prop := ∀ (t : T) (s : Stt), Tx t → call f [.str t] s = .ok (.bl (flawT t).isNone) s
theorem isWordOk {flaw : Nat} (hf : Is P f 1 1 (B_isw flaw)) (h : FlawOk (callD P k) flaw) : IsWordOk (callD P (k + 1)) f := fun t s tx => by
  refine hf.rt rfl ?_ rfl
  have e := h t s tx
  show evSs P (callD P k) (B_isw flaw) [some (.str t)] s = _
  cases q : flawT t <;> simp [B_isw, evSs, evS, evE, evEs, R.of, R.bind, R.st, RS.seq, e, cmpF, q, flawD]
def B_isc (cG isw : Nat) : List S := [.ret (.or [.and [.cmp .eq (.bi .len (.var 0)) (.int 1), .cmp .in_ (.var 0) (.glob cG)], .and [.cmp .ne (.var 0) (.str []), .call isw [.var 0]]])]
def IsCallOk (call : CallS) (f : Nat) : Prop := ∀ (t : T) (s : Stt), Tx t → call f [.str t] s = .ok (.bl (isCallT t)) s
theorem isCallOk {cG isw : Nat} {nG : Str} (hf : Is P f 1 1 (B_isc cG isw)) (h : IsWordOk (callD P k) isw) (hG : P.consts[cG]? = some (nG, .str great)) : IsCallOk (callD P (k + 1)) f := fun t s tx => by
  refine hf.rt rfl ?_ rfl
  have e := h t s tx
  have z := eqF_nil tx
  show evSs P (callD P k) (B_isc cG isw) [some (.str t)] s = _
  by_cases l1 : t.length = 1
  · have ing : inD (.str t) (.str great) = some (oneGreat t) := congrArg some (one_great l1)
    have e0 : t ≠ [] := fun q => by rw [q] at l1; cases l1
    cases q : oneGreat t <;> simp [B_isc, evSs, evS, evE, evOr, evAnd, evEs, R.of, R.bind, R.st, RS.seq, len_str tx, cmpF, eqF_int, l1, hG, ing, q, z, e0, e, isCallT]
  · have l2 : ¬ (t.length : Int) = 1 := by omega
    have q : oneGreat t = false := by
      rw [Bool.eq_false_iff]
      exact fun q => l1 (one_great_len q)
    by_cases e0 : t = []
    · subst e0
      have b1 : biF .len s (.str []) = some (.int 0) := len_str tx_nil
      have z : eqF (.str []) (.str []) = some true := by rw [eqF_nil tx_nil]; rfl
      have i1 : isCallT [] = false := rfl
      simp [B_isc, evSs, evS, evE, evOr, evAnd, evEs, R.of, R.bind, R.st, RS.seq, b1, cmpF, eqF_int, z, i1]
    · simp [B_isc, evSs, evS, evE, evOr, evAnd, evEs, R.of, R.bind, R.st, RS.seq, len_str tx, cmpF, eqF_int, l2, q, z, e0, e, isCallT]
def B_lisc (flaw : Nat) : List S := [.ret (.or [.cmp .in_ (.var 0) (.tup [.str [65], .str [66], .str [67], .str [68]]), .and [.cmp .ne (.var 0) (.str []), .cmp .isN (.call flaw [.var 0]) (.non)]])]
theorem lisCallOk {flaw : Nat} (hf : Is P f 1 1 (B_lisc flaw)) (h : FlawOk (callD P k) flaw) : IsCallOk (callD P (k + 1)) f := fun t s tx => by
  refine hf.rt rfl ?_ rfl
  have e := h t s tx
  have z := eqF_nil tx
  have ing : inD (.str t) (.tup [.str [65], .str [66], .str [67], .str [68]]) = some (oneGreat t) := rfl
  show evSs P (callD P k) (B_lisc flaw) [some (.str t)] s = _
  cases q : oneGreat t
  · by_cases e0 : t = []
    · subst e0
      have z : eqF (.str []) (.str []) = some true := by rw [eqF_nil tx_nil]; rfl
      have i1 : isCallT [] = false := rfl
      rw [q] at ing
      simp [B_lisc, evSs, evS, evE, evOr, evAnd, evEs, R.of, R.bind, R.st, RS.seq, cmpF, ing, z, i1, le4]
    · cases q2 : flawT t <;> simp [B_lisc, evSs, evS, evE, evOr, evAnd, evEs, R.of, R.bind, R.st, RS.seq, cmpF, ing, q, z, e0, e, isCallT, le4, q2, flawD]
  · simp [B_lisc, evSs, evS, evE, evOr, evAnd, evEs, R.of, R.bind, R.st, RS.seq, cmpF, ing, q, isCallT, le4]
end
end G
set_option Elab.async false
set_option linter.all false
set_option maxRecDepth 100000
namespace G
open PySem L2
end G
set_option Elab.async false
set_option linter.all false
set_option maxRecDepth 100000
namespace G
open PySem L2
theorem le5' : 5 ≤ sizeLine := by decide
theorem of_is {P : Prog} {k f pull : Nat} (hf : Is P f 2 2 (B_of pull)) (hp : PullOk (callD P k) pull) : OfOk (callD P (k + 1)) f := by
  obtain ⟨df, h1, h2, h3, h4⟩ := hf.of
  exact ofOk h1 h2 h3 h4 hp
section
variable {P : Prog} {k f : Nat}
def sgE : E := .comp false (.var 4) [4] [4] .seq [.str [97, 98, 99, 100]] (some (.cmp .ne (.var 4) (.sl (.var 2) (some (.neg (.int 1))) none)))
theorem signs {call : CallS} {t : T} {a0 a1 a3 a4 : Option D} {s : Stt} (h : Tx t) : evE P call sgE [a0, a1, some (.str t), a3, a4] s = .ok (.lst ((abcd.filter fun c => !decide ([c] = t.drop (t.length - 1))).map fun c => .str [c])) s := by
  unfold sgE
  rw [evE_comp]
  have e1 : evEs P call [.str [97, 98, 99, 100]] [a0, a1, some (.str t), a3, a4] s = .ok [.str abcd] s := by simp [evEs, evE, R.bind, abcd]
  rw [e1, rbind_ok]
  have e2 : srcF .seq s [.str abcd] = some (abcd.map fun c => .str [c]) := rfl
  rw [e2, of_some, rbind_ok, loopC_filter (fun c => .str [c]) (fun c => !decide ([c] = t.drop (t.length - 1))) abcd [] (by decide) fun c hc acc ha => ?_]
  · rfl
  · have hc1 : c < 1114112 := tx_abcd.2 c hc
    have q := eqF_str (tx_one hc1) (h.drop (t.length - 1))
    have q2 : evC P call (some (.cmp .ne (.var 4) (.sl (.var 2) (some (.neg (.int 1))) none))) [a0, a1, some (.str t), a3, some (.str [c])] s = .ok (!decide ([c] = t.drop (t.length - 1))) s := by
      simp [evC, evT, evE, evO, R.of, R.bind, sl_last h, cmpF, q]
    have q3 : compB P call (.var 4) [4] [4] (some (.cmp .ne (.var 4) (.sl (.var 2) (some (.neg (.int 1))) none))) [a0, a1, some (.str t), a3, a4] (.str [c]) acc s = (evC P call (some (.cmp .ne (.var 4) (.sl (.var 2) (some (.neg (.int 1))) none))) [a0, a1, some (.str t), a3, some (.str [c])] s).bind fun k s => if k = true then (evE P call (.var 4) [a0, a1, some (.str t), a3, some (.str [c])] s).bind fun y s => if acc.length < sizeLine then .ok (acc ++ [y]) s else .stuck else .ok acc s := rfl
    rw [q3, q2, rbind_ok]
    by_cases z : (!decide ([c] = t.drop (t.length - 1))) = true
    · rw [if_pos z, if_pos z]
      simp [evE, R.of, R.bind, ha]
    · rw [if_neg z, if_neg z]
def wordB (of : Nat) : List S := [.set 2 (.bin .add (.var 2) (.call of [.var 0, sgE]))]
def B_word (pull of : Nat) : List S := [.set 2 (.str []), .for [3] .range1 [.call pull [.var 0, .bin .add (.var 1) (.int 1)]] (wordB of), .ret (.var 2)]
def WordOk (call : CallS) (f : Nat) : Prop := ∀ (b : Cell) (rest : Stt) (most : Int), BagOK b → 0 ≤ most → most ≤ 100 → Draw (call f [.ref 0, .int most] (b :: rest)) rest fun d => ∃ t, d = .str t ∧ Word t ∧ (t.length : Int) ≤ most
theorem wordOk {pull of : Nat} (hf : Is P f 2 5 (B_word pull of)) (hp : PullOk (callD P k) pull) (ho : OfOk (callD P k) of) : WordOk (callD P (k + 1)) f := fun b rest most ob h0 h1 => by
  obtain ⟨v, b1, e1, o1, gv, lv⟩ := hp b rest (most + 1) 8 ob (by omega) (by rw [show (2 : Nat) ^ 8 = 256 by decide]; omega) (by decide)
  obtain ⟨ρ', s', e2, b', t, x, y, e3, e4, o2, hw, hl⟩ := loopF_inv (body := forB P (callD P k) [3] (wordB of)) (fun n ρ s => ∃ (b : Cell) (t : T) (x y : Option D), ρ = [some (.ref 0), some (.int most), some (.str t), x, y] ∧ s = b :: rest ∧ BagOK b ∧ Word t ∧ t.length = n)
    ((List.range v.toNat).map fun i => .int (i : Nat)) 0 [some (.ref 0), some (.int most), some (.str []), none, none] (b1 :: rest) ⟨b1, [], none, none, rfl, rfl, o1, Word.nil, rfl⟩
    fun i d ρ s hi ⟨b, t, x, y, e3, e4, o, hw, hl⟩ => by
      subst e3 e4
      have hi' := (List.getElem?_eq_some_iff.mp hi).1
      rw [List.length_map, List.length_range] at hi'
      have tx : Tx t := hw.1.tx (by omega)
      have fl : 0 < ((abcd.filter fun c => !decide ([c] = t.drop (t.length - 1))).map fun c => D.str [c]).length := by
        rw [List.length_map]
        have : ∀ u : T, 0 < (abcd.filter fun c => !decide ([c] = u)).length := fun u => by
          by_cases q : [97] = u
          · subst q; decide
          · simp [abcd, q]
        exact this _
      obtain ⟨d2, b', e5, o', hd⟩ := ho b rest _ o fl (by rw [List.length_map]; exact Nat.le_trans (List.length_filter_le _ _) (by decide))
      obtain ⟨c, hc, rfl⟩ := List.mem_map.mp hd
      rw [List.mem_filter] at hc
      have hc2 : t.getLast? ≠ some c := fun z => by
        have := last_eq.mpr z
        simp [this] at hc
      have ad := add_str (a := t) (b := [c]) (by simp; omega)
      refine ⟨[some (.ref 0), some (.int most), some (.str (t ++ [c])), some d, y], b' :: rest, ?_, b', t ++ [c], _, _, rfl, rfl, o', ⟨hw.1.app (fun z hz => by rw [List.mem_singleton.mp hz]; exact hc.1), red_app_one.mpr ⟨hw.2, hc2⟩⟩, by simp [hl]⟩
      have sg := signs (P := P) (call := callD P k) (a0 := some (.ref 0)) (a1 := some (.int most)) (a3 := some d) (a4 := y) (s := b :: rest) tx
      have e0 : forB P (callD P k) [3] (wordB of) d [some (.ref 0), some (.int most), some (.str t), x, y] (b :: rest) = evSs P (callD P k) (wordB of) [some (.ref 0), some (.int most), some (.str t), some d, y] (b :: rest) := rfl
      have q1 : evE P (callD P k) (.call of [.var 0, sgE]) [some (.ref 0), some (.int most), some (.str t), some d, y] (b :: rest) = .ok (.str [c]) (b' :: rest) := by
        have v0 : evE P (callD P k) (.var 0) [some (.ref 0), some (.int most), some (.str t), some d, y] (b :: rest) = .ok (.ref 0) (b :: rest) := by simp [evE, R.of]
        rw [evE, evEs, v0, rbind_ok, evEs, sg, rbind_ok, evEs, rbind_ok, rbind_ok, rbind_ok]
        exact e5
      have v2 : evE P (callD P k) (.var 2) [some (.ref 0), some (.int most), some (.str t), some d, y] (b :: rest) = .ok (.str t) (b :: rest) := by simp [evE, R.of]
      rw [e0, wordB, evSs_cons, evS, evE, v2, rbind_ok, q1, rbind_ok, ad, of_some, st_ok, seq_nx, evSs_nil]
      rfl
  refine ⟨.str t, b', hf.rt rfl ?_ rfl, o2, t, rfl, hw, ?_⟩
  · show evSs P (callD P k) (B_word pull of) [some (.ref 0), some (.int most), none, none, none] (b :: rest) = _
    have f1 : evS P (callD P k) (.set 2 (.str [])) [some (.ref 0), some (.int most), none, none, none] (b :: rest) = .nx [some (.ref 0), some (.int most), some (.str []), none, none] (b :: rest) := by simp [evS, evE, R.st]
    have f2 : evS P (callD P k) (.for [3] .range1 [.call pull [.var 0, .bin .add (.var 1) (.int 1)]] (wordB of)) [some (.ref 0), some (.int most), some (.str []), none, none] (b :: rest) = .nx [some (.ref 0), some (.int most), some (.str t), x, y] (b' :: rest) := by
      rw [evS_for]
      have : evEs P (callD P k) [.call pull [.var 0, .bin .add (.var 1) (.int 1)]] [some (.ref 0), some (.int most), some (.str []), none, none] (b :: rest) = .ok [.int v] (b1 :: rest) := by
        simp [evEs, evE, R.of, R.bind, bin_add, e1]
      rw [this, rbind_ok, srcF_range gv (by omega), of_some, st_ok, e2, e3, e4]
    rw [B_word, evSs_cons, f1, seq_nx, evSs_cons, f2, seq_nx]
    simp [evSs, evS, evE, R.of, R.st, RS.seq]
  · rw [hl, List.length_map, List.length_range]
    omega
theorem cut_len (t : T) (lo hi : Option Int) : (cut t lo hi).length ≤ t.length := by
  unfold cut
  rw [List.length_take, List.length_drop]
  omega
theorem Tx.cut {t : T} (h : Tx t) (lo hi : Option Int) : Tx (cut t lo hi) := h.sub (cut_len t lo hi) fun c hc => List.mem_of_mem_drop (List.mem_of_mem_take hc)
theorem sl_cut {t : T} (h : Tx t) (lo hi : Option Int) : slF (.str t) lo hi = some (.str (G.cut t lo hi)) := by
  show (if t.length ≤ sizeLine then _ else _) = _
  rw [if_pos h.le]
def B_odd (word pull of : Nat) : List S := [.set 2 (.call word [.var 0, .var 1]), .set 3 (.call pull [.var 0, .bin .add (.bi .len (.var 2)) (.int 1)]), .set 4 (.call pull [.var 0, .int 5]), .ite (.cmp .eq (.var 4) (.int 0)) [.ret (.bin .add (.bin .add (.sl (.var 2) none (some (.var 3))) (.call of [.var 0, .lst false [.str [101], .str [65], .str [32], .str [49], .str [122]]])) (.sl (.var 2) (some (.var 3)) none))] [], .ite (.and [.cmp .eq (.var 4) (.int 1), .cmp .ne (.var 2) (.str [])]) [.ret (.bin .add (.bin .add (.sl (.var 2) none (some (.var 3))) (.sl (.var 2) (some (.bin .sub (.var 3) (.int 1))) (some (.var 3)))) (.sl (.var 2) (some (.bin .sub (.var 3) (.int 1))) none))] [], .ite (.cmp .eq (.var 4) (.int 2)) [.ret (.bin .add (.var 2) (.bin .mul (.call of [.var 0, .lst false [.str [97, 98], .str [99, 100], .str [100, 98, 97]]]) (.bin .add (.int 14) (.call pull [.var 0, .int 9]))))] [], .ret (.var 2)]
def OddOk (call : CallS) (f : Nat) : Prop := ∀ (b : Cell) (rest : Stt) (most : Int), BagOK b → 0 ≤ most → most ≤ 100 → Draw (call f [.ref 0, .int most] (b :: rest)) rest fun d => ∃ t, d = .str t ∧ Tx t ∧ (t.length : Int) ≤ 3 * most + 66
theorem oddOk {word pull of : Nat} (hf : Is P f 2 5 (B_odd word pull of)) (hw : WordOk (callD P k) word) (hp : PullOk (callD P k) pull) (ho : OfOk (callD P k) of) : OddOk (callD P (k + 1)) f := fun b rest most ob h0 h1 => by
  obtain ⟨_, b1, e1, o1, t, rfl, wt, lt⟩ := hw b rest most ob h0 h1
  have tx := wt.1.tx (by omega)
  obtain ⟨v, b2, e2, o2, gv, lv⟩ := hp b1 rest (t.length + 1) 8 o1 (by omega) (by rw [show (2 : Nat) ^ 8 = 256 by decide]; omega) (by decide)
  obtain ⟨w, b3, e3, o3, gw, lw⟩ := hp b2 rest 5 3 o2 (by decide) (by decide) (by decide)
  have s1 := fun lo hi => sl_cut tx lo hi
  have c1 := fun lo hi => cut_len t lo hi
  have x1 := fun lo hi => tx.cut lo hi
  have pre : ∀ r : List S, evSs P (callD P k) (.set 2 (.call word [.var 0, .var 1]) :: .set 3 (.call pull [.var 0, .bin .add (.bi .len (.var 2)) (.int 1)]) :: .set 4 (.call pull [.var 0, .int 5]) :: r) [some (.ref 0), some (.int most), none, none, none] (b :: rest) = evSs P (callD P k) r [some (.ref 0), some (.int most), some (.str t), some (.int v), some (.int w)] (b3 :: rest) := fun r => by
    simp [evSs, evS, evE, evEs, R.of, R.bind, R.st, RS.seq, e1, len_str tx, bin_add, e2, e3]
  have z := eqF_nil tx
  by_cases w0 : w = 0
  · subst w0
    obtain ⟨d, b4, e4, o4, hd⟩ := ho b3 rest [.str [101], .str [65], .str [32], .str [49], .str [122]] o3 (by simp) (by simp)
    have : ∃ c, d = .str [c] ∧ c < 1114112 := by
      simp only [List.mem_cons, List.not_mem_nil, or_false] at hd
      rcases hd with q | q | q | q | q <;> subst q <;> exact ⟨_, rfl, by decide⟩
    obtain ⟨c, rfl, hc⟩ := this
    have l1 := c1 none (some v)
    have l2 := c1 (some v) none
    have a1 := add_str (a := G.cut t none (some v)) (b := [c]) (by simp; omega)
    have a2 := add_str (a := G.cut t none (some v) ++ [c]) (b := G.cut t (some v) none) (by simp; omega)
    refine ⟨.str (G.cut t none (some v) ++ [c] ++ G.cut t (some v) none), b4, hf.rt rfl ?_ rfl, o4, _, rfl, ((x1 _ _).app (tx_one hc) (by simp; omega)).app (x1 _ _) (by simp; omega), by simp; omega⟩
    show evSs P (callD P k) (B_odd word pull of) [some (.ref 0), some (.int most), none, none, none] (b :: rest) = _
    rw [B_odd, pre]
    simp [evSs, evS, evT, evE, evEs, evO, R.of, R.bind, R.st, RS.seq, cmpF, eqF_int, s1, le5', e4, a1]
    first | exact congrArg _ rfl | (simp at a2; simp [a2]) | simp [a2]
  · by_cases w1 : w = 1 ∧ t ≠ []
    · obtain ⟨rfl, tn⟩ := w1
      have l1 := c1 none (some v)
      have l2 := c1 (some (v - 1)) (some v)
      have l3 := c1 (some (v - 1)) none
      have a1 := add_str (a := G.cut t none (some v)) (b := G.cut t (some (v - 1)) (some v)) (by omega)
      have a2 := add_str (a := G.cut t none (some v) ++ G.cut t (some (v - 1)) (some v)) (b := G.cut t (some (v - 1)) none) (by simp; omega)
      refine ⟨.str (G.cut t none (some v) ++ G.cut t (some (v - 1)) (some v) ++ G.cut t (some (v - 1)) none), b3, hf.rt rfl ?_ rfl, o3, _, rfl, ((x1 _ _).app (x1 _ _) (by omega)).app (x1 _ _) (by simp; omega), by simp; omega⟩
      show evSs P (callD P k) (B_odd word pull of) [some (.ref 0), some (.int most), none, none, none] (b :: rest) = _
      rw [B_odd, pre]
      simp [evSs, evS, evT, evTAnd, evE, evEs, evO, R.of, R.bind, R.st, RS.seq, cmpF, eqF_int, s1, bin_sub, z, tn, a1]
      simp at a2
      simp [a2]
    · have t1 : evT P (callD P k) (.and [.cmp .eq (.var 4) (.int 1), .cmp .ne (.var 2) (.str [])]) [some (.ref 0), some (.int most), some (.str t), some (.int v), some (.int w)] (b3 :: rest) = .ok false (b3 :: rest) := by
        by_cases q : w = 1
        · have : t = [] := Classical.byContradiction fun n => w1 ⟨q, n⟩
          rw [this] at z
          simp [evT, evTAnd, evE, R.of, R.bind, cmpF, eqF_int, q, z, this]
        · simp [evT, evTAnd, evE, R.of, R.bind, cmpF, eqF_int, q]
      have t2 : ∀ r : List S, ∀ a : List S, evSs P (callD P k) (.ite (.cmp .eq (.var 4) (.int 0)) a [] :: r) [some (.ref 0), some (.int most), some (.str t), some (.int v), some (.int w)] (b3 :: rest) = evSs P (callD P k) r [some (.ref 0), some (.int most), some (.str t), some (.int v), some (.int w)] (b3 :: rest) := fun r a => by
        simp [evSs, evS, evT, evE, R.of, R.bind, R.st, RS.seq, cmpF, eqF_int, w0]
      by_cases w2 : w = 2
      · subst w2
        obtain ⟨d, b4, e4, o4, hd⟩ := ho b3 rest [.str [97, 98], .str [99, 100], .str [100, 98, 97]] o3 (by simp) (by simp)
        obtain ⟨n, b5, e5, o5, gn, ln⟩ := hp b4 rest 9 4 o4 (by decide) (by decide) (by decide)
        have : ∃ u, d = .str u ∧ Tx u ∧ u.length ≠ 0 ∧ u.length ≤ 3 := by
          simp only [List.mem_cons, List.not_mem_nil, or_false] at hd
          rcases hd with q | q | q <;> subst q <;> exact ⟨_, rfl, ⟨by decide, by decide⟩, by decide, by decide⟩
        obtain ⟨u, rfl, hu, u0, u3⟩ := this
        have n22 : (14 + n).toNat ≤ 22 := by omega
        have len : (List.replicate (14 + n).toNat u).flatten.length = (14 + n).toNat * u.length := by simp
        have len2 : (14 + n).toNat * u.length ≤ 66 := Nat.le_trans (Nat.mul_le_mul n22 u3) (by decide)
        have m1 : binF .mul (.str u) (.int (14 + n)) = some (.str (List.replicate (14 + n).toNat u).flatten) := by
          simp only [binF]
          exact if_pos ⟨by omega, by omega, u0, by rw [Nat.mul_comm]; exact Nat.le_trans len2 (by decide)⟩
        have hx : Tx (List.replicate (14 + n).toNat u).flatten := ⟨by rw [len]; omega, fun c hc => by
          obtain ⟨z, hz, hc⟩ := List.mem_flatten.mp hc
          rw [List.eq_of_mem_replicate hz] at hc
          exact hu.2 c hc⟩
        have a1 := add_str (a := t) (b := (List.replicate (14 + n).toNat u).flatten) (by rw [len]; omega)
        refine ⟨.str (t ++ (List.replicate (14 + n).toNat u).flatten), b5, hf.rt rfl ?_ rfl, o5, _, rfl, tx.app hx (by rw [len]; omega), by rw [List.length_append, len]; omega⟩
        show evSs P (callD P k) (B_odd word pull of) [some (.ref 0), some (.int most), none, none, none] (b :: rest) = _
        rw [B_odd, pre, t2, evSs_cons, evS, t1, st_ok, if_neg (by decide), evSs_nil, seq_nx]
        simp only [evSs, evS, evT, evE, evEs, R.of, R.bind, R.st, RS.seq, List.getElem?_cons_zero, List.getElem?_cons_succ, Option.join_some, cmpF, eqF_int, decide_true, Option.map_some, if_true, List.length_cons, List.length_nil, Nat.zero_add, Nat.reduceAdd, le3, e4, bin_add, e5, m1, a1]
      · refine ⟨.str t, b3, hf.rt rfl ?_ rfl, o3, t, rfl, tx, by omega⟩
        show evSs P (callD P k) (B_odd word pull of) [some (.ref 0), some (.int most), none, none, none] (b :: rest) = _
        rw [B_odd, pre, t2, evSs_cons, evS, t1, st_ok, if_neg (by decide), evSs_nil, seq_nx]
        simp [evSs, evS, evT, evE, R.of, R.bind, R.st, RS.seq, cmpF, eqF_int, w2]
end
end G
set_option Elab.async false
set_option linter.all false
set_option maxRecDepth 100000
namespace G
open PySem L2
end G
set_option Elab.async false
set_option linter.all false
set_option maxRecDepth 100000
namespace G
open PySem L2
section
variable {P : Prog} {k f : Nat}
/-- the text without its sign -/
def bare (t : T) : T := if t.take 1 = [45] then t.drop 1 else t
theorem Tx.bare {t : T} (h : Tx t) : Tx (bare t) := by
  unfold G.bare
  split
  · exact h.drop 1
  · exact h
end
end G
set_option Elab.async false
set_option linter.all false
set_option maxRecDepth 100000
namespace G
open PySem L2
end G
set_option Elab.async false
set_option linter.all false
set_option maxRecDepth 100000
namespace G
open PySem L2
def partT (q : Rat) : T := if q.den = 1 then intT q.num else intT q.num ++ 47 :: intT q.den
end G
set_option Elab.async false
set_option linter.all false
set_option maxRecDepth 100000
set_option exponentiation.threshold 300
namespace G
open PySem L2
def PrOk (z : Int × Int) : Prop := z.2 ≠ 0 ∧ z.1.natAbs < 2 ^ 200 ∧ z.2.natAbs < 2 ^ 200
def qq (z : Int × Int) : Rat := Rat.divInt z.1 z.2
def isp (z : Int × Int) : Bool := decide (0 < z.2) && decide (((qq z).num, ((qq z).den : Int)) = z)
def fB : D → D
  | .tup [.int a, .int b] => .bl (isp (a, b))
  | _ => .non
theorem PrOk.sz {z : Int × Int} (h : PrOk z) : SzC 200 (qq z) := ⟨Sz.divInt h.1 h.2.1 h.2.2⟩
end G
set_option Elab.async false
set_option linter.all false
set_option maxRecDepth 100000
set_option exponentiation.threshold 300
namespace G
open PySem L2
section
variable {P : Prog} {k f : Nat}
def fT : D → D
  | .tup [.int a, .int b] => .str (partT (Rat.divInt a b))
  | _ => .non
end
end G
set_option Elab.async false
set_option linter.all false
set_option maxRecDepth 100000
set_option exponentiation.threshold 300
namespace G
open PySem L2
def Sized (N b : Nat) (q : Rat) : Prop := ∃ a : Int, q = Rat.divInt a N ∧ a.natAbs < 2 ^ b
theorem divInt_add (a c : Int) (N : Nat) (h : N ≠ 0) : Rat.divInt a N + Rat.divInt c N = Rat.divInt (a + c) N := by
  have h0 : ((N : Int) : Rat) ≠ 0 := by exact_mod_cast h
  rw [Rat.divInt_eq_div, Rat.divInt_eq_div, Rat.divInt_eq_div, Rat.intCast_add]
  grind
theorem divInt_sub (a c : Int) (N : Nat) (h : N ≠ 0) : Rat.divInt a N - Rat.divInt c N = Rat.divInt (a - c) N := by
  have h0 : ((N : Int) : Rat) ≠ 0 := by exact_mod_cast h
  rw [Rat.divInt_eq_div, Rat.divInt_eq_div, Rat.divInt_eq_div, Rat.intCast_sub]
  grind
theorem Sized.sz {N b : Nat} {q : Rat} (h : Sized N b q) (h0 : N ≠ 0) (hN : N < 2 ^ b) : Sz b q := by
  obtain ⟨a, rfl, ha⟩ := h
  exact Sz.divInt (by exact_mod_cast h0) ha (by simpa using hN)
theorem Sized.mono {N b c : Nat} {q : Rat} (h : Sized N b q) (hb : b ≤ c) : Sized N c q := by
  obtain ⟨a, e, ha⟩ := h
  exact ⟨a, e, Nat.lt_of_lt_of_le ha (Nat.pow_le_pow_right (by decide) hb)⟩
theorem Sized.add {N b : Nat} {p q : Rat} (hp : Sized N b p) (hq : Sized N b q) (h0 : N ≠ 0) : Sized N (b + 1) (p + q) := by
  obtain ⟨a, rfl, ha⟩ := hp
  obtain ⟨c, rfl, hc⟩ := hq
  exact ⟨a + c, divInt_add a c N h0, Sz.addN ha hc⟩
theorem Sized.sub {N b : Nat} {p q : Rat} (hp : Sized N b p) (hq : Sized N b q) (h0 : N ≠ 0) : Sized N (b + 1) (p - q) := by
  obtain ⟨a, rfl, ha⟩ := hp
  obtain ⟨c, rfl, hc⟩ := hq
  exact ⟨a - c, divInt_sub a c N h0, Sz.subN ha hc⟩
theorem sized_zero (N b : Nat) : Sized N b 0 := ⟨0, by simp, by simpa using Nat.pow_pos (n := b) (show 0 < 2 by decide)⟩
structure Four where
  a : Disc
  b : Disc
  c : Disc
  d : Disc
def Disc.at (o : Disc) : Nat → Rat
  | 0 => o.back
  | 1 => o.bend
  | 2 => o.x
  | _ => o.y
/-- twice the three less the old one -/
def nwQ (p q r o : Rat) : Rat := (0 + p + q + r) + (0 + p + q + r) - o
def nwD (p q r o : Disc) : Disc := ⟨nwQ p.back q.back r.back o.back, nwQ p.bend q.bend r.bend o.bend, nwQ p.x q.x r.x o.x, nwQ p.y q.y r.y o.y⟩
def Four.swap (F : Four) : Nat → Four
  | 0 => { F with a := nwD F.b F.c F.d F.a }
  | 1 => { F with b := nwD F.a F.c F.d F.b }
  | 2 => { F with c := nwD F.a F.b F.d F.c }
  | _ => { F with d := nwD F.a F.b F.c F.d }
def Four.get (F : Four) : Nat → Disc
  | 0 => F.a
  | 1 => F.b
  | 2 => F.c
  | _ => F.d
structure SizedD (N b : Nat) (o : Disc) : Prop where
  back : Sized N b o.back
  bend : Sized N b o.bend
  x : Sized N b o.x
  y : Sized N b o.y
structure SizedF (N m : Nat) (F : Four) : Prop where
  a : SizedD N m F.a
  b : SizedD N m F.b
  c : SizedD N m F.c
  d : SizedD N m F.d
theorem SizedD.mono {N b c : Nat} {o : Disc} (h : SizedD N b o) (hb : b ≤ c) : SizedD N c o := ⟨h.back.mono hb, h.bend.mono hb, h.x.mono hb, h.y.mono hb⟩
theorem SizedF.mono {N b c : Nat} {o : Four} (h : SizedF N b o) (hb : b ≤ c) : SizedF N c o := ⟨h.a.mono hb, h.b.mono hb, h.c.mono hb, h.d.mono hb⟩
theorem SizedD.at {N b : Nat} {o : Disc} (h : SizedD N b o) : ∀ k, Sized N b (o.at k)
  | 0 => h.back
  | 1 => h.bend
  | 2 => h.x
  | _ + 3 => h.y
theorem SizedF.get {N b : Nat} {F : Four} (h : SizedF N b F) : ∀ k, SizedD N b (F.get k)
  | 0 => h.a
  | 1 => h.b
  | 2 => h.c
  | _ + 3 => h.d
theorem nw_sized {N b : Nat} {p q r o : Rat} (h0 : N ≠ 0) (hp : Sized N b p) (hq : Sized N b q) (hr : Sized N b r) (ho : Sized N b o) : Sized N (b + 5) (nwQ p q r o) := by
  have a1 := (sized_zero N b).add hp h0
  have a2 := a1.add (hq.mono (Nat.le_succ _)) h0
  have a3 := a2.add (hr.mono (by omega)) h0
  have a4 := a3.add a3 h0
  exact a4.sub (ho.mono (by omega)) h0
theorem nwD_sized {N b : Nat} {p q r o : Disc} (h0 : N ≠ 0) (hp : SizedD N b p) (hq : SizedD N b q) (hr : SizedD N b r) (ho : SizedD N b o) : SizedD N (b + 5) (nwD p q r o) :=
  ⟨nw_sized h0 hp.back hq.back hr.back ho.back, nw_sized h0 hp.bend hq.bend hr.bend ho.bend, nw_sized h0 hp.x hq.x hr.x ho.x, nw_sized h0 hp.y hq.y hr.y ho.y⟩
theorem SizedF.swap {N b : Nat} {F : Four} (h0 : N ≠ 0) (h : SizedF N b F) : ∀ i, SizedF N (b + 5) (F.swap i)
  | 0 => ⟨nwD_sized h0 h.b h.c h.d h.a, h.b.mono (by omega), h.c.mono (by omega), h.d.mono (by omega)⟩
  | 1 => ⟨h.a.mono (by omega), nwD_sized h0 h.a h.c h.d h.b, h.c.mono (by omega), h.d.mono (by omega)⟩
  | 2 => ⟨h.a.mono (by omega), h.b.mono (by omega), nwD_sized h0 h.a h.b h.d h.c, h.d.mono (by omega)⟩
  | _ + 3 => ⟨h.a.mono (by omega), h.b.mono (by omega), h.c.mono (by omega), nwD_sized h0 h.a h.b h.c h.d⟩
end G
set_option Elab.async false
set_option linter.all false
set_option maxRecDepth 100000
set_option exponentiation.threshold 300
namespace G
open PySem L2
/-- the other three, in order -/
def Four.oth (F : Four) : Nat → Disc × Disc × Disc
  | 0 => (F.b, F.c, F.d)
  | 1 => (F.a, F.c, F.d)
  | 2 => (F.a, F.b, F.d)
  | _ => (F.a, F.b, F.c)
def Four.fresh (F : Four) (i : Nat) : Disc := nwD (F.oth i).1 (F.oth i).2.1 (F.oth i).2.2 (F.get i)
theorem SizedF.oth {N m : Nat} {F : Four} (h : SizedF N m F) : ∀ i, SizedD N m (F.oth i).1 ∧ SizedD N m (F.oth i).2.1 ∧ SizedD N m (F.oth i).2.2
  | 0 => ⟨h.b, h.c, h.d⟩
  | 1 => ⟨h.a, h.c, h.d⟩
  | 2 => ⟨h.a, h.b, h.d⟩
  | _ + 3 => ⟨h.a, h.b, h.c⟩
end G
set_option Elab.async false
set_option linter.all false
set_option maxRecDepth 100000
set_option exponentiation.threshold 300
namespace G
open PySem L2
def Four.after (F : Four) (w : T) : Four := w.foldl (fun F c => F.swap (c - 97)) F
theorem Four.after_cons {F : Four} {c : Nat} {w : T} : F.after (c :: w) = (F.swap (c - 97)).after w := by
  unfold Four.after
  rw [List.foldl_cons]
theorem Four.after_nil {F : Four} : F.after [] = F := by
  unfold Four.after
  rw [List.foldl_nil]
theorem SizedF.after {N : Nat} (h0 : N ≠ 0) (w : T) : ∀ (m : Nat) (F : Four), SizedF N m F → SizedF N (m + 5 * w.length) (F.after w) := by
  induction w with
  | nil =>
    intro m F h
    rw [Four.after_nil]
    exact h.mono (Nat.le_add_right _ _)
  | cons c w ih =>
    intro m F h
    rw [Four.after_cons]
    exact (ih _ _ (h.swap h0 (c - 97))).mono (by rw [List.length_cons]; omega)
/-- a call of any letters -/
structure CallA (p : T) (l : Nat) : Prop where
  a : Abc p
  m : l ∈ abcd
  e : p = [] ∨ p.getLast? = some l
theorem CallA.tx {p : T} {l : Nat} (h : CallA p l) (hl : p.length ≤ 900) : Tx (ct p l) := by
  unfold ct
  split
  · rcases abcd_cases h.m with e | e | e | e <;> subst e <;> exact tx_one (by decide)
  · exact h.a.tx (by omega)
theorem CallA.one {p : T} {l : Nat} (h : CallA p l) : oneGreat (ct p l) = decide (p = []) := by
  unfold ct
  split
  · rename_i e
    rcases abcd_cases h.m with q | q | q | q <;> subst q <;> simp [e] <;> rfl
  · rename_i e
    have : oneGreat p = false := by
      rw [Bool.eq_false_iff]
      intro q
      have l1 := one_great_len q
      rw [← one_great l1] at q
      rw [occ_great h.a e] at q
      cases q
    simp [this, e]
end G
set_option Elab.async false
set_option linter.all false
set_option maxRecDepth 100000
set_option exponentiation.threshold 300
namespace G
open PySem L2
theorem perm_erase : ∀ (l : List D) (i : Nat) (h : i < l.length), (l[i] :: l.eraseIdx i).Perm l
  | x :: l, 0, _ => .refl _
  | x :: l, i + 1, h => by
    have h' : i < l.length := by simpa using h
    have ih := perm_erase l i h'
    rw [List.eraseIdx_cons_succ, List.getElem_cons_succ]
    exact (List.Perm.swap x l[i] (l.eraseIdx i)).trans (ih.cons x)
section
variable {P : Prog} {k f : Nat}
def shufE (pull : Nat) : E := .met .popAt (.var 2) [.call pull [.var 0, .bi .len (.var 2)]]
def B_shuf (pull : Nat) : List S := [.set 2 (.mk (.var 1)), .ret (.comp false (shufE pull) [3] [3] .range1 [.bi .len (.var 1)] none)]
def Still (x : D) : Prop := ∀ n s, x.freeze n s = some x
def ShufOk (call : CallS) (f : Nat) : Prop := ∀ (b : Cell) (rest : Stt) (xs : List D), BagOK b → RestOk rest → xs.length ≤ 1000 → (∀ x ∈ xs, Still x) → Draw (call f [.ref 0, .lst xs] (b :: rest)) rest fun d => ∃ ys, d = .lst ys ∧ ys.Perm xs
theorem still_all {s : Stt} {n : Nat} : ∀ {xs : List D}, (∀ x ∈ xs, Still x) → D.freezes n s xs = some xs
  | [], _ => rfl
  | x :: xs, h => by
    rw [D.freezes, h x (List.mem_cons_self ..), still_all fun y hy => h y (List.mem_cons_of_mem _ hy)]
theorem shufOk {pull : Nat} {df : Def} (hf : P.defs[f]? = some df) (h1 : df.ps.length = 2) (h2 : df.N.length = 4) (hb : df.body = B_shuf pull) (hk : df.keep = false) (hp : PullOk (callD P k) pull) : ShufOk (callD P (k + 1)) f := fun b rest xs ob hr hl hx => by
  obtain ⟨acc, s', e2, b', left, rfl, ob', hperm, hlen⟩ := loopC_inv (body := compB P (callD P k) (shufE pull) [3] [3] none [some (.ref 0), some (.lst xs), some (.ref (rest.length + 1)), none])
    (fun n acc s => ∃ (b : Cell) (left : List D), s = b :: (rest ++ [.lst left]) ∧ BagOK b ∧ (acc ++ left).Perm xs ∧ acc.length = n) ((List.range xs.length).map fun i => .int (i : Nat)) 0 [] (b :: (rest ++ [.lst xs])) ⟨b, xs, rfl, ob, by simp, rfl⟩
    fun i d acc s hi ⟨b, left, e, ob, hperm, hlen⟩ => by
      subst e
      have hi' := (List.getElem?_eq_some_iff.mp hi).1
      rw [List.length_map, List.length_range] at hi'
      have hpl := hperm.length_eq
      rw [List.length_append] at hpl
      have l0 : 0 < left.length := by omega
      obtain ⟨v, b', e1, o1, g1, l1⟩ := hp b (rest ++ [.lst left]) left.length 11 ob (by omega) (by rw [show (2 : Nat) ^ 11 = 2048 by decide]; omega) (by decide)
      have hv : v.toNat < left.length := by omega
      have hy : left[v.toNat]? = some left[v.toNat] := List.getElem?_eq_getElem hv
      have hpe : (left[v.toNat] :: left.eraseIdx v.toNat).Perm left := perm_erase left v.toNat hv
      generalize left[v.toNat] = y at hy hpe
      refine ⟨acc ++ [y], b' :: (rest ++ [.lst (left.eraseIdx v.toNat)]), ?_, b', left.eraseIdx v.toNat, rfl, o1, ?_, by simp [hlen]⟩
      · refine compB_of tg_own ?_ (Nat.lt_of_lt_of_le (show acc.length < 1001 by omega) (by decide))
        have c1 : meOk .popAt (b :: (rest ++ [.lst left])) (.ref (rest.length + 1)) = true := by
          simp only [meOk, isCell, get_last]
        have ln : biF .len (b :: (rest ++ [.lst left])) (.ref (rest.length + 1)) = some (.int left.length) := by
          simp only [biF, itemsF, get_last, Option.map_some]
        have ixv : ixN left.length v = some v.toNat := by
          unfold ixN
          rw [if_pos g1, if_pos (by omega)]
        have c2 : meF .popAt (b' :: (rest ++ [.lst left])) (.ref (rest.length + 1)) [.int v] = .ok y (b' :: (rest ++ [.lst (left.eraseIdx v.toNat)])) := by
          have cond : -(2 ^ 63) ≤ v ∧ v < 2 ^ 63 := ⟨by omega, by omega⟩
          simp only [meF, get_last, lmF]
          rw [if_pos cond, ixv]
          simp only [hy, set_last]
        simp only [List.set_cons_succ, List.set_cons_zero, shufE, evE, evEs, R.of, R.bind, List.getElem?_cons_zero, List.getElem?_cons_succ, Option.join_some, c1, if_true, ln, e1, c2]
      · have : (acc ++ [y] ++ left.eraseIdx v.toNat).Perm (acc ++ left) := by
          rw [List.append_assoc]
          exact List.Perm.append_left acc hpe
        exact this.trans hperm
  rw [List.length_map, List.length_range, Nat.zero_add] at hlen
  have hpl := hperm.length_eq
  rw [List.length_append] at hpl
  have l0 : left = [] := List.eq_nil_of_length_eq_zero (by omega)
  subst l0
  rw [List.append_nil] at hperm
  have st : ∀ x ∈ acc, Still x := fun x hx' => hx x (hperm.mem_iff.mp hx')
  refine ⟨.lst acc, b', callD_new (s1 := b' :: rest) (s2 := [.lst []]) (d := .lst acc) hf h1.symm hk ?_ (by simp) (by simp) (by rw [D.freeze, still_all st]; rfl) (bag_under ob' hr _), ob', acc, rfl, hperm⟩
  rw [hb, h2]
  have e0 : ([D.ref 0, D.lst xs] : List D).map some ++ List.replicate (4 - ([D.ref 0, D.lst xs] : List D).length) none = [some (.ref 0), some (.lst xs), none, none] := rfl
  rw [e0]
  have s1 : evS P (callD P k) (.set 2 (.mk (.var 1))) [some (.ref 0), some (.lst xs), none, none] (b :: rest) = .nx [some (.ref 0), some (.lst xs), some (.ref (rest.length + 1)), none] (b :: (rest ++ [.lst xs])) := by
    simp [evS, evE, R.of, R.bind, R.st, itemsF]
  have ln : biF .len (b :: (rest ++ [.lst xs])) (.lst xs) = some (.int xs.length) := rfl
  have s2 : evE P (callD P k) (.comp false (shufE pull) [3] [3] .range1 [.bi .len (.var 1)] none) [some (.ref 0), some (.lst xs), some (.ref (rest.length + 1)), none] (b :: (rest ++ [.lst xs])) = .ok (.lst acc) (b' :: (rest ++ [.lst []])) := by
    rw [evE_comp]
    have : evEs P (callD P k) [.bi .len (.var 1)] [some (.ref 0), some (.lst xs), some (.ref (rest.length + 1)), none] (b :: (rest ++ [.lst xs])) = .ok [.int xs.length] (b :: (rest ++ [.lst xs])) := by
      simp [evEs, evE, R.of, R.bind, ln]
    rw [this, rbind_ok, srcF_range (by omega) (by omega), of_some, rbind_ok]
    simp only [Int.toNat_natCast]
    rw [e2, rbind_ok]
    rfl
  rw [B_shuf, evSs_cons, s1, seq_nx, evSs_cons, evS, s2, st_ok, seq_rt]
  rfl
end
end G
set_option Elab.async false
set_option linter.all false
set_option maxRecDepth 100000
set_option exponentiation.threshold 300
namespace K10
open PySem L2 G
theorem pull0 (k : Nat) : PullOk (callD P (k + 1)) i_law_pull := pullOk p_law_pull rfl rfl rfl
theorem bag0 (k : Nat) : BagMk (callD P (k + 1)) i_law_bag := bagMk (salt := 9146) p_law_bag rfl rfl rfl rfl (by decide) (by decide)
theorem of0 (k : Nat) : OfOk (callD P (k + 2)) i_law_of := of_is ⟨d_law_of, p_law_of, rfl, rfl, rfl⟩ (pull0 k)
theorem same0 (k n : Nat) : SameOk n (callD P (k + 1 + n)) i_law_same := sameOk p_law_same rfl rfl rfl k n
theorem shuf0 (k : Nat) : ShufOk (callD P (k + 2)) i_law_shuffled := shufOk p_law_shuffled rfl rfl rfl rfl (pull0 k)
theorem word0 (k : Nat) : WordOk (callD P (k + 3)) i_law_word := wordOk ⟨d_law_word, p_law_word, rfl, rfl, rfl⟩ (pull0 (k + 1)) (of0 k)
theorem odd0 (k : Nat) : OddOk (callD P (k + 4)) i_law_odd_word := oddOk ⟨d_law_odd_word, p_law_odd_word, rfl, rfl, rfl⟩ (word0 k) (pull0 (k + 2)) (of0 (k + 1))
theorem flaw0 (k : Nat) : FlawOk (callD P (k + 1)) i_flaw_in := flawOk ⟨d_flaw_in, p_flaw_in, rfl, rfl, rfl⟩ g_LETTERS g_MOST_WORD
theorem lflaw0 (k : Nat) : FlawOk (callD P (k + 1)) i_law_word_flaw := lflawOk ⟨d_law_word_flaw, p_law_word_flaw, rfl, rfl, rfl⟩
theorem isw0 (k : Nat) : IsWordOk (callD P (k + 2)) i_is_word := isWordOk ⟨d_is_word, p_is_word, rfl, rfl, rfl⟩ (flaw0 k)
theorem isc0 (k : Nat) : IsCallOk (callD P (k + 3)) i_is_call := isCallOk ⟨d_is_call, p_is_call, rfl, rfl, rfl⟩ (isw0 k) g_GREAT
theorem lisc0 (k : Nat) : IsCallOk (callD P (k + 2)) i_law_is_call := lisCallOk ⟨d_law_is_call, p_law_is_call, rfl, rfl, rfl⟩ (lflaw0 k)
end K10
set_option Elab.async false
set_option linter.all false
set_option maxRecDepth 100000
namespace G
open PySem L2
def txs10 : List T := [[100], [65], [97, 98], [68], [98, 97], [97, 98, 99], [97, 98, 97]]
def due10 : List T := [[65], [68], [100], [97, 98], [98, 97], [97, 98, 97], [97, 98, 99]]
def keyP (t : T) : PyData := .tuple [.int t.length, .str (tS t)]
def keyT (t : T) : D := .tup [.int t.length, .str t]
theorem key_ps : ∀ ts : List T, D.toPs (ts.map keyT) = some (ts.map keyP)
  | [] => rfl
  | t :: ts => by
    rw [List.map_cons, D.toPs, key_ps ts]
    rfl
theorem key_alike (ts : List T) : allAlikeB (ts.map keyP) = true := by
  unfold allAlikeB
  simp [keyP, PySem.W.alike, PySem.W.alikeAll]
theorem key_sortable (ts : List T) : sortableB (ts.map keyP) = true := by
  unfold sortableB
  rw [Bool.or_eq_true]
  left
  simp [keyP]
theorem key_deep (ts : List T) : ((ts.map keyP).all fun d => decide (d.depth ≤ 8)) = true := by
  simp [keyP, PyData.depth, PyData.depthAll]
theorem zip_map2 {α β γ : Type} (f : α → β) (g : α → γ) : ∀ l : List α, (l.map f).zip (l.map g) = l.map fun a => (f a, g a)
  | [] => rfl
  | a :: l => by simp [zip_map2 f g l]
theorem due_le : due10.Pairwise fun a b => PySem.W.dataLe false keyP a b = true := by decide +kernel
theorem due_anti : ∀ a ∈ due10, ∀ b ∈ due10, PySem.W.dataLe false keyP a b = true → PySem.W.dataLe false keyP b a = true → a = b := by decide +kernel
theorem due_perm : due10.Perm txs10 := by decide +kernel
theorem byKey10 {ts : List T} (h : ts.Perm txs10) : byKeyD (ts.map .str) (ts.map keyP) = due10.map .str := by
  unfold byKeyD
  rw [zip_map2, ← PySem.W.sort_maps (r := PySem.W.dataLe false keyP) (fun t => (D.str t, keyP t)) (fun a _ b _ => rfl), List.map_map]
  have : ts.mergeSort (PySem.W.dataLe false keyP) = due10 := by
    have hp : (ts.mergeSort (PySem.W.dataLe false keyP)).Perm due10 := (List.mergeSort_perm ts _).trans (h.trans due_perm.symm)
    refine List.Perm.eq_of_pairwise (le := fun a b => PySem.W.dataLe false keyP a b = true) ?_ (PySem.W.sort_pairwise (PySem.W.sortLe_total _ _ _) ts) due_le hp
    exact fun a b ha hb => due_anti a (hp.subset ha) b hb
  rw [this]
  rfl
theorem sort10 {ts : List T} (h : ts.Perm txs10) : sortD (ts.map .str) (ts.map keyT) = some (due10.map .str) := by
  have hl : ts.length = 7 := h.length_eq
  unfold sortD
  rw [key_ps]
  show (if _ then _ else _) = _
  rw [if_pos ⟨by rw [List.length_map, hl]; decide, by simp, key_alike ts, key_sortable ts, key_deep ts⟩, byKey10 h]
theorem strs_back {ys : List D} {l : List T} (h : ys.Perm (l.map .str)) : ∃ ts : List T, ys = ts.map .str ∧ ts.Perm l := by
  let u : D → T := fun d => match d with
    | .str t => t
    | _ => []
  refine ⟨ys.map u, ?_, ?_⟩
  · rw [List.map_map]
    refine (List.map_id ys).symm.trans (List.map_congr_left fun y hy => ?_)
    obtain ⟨t, _, rfl⟩ := List.mem_map.mp (h.subset hy)
    rfl
  · have := h.map u
    rw [List.map_map] at this
    exact this.trans (by rw [show (u ∘ D.str) = id from rfl, List.map_id])
theorem keysF_map {g : List D → Stt → R D} {s : Stt} : ∀ {ts : List T} {acc : List D}, (∀ t ∈ ts, g [.str t] s = .ok (keyT t) s) → keysF g (ts.map .str) acc s = .ok (acc ++ ts.map keyT) s
  | [], acc, _ => by simp [keysF]
  | t :: ts, acc, h => by
    rw [List.map_cons, keysF, h t List.mem_cons_self]
    simp only
    rw [keysF_map fun u hu => h u (List.mem_cons_of_mem _ hu)]
    simp
end G
namespace K10
open PySem L2 G
theorem le7 : 7 ≤ sizeLine := by decide
def t1 : S := .set 3 (.call i_law_odd_word [.var 1, .int 38])
def t2 : S := .ite (.cmp .eq (.call i_law_pull [.var 1, .int 5]) (.int 0)) [.set 3 (.call i_law_of [.var 1, .lst false [.str [], .str [65], .str [68], .str [65, 66], .str [69], .str [97], .str [97, 65]]])] []
def t3 : S := .set 4 (.lst false [.cmp .isN (.call i_law_word_flaw [.var 3]) (.non), .call i_law_is_call [.var 3]])
def t4 : S := .ite (.not (.call i_law_same [.lst false [.call i_is_word [.var 3], .call i_is_call [.var 3]], .var 4])) [.ret (.bl false)] []
def turnB : List S := [t1, t2, t3, t4]
theorem few_tx {d : D} (h : d ∈ ([.str [], .str [65], .str [68], .str [65, 66], .str [69], .str [97], .str [97, 65]] : List D)) : ∃ u, d = .str u ∧ Tx u := by
  simp only [List.mem_cons, List.not_mem_nil, or_false] at h
  rcases h with q | q | q | q | q | q | q <;> subst q <;> exact ⟨_, rfl, by decide, by decide⟩
theorem turn : TurnK P 39 5 turnB := by
  intro b x0 env ob hl
  match env, hl with
  | [a2, a3, a4, a5, a6], _ =>
    obtain ⟨_, b1, e1, o1, t, rfl, tx, lt⟩ := odd0 35 b [] 38 ob (by decide) (by decide)
    have h1 : evS P (callD P 39) t1 [x0, some (.ref 0), a2, a3, a4, a5, a6] [b] = .nx [x0, some (.ref 0), a2, some (.str t), a4, a5, a6] [b1] := by
      simp [t1, evS, evE, evEs, R.of, R.bind, R.st, e1]
    obtain ⟨v, b2, e2, o2, g0, g1⟩ := pull0 38 b1 [] 5 3 o1 (by decide) (by decide) (by decide)
    obtain ⟨u, b3, o3, tu, h2⟩ : ∃ u b3, BagOK b3 ∧ Tx u ∧ evS P (callD P 39) t2 [x0, some (.ref 0), a2, some (.str t), a4, a5, a6] [b1] = .nx [x0, some (.ref 0), a2, some (.str u), a4, a5, a6] [b3] := by
      by_cases q : v = 0
      · subst q
        obtain ⟨d, b3, e3, o3, hd⟩ := of0 37 b2 [] [.str [], .str [65], .str [68], .str [65, 66], .str [69], .str [97], .str [97, 65]] o2 (by simp) (by simp)
        obtain ⟨u, rfl, tu⟩ := few_tx hd
        exact ⟨u, b3, o3, tu, by simp [t2, evS, evSs, evT, evE, evEs, R.of, R.bind, R.st, RS.seq, cmpF, eqF_int, e2, le7, e3]⟩
      · exact ⟨t, b2, o2, tx, by simp [t2, evS, evSs, evT, evE, evEs, R.of, R.bind, R.st, RS.seq, cmpF, eqF_int, e2, q]⟩
    have f1 := lflaw0 38 u [b3] tu
    have f2 := lisc0 37 u [b3] tu
    have f3 := isw0 37 u [b3] tu
    have f4 := isc0 36 u [b3] tu
    have h3 : evS P (callD P 39) t3 [x0, some (.ref 0), a2, some (.str u), a4, a5, a6] [b3] = .nx [x0, some (.ref 0), a2, some (.str u), some (.lst [.bl (flawT u).isNone, .bl (isCallT u)]), a5, a6] [b3] := by
      cases q : flawT u with
      | none =>
        rw [q] at f1
        simp [t3, evS, evE, evEs, evT, R.of, R.bind, R.st, le2, f1, f2, flawD, cmpF]
      | some i =>
        rw [q] at f1
        simp [t3, evS, evE, evEs, evT, R.of, R.bind, R.st, le2, f1, f2, flawD, cmpF]
    have h4 : evS P (callD P 39) t4 [x0, some (.ref 0), a2, some (.str u), some (.lst [.bl (flawT u).isNone, .bl (isCallT u)]), a5, a6] [b3] = .nx [x0, some (.ref 0), a2, some (.str u), some (.lst [.bl (flawT u).isNone, .bl (isCallT u)]), a5, a6] [b3] := by
      refine same_if1 (same0 36 2) (d := .lst [.bl (flawT u).isNone, .bl (isCallT u)]) ?_ ?_ rfl
      · simp [evE, evEs, R.of, R.bind, f3, f4, le2]
      · simp [evE, R.of]
    refine ⟨b3, [a2, some (.str u), some (.lst [.bl (flawT u).isNone, .bl (isCallT u)]), a5, a6], o3, rfl, ?_⟩
    rw [turnB, evSs_cons, h1, seq_nx, evSs_cons, h2, seq_nx, evSs_cons, h3, seq_nx, evSs_cons, h4, seq_nx, evSs_nil]
def u1 : S := .set 5 (.lst false [.str [100], .str [65], .str [97, 98], .str [68], .str [98, 97], .str [97, 98, 99], .str [97, 98, 97]])
def u2 : S := .set 6 (.sortk i_call_key (.call i_law_shuffled [.var 1, .var 5]))
def u3 : S := .set 4 (.lst false [.str [65], .str [68], .str [100], .str [97, 98], .str [98, 97], .str [97, 98, 97], .str [97, 98, 99]])
def u4 : S := .ret (.and [.cmp .eq (.var 6) (.var 4), .call i_law_same [.lst false [.glob c_LETTERS, .glob c_GREAT, .glob c_MOST_WORD], .lst false [.str [97, 98, 99, 100], .str [65, 66, 67, 68], .int 40]]])
def tl : List S := [u1, u2, u3, u4]
theorem key0 (k : Nat) {t : T} (s : Stt) (tx : Tx t) : callD P (k + 1) i_call_key [.str t] s = .ok (keyT t) s := by
  have h : Is P i_call_key 1 1 b_call_key := ⟨d_call_key, p_call_key, rfl, rfl, rfl⟩
  refine h.rt rfl ?_ rfl
  show evSs P (callD P k) b_call_key [some (.str t)] s = _
  have e := len_str (s := s) tx
  simp [b_call_key, evSs, evS, evE, evEs, R.of, R.bind, R.st, RS.seq, e, le2, keyT]
theorem txs_tx : ∀ t ∈ txs10, Tx t := by
  intro t h
  simp only [txs10, List.mem_cons, List.not_mem_nil, or_false] at h
  rcases h with q | q | q | q | q | q | q <;> subst q <;> exact ⟨by decide, by decide⟩
theorem due_pl : D.pl 3 (.lst (due10.map .str)) = true := by decide +kernel
theorem end_ : EndK P 39 5 tl := by
  intro b x0 env ob hl
  match env, hl with
  | [a2, a3, a4, a5, a6], _ =>
    have h1 : evS P (callD P 39) u1 [x0, some (.ref 0), a2, a3, a4, a5, a6] [b] = .nx [x0, some (.ref 0), a2, a3, a4, some (.lst (txs10.map .str)), a6] [b] := by
      simp [u1, evS, evE, evEs, R.of, R.bind, R.st, le7, txs10]
    obtain ⟨_, b1, e1, o1, ys, rfl, hp⟩ := shuf0 37 b [] (txs10.map .str) ob restOk_nil (by decide) (fun x hx => by
      obtain ⟨t, _, rfl⟩ := List.mem_map.mp hx
      intro n s
      rfl)
    obtain ⟨ts, rfl, ht⟩ := strs_back hp
    have e2 : keysF (callD P 39 i_call_key) (ts.map .str) [] [b1] = .ok (ts.map keyT) [b1] := by
      rw [keysF_map fun t h => key0 38 [b1] (txs_tx t (ht.subset h))]
      rfl
    have e3 := sort10 ht
    have h2 : evS P (callD P 39) u2 [x0, some (.ref 0), a2, a3, a4, some (.lst (txs10.map .str)), a6] [b] = .nx [x0, some (.ref 0), a2, a3, a4, some (.lst (txs10.map .str)), some (.lst (due10.map .str))] [b1] := by
      have e0 : evE P (callD P 39) (.call i_law_shuffled [.var 1, .var 5]) [x0, some (.ref 0), a2, a3, a4, some (.lst (txs10.map .str)), a6] [b] = .ok (.lst (ts.map .str)) [b1] := by
        simp [evE, evEs, R.of, R.bind, e1]
      have e4 : evE P (callD P 39) (.sortk i_call_key (.call i_law_shuffled [.var 1, .var 5])) [x0, some (.ref 0), a2, a3, a4, some (.lst (txs10.map .str)), a6] [b] = .ok (.lst (due10.map .str)) [b1] := by
        rw [evE, e0]
        show (keysF (callD P 39 i_call_key) (ts.map .str) [] [b1]).bind _ = _
        rw [e2]
        show R.of ((sortD (ts.map D.str) (ts.map keyT)).map D.lst) [b1] = _
        rw [e3]
        rfl
      rw [u2, evS, e4]
      rfl
    have h3 : evS P (callD P 39) u3 [x0, some (.ref 0), a2, a3, a4, some (.lst (txs10.map .str)), some (.lst (due10.map .str))] [b1] = .nx [x0, some (.ref 0), a2, a3, some (.lst (due10.map .str)), some (.lst (txs10.map .str)), some (.lst (due10.map .str))] [b1] := by
      simp [u3, evS, evE, evEs, R.of, R.bind, R.st, le7, due10]
    have e5 := eqF_self due_pl (by decide)
    have e6 := same0 36 2 (.lst [.str [97, 98, 99, 100], .str [65, 66, 67, 68], .int 40]) [b1] rfl
    have h4 : evS P (callD P 39) u4 [x0, some (.ref 0), a2, a3, some (.lst (due10.map .str)), some (.lst (txs10.map .str)), some (.lst (due10.map .str))] [b1] = .rt (.bl true) [b1] := by
      have k1 : evE P (callD P 39) (.cmp .eq (.var 6) (.var 4)) [x0, some (.ref 0), a2, a3, some (.lst (due10.map .str)), some (.lst (txs10.map .str)), some (.lst (due10.map .str))] [b1] = .ok (.bl true) [b1] := by
        simp [evE, R.of, R.bind, cmpF, e5]
      have k2 : evE P (callD P 39) (.call i_law_same [.lst false [.glob c_LETTERS, .glob c_GREAT, .glob c_MOST_WORD], .lst false [.str [97, 98, 99, 100], .str [65, 66, 67, 68], .int 40]]) [x0, some (.ref 0), a2, a3, some (.lst (due10.map .str)), some (.lst (txs10.map .str)), some (.lst (due10.map .str))] [b1] = .ok (.bl true) [b1] := by
        simp [evE, evEs, R.of, R.bind, le3, g_LETTERS, g_GREAT, g_MOST_WORD, e6]
      rw [u4, evS, evE]
      simp [evAnd, k1, k2, R.bind, R.st, truF]
    refine ⟨[b1], ?_⟩
    rw [tl, evSs_cons, h1, seq_nx, evSs_cons, h2, seq_nx, evSs_cons, h3, seq_nx, evSs_cons, h4]
    rfl
theorem good (ns : List Int) (_ : ns.length ≤ 63) (_ : ∀ z ∈ ns, Builtin.Int.intBits z ≤ 1048576) : ∃ s', callD P 40 i_law [.scr ns] [] = .ok (.bl true) s' :=
  law_good (n := 8) (turnB := turnB) (tl := tl) p_law rfl rfl rfl rfl (bag0 38) turn (by decide) end_ ns
end K10
set_option Elab.async false
set_option linter.all false
set_option maxRecDepth 100000
set_option maxHeartbeats 0
open PySem PySem.W PySem.Calls PyProof.Rows
theorem PySem.Challenge.cw_gapstone_k10_words_and_calls_holds : PySem.Challenge.rw_gapstone_k10_words_and_calls.Holds := by
  w_on; o_law
  refine HandSHeadRun.head_any (r := PySem.W.OpenLaw.row PySem.Challenge.rw_gapstone_k10_words_and_calls) (q := PySem.W.view (PySem.W.OpenLaw.row PySem.Challenge.rw_gapstone_k10_words_and_calls).prog [18]) (H := K10.hk) (ob := K10.ob) (M := 8000) (loose := ["flaw_in", "is_word", "is_call", "call_key", "_law_bag", "_law_pull", "_law_of", "_law_shuffled", "_law_same", "_law_word", "_law_odd_word", "_law_word_flaw", "_law_is_call", "LETTERS", "GREAT", "MOST_WORD"]) (d := HandSHeadRun.topDef (PySem.W.OpenLaw.row PySem.Challenge.rw_gapstone_k10_words_and_calls).prog 18) (kwd := []) K10.ob_eq
    (by kernel_rfl) (fun s => by kernel_rfl) K10.run (by kernel_rfl) (by kernel_rfl) (by kernel_rfl) (by rfl) (by first | assumption | decide +kernel) (by decide +kernel) ⟨rfl, rfl, rfl, rfl, rfl, by decide +kernel⟩ ?hw ?hc
  case hw => w_witness2
  case hc =>
    refine G.walk_ofET (l := PySem.Challenge.rw_gapstone_k10_words_and_calls) (n := 63) (k := 4 * 40 + 3) (x := "_law_script") (CX := G.CXe) rfl (by decide) (by kernel_rfl) ⟨rfl, by decide, by decide⟩ ?F G.cxe_no
    intro w mg fa h Y N hmg0
    obtain ⟨K, KX, c, tg⟩ := Y
    have hmg : mg ("law" : PySem.Str) = some (.ref fa) := by
      have e : (HandSHeadRun.topDef (PySem.W.OpenLaw.row PySem.Challenge.rw_gapstone_k10_words_and_calls).prog 18).name = ("law" : PySem.Str) := by kernel_rfl
      rw [← e]
      exact hmg0
    obtain ⟨fd, F⟩ := c.1.def_ K10.i_law rfl
    have ha := hmg.symm.trans (He.glo_ok KX N (c.1.facts (f := .glo "law") K10.glo_law))
    cases ha
    exact G.law_end (Γ := K10.Ga w K) (lam := K10.lam) (k := 40) (f := K10.i_law) (df := K10.d_law) (x := "law") (st := K10.s_law) (fd := fd) KX tg rfl hmg (fun base hT => K10.facts KX N c tg hT) K10.p_law rfl rfl rfl F (fun _ _ _ _ _ _ us hl => match us, hl with | [_], _ => rfl) K10.good
