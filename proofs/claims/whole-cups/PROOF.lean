import PyProof.Rows.All
import Wide.All
import OpenK.AllK
import Wide.FinOn
import KE.KUnpackStar
import KE.DataMinMax
import KE.DataMinKey
import KE.SortKeyHeap
import HandS.ForMost
import HandS.Exc
import HandS.TryMany
import HandS.ExcOwn
import HandS.WordsExc
import HandS.DictComp
import HandS.SortKw
import HandS.Lambda
import HandS.EndTab
import HandS.Defaults
import HandS.MakeKw
import HandS.MakeKwOnly
import HandS.Conv
import HandS.Zip
import HandS.TupAny
import HandS.Style
import HandS.NoneIn
import HandS.IsInst
import HandS.ListItems
import HandS.Wide
import HandS.Flow
import KE.KDictKeyed
import KE.KDictCopyH
import HandS.Strs
import HandS.Deep
import HandS.TupLen
import HandS.Text
import HandS.Rev
import PySem.Challenge.RW_playstead_k69_whole_cups_round_by_round
import HandS.Walk
import HandS.HeadWalk
import HandS.Head0
import HandS.Head1
import HandS.Head2
import HandS.HeadEnd
import HandS.HeadHook1
import HandS.HeadHook2
import HandS.HeadHook3
import HandS.HeadHook4
set_option Elab.async false
set_option linter.all false
set_option maxRecDepth 100000
set_option maxHeartbeats 0
namespace MR
open PySem PySem.Spec PyProof.Rows L2
abbrev St := L2.St
section
variable {X : Cx}
/-- one, *others = a list -/
def gStar1 (K : PySem.W.Frag) (g1 g2 : TG) : TG := fun v σ H Q => ∃ a x xs, v = .ref a ∧ SqL K H a (x :: xs) ∧ xs.length ≤ 16000 ∧ ∀ p, H p = none → g1 x σ (upd H p (.lst xs)) fun σ1 H1 => g2 (.ref p) σ1 H1 Q
theorem pg_star1 {e1 e2 : Expr} {k : Nat} {pos p2 : Pos} {g1 g2 : TG} (hc : X.calm = true) (h1 : PG X e1 g1) (h2 : PG X e2 g2)
    (hE : assignEach [e1, .Starred e2 p2] X.env = [(false, assign e1 X.env), (true, assign e2 X.env)] := by rfl) : PG X (.Tuple [e1, .Starred e2 p2] k pos) (gStar1 X.K g1 g2) := by
  refine ⟨fun pins s σ H v u Q I r hw => ?_⟩
  obtain ⟨a, x, xs, e1, hq, hl, hw⟩ := hw
  subst e1
  cases r
  obtain ⟨its, rv, pl, hz⟩ := I.list hq
  have hla : s.heap.IsList a its.toArray := by
    obtain ⟨o, m, e, c, d, q⟩ := pl
    exact ⟨o, e, c, m, q⟩
  have hlt : a ≠ s.heap.objs.size := by obtain ⟨o, ho, _⟩ := hla; exact Nat.ne_of_lt (Heap.lt_size ho)
  rw [PyProof.Rows.assign_Tuple]
  refine wpAny_bind (wpAny_standAt ?_)
  unfold unpack
  rw [hE]
  cases rv with
  | cons rx rr =>
  rename_i u0 us
  have hlen : us.length = xs.length := rr.length.symm
  have hh := I.ok.hd hc
  show wpAny _ _ (do
    let items ← holding [Value.ref a] (unpackItems (Value.ref a) 2 (some 1))
    assignInOrder [assign e1 X.env, assign e2 X.env] items) _ _ _
  have fin : ∀ (h₂ : Heap) (tk : Nat), (∀ b o, s.heap.get? b = some o → h₂.get? b = some o) →
      wpAny (model X.prog X.w) X.A (assignInOrder [assign e1 X.env, assign e2 X.env] [u0, .ref h₂.objs.size]) (fun _ s' => ∃ σ' H', Inv X pins σ' H' s' ∧ Q σ' H') X.xe { s with heap := h₂.push { cls := .type "list", data := .seq us.toArray }, toks := tk } := by
    intro h₂ tk kp
    have I2 : Inv X pins σ H { s with heap := h₂, toks := tk } := I.kept kp
    have hf : H h₂.objs.size = none := I2.hok.fresh (Nat.le_refl _)
    have I3 : Inv X pins σ (upd H h₂.objs.size (.lst xs)) { s with heap := h₂.push { cls := .type "list", data := .seq us.toArray }, toks := tk } :=
      I2.laid (t' := tk) (fun b u e => Heap.get?_push_of_some _ e) (Nat.le_refl _) ⟨by rw [sizeLine_eq]; omega, us, 0, rr, Heap.get?_push_size _ rfl⟩
    refine assignInOrder_cons (thn (h1.run pins _ σ _ x u0 _ I3 rx (hw _ hf)) fun _ s4 ⟨σ4, H4, I4, q4⟩ => ?_)
    exact assignInOrder_cons (thn (h2.run pins s4 σ4 H4 (.ref h₂.objs.size) (.ref h₂.objs.size) Q I4 rfl q4) fun _ s5 q5 => assignInOrder_nil q5)
  refine wpAny_bind (wpAny_holding ?_)
  unfold unpackItems
  refine wpAny_bind ?_
  unfold notIterableAtAll
  refine wpAny_bind (wpAny_specialOf hla.typeIs slot_list_iter.lookup ?_)
  refine wpAny_pure ?_
  simp only [Bool.false_eq_true, if_false]
  refine wpAny_bind (wpAny_holding (wpAny_pyIter_list hla ?_))
  refine wpAny_bind (wpAny_holding (PySem.W.kun_draw hlt 1 0 _ _ ⟨_, Heap.get?_push_size _ rfl, rfl, rfl⟩ (hla.push _) (by simp) fun h₁ hit₁ hs₁ => ?_))
  have hl₁ : h₁.IsList a (u0 :: us).toArray := (hla.push _).extBut hs₁.extBut hlt
  have hit₁' := hit₁
  obtain ⟨oi, hoi, _⟩ := hit₁'
  have hl₁' := hl₁
  obtain ⟨ol, hol, _⟩ := hl₁'
  rw [List.drop_zero]
  have e0 : List.take 1 (u0 :: us).toArray.toList = [u0] := by simp
  rw [e0]
  rw [Nat.zero_add] at hit₁
  rw [if_neg (show ¬ ([u0].length < 1) by simp)]
  refine wpAny_bind (wpAny_holding (PySem.W.kun_collect (s := { s with heap := h₁ }) (T := "list_iterator") (items := (u0 :: us).toArray) (.inr (.inr (.inl rfl))) (Walks.list (A := X.A.in1) hh s.heap.objs.size a hlt (u0 :: us).toArray) (fun j u st => st.1.typeIs) (k := 1) (by simp) ⟨hit₁, hl₁⟩ (Heap.lt_size hoi) (Heap.lt_size hol) (fun h₂ tk hk => ?_) (by rw [List.size_toArray, List.length_cons, sizeLine_eq]; omega)))
  have e1 : (u0 :: us).toArray.toList.drop 1 = us := by simp
  rw [e1]
  have e2 : us.take (us.length - (2 - 1 - 1)) = us := List.take_of_length_le (by omega)
  have e3 : us.drop (us.length - (2 - 1 - 1)) = [] := List.drop_of_length_le (by omega)
  dsimp only
  rw [if_neg (show ¬ (us.length < 2 - 1 - 1) by omega), e2, e3]
  refine wpAny_bind (wpAny_newList ?_ (by rw [hlen, sizeLine_eq]; omega))
  refine wpAny_pure ?_
  exact fin h₂ tk fun b o e => hk b o (Nat.ne_of_lt (Heap.lt_size e)) (hs₁.extBut b o (Nat.ne_of_lt (Heap.lt_size e)) (Heap.get?_push_of_some _ e))
end
end MR
namespace MR
open PySem PySem.Spec PyProof.Rows L2
section
variable {X : Cx}
/-! min(found, default=d) of alike data -/
def rMinDef (K : PySem.W.Frag) : List V → List V → Hp → VK → Prop := fun xs zs H Q => ∃ (a : Addr) (vs : List V) (ds : List PyData) (d : V), xs = [.ref a] ∧ zs = [d] ∧ SqL K H a vs ∧ DpAll K H vs ds ∧ PySem.W.AlikeAll ds ∧ PyData.depthAll ds ≤ 60 ∧
  (ds = [] → Q d H) ∧ (∀ (y : PyData) (ys : List PyData) (i : Nat) (v : V), ds = y :: ys → vs[i]? = some v → ds[i]? = some (PySem.W.minD y ys) → Q v H)
theorem dpAll_get {K : PySem.W.Frag} {H : Hp} : ∀ {vs : List V} {ds : List PyData}, DpAll K H vs ds → ∀ {i : Nat} {v : V}, vs[i]? = some v → ∃ d, ds[i]? = some d ∧ Dp K H v d
  | _, _, .nil, i, v, h => by simp at h
  | _, _, .cons r t, 0, v, h => by
    have e := Option.some.inj (show some _ = some v from h)
    subst e
    exact ⟨_, rfl, r⟩
  | _, _, .cons r t, i + 1, v, h => by
    obtain ⟨d, e1, e2⟩ := dpAll_get t (i := i) (v := v) (by simpa using h)
    exact ⟨d, by simpa using e1, e2⟩
theorem minD_mem : ∀ (ys : List PyData) (y : PyData), PySem.W.minD y ys ∈ y :: ys
  | [], y => by simp [PySem.W.minD]
  | z :: ys, y => by
    have e : PySem.W.minD y (z :: ys) = PySem.W.minD (if PySem.W.dataLt z y = true then z else y) ys := rfl
    rw [e]
    have q := minD_mem ys (if PySem.W.dataLt z y = true then z else y)
    rcases List.mem_cons.mp q with q | q
    · rw [q]
      split <;> simp
    · simp [q]
theorem call_minDef (hc : X.calm = true) (hu : X.A.units + 64 < cLine) : CallRK X (.builtin "min") ["default"] (rMinDef X.K) := by
  intro pins s σ H xs zs us ws Q I r rz h
  obtain ⟨a, vs, ds, d, rfl, rfl, hq, hd, hal, hdep, h0, h1⟩ := h
  obtain ⟨u, rfl, ru⟩ := vals1 r
  obtain ⟨w', rfl, rw'⟩ := vals1 rz
  cases ru
  obtain ⟨its, rv, pl, hz⟩ := I.list hq
  obtain ⟨as, hr⟩ := Dp.readsAll I ds vs its hd rv
  refine PySem.W.min_list_default (I.ok.hd hc) pl.isList (by simpa using hr) hal (by omega) (fun e h' tk k => ?_) (fun y ys i v h' tk bs e hv rd k => ?_)
  · exact ⟨d, H, I.kept k, rw', h0 e⟩
  · have I' : Inv X pins σ H { s with heap := h', toks := tk } := I.kept k
    have hv' : its[i]? = some v := by simpa using hv
    have hi : i < vs.length := by
      rw [rv.length]
      exact (List.getElem?_eq_some_iff.mp hv').1
    obtain ⟨v0, hv0⟩ : ∃ v0, vs[i]? = some v0 := ⟨vs[i], List.getElem?_eq_getElem hi⟩
    obtain ⟨u0, e1, ru0⟩ := rv.get hv0
    have e2 : u0 = v := Option.some.inj (e1.symm.trans hv')
    subst e2
    obtain ⟨d0, ed, rd0⟩ := dpAll_get hd hv0
    obtain ⟨as0, rr⟩ := Dp.reads I' d0 v0 u0 rd0 ru0
    have al : PySem.W.alike d0 (PySem.W.minD y ys) = true := hal.1 _ (List.mem_of_getElem? ed) _ (by rw [e]; exact minD_mem ys y)
    have eq := PySem.W.alike_unique d0 (PySem.W.minD y ys) u0 _ _ al rr rd
    exact ⟨v0, H, I', ru0, h1 y ys i v0 e hv0 (by rw [ed, eq])⟩
/-! dict.update -/
def mergeG {κ : Type} [DecidableEq κ] (kvs more : List (κ × V)) : List (κ × V) := more.foldl (fun acc kv => putK acc kv.1 kv.2) kvs
def rUpdK : V → List V → Hp → VK → Prop := fun x xs H Q => ∃ (d o : Addr) (kvs more : List (Key × V)), x = .ref d ∧ xs = [.ref o] ∧ H d = some (.dK kvs) ∧ H o = some (.dK more) ∧ d ≠ o ∧ kvs.length + more.length ≤ sizeLine ∧ Q .non (upd H d (.dK (mergeK kvs more)))
theorem mergeK_len : ∀ (more kvs : List (Key × V)), (mergeK kvs more).length ≤ kvs.length + more.length
  | [], kvs => Nat.le_refl _
  | kv :: more, kvs => by
    have e : mergeK kvs (kv :: more) = mergeK (putK kvs kv.1 kv.2) more := rfl
    rw [e]
    have h1 := mergeK_len more (putK kvs kv.1 kv.2)
    have h2 := length_putK kvs kv.1 kv.2
    rw [List.length_cons]
    omega
theorem mt_updK : MtR X "dict.update" rUpdK := by
  intro pins s σ H x xs v us Q I r rs h
  obtain ⟨d, o, kvs, more, rfl, rfl, hd, ho, hne, hz, q⟩ := h
  obtain ⟨u, rfl, ru⟩ := vals1 rs
  cases r
  cases ru
  obtain ⟨z, sd, vs, rel, dd⟩ := dk_of I.hok hd
  obtain ⟨z2, so, ws, rel2, do2⟩ := dk_of I.hok ho
  refine call_meetsIn PySem.F.slot_dict_update dd.typeIs PySem.F.entry_dict_update (PySem.F.args_dict_update_2 _ _) (meets_dict_update (mixKind X.prog X.w) d o hne so) ⟨vs, ws, dd, do2, (by rw [← rel.length, ← rel2.length]; exact hz), fun h' hm _ hs => ?_⟩
  have he : ∃ q, h'.get? d = some q := let ⟨q, _, _, hq, _⟩ := hm; ⟨q, hq⟩
  exact ⟨.non, _, d_write (t' := s.toks) I (by rw [hd]; exact True.intro) hs he (dk_new (Nat.le_trans (mergeK_len more kvs) hz) sd (KV.merge rel2 rel) hm), rfl, q⟩
end
end MR
namespace MR
open PySem PySem.Spec PyProof.Rows L2
section
variable {X : Cx}
/-- a tracked dict with tuple keys, written -/
theorem dt_written {pins : List (Addr × Obj)} {σ : St} {H : Hp} {s : Shared} {a : Addr} {kvs kvs' : List (List Key × V)} {xs' : List (List Key × Addr × Value)} {h' : Heap} {t' : Nat} (I : Inv X pins σ H s) (e : H a = some (.dT kvs)) (hs : Heap.SameBut a s.heap h')
    (hl : kvs'.length ≤ sizeLine) (rel : KT H kvs' xs') (dd : h'.DictOfH (tupleKind (mixKind X.prog X.w)) a xs') : Inv X pins σ (upd H a (.dT kvs')) { s with heap := h', toks := t' } := by
  obtain ⟨z, hd, _⟩ := dt_of I.hok e
  obtain ⟨q, es, ep, hq, h2, h3, h4, _, h5⟩ := dd
  refine d_write I (by rw [e]; exact True.intro) hs ⟨q, hq⟩ ⟨hl, hd, _, rel.keeps fun c ys ec => ?_, q, es, ep, hq, h2, h3, h4, h5⟩
  rw [upd_ne (ne_of ec e (fun z => nomatch z))]
  exact ec
theorem roomT {P : Program} {w : World} {A : Around} (hu : A.units + 1 < cLine) : (tupleKind (mixKind P w)).room A := by
  show A.units < cLine
  omega
theorem d_dictSetT {pins : List (Addr × Obj)} {σ : St} {H : Hp} {s : Shared} {E : Value → Shared → Prop} {D b : Addr} {kvs : List (List Key × V)} {k : List Key} {v : V} {u r : Value} {Q : Unit → Shared → Prop} (hu : X.A.units + 1 < cLine) (I : Inv X pins σ H s)
    (hD : H D = some (.dT kvs)) (eb : H b = some (.tup (k.map kV))) (hz : kvs.length < sizeLine) (ry : RelV (.ref b) u) (rv : RelV v r) (h : ∀ s', Inv X pins σ (upd H D (.dT (putK kvs k v))) s' → Q () s') : wpAny (model X.prog X.w) X.A (dictSet D u r) Q E s := by
  cases (show u = Value.ref b from ry)
  obtain ⟨z, hd, xs, rel, dd⟩ := dt_of I.hok hD
  have hzv : xs.length ≤ sizeLine := by rw [← Paired.length rel]; exact z
  have hl : (putK kvs k v).length ≤ sizeLine := by have := length_putK kvs k v; omega
  exact wpAny_dictSet_heap (hsz := hzv) (roomT hu) (key_of I.hok eb) dd fun h' dd' hs => h _ (dt_written I hD hs hl (rel.put k eb rv) dd')
/-- {k: v for target in iter if ..}, the keys tuples of numbers and texts -/
def tDcT (wi : TI) (g : TG) (tt : TT) (tk tv : TE) (vs : List Nat) : TE := fun σ H Q => wi σ H fun J H1 => ∀ D, H1 D = none → ∃ W : Nat → Nat → Hp → Prop, (∃ m, W 0 m (upd H1 D (.dT []))) ∧ ∀ i m H, W i m H →
  (J.stop i H ∧ Q (.ref D) H) ∨ (J.go i H ∧ ∃ Nx : Hp → Prop, (∀ H', Nx H' → ∃ m', m' < m ∧ W (i + 1) m' H') ∧ ∀ x H', J.yld i H x H' → g x (wipe σ vs) H' fun σ2 H2 => wipe σ2 vs = wipe σ vs ∧ tt σ2 H2 fun b H3 =>
    if b = true then tk σ2 H3 fun y H4 => tv σ2 H4 fun z H5 => ∃ kvs k b, y = .ref b ∧ H5 b = some (.tup (k.map kV)) ∧ H5 D = some (.dT kvs) ∧ kvs.length < sizeLine ∧ Nx (upd H5 D (.dT (putK kvs k z))) else Nx H3)
theorem dcT_core {pins : List (Addr × Obj)} {s : Shared} {σ : St} {H : Hp} {Q : VK} {kx vx tg iter : Expr} {ifs : List Expr} {scope : Scope} {own : List (Str × Nat)} {pos pos' : Pos} {wi : TI} {g : TG} {tt : TT} {tk tv : TE} {use : Option (Value → Sem Unit)} {Qf : Value → Shared → Prop}
    (hu : X.A.units + 1 < cLine) (hc : X.calm = true) (hN : X.N.Nodup) (I : Inv X pins σ H s) (hi : PI X tg iter wi) (ok : BlkOk X.N X.env.scope scope own)
    (hg : ∀ (s : Shared) (H : Hp) (C : Addr) (cl : List (Str × Addr)) (fp : List Addr), PG (X.blk s H scope (compEnvC scope cl C X.env) fp) tg g) (ht : ∀ (s : Shared) (H : Hp) (C : Addr) (cl : List (Str × Addr)) (fp : List Addr), PTs (X.blk s H scope (compEnvC scope cl C X.env) fp) ifs tt)
    (hk : ∀ (s : Shared) (H : Hp) (C : Addr) (cl : List (Str × Addr)) (fp : List Addr), PE (X.blk s H scope (compEnvC scope cl C X.env) fp) kx tk)
    (he : ∀ (s : Shared) (H : Hp) (C : Addr) (cl : List (Str × Addr)) (fp : List Addr), PE (X.blk s H scope (compEnvC scope cl C X.env) fp) vx tv) (hs : ∀ x, foldedSetIterable iter X.env x = pure x)
    (h : tDcT wi g tt tk tv (own.map (·.2)) σ H Q)
    (hRR : ∀ D C s' m H', Inv X pins σ H' s' → Q (.ref D) H' → s'.heap.Ns C m → FpOk X pins H' C → compPost (model X.prog X.w) X.A X.xe use Qf (.ref D) C (.ok .next) s') :
    wpAny (model X.prog X.w) X.A (comprehension (.DictComp kx vx [⟨tg, iter, ifs, 0⟩] scope pos) scope X.env pos' newDict false (eval iter X.env) use) Qf X.xe s := by
  have hfree : ∀ y ∈ scope.names, y.2 = .free → ∃ c, X.env.cells.lookup y.1 = some c := fun y hy e => by
    rcases ok.free y hy e with k | k
    · exact I.ok.has _ (.inl k)
    · exact I.ok.has _ (.inr k)
  refine wpAny_comprehension_free (use := use) rfl hs (closure_ok hfree) ok.kind (fun y hy e => by rw [ok.uniq y hy, e])
    (thn (hi.run pins s σ H _ I h) fun xv s1 hx => thn hx fun itv s2 h2 => ?_)
  obtain ⟨it, fp, tn, J, H2, e, I2, T, st2, f2, q⟩ := h2
  subst e
  refine wpAny_newObj_type (newEnv_comp ?_)
  generalize hD : s2.heap.objs.size = D
  have hDn : H2 D = none := I2.hok.fresh (Nat.le_of_eq hD)
  obtain ⟨W, ⟨m0, w0⟩, turn⟩ := q D hDn
  -- the new list
  generalize hs3 : ({ s2 with heap := s2.heap.push { cls := .type "dict", data := .dict #[] } } : Shared) = s3
  have I3 : Inv X pins σ (upd H2 D (.dT [])) s3 := by
    rw [← hs3]
    refine I2.laid (t' := s2.toks) (fun b o e => Heap.get?_push_of_some _ e) (Nat.le_of_eq hD) ?_
    rw [← hD]
    exact dt_empty s2.heap I2.big
  have h3 : s3.heap = s2.heap.push { cls := .type "dict", data := .dict #[] } := by rw [← hs3]
  have sz : ∀ b ∈ fp, b < s2.heap.objs.size := fun b hb => by
    obtain ⟨o, e, _⟩ := T.obj _ _ st2 b hb
    exact Heap.lt_size e
  have f3 : ∀ b ∈ fp, FpOk X pins (upd H2 D (.dT [])) b ∧ b < s3.heap.objs.size := fun b hb => by
    have hlt := sz b hb
    refine ⟨⟨?_, (f2 b hb).2⟩, by rw [h3, Heap.size_push]; exact Nat.lt_succ_of_lt hlt⟩
    rw [upd_ne (by rw [← hD]; exact Nat.ne_of_lt hlt)]
    exact (f2 b hb).1
  have st3 : tn 0 s3.heap := T.keep _ _ _ st2 fun b _ o e => by rw [h3]; exact Heap.get?_push_of_some _ e
  have I4 := block_start I3 ok hN f3
  have pg := hg s3 (upd H2 D (.dT [])) s3.heap.objs.size (cellsFrom (s3.heap.objs.size + 1) scope.names (cloFrom X.env.cells scope.names [])) fp
  have pt := ht s3 (upd H2 D (.dT [])) s3.heap.objs.size (cellsFrom (s3.heap.objs.size + 1) scope.names (cloFrom X.env.cells scope.names [])) fp
  have pk := hk s3 (upd H2 D (.dT [])) s3.heap.objs.size (cellsFrom (s3.heap.objs.size + 1) scope.names (cloFrom X.env.cells scope.names [])) fp
  have pe := he s3 (upd H2 D (.dT [])) s3.heap.objs.size (cellsFrom (s3.heap.objs.size + 1) scope.names (cloFrom X.env.cells scope.names [])) fp
  show codeAny _ _ (.compStart (.DictComp kx vx [⟨tg, iter, ifs, 0⟩] scope pos) 0 (.ref it) (.ref D) (compEnvC scope (cellsFrom (s3.heap.objs.size + 1) scope.names (cloFrom X.env.cells scope.names [])) s3.heap.objs.size X.env)) (compPost (model X.prog X.w) X.A X.xe use Qf (.ref D) s3.heap.objs.size) { s3 with heap := pushCells (s3.heap.push { cls := .type "dict", data := .dict #[] }) scope.names }
  have nfp : ∀ b ∈ fp, (upd H2 D (.dT [])) b = none := fun b hb => (f3 b hb).1.1
  generalize hce : compEnvC scope (cellsFrom (s3.heap.objs.size + 1) scope.names (cloFrom X.env.cells scope.names [])) s3.heap.objs.size X.env = ce at I4 pg pt pk pe ⊢
  have cL : ce.locals = s3.heap.objs.size := by subst hce; rfl
  generalize hH3 : upd H2 D (.dT []) = H3 at I3 I4 pg pt pk pe w0 nfp f3
  generalize hs4 : ({ s3 with heap := pushCells (s3.heap.push { cls := .type "dict", data := .dict #[] }) scope.names } : Shared) = s4 at I4 ⊢
  have st4 : tn 0 s4.heap := T.keep _ _ _ st3 fun b _ o e => by rw [← hs4]; exact pushCells_keeps _ _ _ _ (Heap.get?_push_of_some _ e)
  have stat : ∀ {σ' : St} {H' : Hp} {s' : Shared}, Inv (X.blk s3 H3 scope ce fp) [] σ' H' s' → (∀ b ∈ fp, H' b = none) → ∀ b ∈ fp, FpOk (X.blk s3 H3 scope ce fp) [] H' b := fun {σ' H' s'} I' hn b hb =>
    ⟨hn b hb, (I'.ok.exf b hb).1, I'.ok.exfs b hb, .inl hb, fun x c e => (I'.ok.exf b hb).2 x c e, fun p hp => absurd (show p ∈ ([] : List (Addr × Obj)) ++ [] from hp) (by simp)⟩
  have loop : codeAny (model X.prog X.w) X.A (.compLoop (.DictComp kx vx [⟨tg, iter, ifs, 0⟩] scope pos) 0 (.ref it) (.ref D) ce) (compPost (model X.prog X.w) X.A X.xe use Qf (.ref D) s3.heap.objs.size) s4 := by
    refine compLoop_anyD (fun n s' => ∃ i H', Inv (X.blk s3 H3 scope ce fp) [] (wipe σ (own.map (·.2))) H' s' ∧ tn i s'.heap ∧ (∀ b ∈ fp, H' b = none) ∧ W i n H') ?_ m0 ⟨0, H3, I4, st4, nfp, w0⟩
    rintro n s5 ⟨i, H5, I5, st5, n5, w5⟩
    rcases turn i n H5 w5 with ⟨stop, qq⟩ | ⟨go, Nx, hNx, step⟩
    · have td := T.done (X.blk s3 H3 scope ce fp) rfl rfl rfl hc i [] s5 _ H5 (fun _ _ => False) I5 (stat I5 n5) st5 stop
      refine thnF td fun r s6 ⟨hr, I6⟩ => ?_
      subst hr
      -- back in the def's context
      have I7 : Inv X pins σ H5 s6 := I3.call' (ch := fp) I6.os I6.base I6.hok I6.bare fun b hb => ⟨(f3 b hb).1.2.2.2.1, (f3 b hb).1.2.1, (f3 b hb).1.2.2.2.2.1, (f3 b hb).1.2.2.2.2.2⟩
      have nC : H5 s3.heap.objs.size = none := by
        have z : H5 ce.locals = none := I6.free
        rw [cL] at z
        exact z
      obtain ⟨m, hn, _⟩ := I6.loc
      have hn : s6.heap.Ns ce.locals m := hn
      rw [cL] at hn
      exact hRR D s3.heap.objs.size s6 m H5 I7 qq hn (I3.fpOk (Nat.le_refl _) nC)
    · have ti := T.item (X.blk s3 H3 scope ce fp) rfl rfl rfl hc i [] s5 _ H5 (fun _ _ => False) I5 (stat I5 n5) st5 go
      refine thnF ti fun r s6 ⟨u, hr, h6⟩ => ?_
      subst hr
      refine thnF h6 fun _ s7 ⟨x, H7, I7, r7, y7, st7, n7⟩ => ?_
      have I7' := I7.pinned (stat I7 n7) (T.obj _ _ st7)
      refine thnF (pg.run _ s7 _ H7 x u _ I7' r7 (step x H7 y7)) fun _ s8 ⟨σ8, H8, I8, hw8, q8⟩ => ?_
      refine thnF (pt.run _ s8 σ8 H8 _ I8 q8) fun b s9 ⟨H9, I9, q9⟩ => ?_
      -- the turn's end
      have fin : ∀ {s' : Shared} {H' : Hp}, Inv (X.blk s3 H3 scope ce fp) ([] ++ pinsAt fp s7.heap) σ8 H' s' → Nx H' → ∃ m, m < n ∧ ∃ i H', Inv (X.blk s3 H3 scope ce fp) [] (wipe σ (own.map (·.2))) H' s' ∧ tn i s'.heap ∧ (∀ b ∈ fp, H' b = none) ∧ W i m H' := fun {s' H'} I' nx => by
        obtain ⟨m', hm, w'⟩ := hNx H' nx
        have pin' : ∀ b ∈ fp, ∀ o, s7.heap.get? b = some o → s'.heap.get? b = some o ∧ H' b = none := fun b hb o e =>
          let z := I'.pin (b, o) (List.mem_append_right _ (List.mem_append_right _ (mem_pinsAt hb e)))
          ⟨z.1, z.2.1⟩
        have hl : (wipe σ (own.map (·.2))).length = σ8.length := by rw [← hw8, wipe_length]
        refine ⟨m', hm, i + 1, H', (I'.unpinned (pins := [])).weak hl (fun j v e => ?_), T.keep _ _ _ st7 fun b hb o e => (pin' b hb o e).1, fun b hb => ?_, w'⟩
        · rw [← hw8] at e
          exact (wipe_some e).1
        · obtain ⟨o, e, _⟩ := T.obj _ _ st7 b hb
          exact (pin' b hb o e).2
      cases b with
      | false =>
        simp only [Bool.false_eq_true, if_false] at q9 ⊢
        exact fin I9 q9
      | true =>
        simp only [if_true] at q9 ⊢
        refine thnF (pk.run _ s9 σ8 H9 _ I9 q9) fun z s10 ⟨yk, H10, I10, r10, q10⟩ => ?_
        refine thnF (pe.run _ s10 σ8 H10 _ I10 q10) fun z2 s11 ⟨yv, H11, I11, r11, kvs, k, b, ek, eb11, hD11, hz11, nx⟩ => ?_
        subst ek
        exact d_dictSetT (X := X.blk s3 H3 scope ce fp) hu I11 hD11 eb11 hz11 r10 r11 fun s12 I12 => fin I12 nx
  exact codeAny_compStart_dict loop (T.self X.A 0 _ _ _ st4 loop)
theorem pe_dcT {kx vx tg iter : Expr} {ifs : List Expr} {scope : Scope} {own : List (Str × Nat)} {pos : Pos} {wi : TI} {g : TG} {tt : TT} {tk tv : TE} (hu : X.A.units + 1 < cLine) (hc : X.calm = true) (hN : X.N.Nodup) (hi : PI X tg iter wi) (ok : BlkOk X.N X.env.scope scope own)
    (hg : ∀ (s : Shared) (H : Hp) (C : Addr) (cl : List (Str × Addr)) (fp : List Addr), PG (X.blk s H scope (compEnvC scope cl C X.env) fp) tg g) (ht : ∀ (s : Shared) (H : Hp) (C : Addr) (cl : List (Str × Addr)) (fp : List Addr), PTs (X.blk s H scope (compEnvC scope cl C X.env) fp) ifs tt)
    (hk : ∀ (s : Shared) (H : Hp) (C : Addr) (cl : List (Str × Addr)) (fp : List Addr), PE (X.blk s H scope (compEnvC scope cl C X.env) fp) kx tk)
    (he : ∀ (s : Shared) (H : Hp) (C : Addr) (cl : List (Str × Addr)) (fp : List Addr), PE (X.blk s H scope (compEnvC scope cl C X.env) fp) vx tv) (hs : ∀ x, foldedSetIterable iter X.env x = pure x := by intro _; rfl) :
    PE X (.DictComp kx vx [⟨tg, iter, ifs, 0⟩] scope pos) (tDcT wi g tt tk tv (own.map (·.2))) := by
  refine ⟨fun pins s σ H Q I h => ?_⟩
  rw [arm_eval_DictComp]
  refine dcT_core hu hc hN I hi ok hg ht hk he hs h fun D C s' m H' I' q hn f => ⟨m, hn, fun h'' sb => ?_⟩
  obtain ⟨f0, f1, f2, f3, f4, f5⟩ := f
  exact ⟨.ref D, H', I'.turned (t' := s'.toks) (fun b o hb e => (sb.2 b hb).trans e) f0 f1 f3 f4 f5, rfl, q⟩
/-- d.update(o), keys tuples -/
def rUpdT : V → List V → Hp → VK → Prop := fun x xs H Q => ∃ (d o : Addr) (kvs more : List (List Key × V)), x = .ref d ∧ xs = [.ref o] ∧ H d = some (.dT kvs) ∧ H o = some (.dT more) ∧ d ≠ o ∧ (kvs = [] → more = []) ∧ kvs.length + more.length ≤ sizeLine ∧ Q .non (upd H d (.dT (mergeG kvs more)))
theorem KT.merge {H : Hp} : ∀ {more : List (List Key × V)} {ys : List (List Key × Addr × Value)}, KT H more ys → ∀ {kvs : List (List Key × V)} {xs : List (List Key × Addr × Value)}, KT H kvs xs → KT H (mergeG kvs more) (storedAllH xs ys)
  | _, _, .nil, _, _, q => q
  | _, _, .cons (a := kv) (b := y) h t, kvs, xs, q => by
    have h3 := L2.KT.put q kv.1 h.2.1 h.2.2
    have e : storedH xs kv.1 y.2.1 y.2.2 = storedH xs y.1 y.2.1 y.2.2 := by rw [h.1]
    rw [e] at h3
    exact KT.merge t h3
theorem mergeG_len {κ : Type} [DecidableEq κ] : ∀ (more kvs : List (κ × V)), (mergeG kvs more).length ≤ kvs.length + more.length
  | [], kvs => Nat.le_refl _
  | kv :: more, kvs => by
    have e : mergeG kvs (kv :: more) = mergeG (putK kvs kv.1 kv.2) more := rfl
    rw [e]
    have h1 := mergeG_len more (putK kvs kv.1 kv.2)
    have h2 := length_putK kvs kv.1 kv.2
    rw [List.length_cons]
    omega
theorem mt_updT (hu : X.A.units + 64 < cLine) : MtR X "dict.update" rUpdT := by
  intro pins s σ H x xs v us Q I r rs h
  obtain ⟨d, o, kvs, more, rfl, rfl, hd, ho, hne, hem, hz, q⟩ := h
  obtain ⟨u, rfl, ru⟩ := vals1 rs
  cases r
  cases ru
  obtain ⟨z, sd, vs, rel, dd⟩ := dt_of I.hok hd
  obtain ⟨z2, so, ws, rel2, do2⟩ := dt_of I.hok ho
  refine call_update_dictH (knd := tupleKind (mixKind X.prog X.w)) (by show X.A.units + 1 < cLine; omega) hne so dd do2 ?_ (by rw [← Paired.length rel, ← Paired.length rel2]; exact hz) fun h' hm _ hs => ?_
  · cases rel with
    | nil =>
      have e := hem rfl
      subst e
      cases rel2
      exact .inr ⟨fun x hx => (by cases hx), by simp⟩
    | cons h t => exact .inl (fun z => by cases z)
  · exact ⟨.non, _, dt_written (t' := s.toks) I hd hs (Nat.le_trans (mergeG_len more kvs) hz) (KT.merge rel2 rel) hm, rfl, q⟩
/-- dict(xs), xs a list of pairs (key, value), the keys tuples -/
def PairsT (K : PySem.W.Frag) (H : Hp) (ps : List Addr) (kvs : List (List Key × V)) : Prop := Paired (fun p kv => ∃ b, SqT K H p [.ref b, kv.2] ∧ H b = some (.tup (kv.1.map kV))) ps kvs
theorem pairsT_of {pins : List (Addr × Obj)} {σ : St} {H : Hp} {s : Shared} (I : Inv X pins σ H s) : ∀ {ps : List Addr} {kvs : List (List Key × V)}, PairsT X.K H ps kvs →
    ∃ xs : List (List Key × Addr × Value), KT H kvs xs ∧ xs.length = ps.length ∧ ∀ (j : Nat) (q : List Key × Addr × Value), xs[j]? = some q → ∃ b : Addr, ps[j]? = some b ∧ s.heap.IsTuple b #[.ref q.2.1, q.2.2]
  | _, _, .nil => ⟨[], .nil, rfl, fun j q e => by simp at e⟩
  | _, _, .cons (a := p) (b := kv) h t => by
    obtain ⟨xs, r, hl, hp⟩ := pairsT_of I t
    obtain ⟨b, h1, h2⟩ := h
    obtain ⟨its, rv, ht, _⟩ := I.tuple h1
    obtain ⟨u, y, ei, ru, ry⟩ := vals2 rv
    subst ei
    cases ru
    refine ⟨(kv.1, b, y) :: xs, .cons ⟨rfl, h2, ry⟩ r, by rw [List.length_cons, List.length_cons, hl], fun j q e => ?_⟩
    cases j with
    | zero =>
      have e' : (kv.1, b, y) = q := Option.some.inj e
      subst e'
      exact ⟨p, rfl, ht⟩
    | succ j =>
      obtain ⟨b', e1, e2⟩ := hp j q (by simpa using e)
      exact ⟨b', by simpa using e1, e2⟩
theorem call_dictPT (hu : X.A.units + 64 < cLine) (hcalm : X.calm = true) : CallR X (.type "dict") (fun xs H Q => ∃ (a : Addr) (ps : List Addr) (kvs : List (List Key × V)), xs = [.ref a] ∧ SqL X.K H a (ps.map V.ref) ∧ PairsT X.K H ps kvs ∧
    ∀ p, H p = none → Q (.ref p) (upd H p (.dT (mergeG [] kvs)))) := by
  intro pins s σ H xs us Q I r q
  obtain ⟨a, ps, kvs, rfl, hq, hp, q⟩ := q
  obtain ⟨u, rfl, rx⟩ := vals1 r
  cases rx
  obtain ⟨its, rv, pl, hz⟩ := I.list hq
  have ei := refs_at rv
  subst ei
  rw [List.length_map] at hz
  obtain ⟨ys, rel, hl, hpr⟩ := pairsT_of I hp
  obtain ⟨o, n, ho, hc, hd, hdat⟩ := pl
  have his : ∀ x ∈ ys, (tupleKind (mixKind X.prog X.w)).is s.heap x.1 x.2.1 := by
    have all : ∀ {l : List (List Key × V)} {m : List (List Key × Addr × Value)}, KT H l m → ∀ x ∈ m, (tupleKind (mixKind X.prog X.w)).is s.heap x.1 x.2.1 := by
      intro l m q
      induction q with
      | nil => intro x hx; cases hx
      | cons h t ih =>
        intro x hx
        rcases List.mem_cons.mp hx with e | hx
        · subst e
          have h2 := h.2.1
          rw [h.1] at h2
          exact key_of I.hok h2
        · exact ih x hx
    exact all rel
  refine call_dict_pairsH (knd := tupleKind (mixKind X.prog X.w)) (ps := ys) (PairArg.list a (ps.map Value.ref).toArray (fun j => ps.getD j 0) (ys.map fun y => (.ref y.2.1, y.2.2))) (I.ok.hd hcalm) (by show X.A.units + 1 + 1 < cLine; omega) ⟨⟨o, n, ho, hc, hd, hdat⟩, ?_, ?_⟩ ⟨by simp, ?_⟩ ?_ (by rw [List.length_map, hl]; exact hz) fun h' tk hm k => ?_
  · simp [hl]
  · intro j k v e
    rw [List.getElem?_map] at e
    cases ey : ys[j]? with
    | none => rw [ey] at e; cases e
    | some y =>
      rw [ey] at e
      obtain ⟨b, e1, e2⟩ := hpr j y ey
      cases e
      refine ⟨by simp [e1], .inl ?_⟩
      have e3 : ps.getD j 0 = b := by simp [List.getD, e1]
      show s.heap.IsTuple (ps.getD j 0) _
      rw [e3]
      exact e2
  · intro i key v hr
    have hr : (ys.map fun y : List Key × Addr × Value => (Value.ref y.2.1, y.2.2))[i]? = some (key, v) := hr
    rw [List.getElem?_map] at hr
    cases ey : ys[i]? with
    | none => rw [ey] at hr; cases hr
    | some y =>
      rw [ey] at hr
      cases hr
      exact ⟨y.1, y.2.1, rfl, rfl⟩
  · intro h' hk x hx
    refine tupleKind_stays.stays (fun b ob vs n hb hd' => hk b ob ?_ (by simp) hb) (his x hx)
    exact Nat.ne_of_lt (Heap.lt_size hb)
  · have hlen : (mergeG [] kvs).length ≤ sizeLine := by
      refine Nat.le_trans (mergeG_len kvs []) ?_
      rw [List.length_nil, Nat.zero_add, Paired.length rel, hl]
      exact hz
    have hf : H s.heap.objs.size = none := I.hok.fresh (Nat.le_refl _)
    obtain ⟨q', es, ep, hq', h2, h3, h4, _, h5⟩ := hm
    refine ⟨.ref s.heap.objs.size, upd H s.heap.objs.size (.dT (mergeG [] kvs)), I.laid (t' := tk) (fun b u e => k b u (by simp) e) (Nat.le_refl _) ?_, rfl, q _ hf⟩
    refine ⟨hlen, beq_eq_false_iff_ne.mpr (Nat.ne_of_gt I.big), _, (KT.merge rel .nil).keeps fun c ys ec => ?_, q', es, ep, hq', h2, h3, h4, h5⟩
    rw [upd_ne (ne_of_none ec hf)]
    exact ec
end
end MR
namespace MR
open PySem PySem.Spec PyProof.Rows L2
section
variable {prog : Program} {w : World} {A : Around} {E : Value → Shared → Prop} {s : Shared}
/-- (a, b)[::-1] -/
theorem getItem_pair_back {t sl : Addr} {a b : Value} {vl vu vs : Value} {Q : Value → Shared → Prop} (ht : IsTup s.heap t #[a, b]) (hs : s.heap.IsSliceOf sl vl vu vs) (pl : IsPart vl none) (pu : IsPart vu none) (ps : IsPart vs (some (-1)))
    (h : Q (.ref s.heap.objs.size) { s with heap := s.heap.push { cls := .type "tuple", data := .seq #[b, a] } }) : wpAny (model prog w) A (getItem (.ref t) (.ref sl)) Q E s := by
  obtain ⟨os, hos, hcs, hds⟩ := id hs
  have hT : s.TypeIs (.ref sl) "slice" := ⟨os, hos, hcs⟩
  have hz : sizeOk (.seq #[b, a]) := by
    show 2 ≤ sizeLine
    decide
  have app : ∀ {Q' : Int × Int × Nat → Shared → Prop}, Q' (1, -1, 2) s → wpAny (model prog w) A.in1 (Builtin.Slice.sliceApplied (.ref sl) (pure (2 : Int))) Q' (fun _ _ => False) s := by
    intro Q' hq
    unfold Builtin.Slice.sliceApplied Builtin.Slice.sliceFields
    refine wpAny_bind (wpAny_bind (wpAny_field hos hds (x := vl) rfl (wpAny_bind (wpAny_field hos hds (x := vu) rfl (wpAny_bind (wpAny_field hos hds (x := vs) rfl (wpAny_pure ?_)))))))
    refine wpAny_bind (HT.slicePart_ ps ?_)
    show wpAny _ _ (if ((-1 : Int) == 0) = true then _ else _) _ _ s
    rw [if_neg (by decide)]
    refine wpAny_bind (HT.slicePart_ pl (wpAny_bind (HT.slicePart_ pu (wpAny_bind (wpAny_pure ?_)))))
    exact wpAny_pure hq
  unfold getItem
  try with_reducible refine wpAny_holding ?_
  first | refine wpAny_bind (wpAny_pure ?_) | skip
  refine wpAny_bind (wpAny_sequenceKey ht.typeIs (by decide) ?_)
  refine wpAny_bind (wpAny_callSpecial?_slot (name := Str.ofString "__getitem__") ht.typeIs PyProof.Rows.slot_tuple_getitem
    (wpAny_call_entry PyProof.Rows.slot_tuple_getitem ht.typeIs entry_tuple_getitem ?_ (args_tuple_getitem _ _)))
  show wpAny _ _ (Builtin.Tuple.tupleItemsOf (.ref t) >>= _) _ _ s
  refine wpAny_bind (PyProof.Rows.tupleItemsOf_ ht ?_)
  refine wpAny_bind (wpAny_typeOf hT ?_)
  rw [if_pos (by decide)]
  refine wpAny_bind (wpAny_mono (app (Q' := fun r s' => r = (1, -1, 2) ∧ s' = s) ⟨rfl, rfl⟩) ?_ fun _ _ z => z.elim)
  rintro r1 s1 ⟨e1, e2⟩
  rw [e1, e2]
  show wpAny _ _ (if (((1 : Int) == 0) && ((-1 : Int) == 1) && (2 == 2)) = true then _ else _) _ _ s
  rw [if_neg (by decide)]
  exact wpAny_bind (m := Builtin.Tuple.tupleExact _) (wpAny_newObj_type (wpAny_pure ⟨_, rfl, wpAny_pure h⟩) hz)
end
section
variable {X : Cx}
def tRev2 (K : PySem.W.Frag) (te : TE) : TE := fun σ H Q => te σ H fun x H1 => ∃ a y z, x = .ref a ∧ SqT K H1 a [y, z] ∧ ∀ p, H1 p = none → Q (.ref p) (upd H1 p (.tup [z, y]))
theorem pe_rev2 {e : Expr} {te : TE} {k : Nat} {p1 p2 p3 pos : Pos} (he : PE X e te) : PE X (.Subscript e (.Slice none none (some (.UnaryOp .USub (.Constant (.int 1) k p1) p2)) p3) pos) (tRev2 X.K te) := by
  refine ⟨fun pins s σ H Q I h => ?_⟩
  refine Subscript_ (thn (he.run pins s σ H _ I h) fun v s1 ⟨x, H1, I1, r1, a, y, z, ex, hx, q⟩ => ?_)
  subst ex
  cases r1
  have hst : PO X (some (.UnaryOp .USub (.Constant (.int 1) k p1) p2)) (tPart (tUn (rU fun i => .int (-i)) (tC (.int 1)))) := po_some (pe_un un_neg pe_int)
  refine wpAny_Slice (thn (po_none.run pins s1 σ H1 (fun o H2 => o = none ∧ H2 = H1) I1 ⟨rfl, rfl⟩) fun vl s2 ⟨l, H2, I2, pl, el, e2⟩ => ?_)
  subst el e2
  refine thn (po_none.run pins s2 σ H2 (fun o H3 => o = none ∧ H3 = H2) I2 ⟨rfl, rfl⟩) fun vu s3 ⟨u, H3, I3, pu, eu, e3⟩ => ?_
  subst eu e3
  refine thn (hst.run pins s3 σ H3 (fun o H4 => o = some (-1) ∧ H4 = H3) I3 ⟨1, rfl, -1, rfl, rfl, rfl⟩) fun vs s4 ⟨o, H4, I4, ps, eo, e4⟩ => ?_
  subst eo e4
  have I5 : Inv X pins σ H4 { s4 with heap := s4.heap.push { cls := .type "slice", data := .fields #[vl, vu, vs] } } := I4.kept (t' := s4.toks) fun b ob q => Heap.get?_push_of_some _ q
  obtain ⟨its, r, ht, hz⟩ := I5.tuple hx
  obtain ⟨u1, u2, ei, ry, rz⟩ := vals2 r
  subst ei
  show wpAny (model X.prog X.w) X.A (subscriptTail e (.Slice none none (some (.UnaryOp .USub (.Constant (.int 1) k p1) p2)) p3) (.ref a) (.ref s4.heap.objs.size)) (EP X pins σ Q) X.xe { s4 with heap := s4.heap.push { cls := .type "slice", data := .fields #[vl, vu, vs] } }
  refine tail_any (ops := [.ref a, .ref s4.heap.objs.size]) ht.typeIs (PyProof.Rows.slot_tuple_getitem.lookup) ?_ (by with_unfolding_all rfl)
  refine getItem_pair_back ht (Heap.IsSliceOf.new _ vl vu vs) pl pu ps ?_
  refine ⟨.ref _, _, I5.laid (t' := s4.toks) (o := .tup [z, y]) (fun b ob q => Heap.get?_push_of_some _ q) (Nat.le_refl _) ?_, rfl, q _ (I5.hok.fresh (Nat.le_refl _))⟩
  exact ⟨by show 2 ≤ sizeLine; decide, [u2, u1], .cons rz (.cons ry .nil), ⟨_, Heap.get?_push_size _ rfl, rfl, _, rfl⟩⟩
/-- x * 2, x a text -/
theorem op_mul_str2 : OpR X (binaryOp .Mult) (fun x y H Q => ∃ z : Str, x = .str z ∧ y = .int 2 ∧ 1 ≤ z.length ∧ z.length ≤ 1000 ∧ Q (.str (z ++ z)) H) := by
  intro pins s σ H x y v u Q I rx ry h
  obtain ⟨z, rfl, rfl, hz0, hz, q⟩ := h
  obtain ⟨t, rfl⟩ := rx
  obtain ⟨t', rfl⟩ := ry
  have hb : ((2 : Int) == 1 || z.length == 0) = false := by
    have e : (z.length == 0) = false := beq_eq_false_iff_ne.mpr (by omega)
    rw [e]
    decide
  have hf : ((List.replicate (2 : Int).toNat z.cps).foldl (· ++ ·) #[]) = z.cps ++ z.cps := by
    show ((#[] ++ z.cps) ++ z.cps) = _
    rw [Array.empty_append]
  refine P.mul_str (by decide) (fun _ _ => ?_) (fun _ _ => ?_) ?_
  · have : ((2 ^ 63 - 1) / 2 : Int) = 4611686018427387903 := by decide
    rw [this]
    omega
  · show decide (z.length * 2 > sizeLine) = false
    rw [sizeLine_eq]
    exact decide_eq_false (by omega)
  · rw [if_neg (by decide), hb, hf]
    refine ⟨?_, ?_⟩
    · show (z.cps ++ z.cps).size ≤ _
      have e : z.cps.size = z.length := rfl
      rw [Array.size_append, e, sizeLine_eq]
      omega
    · exact ⟨.str (z ++ z), H, I.tok _, ⟨_, rfl⟩, q⟩
end
end MR
namespace MR
open PySem PySem.Spec PyProof.Rows L2 SS
section
variable {prog : Program} {w : World} {A : Around} {R : Result → Shared → Prop} {I : Addr} {fp wr : List Addr} {G : Array GenState → Array GenState → Prop} {n : Nat} {P : Nat → Value → Prop} {St : Nat → Shared → Prop}
theorem loopT (W : WalksS prog w A.in1 I fp wr G n P St) (S : Addr) (hSf : S ∉ fp) (xs : List Str) (hsz : xs.length = n) (hnd : xs.Nodup) (hn1 : n < 60)
    (hval : ∀ i v, P i v → ∃ t, v = .str (xs.getD i Str.empty) t) :
    ∀ (k i : Nat) (s : Shared), n - i = k → i ≤ n → St i s →
      s.heap.SetOf (PySem.strKind prog w) S (fun k' => (xs.take i).any (· == k')) i →
      (∀ s', Moved (S :: wr) G s s' → s'.heap.SetOf (PySem.strKind prog w) S (fun k' => (xs.take n).any (· == k')) n → R (.ok (.ret .none)) s') →
      codeAny (model prog w) A (.builtin "set.update.loop" ⟨[.ref S, .ref I], []⟩) R s := by
  have hSw : S ∉ wr := fun h => hSf (W.sub _ h)
  have hsub : ∀ b ∈ wr, b ∈ S :: wr := fun b hb => List.mem_cons_of_mem _ hb
  intro k
  induction k with
  | zero =>
    intro i s hk hi hst hS hR
    have hin : i = n := by omega
    subst hin
    refine codeAny_builtin PyProof.Rows.F.entry_set_update_loop ?_
    rw [Around.under_plainId PyProof.Rows.F.plain_set_update_loop _]
    show wpAny _ A.in1 (pyNext (.ref I) >>= _) _ _ s
    refine wpAny_bind (W.done s _ _ hst fun s' hm => ?_)
    show wpAny _ A.in1 (ret Value.none) _ _ s'
    exact wpAny_pure (hR s' (hm.mono hsub) (by
      obtain ⟨o, es, ep, t, ho, rest⟩ := hS
      exact ⟨o, es, ep, t, hm.heap S _ hSw ho, rest⟩))
  | succ k ih =>
    intro i s hk hi hst hS hR
    have hlt : i < n := by omega
    refine codeAny_builtin PyProof.Rows.F.entry_set_update_loop ?_
    rw [Around.under_plainId PyProof.Rows.F.plain_set_update_loop _]
    show wpAny _ A.in1 (pyNext (.ref I) >>= _) _ _ s
    refine wpAny_bind (W.item i s _ _ hlt hst fun v s' hP hst' hm => ?_)
    obtain ⟨t, rfl⟩ := hval i v hP
    have hS' : s'.heap.SetOf (PySem.strKind prog w) S (fun k' => (xs.take i).any (· == k')) i := by
      obtain ⟨o, es, ep, tb, ho, rest⟩ := hS
      exact ⟨o, es, ep, tb, hm.heap S _ hSw ho, rest⟩
    show wpAny _ A.in1 (holding [Value.str (xs.getD i Str.empty) t] (setAdd S (.str (xs.getD i Str.empty) t)) >>= _) _ _ s'
    refine wpAny_bind (wpAny_holding ?_)
    unfold setAdd
    refine wpAny_holding ?_
    refine wpAny_bind ((PySem.strKind prog w).pyHash (k := xs.getD i Str.empty) (strKind_is _ _ _ _) ?_)
    refine wpAny_setAddHashed_of (knd := PySem.strKind prog w) (s := { s' with toks := s'.toks + 1 }) (strKind_is _ _ _ _) rfl hS' (by unfold scanBound; omega) fun h' hsb hS2 => ?_
    have hSi : h'.SetOf (PySem.strKind prog w) S (fun k' => (xs.take (i + 1)).any (· == k')) (i + 1) := by
      have hx : xs[i]? = some (xs.getD i Str.empty) := by
        rw [List.getElem?_eq_getElem (by omega)]
        congr 1
        exact (List.getElem_eq_getD Str.empty)
      have hno : (xs.take i).any (· == xs.getD i Str.empty) = false := by
        refine Bool.eq_false_iff.mpr fun q => ?_
        obtain ⟨y, hy, ey⟩ := List.any_eq_true.mp q
        have ey' : y = xs.getD i Str.empty := by simpa using ey
        rw [ey'] at hy
        obtain ⟨m, hm, em⟩ := List.mem_iff_getElem.mp hy
        have hm' : m < i := by
          rw [List.length_take] at hm
          omega
        rw [List.getElem_take] at em
        have e2 : xs[m]? = some (xs.getD i Str.empty) := by rw [List.getElem?_eq_getElem (by omega), em]
        exact absurd (nd_ix hnd e2 hx) (by omega)
      refine SetOf_congr hS2 (fun k' => ?_) ?_
      · rw [List.take_add_one, hx, List.any_append, Option.toList_some, List.any_cons, List.any_nil, Bool.or_false]
        by_cases e : k' = xs.getD i Str.empty
        · rw [e]
          simp
        · have hb : (xs.getD i Str.empty == k') = false := beq_eq_false_iff_ne.mpr fun h' => e h'.symm
          rw [hb, decide_eq_false e]
      · rw [hno]
        rfl
    refine wpAny_pure ⟨plainId_quiet PyProof.Rows.F.plain_set_update_loop _, ih (i + 1) _ (by omega) hlt (W.frame _ s' _ _ hst' (Nat.le_succ _) fun b hb o e => ?_) hSi fun s'' hm'' hS'' => ?_⟩
    · rw [hsb.2 b (fun h : b = S => hSf (by rw [← h]; exact hb))]; exact e
    · refine hR s'' (Moved.trans W.gtrans ((hm.mono hsub).then_heap (Nat.le_succ _) fun b o hb e => ?_) hm'') hS''
      rw [hsb.2 b (fun h : b = S => hb (by rw [h]; exact List.mem_cons_self))]; exact e
end

section
variable {prog : Program} {w : World} {A : Around} {E : Value → Shared → Prop} {s : Shared}
theorem call_setL {l : Addr} {items : Array Value} {xs : List Str} {Q : Value → Shared → Prop}
    (hh : A.handled = none) (hl : s.heap.IsList l items) (hi : PyProof.Rows.StrsAre items.toList xs) (hnd : xs.Nodup) (hn1 : xs.length < 60)
    (h : ∀ (h' : Heap) (tk : Nat), h'.SetOf (PySem.strKind prog w) s.heap.objs.size (fun k' => (xs.take items.size).any (· == k')) items.size →
      (∀ b o, b < s.heap.objs.size → s.heap.get? b = some o → h'.get? b = some o) → Q (.ref s.heap.objs.size) { s with heap := h', toks := tk }) :
    wpAny (model prog w) A (call (.type "set") [.ref l]) Q E s := by
  obtain ⟨c, tl, hmro⟩ := PySem.F.called_set.mro
  have hmade := PySem.F.called_set.made
  have hsub := PySem.F.called_set.sub
  refine wpAny_call (codeAny_of_tree ?_)
  show wpAny _ _ (callAny (.type "set") _) _ _ _
  refine wpAny_pure ⟨Code.quiet_builtin _ (by decide +kernel), codeAny_builtin PySem.F.entry_type_call ?_⟩
  rw [Around.under_plain (weight_type_call_type "set" [.ref l] []) rfl]
  have h1 := PySem.F.called_set.notType
  have h2 := PySem.F.called_set.canCreate
  have hct := PySem.F.typeCall_set_1 (.ref l)
  repeat (any_goals (first | assumption | wp_step))

  refine codeAny_mono (code_set_new_1 (.ref l) (E := E) (Q₁ := fun obj s₁ => ∃ led : Bool, obj = .ref s.heap.objs.size ∧ s₁ = { s with heap := s.heap.push { cls := .type "set", dict := none, data := .set #[] 0 (.fresh 0 0 led) } }) fun led => ⟨led, rfl, rfl⟩) fun r s₁ hr => ?_
  cases r with
  | error e => exact hr
  | ok fl =>
    cases fl with
    | ret obj =>
      obtain ⟨led, rfl, rfl⟩ := hr
      have hS : (s.heap.push { cls := .type "set", dict := none, data := .set #[] 0 (.fresh 0 0 led) }).get? s.heap.objs.size = some { cls := .type "set", dict := none, data := .set #[] 0 (.fresh 0 0 led) } := Heap.get?_push_size _ rfl
      have hT : Shared.TypeIs { s with heap := s.heap.push { cls := .type "set", dict := none, data := .set #[] 0 (.fresh 0 0 led) } } (.ref s.heap.objs.size) "set" := ⟨_, hS, rfl⟩
      have hli := PySem.F.called_set.init.lookup
      have hbi := PySem.F.called_set.init.bind (.ref s.heap.objs.size)
      repeat (any_goals (first | assumption | wp_step))

      refine codeAny_mono (codeAny_call_builtin (R := wants (fun r s₂ => r = .none ∧ ∃ h' tk, s₂ = { s with heap := h', toks := tk } ∧
          h'.SetOf (PySem.strKind prog w) s.heap.objs.size (fun k' => (xs.take items.size).any (· == k')) items.size ∧
          (∀ b o, b < s.heap.objs.size → s.heap.get? b = some o → h'.get? b = some o)) E) PySem.F.called_set.init.plain PySem.F.entry_set_init (check_set_init_1 hT ?_)) fun r₂ s₂ hr₂ => ?_
      · obtain ⟨ol, hol, hcl, nl, hdl⟩ := hl
        obtain ⟨ocls, odict, odata, oslots⟩ := ol
        simp only at hcl hdl
        subst hcl; subst hdl
        have hol' : (s.heap.push { cls := .type "set", dict := none, data := .set #[] 0 (.fresh 0 0 led) }).get? l = some { cls := .type "list", dict := odict, data := .seq items nl, slots := oslots } := Heap.get?_push_of_some _ hol
        have hsls := PySem.F.sub_list_set
        have hslf := PySem.F.sub_list_frozenset
        have hne : (Value.type "list" == Value.type "dict") = false := by decide
        have hl1 : (s.heap.push { cls := .type "set", dict := none, data := .set #[] 0 (.fresh 0 0 led) }).IsList l items := ⟨_, hol', rfl, nl, rfl⟩
        unfold Builtin.«set.__init__» noKeywords Builtin.Frozenset.updateFrom
        generalize hPI : pyIter = PI
        wp_walk
        subst hPI

        refine wpAny_pyIter_list hl1 ?_
        refine wpAny_bind (wpAny_runValue ?_)
        have hlS : l < s.heap.objs.size := Heap.lt_size hol
        have hh3 : A.in1.in1.in1.handled = none := by simp [hh]
        have hneI : l ≠ (s.heap.push { cls := .type "set", dict := none, data := .set #[] 0 (.fresh 0 0 led) }).objs.size := by
          rw [Heap.size_push]; exact Nat.ne_of_lt (Nat.lt_succ_of_lt hlS)
        have hSf : s.heap.objs.size ∉ [(s.heap.push { cls := .type "set", dict := none, data := .set #[] 0 (.fresh 0 0 led) }).objs.size, l] := by
          rw [Heap.size_push]; simp only [List.mem_cons, List.mem_singleton, List.not_mem_nil, or_false, not_or]
          exact ⟨Nat.ne_of_lt (Nat.lt_succ_self _), Nat.ne_of_gt hlS⟩
        have hsz : xs.length = items.size := by rw [← StrsAre.len_eq hi, Array.length_toList]
        have hval : ∀ (i : Nat) (v : Value), items[i]? = some v → ∃ t, v = .str (xs.getD i Str.empty) t := fun i v hv => strs_at hi i v (by rw [Array.getElem?_toList]; exact hv)
        refine loopT ((Walks.list hh3 _ l hneI items).toS) s.heap.objs.size
          hSf xs hsz hnd (by rw [← hsz]; exact hn1) hval (items.size - 0) 0 _ (by omega) (Nat.zero_le _)
          ⟨⟨_, Heap.get?_push_size _ rfl, rfl, rfl⟩, (hl1.push _)⟩ ?hS0 ?hR
        case hS0 =>
          have hget : ((s.heap.push { cls := .type "set", dict := none, data := .set #[] 0 (.fresh 0 0 led) }).push { cls := .type "list_iterator", data := .fields #[.ref l, .int 0 0] }).get? s.heap.objs.size
              = some { cls := .type "set", dict := none, data := .set #[] 0 (.fresh 0 0 led) } := Heap.get?_push_of_some _ hS
          exact PyProof.Rows.SetOf_congr ((PyProof.Rows.setObjOf_fresh (knd := PySem.strKind prog w) led).setOf hget (by unfold scanBound; omega)) (fun _ => rfl) rfl
        case hR =>
          intro s' hm hS'
          obtain ⟨h', g', d', tk', os'⟩ := s'
          have eg : g' = s.gens := hm.gens
          have ed : d' = s.drawn := hm.drawn
          have eo : os' = s.os := hm.os
          subst eg; subst ed; subst eo
          show wpAny _ _ _ _ _ _
          refine wpAny_pure ?_
          show wpAny _ _ (ret Value.none) _ _ _
          refine wpAny_pure ⟨rfl, h', tk', rfl, hS', fun b o hb e => ?_⟩
          have hb1 : b ≠ s.heap.objs.size := Nat.ne_of_lt hb
          have hb2 : b ≠ (s.heap.push { cls := .type "set", dict := none, data := .set #[] 0 (.fresh 0 0 led) }).objs.size := by
            rw [Heap.size_push]; exact Nat.ne_of_lt (Nat.lt_succ_of_lt hb)
          exact hm.heap b o (by simp only [List.mem_cons, List.mem_singleton, List.not_mem_nil, or_false, not_or]; exact ⟨hb1, hb2⟩) (Heap.get?_push_of_some _ (Heap.get?_push_of_some _ e))

      · cases r₂ with
        | error e => exact hr₂
        | ok fl₂ =>
          cases fl₂ with
          | ret r =>
            obtain ⟨rfl, h', tk, rfl, hS', hk'⟩ := hr₂
            repeat (any_goals (first | assumption | wp_step))
            exact h _ _ hS' hk'
          | _ => exact hr₂.elim
    | _ => exact hr.elim


theorem call_setT {l : Addr} {items : Array Value} {xs : List Str} {Q : Value → Shared → Prop}
    (hh : A.handled = none) (hl : s.heap.IsTuple l items) (hi : PyProof.Rows.StrsAre items.toList xs) (hnd : xs.Nodup) (hn1 : xs.length < 60)
    (h : ∀ (h' : Heap) (tk : Nat), h'.SetOf (PySem.strKind prog w) s.heap.objs.size (fun k' => (xs.take items.size).any (· == k')) items.size →
      (∀ b o, b < s.heap.objs.size → s.heap.get? b = some o → h'.get? b = some o) → Q (.ref s.heap.objs.size) { s with heap := h', toks := tk }) :
    wpAny (model prog w) A (call (.type "set") [.ref l]) Q E s := by
  obtain ⟨c, tl, hmro⟩ := PySem.F.called_set.mro
  have hmade := PySem.F.called_set.made
  have hsub := PySem.F.called_set.sub
  refine wpAny_call (codeAny_of_tree ?_)
  show wpAny _ _ (callAny (.type "set") _) _ _ _
  refine wpAny_pure ⟨Code.quiet_builtin _ (by decide +kernel), codeAny_builtin PySem.F.entry_type_call ?_⟩
  rw [Around.under_plain (weight_type_call_type "set" [.ref l] []) rfl]
  have h1 := PySem.F.called_set.notType
  have h2 := PySem.F.called_set.canCreate
  have hct := PySem.F.typeCall_set_1 (.ref l)
  repeat (any_goals (first | assumption | wp_step))

  refine codeAny_mono (code_set_new_1 (.ref l) (E := E) (Q₁ := fun obj s₁ => ∃ led : Bool, obj = .ref s.heap.objs.size ∧ s₁ = { s with heap := s.heap.push { cls := .type "set", dict := none, data := .set #[] 0 (.fresh 0 0 led) } }) fun led => ⟨led, rfl, rfl⟩) fun r s₁ hr => ?_
  cases r with
  | error e => exact hr
  | ok fl =>
    cases fl with
    | ret obj =>
      obtain ⟨led, rfl, rfl⟩ := hr
      have hS : (s.heap.push { cls := .type "set", dict := none, data := .set #[] 0 (.fresh 0 0 led) }).get? s.heap.objs.size = some { cls := .type "set", dict := none, data := .set #[] 0 (.fresh 0 0 led) } := Heap.get?_push_size _ rfl
      have hT : Shared.TypeIs { s with heap := s.heap.push { cls := .type "set", dict := none, data := .set #[] 0 (.fresh 0 0 led) } } (.ref s.heap.objs.size) "set" := ⟨_, hS, rfl⟩
      have hli := PySem.F.called_set.init.lookup
      have hbi := PySem.F.called_set.init.bind (.ref s.heap.objs.size)
      repeat (any_goals (first | assumption | wp_step))

      refine codeAny_mono (codeAny_call_builtin (R := wants (fun r s₂ => r = .none ∧ ∃ h' tk, s₂ = { s with heap := h', toks := tk } ∧
          h'.SetOf (PySem.strKind prog w) s.heap.objs.size (fun k' => (xs.take items.size).any (· == k')) items.size ∧
          (∀ b o, b < s.heap.objs.size → s.heap.get? b = some o → h'.get? b = some o)) E) PySem.F.called_set.init.plain PySem.F.entry_set_init (check_set_init_1 hT ?_)) fun r₂ s₂ hr₂ => ?_
      · obtain ⟨ol, hol, hcl, nl, hdl⟩ := hl
        obtain ⟨ocls, odict, odata, oslots⟩ := ol
        simp only at hcl hdl
        subst hcl; subst hdl
        have hol' : (s.heap.push { cls := .type "set", dict := none, data := .set #[] 0 (.fresh 0 0 led) }).get? l = some { cls := .type "tuple", dict := odict, data := .seq items nl, slots := oslots } := Heap.get?_push_of_some _ hol
        have hsls := PySem.F.sub_tuple_set
        have hslf := PySem.F.sub_tuple_frozenset
        have hne : (Value.type "tuple" == Value.type "dict") = false := by decide
        have hl1 : (s.heap.push { cls := .type "set", dict := none, data := .set #[] 0 (.fresh 0 0 led) }).IsTuple l items := ⟨_, hol', rfl, nl, rfl⟩
        unfold Builtin.«set.__init__» noKeywords Builtin.Frozenset.updateFrom
        generalize hPI : pyIter = PI
        wp_walk
        subst hPI

        refine wpAny_pyIter_tuple hl1 ?_
        refine wpAny_bind (wpAny_runValue ?_)
        have hlS : l < s.heap.objs.size := Heap.lt_size hol
        have hh3 : A.in1.in1.in1.handled = none := by simp [hh]
        have hneI : l ≠ (s.heap.push { cls := .type "set", dict := none, data := .set #[] 0 (.fresh 0 0 led) }).objs.size := by
          rw [Heap.size_push]; exact Nat.ne_of_lt (Nat.lt_succ_of_lt hlS)
        have hSf : s.heap.objs.size ∉ [(s.heap.push { cls := .type "set", dict := none, data := .set #[] 0 (.fresh 0 0 led) }).objs.size, l] := by
          rw [Heap.size_push]; simp only [List.mem_cons, List.mem_singleton, List.not_mem_nil, or_false, not_or]
          exact ⟨Nat.ne_of_lt (Nat.lt_succ_self _), Nat.ne_of_gt hlS⟩
        have hsz : xs.length = items.size := by rw [← StrsAre.len_eq hi, Array.length_toList]
        have hval : ∀ (i : Nat) (v : Value), items[i]? = some v → ∃ t, v = .str (xs.getD i Str.empty) t := fun i v hv => strs_at hi i v (by rw [Array.getElem?_toList]; exact hv)
        refine loopT ((Walks.tuple hh3 _ l hneI items).toS) s.heap.objs.size
          hSf xs hsz hnd (by rw [← hsz]; exact hn1) hval (items.size - 0) 0 _ (by omega) (Nat.zero_le _)
          ⟨⟨_, Heap.get?_push_size _ rfl, rfl, rfl⟩, (hl1.push _)⟩ ?hS0 ?hR
        case hS0 =>
          have hget : ((s.heap.push { cls := .type "set", dict := none, data := .set #[] 0 (.fresh 0 0 led) }).push { cls := .type "tuple_iterator", data := .fields #[.ref l, .int 0 0] }).get? s.heap.objs.size
              = some { cls := .type "set", dict := none, data := .set #[] 0 (.fresh 0 0 led) } := Heap.get?_push_of_some _ hS
          exact PyProof.Rows.SetOf_congr ((PyProof.Rows.setObjOf_fresh (knd := PySem.strKind prog w) led).setOf hget (by unfold scanBound; omega)) (fun _ => rfl) rfl
        case hR =>
          intro s' hm hS'
          obtain ⟨h', g', d', tk', os'⟩ := s'
          have eg : g' = s.gens := hm.gens
          have ed : d' = s.drawn := hm.drawn
          have eo : os' = s.os := hm.os
          subst eg; subst ed; subst eo
          show wpAny _ _ _ _ _ _
          refine wpAny_pure ?_
          show wpAny _ _ (ret Value.none) _ _ _
          refine wpAny_pure ⟨rfl, h', tk', rfl, hS', fun b o hb e => ?_⟩
          have hb1 : b ≠ s.heap.objs.size := Nat.ne_of_lt hb
          have hb2 : b ≠ (s.heap.push { cls := .type "set", dict := none, data := .set #[] 0 (.fresh 0 0 led) }).objs.size := by
            rw [Heap.size_push]; exact Nat.ne_of_lt (Nat.lt_succ_of_lt hb)
          exact hm.heap b o (by simp only [List.mem_cons, List.mem_singleton, List.not_mem_nil, or_false, not_or]; exact ⟨hb1, hb2⟩) (Heap.get?_push_of_some _ (Heap.get?_push_of_some _ e))

      · cases r₂ with
        | error e => exact hr₂
        | ok fl₂ =>
          cases fl₂ with
          | ret r =>
            obtain ⟨rfl, h', tk, rfl, hS', hk'⟩ := hr₂
            repeat (any_goals (first | assumption | wp_step))
            exact h _ _ hS' hk'
          | _ => exact hr₂.elim
    | _ => exact hr.elim

end
end MR
namespace MR
open PySem PySem.Spec PyProof.Rows L2 SS
section
variable {X : Cx}
theorem strs_of : ∀ {xs : List Str} {us : List Value}, Vals (xs.map V.str) us → StrsAre us xs
  | [], _, .nil => .nil
  | x :: xs, _, .cons r t => by
    obtain ⟨k, rfl⟩ := r
    exact .cons x k (strs_of t)
/-- len(set(xs)), unlike texts in a list or a tuple -/
def tLenSetS (K : PySem.W.Frag) (ta : TE) : TE := fun σ H Q => ta σ H fun x H1 => ∃ (l : Addr) (xs : List Str), x = .ref l ∧ (SqL K H1 l (xs.map V.str) ∨ SqT K H1 l (xs.map V.str)) ∧ xs.Nodup ∧ xs.length < 60 ∧ Q (.int (xs.length : Nat)) H1
theorem pe_lenSetS {a : Expr} {ta : TE} {p p2 q pos : Pos} (hg : Gl X "len") (hm : X.mg "len" = none) (hg2 : Gl X "set") (hm2 : X.mg "set" = none) (ha : PE X a ta) (hc : X.calm = true := by rfl)
    (na : starEach [a] X.env = (false, eval a X.env) :: starEach [] X.env := by rfl) : PE X (.Call (.Name "len" p) [.Call (.Name "set" p2) [a] [] q] [] pos) (tLenSetS X.K ta) := by
  refine ⟨fun pins s σ H Q I h => ?_⟩
  refine Call_ (ld_blt I hg hm boot_len ?_)
  refine PyProof.Rows.callWith_builtin1 (PyProof.Rows.args_cons ?_ rfl) rfl rfl
  refine Call_ (ld_blt I hg2 hm2 boot_set ?_)
  refine PyProof.Rows.callWith_type1 (PyProof.Rows.args_cons (thn (ha.run pins s σ H _ I h) fun v s1 ⟨x, H1, I1, r1, q1⟩ => PyProof.Rows.args_nil ?_) na) na rfl
  obtain ⟨l, xs, rfl, hq, hnd, hl, q1⟩ := q1
  cases r1
  have fin : ∀ (h' : Heap) (tk n : Nat), n = xs.length → h'.SetOf (PySem.strKind X.prog X.w) s1.heap.objs.size (fun k' => (xs.take n).any (· == k')) n → (∀ b o, b < s1.heap.objs.size → s1.heap.get? b = some o → h'.get? b = some o) →
      wpAny (model X.prog X.w) X.A (PySem.call (.builtin "len") [.ref s1.heap.objs.size]) (EP X pins σ Q) X.xe { s1 with heap := h', toks := tk } := by
    intro h' tk n en hS hk
    obtain ⟨o, es, ep, t, ho, hex, hd, _, _, _, hf, hn⟩ := hS
    have I2 : Inv X pins σ H1 { s1 with heap := h', toks := tk } := I1.kept fun b o e => hk b o (Heap.lt_size e) e
    exact call_len_set ho hex hd hf (by rw [hn] <;> omega) ⟨.int xs.length, H1, I2.tok _, ⟨_, by rw [hn, en]⟩, q1⟩
  rcases hq with hq | hq
  · obtain ⟨its, r, pl, hz⟩ := I1.list hq
    have hst := strs_of r
    refine call_setL (I1.ok.hd hc) pl.isList (by simpa using hst) hnd hl fun h' tk hS hk => PyProof.Rows.args_nil (fin h' tk _ (by rw [List.size_toArray, ← r.length, List.length_map]) hS hk)
  · obtain ⟨its, r, pl, hz⟩ := I1.tuple hq
    have hst := strs_of r
    refine call_setT (I1.ok.hd hc) pl (by simpa using hst) hnd hl fun h' tk hS hk => PyProof.Rows.args_nil (fin h' tk _ (by rw [List.size_toArray, ← r.length, List.length_map]) hS hk)
end
end MR
namespace MR
open PySem PySem.Spec PyProof.Rows L2
/-! o.m(k = e, ..) -/
def tMethK (C : Addr) (m : Str) (n : Nat) (sp : Sp) (gV : List V → List V → List V) (E : XK) (ta : TE) (tk : TA) : TE := fun σ H Q => ta σ H fun x H1 => ∃ a dx fs, x = .ref a ∧ H1 a = some (.ins C dx fs) ∧ fs.lookup m = none ∧
  tk σ H1 fun zs H2 => zs.length = n ∧ sp (gV [x] zs) H2 Q E
section
variable {X : Cx} {CX : CXT} {k : Nat} {f C : Addr} {fd : FuncData} {ps ks : List Str} {sp : Sp} {E : XK} {m : Str} {apos pos : Pos} {o : Expr} {kws : List Keyword} {ta : TE} {tk : TA} {g : List Value → List Value → List Value} {gV : List V → List V → List V}
theorem pe_methK {pl : Sem Bool} (he : PE X o ta) (c : Cls X.K C) (hm : Meth X.K C m f) (F : FnOk X.prog X.w X.K X.mg X.base CX k f fd ps sp) (hr : Room k X.A) (hb : KBn X.K fd ps 1 ks g gV) (hx : Passes CX X E) (hkw : PK X kws tk)
    (hall : (backToKw pos (keywordEach kws X.env)).all (·.1.isSome) = true := by rfl) (hks : (backToKw pos (keywordEach kws X.env)).filterMap (·.1) = ks := by rfl)
    (hpl : ((backTo pos (starEach [] X.env)).any (·.1) || (backToKw pos (keywordEach kws X.env)).any (·.1.isNone)) = false := by rfl)
    (ht : eval (.Call (.Attribute o m apos) [] kws pos) X.env = (do
      let ov ← eval o X.env
      standAt apos.atName
      let (f, first) ← holding [ov] (getMethod ov m pl)
      callWith pos f first (backTo pos (starEach [] X.env)) (backToKw pos (keywordEach kws X.env))) := by rfl) :
    PE X (.Call (.Attribute o m apos) [] kws pos) (tMethK C m ks.length sp gV E ta tk) := by
  refine ⟨fun pins s σ H Q I h => ?_⟩
  refine PySem.W.methodCall_KW (pl := pl) (thn (he.run pins s σ H _ I h) fun u s1 ⟨x, H1, I1, rx, a, dx, fs, ex, ea, l, q⟩ => ?_) ht
  subst ex
  obtain rfl : u = Value.ref a := rx
  refine getmeth_ok I1 ea c hm l ?_
  refine PySem.W.callWith_KW0 (first := [.ref a]) (h₀ := X.base) I.ok.mod.kin hm.kp hall ?_ hpl
  refine thn (hkw.run pos pins s1 σ H1 _ I1 q) fun ws s2 ⟨zs, H2, I2, rz, l2, q2⟩ => ⟨I2.kIn, ?_⟩
  rw [hks]
  exact run_fnN (us := [.ref a]) (vs := [.ref a]) F hr hb hx I2 (.cons rfl .nil) rz rfl l2 q2
end
/-- all parameters are written, some by keywords; no defaults are asked -/
theorem kbn_of {K : PySem.W.Frag} {x qual : Str} {params : Arguments} {body : List Stmt} {scope : Scope} {f : Addr} {fd : FuncData} {ps : List Str} (F : FunD K x qual params body scope [] [] f fd) (n : Nat) (ks : List Str) (g : {α : Type} → List α → List α → List α)
    (hrel : ∀ {vs zs : List V} {us ws : List Value}, Vals vs us → Vals zs ws → Vals (g vs zs) (g us ws))
    (h : ∀ (kV doc pm : Value) (an : Option Addr) (cdv ct : Value) (us ws : List Value), us.length = n → ws.length = ks.length → bindArgs (PySem.W.fnOf x qual params body scope .none kV doc pm an cdv ct) ⟨us, ks.zip ws⟩ = pure (ps.zip (g us ws))) :
    KBn K fd ps n ks (fun us ws => g us ws) (fun vs zs => g vs zs) := by
  obtain ⟨oc, od, dV, kV, doc, pm, an, cdv, ct, osl, rfl, lk, hcd, hD, hK⟩ := F.ex
  rcases hD with ⟨_, rfl⟩ | ⟨e, _⟩
  · exact ⟨fun s us ws _ l1 l2 => .of_eq (h kV doc pm an cdv ct us ws l1 l2), fun r1 r2 => hrel r1 r2⟩
  · exact absurd rfl e
/-! expressions over a heap that only grows -/
def RE (P : Program) (w : World) (A : Around) (E : Value → Shared → Prop) (env : Env) (h₀ : Heap) (e : Expr) (R : Value → Heap → Prop) : Prop :=
  ∀ s : Shared, (∀ b o, h₀.get? b = some o → s.heap.get? b = some o) → wpAny (model P w) A (eval e env) (fun u s' => ∃ (h' : Heap) (tk : Nat), s' = { s with heap := h', toks := tk } ∧ (∀ b o, s.heap.get? b = some o → h'.get? b = some o) ∧ R u h') E s
section
variable {P : Program} {w : World} {A : Around} {E : Value → Shared → Prop} {env : Env} {h₀ : Heap}
theorem re_loc {x : Str} {pos : Pos} {m : Str → Option Value} {u : Value} (hk : env.scope.kind = .function) (hl : env.kindOf x = some .local) (hn : h₀.Ns env.locals m) (hm : m x = some u) (hd : (x == ("__debug__" : Str)) = false := by decide) :
    RE P w A E env h₀ (.Name x pos) (fun v _ => v = u) := fun s k =>
  wpAny_Name (wpAny_loadName_local hk hl (hn.keeps k) hm ⟨s.heap, s.toks, rfl, fun _ _ e => e, rfl⟩) hd
theorem re_free {x : Str} {pos : Pos} {c : Addr} {u : Value} (hk : env.scope.kind = .function) (hl : env.kindOf x = some .free) (hc : env.cells.lookup x = some c) (hv : h₀.IsCell c (some u)) (hd : (x == ("__debug__" : Str)) = false := by decide) (hcd : (x == ("__classdict__" : Str)) = false := by decide) :
    RE P w A E env h₀ (.Name x pos) (fun v _ => v = u) := fun s k =>
  wpAny_Name (wpAny_loadName_free hk hl hc (let ⟨o, e, d⟩ := hv; ⟨o, k _ _ e, d⟩) ⟨s.heap, s.toks, rfl, fun _ _ e => e, rfl⟩ hcd) hd
theorem re_neg {a : Expr} {i : Int} {pos : Pos} (ha : RE P w A E env h₀ a fun v _ => ∃ t, v = .int i t) : RE P w A E env h₀ (.UnaryOp .USub a pos) fun v _ => ∃ t, v = .int (-i) t := fun s k =>
  UnaryOp_ (thn (ha s k) fun u s1 ⟨h1, tk, e, k1, t, eu⟩ => by
    subst e eu
    exact neg_int ⟨h1, _, rfl, k1, _, rfl⟩)
theorem re_int {i : Int} {j : Nat} {pos : Pos} : RE P w A E env h₀ (.Constant (.int i) j pos) fun v _ => ∃ t, v = .int i t := fun s k => wpAny_Constant_int ⟨s.heap, _, rfl, fun _ _ e => e, _, rfl⟩
theorem re_sub {a b : Expr} {i j : Int} {pos : Pos} (ha : RE P w A E env h₀ a fun v _ => ∃ t, v = .int i t) (hb : RE P w A E env h₀ b fun v _ => ∃ t, v = .int j t) : RE P w A E env h₀ (.BinOp a .Sub b pos) fun v _ => ∃ t, v = .int (i - j) t := fun s k =>
  wpAny_BinOp (thn (ha s k) fun u s1 ⟨h1, tk, e, k1, t, eu⟩ => thn (hb s1 (by subst e; exact fun b o q => k1 b o (k b o q))) fun u2 s2 ⟨h2, tk2, e2, k2, t2, eu2⟩ => by
    subst eu eu2 e2 e
    exact sub_int ⟨h2, _, rfl, fun b o q => k2 b o (k1 b o q), _, rfl⟩)
theorem re_ixl {a b : Expr} {l : Addr} {its : List Value} {i : Int} {v : Value} {pos : Pos} (ha : RE P w A E env h₀ a fun u _ => u = .ref l) (hb : RE P w A E env h₀ b fun u _ => ∃ t, u = .int i t) (hl : h₀.IsList l its.toArray) (h0 : 0 ≤ i) (h1 : i < 2 ^ 63) (hv : its[i.toNat]? = some v)
    (hs : PlainIx b := by intro _ _; rfl) : RE P w A E env h₀ (.Subscript a b pos) fun u _ => u = v := fun s k =>
  Subscript_ (thn (ha s k) fun u s1 ⟨g1, tk, e, k1, eu⟩ => thn (hb s1 (by subst e; exact fun b o q => k1 b o (k b o q))) fun u2 s2 ⟨g2, tk2, e2, k2, t2, eu2⟩ => by
    subst eu eu2 e2 e
    refine item_listR (x := v) (let ⟨o, e, r⟩ := hl; ⟨o, k2 _ _ (k1 _ _ (k _ _ e)), r⟩) h0 h1 (by simpa using hv) ⟨g2, _, rfl, fun b o q => k2 b o (k1 b o q), rfl⟩ (hs _ _))
theorem re_ixd {a b : Expr} {d : Addr} {κ : Type} [DecidableEq κ] {knd : KeyKind P w κ} {kvs : List (κ × Value)} {k0 : κ} {v : Value} {pos : Pos} (ha : RE P w A E env h₀ a fun u _ => u = .ref d) (hb : RE P w A E env h₀ b fun u _ => knd.is k0 u = true) (hd : h₀.DictOf knd d kvs) (hv : valueAt kvs k0 = some v)
    (hs : NoSl b := by intro _ _; rfl) : RE P w A E env h₀ (.Subscript a b pos) fun u _ => u = v := fun s k =>
  subD_of PySem.F.slot_dict_getitem.lookup hs (thn (ha s k) fun u s1 ⟨g1, tk, e, k1, eu⟩ => thn (hb s1 (by subst e; exact fun b o q => k1 b o (k b o q))) fun u2 s2 ⟨g2, tk2, e2, k2, eu2⟩ => by
    subst eu e2 e
    have hd2 : g2.DictOf knd d kvs := let ⟨o, es, ep, q, r⟩ := hd; ⟨o, es, ep, k2 _ _ (k1 _ _ (k _ _ q)), r⟩
    exact ⟨hd2.typeIs, wpAny_getItem_of eu2 hd2.mapOf hv ⟨g2, _, rfl, fun b o q => k2 b o (k1 b o q), rfl⟩⟩)
/-- (a, b), two numbers: a new tuple that reads as the pair -/
theorem re_tup2 {a b : Expr} {i j : Int} {k0 : Nat} {pos : Pos} (ha : RE P w A E env h₀ a fun v _ => ∃ t, v = .int i t) (hb : RE P w A E env h₀ b fun v _ => ∃ t, v = .int j t)
    (hE : starEach [a, b] env = [(false, eval a env), (false, eval b env)] := by rfl) :
    RE P w A E env h₀ (.Tuple [a, b] k0 pos) fun v h' => Reads h' v (.tuple [.int i, .int j]) [] := fun s k => by
  refine wpAny_Tuple_spliced ?_
  rw [hE]
  refine Calls.spliced_cons (thn (ha s k) fun u s1 ⟨g1, tk, e, k1, t, eu⟩ => ?_)
  refine Calls.spliced_cons (thn (hb s1 (by subst e; exact fun b o q => k1 b o (k b o q))) fun u2 s2 ⟨g2, tk2, e2, k2, t2, eu2⟩ => Calls.spliced_nil ?_)
  subst eu eu2 e2 e
  refine ⟨by show 2 ≤ sizeLine; decide, g2.push _, _, rfl, fun b o q => Heap.get?_push_of_some _ (k2 b o (k1 b o q)), ?_⟩
  exact .tuple (Heap.get?_push_size _ rfl) rfl rfl (.cons (.int i t) (.cons (.int j t2) .nil))
end
end MR
namespace MR
open PySem PySem.Spec PyProof.Rows L2 LamX
abbrev envL (q : Str) (scope : Scope) (L f c' : Addr) (cl : List (Str × Addr)) : Env := PySem.W.envX q scope L f (.ref c') cl
/-- a lambda of one parameter p: no other name of its own -/
structure Lam1 (sc scope : Scope) (p : Str) : Prop where
  kind : scope.kind = .function
  co : scope.isCoroutine = false
  gen : scope.isGenerator = false
  noc : ∀ y ∈ scope.names, y.2 ≠ .cell
  par : scope.names.lookup p = some .local
  own : ∀ y ∈ scope.names, y.2 = .local → y.1 = p
  free : ∀ y ∈ scope.names, y.2 = .free → sc.names.lookup y.1 = some .cell ∨ sc.names.lookup y.1 = some .free
def lam1B (sc scope : Scope) (p : Str) : Bool :=
  decide (scope.kind = .function) && !scope.isCoroutine && !scope.isGenerator && decide (scope.names.lookup p = some .local) && scope.names.all fun y => !decide (y.2 = .cell) && (!decide (y.2 = .local) || decide (y.1 = p)) && (!decide (y.2 = .free) || decide (sc.names.lookup y.1 = some .cell) || decide (sc.names.lookup y.1 = some .free))
theorem lam1_by {sc scope : Scope} {p : Str} (h : lam1B sc scope p = true) : Lam1 sc scope p := by
  unfold lam1B at h
  simp only [Bool.and_eq_true, Bool.or_eq_true, Bool.not_eq_true', decide_eq_true_eq, decide_eq_false_iff_not, List.all_eq_true] at h
  obtain ⟨⟨⟨⟨h1, h2⟩, h3⟩, h5⟩, h4⟩ := h
  refine ⟨h1, h2, h3, fun y hy => (h4 y hy).1.1, h5, fun y hy e => ?_, fun y hy e => ?_⟩
  · rcases (h4 y hy).1.2 with z | z
    · exact absurd e z
    · exact z
  · rcases (h4 y hy).2 with (z | z) | z
    · exact absurd e z
    · exact .inl z
    · exact .inr z
section
variable {X : Cx} {pins : List (Addr × Obj)} {σ : St} {H : Hp} {s : Shared}
theorem Lam1.has {scope : Scope} {p : Str} (L : Lam1 X.env.scope scope p) (ok : X.Ok) : ∀ y ∈ scope.names, y.2 = .free → ∃ c, X.env.cells.lookup y.1 = some c := fun y hy e => by
  rcases L.free y hy e with k | k
  · exact ok.has _ (.inl k)
  · exact ok.has _ (.inr k)
theorem Lam1.clo {scope : Scope} {p y : Str} {c : Addr} (L : Lam1 X.env.scope scope p) (ok : X.Ok) (hy : scope.names.lookup y = some .free) (hc : X.env.cells.lookup y = some c) : (cloFrom X.env.cells scope.names []).lookup y = some c := by
  have hm : (y, NameKind.free) ∈ scope.names := PySem.mem_of_lookup hy
  obtain ⟨c2, e⟩ := mem_lookup (cloFrom_has (cells := X.env.cells) (acc := []) hm)
  rcases cloFrom_mem (PySem.mem_of_lookup e) with q | ⟨_, q⟩
  · cases q
  · rw [hc] at q
    have q' : c2 = c := q
    rw [e, q']
theorem cell_of {j : Nat} {y : Str} {v : V} (I : Inv X pins σ H s) (hN : X.N[j]? = some y) (hs : σ[j]? = some (some v)) (hk : X.env.scope.names.lookup y = some .cell) : ∃ u c, RelV v u ∧ X.env.cells.lookup y = some c ∧ s.heap.IsCell c (some u) := by
  obtain ⟨m, hn, hl⟩ := I.loc
  obtain ⟨u, r, l⟩ := hl j y v hN hs (.inr (.inl hk))
  rcases l with ⟨k, _⟩ | ⟨_, c, e, z⟩
  · have k' : X.env.scope.names.lookup y = some .local := k
    rw [hk] at k'
    cases k'
  · exact ⟨u, c, r, e, z⟩
end
/-- f(v), f such a lambda: all that stood stands, the answer reads as k -/
theorem lam1_run {P : Program} {w : World} {A : Around} {s : Shared} {f c' : Addr} {qual p : Str} {params : Arguments} {body : Expr} {sc scope : Scope} {clos : List (Str × Addr)} {pm ctv v : Value} {k : PyData} (hroom : A.depth < recursionLimit) (L : Lam1 sc scope p)
    (hf : s.heap.get? f = some (PySem.W.kla_obj "<lambda>" qual params body scope clos pm c' ctv)) (hcr : s.heap.CodeRec (.ref c') qual) (hlim : s.heap.NoLimit)
    (hbind : bindArgs (PySem.W.kla_fn "<lambda>" qual params body scope clos pm (.ref c') ctv) ⟨[v], []⟩ = pure [(p, v)])
    (hbody : ∀ (h₁ : Heap) (E : Value → Shared → Prop), (∀ b o, s.heap.get? b = some o → h₁.get? b = some o) → h₁.Ns s.heap.objs.size (fun y => [(p, v)].reverse.lookup y) →
      RE P w (A.deeper (envL qual scope s.heap.objs.size f c' clos)) E (envL qual scope s.heap.objs.size f c' clos) h₁ body (fun u h' => Reads h' u k [])) :
    wpAny (model P w) A (PySem.call (.ref f) [v]) (PySem.W.KeyPure k s) (fun _ _ => False) s := by
  refine wpAny_call (codeAny_mono (R := fun r s' => ∃ u, r = .ok (.ret u) ∧ PySem.W.KeyPure k s u s') ?_ fun r s' hq => ?_)
  · refine PySem.W.kla_callFunE hroom hf rfl L.co L.gen rfl hcr ?_
    rw [hbind]
    refine wpAny_pure (wpAny_newFunctionEnv (fun y hy => L.noc y hy) (fun y hy => ?_) (fun h₁ hns hsb => ?_) L.kind)
    · rw [List.mem_singleton.mp hy]
      exact L.par
    · have kp : ∀ b o, s.heap.get? b = some o → h₁.get? b = some o := fun b o e => hsb.extBut b o (Nat.ne_of_lt (Heap.lt_size e)) (Heap.get?_push_of_some _ e)
      refine ⟨hlim.keeps kp, ?_⟩
      refine PySem.W.kla_codeExpr ?_
      refine wpAny_mono (hbody h₁ _ kp hns { s with heap := h₁, toks := s.toks + [(p, v)].length } fun _ _ e => e) (fun u s' hq => ?_) fun e s' hq => hq
      obtain ⟨h', tk, e, k1, rr⟩ := hq
      exact ⟨u, rfl, h', tk, e, fun b o q => k1 b o (kp b o q), rr⟩
  · obtain ⟨u, rfl, hq⟩ := hq
    exact hq
end MR
namespace MR
open PySem PySem.Spec PyProof.Rows L2 LamX
/-- the key of a number: two numbers -/
def key2 (k1 k2 : Int → Int) (x : Int) : PyData := .tuple [.int (k1 x), .int (k2 x)]
def sort2 (k1 k2 : Int → Int) (xs : List Int) : List Int := xs.mergeSort (PySem.W.dataLe false (key2 k1 k2))
def tSortKey (K : PySem.W.Frag) (T : List (Addr × Str)) (te : TE) (B : St → Hp → Int → Int → Int → Prop) : TE := fun σ H Q => te σ H fun x H1 => ∃ (a : Addr) (xs : List Int) (k1 k2 : Int → Int), x = .ref a ∧ SqL K H1 a (xs.map V.int) ∧ xs.length ≤ 1000 ∧ Tabs T H1 ∧ (∀ x ∈ xs, B σ H1 x (k1 x) (k2 x)) ∧
  ∀ H2 p, ExtN H1 H2 → Tabs T H2 → H2 p = none → Q (.ref p) (upd H2 p (.lst ((sort2 k1 k2 xs).map V.int)))
/-- what the body of such a lambda gives -/
def Body2 (X : Cx) (p : Str) (body : Expr) (scope : Scope) (B : St → Hp → Int → Int → Int → Prop) : Prop :=
  ∀ (pins : List (Addr × Obj)) (σ : St) (H : Hp) (s : Shared), Inv X pins σ H s → ∀ x k1 k2, B σ H x k1 k2 → ∀ (h₁ : Heap) (A : Around) (E : Value → Shared → Prop) (L f c' : Addr) (t : Tok), (∀ b o, s.heap.get? b = some o → h₁.get? b = some o) → h₁.Ns L (fun y => [(p, Value.int x t)].reverse.lookup y) →
    RE X.prog X.w A E (envL (X.env.qual ++ "<lambda>") scope L f c' (cloFrom X.env.cells scope.names [])) h₁ body (fun u h' => Reads h' u (.tuple [.int k1, .int k2]) [])
theorem alike2 (k1 k2 : Int → Int) (xs : List Int) : PySem.W.AllAlike (xs.map (key2 k1 k2)) := by
  intro d hd d' hd'
  obtain ⟨x, _, rfl⟩ := List.mem_map.mp hd
  obtain ⟨y, _, rfl⟩ := List.mem_map.mp hd'
  simp [key2, PySem.W.alike, PySem.W.alikeAll]
theorem eachInts : ∀ {xs : List Int} {us : List Value}, Vals (xs.map V.int) us → PySem.W.EachIs (fun (v : Value) (x : Int) => ∃ t, v = .int x t) us xs
  | [], _, .nil => .nil
  | x :: xs, _, .cons r t => .cons r (eachInts t)
theorem valsInts : ∀ {xs : List Int} {us : List Value}, PySem.W.EachIs (fun (v : Value) (x : Int) => ∃ t, v = .int x t) us xs → Vals (xs.map V.int) us
  | _, _, .nil => .nil
  | _, _, .cons r t => .cons r (valsInts t)
theorem sqL_ext {K : PySem.W.Frag} {H H' : Hp} {a : Addr} {xs : List V} (e : ExtN H H') (h : SqL K H a xs) : SqL K H' a xs := by
  rcases h with (h | ⟨o, h⟩) | h
  · exact .inl (.inl (e _ _ h fun ps z => by cases z))
  · exact .inl (.inr ⟨o, e _ _ h fun ps z => by cases z⟩)
  · exact .inr h
theorem sqT_ext {K : PySem.W.Frag} {H H' : Hp} {a : Addr} {xs : List V} (e : ExtN H H') (h : SqT K H a xs) : SqT K H' a xs := by
  rcases h with (h | ⟨o, h⟩) | h
  · exact .inl (.inl (e _ _ h fun ps z => by cases z))
  · exact .inl (.inr ⟨o, e _ _ h fun ps z => by cases z⟩)
  · exact .inr h
section
variable {X : Cx}
theorem pe_sortKey {T : List (Addr × Str)} {c P : Addr} {e : Expr} {te : TE} {q : Str} {params : Arguments} {body : Expr} {scope : Scope} {B : St → Hp → Int → Int → Int → Prop} {k : Nat} {p lpos kpos pos : Pos} (hc : X.calm = true) (hg : Gl X "sorted") (hm : X.mg "sorted" = none)
    (TB : TabB X.base X.mg c P) (hcode : X.env.code = .ref c) (hmT : (P, X.env.qual ++ "<lambda>") ∈ T) (hu : ∀ p ∈ T, p.1 = P → p.2 = X.env.qual ++ "<lambda>") (hr : Room (k + 4) X.A) (L : Lam1 X.env.scope scope q) (hdef : defaultsOf params X.env = ([], []))
    (hbind : ∀ (qn : Str) (cl : List (Str × Addr)) (pm cv ctv v : Value), bindArgs (PySem.W.kla_fn "<lambda>" qn params body scope cl pm cv ctv) ⟨[v], []⟩ = pure [(q, v)])
    (he : PE X e te) (hB : ∀ (σ : St) (H H' : Hp) (x a b : Int), ExtN H H' → B σ H x a b → B σ H' x a b) (hbody : Body2 X q body scope B)
    (hst : backTo pos (starEach [e] X.env) = (false, eval e X.env) :: backTo pos (starEach [] X.env) := by rfl) (hpl : (backTo pos (starEach [e] X.env)).any (·.1) = false := by rfl)
    (hall : (backToKw pos (keywordEach [⟨some "key", .Lambda params body scope lpos, kpos⟩] X.env)).all (·.1.isSome) = true := by rfl) (hnone : (backToKw pos (keywordEach [⟨some "key", .Lambda params body scope lpos, kpos⟩] X.env)).any (·.1.isNone) = false := by rfl)
    (hks : (backToKw pos (keywordEach [⟨some "key", .Lambda params body scope lpos, kpos⟩] X.env)).filterMap (·.1) = [Str.ofString "key"] := by rfl) (hst2 : starEach [e] X.env = (false, eval e X.env) :: starEach [] X.env := by rfl) :
    PE X (.Call (.Name "sorted" p) [e] [⟨some "key", .Lambda params body scope lpos, kpos⟩] pos) (tSortKey X.K T te B) := by
  refine ⟨fun pins s σ H Q I h => ?_⟩
  refine wpAny_Call_Name_kw (ld_blt I hg hm (u := .builtin "sorted") (by decide +kernel) ?_)
  refine PyProof.Rows.callWith_kw ?_ hst hpl hall hnone
  rw [hst]
  refine Calls.spliced_cons (thn (he.run pins s σ H _ I h) fun u s1 ⟨x0, H1, I1, r1, a, xs, k1, k2, ev, hq, hlen, hT, hx, hQ⟩ => Calls.spliced_nil ?_)
  subst ev
  cases r1
  rw [hks]
  show wpAny _ _ (evalAll [(do let v ← eval (.Lambda params body scope lpos) X.env; standAt pos; pure v)]) _ _ s1
  refine wpAny_evalAll_cons (wpAny_bind (lam_make2 I1 TB hcode hmT hu hT hdef (L.has I1.ok) fun f c' pm ctv H2 s2 I2 eN T2 hf hfn hfr hco => wpAny_bind (wpAny_standAt (wpAny_pure (wpAny_evalAll_nil ?_)))))
  show wpAny _ _ (PySem.call (.builtin "sorted") [.ref a] [(Str.ofString "key", .ref f)]) _ _ s2
  have hq2 : SqL X.K H2 a (xs.map V.int) := sqL_ext eN hq
  obtain ⟨its, rv, pl, hz⟩ := I2.list hq2
  obtain ⟨⟨oc, ws, t, hoc, hdc, hvc⟩, _, _⟩ := I2.hok c' _ hco
  have hlx : xs.length = its.length := by rw [← rv.length, List.length_map]
  have hrm : Room (k + 2) X.A.in1.in1 := hr.in1.in1
  refine PySem.W.sorted_key_data (β := Int) (vs := its) (bs := xs) (R := fun v x => ∃ t, v = .int x t) (b := false) (key2 k1 k2) pl.isList (eachInts rv) (alike2 k1 k2 xs) (.inl fun d hd => ?_) (by rw [sizeLine_eq]; omega) (fun x _ => ?_) (ksk_s1 _ _) (fun _ => ksk_l1 _ _) (fun x => ksk_t1 f x) (fun v x hv hxm h tk kp => ?_) fun out c2 h' tk kp fr hD hl2 hE => ?_
  · obtain ⟨x, _, rfl⟩ := List.mem_map.mp hd
    exact ⟨_, _, rfl⟩
  · have := hr.units
    have e : (key2 k1 k2 x).depth = 1 := by simp [key2, PyData.depth, PyData.depthAll]
    rw [e]
    omega
  · obtain ⟨t0, rfl⟩ := hv
    refine lam1_run (s := { s2 with heap := h, toks := tk }) (by exact hrm.depth) L (kp _ _ hf) ⟨c', oc, ws, t, rfl, kp _ _ hoc, hdc, hvc⟩ (I2.nolimit.keeps kp) (hbind _ _ _ _ _ _) fun h₁ E kp1 hns => ?_
    exact hbody pins σ H2 s2 I2 x (k1 x) (k2 x) (hB _ _ _ _ _ _ eN (hx x hxm)) h₁ _ _ _ f c' t0 (fun b o q => kp1 b o (kp b o q)) hns
  · have hf2 : H2 (s2.heap.objs.size + 1) = none := I2.hok.fresh (Nat.le_succ _)
    refine ⟨.ref (s2.heap.objs.size + 1), _, I2.laid (t' := tk) (o := .lst ((sort2 k1 k2 xs).map V.int)) (fun b o q => kp b o q) (Nat.le_succ _) ⟨?_, out, c2, valsInts hE, hD⟩, rfl, hQ H2 _ eN T2 hf2⟩
    have e : (sort2 k1 k2 xs).length = xs.length := List.length_mergeSort _
    rw [List.length_map, e, sizeLine_eq]
    omega
end
end MR
namespace MR
open PySem PySem.Spec PyProof.Rows L2 LamX
abbrev lstO (xs : Array Value) (c : Nat) : Obj := { cls := .type "list", dict := none, data := .seq xs c, slots := #[] }
/-- the turns of min(.., key=f), told by four statements: J i vb kb (i items looked at, the best of them and its key, which stand in the list at S), N (the next item drawn), C (its key made), D (no item left) -/
structure MinTurns (P : Program) (w : World) (A : Around) (I f S : Addr) (n : Nat) (J : Nat → Value → Value → Shared → Prop) (N : Nat → Value → Value → Value → Shared → Prop) (C : Nat → Value → Value → Value → Value → Shared → Prop) (D : Value → Shared → Prop) : Prop where
  atJ : ∀ i vb kb s, J i vb kb s → ∃ c, s.heap.get? S = some (lstO #[vb, kb] c)
  atC : ∀ i v kx vb kb s, C i v kx vb kb s → ∃ c, s.heap.get? S = some (lstO #[vb, kb] c)
  atD : ∀ vb s, D vb s → ∃ xs c, xs.size ≤ 2 ∧ s.heap.get? S = some (lstO xs c)
  next : ∀ i vb kb s (Q : Option Value → Shared → Prop) (E : Value → Shared → Prop), i < n → J i vb kb s → (∀ v s1, N i v vb kb s1 → Q (some v) s1) → wpAny (model P w) A (pyNext (.ref I)) Q E s
  call : ∀ i v vb kb s (Q : Value → Shared → Prop) (E : Value → Shared → Prop), i < n → N i v vb kb s → (∀ kx s1, C i v kx vb kb s1 → Q kx s1) → wpAny (model P w) A (PySem.call (.ref f) [v]) Q E s
  cmp : ∀ i v kx vb kb s, i < n → C i v kx vb kb s → ∃ b : Bool, (∀ (Q : Value → Shared → Prop) (E : Value → Shared → Prop), Q (.bool b) s → wpAny (model P w) A (richCompare .Lt kx kb) Q E s) ∧
    (b = true → J (i + 1) v kx { s with heap := s.heap.update S (Obj.mapSeq fun _ => #[v, kx]), toks := s.toks }) ∧ (b = false → J (i + 1) vb kb s)
  done : ∀ vb kb s (Q : Option Value → Shared → Prop) (E : Value → Shared → Prop), J n vb kb s → (∀ s1, D vb s1 → Q none s1) → wpAny (model P w) A (pyNext (.ref I)) Q E s
section
variable {P : Program} {w : World} {A : Around} {R : Result → Shared → Prop} {I f S : Addr} {n : Nat} {J : Nat → Value → Value → Shared → Prop} {N : Nat → Value → Value → Value → Shared → Prop} {C : Nat → Value → Value → Value → Value → Shared → Prop} {D : Value → Shared → Prop}
theorem name_minloop : (toString "min" ++ toString ".loop" : String) = "min.loop" := by decide
theorem min_turns (T : MinTurns P w A.in1 I f S n J N C D) (kw : List (Str × Value)) (hR : ∀ vb s, D vb s → R (.ok (.ret vb)) { s with heap := s.heap.update S (Obj.mapSeq fun _ => #[]) }) :
    ∀ (k i : Nat) (vb kb : Value) (s : Shared), n - i = k → i ≤ n → J i vb kb s → codeAny (model P w) A (.builtin "min.loop" ⟨[.ref I, .ref f, .ref S], kw⟩) R s := by
  intro k
  induction k with
  | zero =>
    intro i vb kb s hk hi hJ
    have e : i = n := by omega
    subst e
    obtain ⟨c, hS⟩ := T.atJ _ _ _ _ hJ
    refine codeAny_builtin F.entry_min_loop ?_
    rw [Around.under_plainId F.plain_min_loop _]
    show wpAny _ A.in1 (seqItems? (.ref S) >>= _) _ _ s
    refine wpAny_bind (wpAny_seqItems hS rfl ?_)
    show wpAny _ A.in1 (tryCatch (pyNext (.ref I)) _ >>= _) _ _ s
    refine wpAny_bind (wpAny_tryCatch (T.done vb kb s _ _ hJ fun s1 hD => ?_))
    obtain ⟨xs, c1, hx2, hS1⟩ := T.atD _ _ hD
    show wpAny _ A.in1 (updateSeq S (fun _ => #[]) >>= _) _ _ _
    refine wpAny_bind ?_
    refine wpAny_updateSeq hS1 rfl (wpAny_bind (wpAny_letGo (wpAny_pure (hR vb s1 hD)))) (by rw [sizeLine_eq]; omega)
  | succ k ih =>
    intro i vb kb s hk hi hJ
    have hlt : i < n := by omega
    obtain ⟨c, hS⟩ := T.atJ _ _ _ _ hJ
    refine codeAny_builtin F.entry_min_loop ?_
    rw [Around.under_plainId F.plain_min_loop _]
    show wpAny _ A.in1 (seqItems? (.ref S) >>= _) _ _ s
    refine wpAny_bind (wpAny_seqItems hS rfl ?_)
    show wpAny _ A.in1 (tryCatch (pyNext (.ref I)) _ >>= _) _ _ s
    refine wpAny_bind (wpAny_tryCatch (T.next i vb kb s _ _ hlt hJ fun v s1 hN => ?_))
    show wpAny _ A.in1 (tryCatch (holding [v] (PySem.call (.ref f) [v])) _ >>= _) _ _ _
    refine wpAny_bind (wpAny_tryCatch (wpAny_holding (T.call i v vb kb s1 _ _ hlt hN fun kx s2 hC => ?_)))
    obtain ⟨b, hb, hy, hn⟩ := T.cmp i v kx vb kb s2 hlt hC
    obtain ⟨c2, hS2⟩ := T.atC _ _ _ _ _ _ hC
    show wpAny _ A.in1 (tryCatch (holding [v, kx] (richCompare .Lt kx kb >>= _)) _ >>= _) _ _ _
    refine wpAny_bind (wpAny_tryCatch (wpAny_holding (wpAny_bind (hb _ _ ?_))))
    refine wpAny_bind (wpAny_holding (wpAny_truthy_bool ?_))
    refine wpAny_bind (wpAny_letGo (wpAny_pure ?_))
    cases b with
    | true =>
      simp only [if_true]
      refine wpAny_bind ?_
      refine wpAny_updateSeq hS2 rfl (wpAny_bind (wpAny_letGo ?_))
      rw [name_minloop]
      exact wpAny_pure ⟨plainId_quiet F.plain_min_loop _, ih (i + 1) v kx _ (by omega) hlt (hy rfl)⟩
    | false =>
      simp only [Bool.false_eq_true, if_false]
      refine wpAny_bind (wpAny_letGo ?_)
      rw [name_minloop]
      exact wpAny_pure ⟨plainId_quiet F.plain_min_loop _, ih (i + 1) vb kb _ (by omega) hlt (hn rfl)⟩
/-- the first turn -/
theorem min_first (T : MinTurns P w A.in1 I f S n J N C D) (kw : List (Str × Value)) (hR : ∀ vb s, D vb s → R (.ok (.ret vb)) { s with heap := s.heap.update S (Obj.mapSeq fun _ => #[]) }) {s : Shared} {c : Nat} (hn : 0 < n) (hS : s.heap.get? S = some (lstO #[] c))
    (h0 : ∀ (Q : Option Value → Shared → Prop) (E : Value → Shared → Prop), (∀ v s1, (∀ (Q : Value → Shared → Prop) (E : Value → Shared → Prop), (∀ kx s2, (∃ c, s2.heap.get? S = some (lstO #[] c)) → J 1 v kx { s2 with heap := s2.heap.update S (Obj.mapSeq fun _ => #[v, kx]) } → Q kx s2) →
      wpAny (model P w) A.in1 (PySem.call (.ref f) [v]) Q E s1) → Q (some v) s1) → wpAny (model P w) A.in1 (pyNext (.ref I)) Q E s) :
    codeAny (model P w) A (.builtin "min.loop" ⟨[.ref I, .ref f, .ref S], kw⟩) R s := by
  refine codeAny_builtin F.entry_min_loop ?_
  rw [Around.under_plainId F.plain_min_loop _]
  show wpAny _ A.in1 (seqItems? (.ref S) >>= _) _ _ s
  refine wpAny_bind (wpAny_seqItems hS rfl ?_)
  show wpAny _ A.in1 (tryCatch (pyNext (.ref I)) _ >>= _) _ _ s
  refine wpAny_bind (wpAny_tryCatch (h0 _ _ fun v s1 hc => ?_))
  show wpAny _ A.in1 (tryCatch (holding [v] (PySem.call (.ref f) [v])) _ >>= _) _ _ _
  refine wpAny_bind (wpAny_tryCatch (wpAny_holding (hc _ _ fun kx s2 ⟨c2, hS2⟩ hJ => ?_)))
  show wpAny _ A.in1 (updateSeq S (fun _ => #[v, kx]) >>= _) _ _ _
  refine wpAny_bind ?_
  refine wpAny_updateSeq hS2 rfl ?_
  rw [name_minloop]
  exact wpAny_pure ⟨plainId_quiet F.plain_min_loop _, min_turns T kw hR _ 1 v kx _ rfl hn hJ⟩
/-- min(x, key=f) -/
theorem call_minK {x : Value} {q : Addr} {Q : Value → Shared → Prop} {E : Value → Shared → Prop} {s : Shared}
    (h : wpAny (model P w) A.in1 (pyIter x) (fun it s₂ => ∃ I, it = .ref I ∧ codeAny (model P w) A (.builtin "min.loop" ⟨[.ref I, .ref q, .ref s₂.heap.objs.size], []⟩) (fun r s' => ∃ v, r = .ok (.ret v) ∧ Q v s') { s₂ with heap := s₂.heap.push (lstO #[] 0) }) E s) :
    wpAny (model P w) A (PySem.call (.builtin "min") [x] [(Str.ofString "key", .ref q)]) Q E s := by
  refine PyProof.Rows.kmk_tree F.kind_min F.plain_min F.entry_min (PyProof.Rows.kmk_min_key _ _) ?_
  show wpAny _ A.in1 (Builtin.Builtins.bindParams "min" ["key", "default"] 0 ⟨[], [(Str.ofString "key", .ref q)]⟩ >>= _) _ _ s
  refine wpAny_bind (wpAny_of_eq (show Builtin.Builtins.bindParams "min" ["key", "default"] 0 ⟨[], [(Str.ofString "key", .ref q)]⟩ = pure [some (.ref q), none] from rfl) ?_)
  refine wpAny_bind (wpAny_pure ?_)
  refine wpAny_bind (wpAny_mono h (fun it s₂ ⟨I, e, hc⟩ => ?_) fun _ _ e => e)
  subst e
  refine wpAny_bind (wpAny_newObj_type ?_)
  rw [name_minloop]
  refine wpAny_pure ⟨plainId_quiet F.plain_min_loop _, codeAny_mono hc fun r s' hq => ?_⟩
  obtain ⟨v, rfl, hq⟩ := hq
  exact hq
end
end MR
namespace MR
open PySem PySem.Spec PyProof.Rows L2 LamX
section
variable {X : Cx} {pins : List (Addr × Obj)} {σ : St} {H : Hp} {s : Shared} {p : Str} {i : Nat} {v : V} {u : Value}
theorem lam_start1 {A : Around} {outer : List Env} {E : XK} {scope : Scope} {f c' : Addr} {h₁ : Heap} {tk : Nat} (I : Inv X pins σ H s) (L : Lam1 X.env.scope scope p) (hNd : X.N.Nodup) (hi : X.N[i]? = some p) (r : RelV v u) (e0 : Env0 X.prog X.w X.K X.mg X.base A outer s H) (hd : A.handled = none)
    (hns : h₁.Ns s.heap.objs.size fun y => [(p, u)].reverse.lookup y) (kp : ∀ b o, s.heap.get? b = some o → h₁.get? b = some o) : Inv (lamCx X A outer s H E scope f c') [] (σ.set i (some v)) H { s with heap := h₁, toks := tk } := by
  have hfree := L.has I.ok
  have cm : ∀ {y c}, (cloFrom X.env.cells scope.names []).lookup y = some c → X.env.cells.lookup y = some c := fun {y c} e => by
    rcases cloFrom_mem (PySem.mem_of_lookup e) with q | ⟨h1, h2⟩
    · cases q
    · obtain ⟨c1, hc⟩ := hfree _ h1 rfl
      have hc : X.env.cells.lookup y = some c1 := hc
      have e2 : c = c1 := by
        rw [h2, hc] <;> rfl
      rw [e2]
      exact hc
  have look : ∀ {y}, scope.names.lookup y = some .free → ∃ c, (cloFrom X.env.cells scope.names []).lookup y = some c := fun {y} hl =>
    mem_lookup (cloFrom_has (cells := X.env.cells) (acc := []) (PySem.mem_of_lookup hl))
  have noA : ∀ b : Addr, b ∉ (lamCx X A outer s H E scope f c').ex := fun b z => absurd (show b ∈ ([] : List Addr) from z) (by simp)
  have hlen : i < σ.length := by
    rw [I.len]
    exact (List.getElem?_eq_some_iff.mp hi).1
  refine ⟨⟨e0.mod, L.kind, rfl, rfl, Nat.le_refl _, fun y z c e1 e2 => I.ok.inj y z c (cm e1) (cm e2), fun y hy => ?_, fun y c z _ => ?_, fun _ => hd, Around.frames_deeper e0.frames, .inr ⟨rfl, rfl⟩, fun b z => absurd z (noA b), e0.bs, e0.bsz, fun b _ _ => noA b,
      fun b z => absurd z (noA b), e0.funs, e0.frf⟩,
    rfl, e0.bare, Un.kept kp, ⟨_, hns, fun j y v' e1 e2 e3 => ?_⟩, fun y c e => ?_, e0.hok.fresh (Nat.le_refl _), fun y c e => ?_, fun q hq => absurd (show q ∈ ([] : List (Addr × Obj)) ++ [] from hq) (by simp), e0.hok.kept kp, by rw [List.length_set]; exact I.len⟩
  · have hy : scope.names.lookup y = some .cell ∨ scope.names.lookup y = some .free := hy
    rcases hy with hy | hy
    · exact absurd rfl (L.noc _ (PySem.mem_of_lookup hy))
    · exact look hy
  · have z : false = true := z
    cases z
  · have e1 : X.N[j]? = some y := e1
    have e3 : Vis scope y := e3
    rcases e3 with k | k | k
    · have ey : y = p := L.own _ (PySem.mem_of_lookup k) rfl
      subst ey
      have ej : j = i := nodup_ix hNd e1 hi
      subst ej
      rw [List.getElem?_set_self hlen] at e2
      cases e2
      refine ⟨u, r, .inl ⟨k, ?_⟩⟩
      show List.lookup y [(y, u)] = some u
      simp
    · exact absurd rfl (L.noc _ (PySem.mem_of_lookup k))
    · have nji : i ≠ j := fun z => by
        subst z
        rw [hi] at e1
        cases e1
        rw [L.par] at k
        cases k
      rw [List.getElem?_set_ne nji] at e2
      obtain ⟨m, hn, hl⟩ := I.loc
      have hvis : Vis X.env.scope y := (L.free _ (PySem.mem_of_lookup k) rfl).elim (fun k => .inr (.inl k)) (fun k => .inr (.inr k))
      obtain ⟨w', r', q⟩ := hl j y v' e1 e2 hvis
      obtain ⟨c2, h2⟩ := look k
      refine ⟨w', r', .inr ⟨.inr k, c2, h2, ?_⟩⟩
      have c1 := cm h2
      rcases q with ⟨k', _⟩ | ⟨_, c3, e', ⟨o, eo, ed⟩⟩
      · have k' : X.env.scope.names.lookup y = some .local := k'
        rcases L.free _ (PySem.mem_of_lookup k) rfl with k2 | k2 <;> rw [show X.env.scope.names.lookup y = _ from k2] at k' <;> cases k'
      · rw [c1] at e'
        cases e'
        exact ⟨o, kp _ _ eo, ed⟩
  · obtain ⟨w', o, eo, ed⟩ := I.cell y c (cm e)
    exact ⟨w', o, kp _ _ eo, ed⟩
  · exact I.freeC y c (cm e)
/-- f(u), f a lambda of one parameter that X's def made -/
theorem lam1_call {A : Around} {scope : Scope} {f c' : Addr} {params : Arguments} {body : Expr} {pm ctv : Value} {tb : TE} {Q : VK} {E : Value → Shared → Prop} {k : Nat} (I : Inv X pins σ H s) (L : Lam1 X.env.scope scope p) (hNd : X.N.Nodup) (hi : X.N[i]? = some p) (r : RelV v u)
    (e0 : Env0 X.prog X.w X.K X.mg X.base A X.stack s H) (hr : Room (k + 1) A) (hf : s.heap.get? f = some (PySem.W.kla_obj "<lambda>" (X.env.qual ++ "<lambda>") params body scope (cloFrom X.env.cells scope.names []) pm c' ctv)) (hco : H c' = some (CodeO c' (X.env.qual ++ "<lambda>")))
    (hbind : bindArgs (PySem.W.kla_fn "<lambda>" (X.env.qual ++ "<lambda>") params body scope (cloFrom X.env.cells scope.names []) pm (.ref c') ctv) ⟨[u], []⟩ = pure [(p, u)])
    (hbody : Room k (A.deeper (lamEnv X scope s.heap.objs.size f c')) → PE (lamCx X A X.stack s H (fun _ _ _ => False) scope f c').nox body tb) (ht : tb (σ.set i (some v)) H Q) :
    wpAny (model X.prog X.w) A (PySem.call (.ref f) [u]) (CE X.stack X.prog X.w H s Q) E s := by
  obtain ⟨⟨oc, ws, t, hoc, hdc, hvc⟩, _, _⟩ := I.hok c' _ hco
  have rc : codeAny (model X.prog X.w) A (.call (.ref f) ⟨[u], []⟩) (fun r s' => ∃ z, r = .ok (.ret z) ∧ CE X.stack X.prog X.w H s Q z s') s := by
    refine PySem.W.kla_callFunE hr.depth hf rfl L.co L.gen rfl ⟨c', oc, ws, t, rfl, hoc, hdc, hvc⟩ ?_
    rw [hbind]
    refine wpAny_pure (wpAny_newFunctionEnv (fun y hy => L.noc y hy) (fun y hy => ?_) (fun h₁ hns hsb => ?_) L.kind)
    · rw [List.mem_singleton.mp hy]
      exact L.par
    · have kp : ∀ b o, s.heap.get? b = some o → h₁.get? b = some o := fun b o e => hsb.extBut b o (Nat.ne_of_lt (Heap.lt_size e)) (Heap.get?_push_of_some _ e)
      refine ⟨I.nolimit.keeps kp, ?_⟩
      have J := lam_start1 (A := A) (outer := X.stack) (E := fun _ _ _ => False) (f := f) (c' := c') (tk := s.toks + [(p, u)].length) I L hNd hi r e0 hr.hd hns kp
      refine PySem.W.kla_codeExpr (wpAny_mono ((hbody (hr.deeper _)).run [] _ _ H Q (J.wish _) ht) (fun z s' hq => ?_) fun e s' hq => hq.elim)
      obtain ⟨w', H', J', rv, q⟩ := hq
      exact ⟨z, rfl, w', H', J'.os, J'.bare, J'.base, J'.hok, rv, q⟩
  refine wpAny_call (codeAny_mono rc fun r s' hq => ?_)
  obtain ⟨z, rfl, hq⟩ := hq
  exact hq
end
end MR
namespace MR
open PySem PySem.Spec PyProof.Rows L2 LamX
mutual
theorem dp_ext {K : PySem.W.Frag} {H H' : Hp} (e : ExtN H H') : ∀ {v : V} {d : PyData}, Dp K H v d → Dp K H' v d
  | _, _, .non => .non
  | _, _, .bl b => .bl b
  | _, _, .int i => .int i
  | _, _, .str x => .str x
  | _, _, .lst h t => .lst (sqL_ext e h) (dpAll_ext e t)
  | _, _, .tup h t => .tup (sqT_ext e h) (dpAll_ext e t)
theorem dpAll_ext {K : PySem.W.Frag} {H H' : Hp} (e : ExtN H H') : ∀ {vs : List V} {ds : List PyData}, DpAll K H vs ds → DpAll K H' vs ds
  | _, _, .nil => .nil
  | _, _, .cons h t => .cons (dp_ext e h) (dpAll_ext e t)
end
theorem dpAll_len {K : PySem.W.Frag} {H : Hp} : ∀ {vs : List V} {ds : List PyData}, DpAll K H vs ds → vs.length = ds.length
  | _, _, .nil => rfl
  | _, _, .cons _ t => congrArg Nat.succ (dpAll_len t)
theorem dataLt_trans {a b c : PyData} (h1 : PySem.W.dataLt a b = true) (h2 : PySem.W.dataLt b c = true) : PySem.W.dataLt a c = true := lex_trans (O := itemOrd) _ _ _ h1 h2
theorem dataLt_irrefl (a : PyData) : PySem.W.dataLt a a = false := lex_irrefl (O := itemOrd) _
theorem depth_le {ds : List PyData} {d : PyData} (h : d ∈ ds) : d.depth ≤ PyData.depthAll ds := by
  induction ds with
  | nil => cases h
  | cons x xs ih =>
    have e : PyData.depthAll (x :: xs) = max x.depth (PyData.depthAll xs) := by rw [PyData.depthAll]
    rw [e]
    rcases List.mem_cons.mp h with q | q
    · rw [q]
      exact Nat.le_max_left _ _
    · exact Nat.le_trans (ih q) (Nat.le_max_right _ _)
/-- the key of the j-th item -/
def keyAt (cst : Nat → Int) (ds : List PyData) (j : Nat) : PyData := .tuple [.int (cst j), ds.getD j .none]
def tMinKey (K : PySem.W.Frag) (T : List (Addr × Str)) (te : TE) (i0 : Nat) (tb : TE) : TE := fun σ H Q => te σ H fun x H1 => ∃ (a : Addr) (bs : List Addr) (ds : List PyData) (cst : Nat → Int), x = .ref a ∧ SqL K H1 a (bs.map V.ref) ∧ DpAll K H1 (bs.map V.ref) ds ∧ 0 < bs.length ∧ (∀ d ∈ ds, ∀ e ∈ ds, PySem.W.alike d e = true) ∧ PyData.depthAll ds ≤ 50 ∧ Tabs T H1 ∧
  (∀ (H' : Hp) (j : Nat) (b : Addr), ExtN H1 H' → bs[j]? = some b → ∀ Q' : VK, (∀ H'' p, Same H' H'' → H'' p = some (.tup [.int (cst j), .ref b]) → Q' (.ref p) H'') → tb (σ.set i0 (some (.ref b))) H' Q') ∧
  ∀ (H' : Hp) (j : Nat) (b : Addr), ExtN H1 H' → Tabs T H' → bs[j]? = some b → (∀ j', j' < bs.length → PySem.W.dataLt (keyAt cst ds j') (keyAt cst ds j) = false) → Q (.ref b) H'
section
variable {X : Cx} {pins : List (Addr × Obj)} {σ : St}
/-- what stays true through the turns -/
structure MinG (X : Cx) (pins : List (Addr × Obj)) (σ : St) (H2 : Hp) (fo : Obj) (f I S a : Addr) (i : Nat) (H' : Hp) (s : Shared) : Prop where
  inv : Inv X pins σ H' s
  same : Same H2 H'
  fI : FpOk X pins H' I
  fS : FpOk X pins H' S
  nIS : I ≠ S
  ff : H' f = none
  fo : s.heap.get? f = some fo
  fn : f ∉ frs X.stack
  nfI : f ≠ I
  nfS : f ≠ S
  it : s.heap.IsListIter I a i
theorem MinG.offI {H2 : Hp} {fo : Obj} {f I S a : Addr} {i : Nat} {H' : Hp} {s : Shared} (g : MinG X pins σ H2 fo f I S a i H' s) : I ∉ frs X.stack := fun z => by
  rcases List.mem_cons.mp (g.inv.stkSub _ z) with e | e
  · exact g.fI.2.1 e
  · exact g.fI.2.2.1 e
theorem MinG.offS {H2 : Hp} {fo : Obj} {f I S a : Addr} {i : Nat} {H' : Hp} {s : Shared} (g : MinG X pins σ H2 fo f I S a i H' s) : S ∉ frs X.stack := fun z => by
  rcases List.mem_cons.mp (g.inv.stkSub _ z) with e | e
  · exact g.fS.2.1 e
  · exact g.fS.2.2.1 e
/-- the list of the best is written -/
theorem MinG.setS {H2 : Hp} {fo : Obj} {f I S a : Addr} {i : Nat} {H' : Hp} {s : Shared} (g : MinG X pins σ H2 fo f I S a i H' s) (fu : Array Value → Array Value) : MinG X pins σ H2 fo f I S a i H' { s with heap := s.heap.update S (Obj.mapSeq fu) } := by
  obtain ⟨f0, f1, f2, f3, f4, f5⟩ := id g.fS
  have k : ∀ b o, b ≠ S → s.heap.get? b = some o → (s.heap.update S (Obj.mapSeq fu)).get? b = some o := fun b o hb e => (Heap.get?_update_ne _ _ _ _ hb).trans e
  refine ⟨g.inv.turned (t' := s.toks) k f0 f1 f3 f4 f5, g.same, g.fI, g.fS, g.nIS, g.ff, k _ _ g.nfS g.fo, g.fn, g.nfI, g.nfS, ?_⟩
  obtain ⟨o, e, r⟩ := g.it
  exact ⟨o, k _ _ g.nIS e, r⟩
end
end MR
namespace MR
open PySem PySem.Spec PyProof.Rows L2 LamX
section
variable {X : Cx} {pins : List (Addr × Obj)} {σ : St}
/-- behind a draw -/
theorem MinG.drawn {H2 : Hp} {fo : Obj} {f I S a : Addr} {i : Nat} {H' : Hp} {s : Shared} {h' : Heap} (g : MinG X pins σ H2 fo f I S a i H' s) (hit : h'.IsListIter I a (i + 1)) (sb : Heap.SameBut I s.heap h') : MinG X pins σ H2 fo f I S a (i + 1) H' { s with heap := h' } := by
  obtain ⟨f0, f1, f2, f3, f4, f5⟩ := id g.fI
  exact ⟨g.inv.turned (t' := s.toks) (fun b o hb e => (sb.2 b hb).trans e) f0 f1 f3 f4 f5, g.same, g.fI, g.fS, g.nIS, g.ff, (sb.2 f g.nfI).trans g.fo, g.fn, g.nfI, g.nfS, hit⟩
/-- behind a call that leaves all that was tracked -/
theorem MinG.called {H2 : Hp} {fo oS : Obj} {f I S a : Addr} {i : Nat} {H' H'' : Hp} {s s' : Shared} (g : MinG X pins σ H2 fo f I S a i H' s) (hS : s.heap.get? S = some oS) (os : s'.os = s.os) (bare : AllBare s'.gens) (un : Un (frs X.stack) [] H' H'' s.heap s'.heap) (hok : HOk X.prog X.w H'' s'.heap) (sm : Same H' H'') :
    MinG X pins σ H2 fo f I S a i H'' s' ∧ s'.heap.get? S = some oS := by
  obtain ⟨oi, ei, ri⟩ := id g.it
  have kI := un.keep I oi ei g.fI.1 g.offI (by simp)
  have fr : ∀ {b : Addr} {o : Obj}, s.heap.get? b = some o → H' b = none → H'' b = none := fun e n => un.free _ _ e n (by simp)
  exact ⟨⟨g.inv.call' (ch := []) os un hok bare (fun b z => absurd z (by simp)), g.same.trans sm, ⟨fr ei g.fI.1, g.fI.2⟩, ⟨fr hS g.fS.1, g.fS.2⟩, g.nIS, fr g.fo g.ff, un.keep f _ g.fo g.ff g.fn (by simp), g.fn, g.nfI, g.nfS, ⟨oi, kI, ri⟩⟩, un.keep S oS hS g.fS.1 g.offS (by simp)⟩
/-- the best so far -/
structure Best (H' : Hp) (bs : List Addr) (ds : List PyData) (cst : Nat → Int) (i : Nat) (vb kb : Value) : Prop where
  ex : ∃ (jb : Nat) (b pk : Addr), bs[jb]? = some b ∧ vb = .ref b ∧ kb = .ref pk ∧ H' pk = some (.tup [.int (cst jb), .ref b]) ∧ ∀ j, j < i → PySem.W.dataLt (keyAt cst ds j) (keyAt cst ds jb) = false
theorem Best.same {H' H'' : Hp} {bs : List Addr} {ds : List PyData} {cst : Nat → Int} {i : Nat} {vb kb : Value} (h : Best H' bs ds cst i vb kb) (e : Same H' H'') : Best H'' bs ds cst i vb kb :=
  let ⟨jb, b, pk, h1, h2, h3, h4, h5⟩ := h.ex
  ⟨jb, b, pk, h1, h2, h3, e _ _ h4, h5⟩
theorem lst_items {H : Hp} {s : Shared} {a : Addr} {bs : List Addr} (I : Inv X pins σ H s) (h : SqL X.K H a (bs.map V.ref)) : s.heap.IsList a (bs.map Value.ref).toArray := by
  obtain ⟨its, rv, pl, _⟩ := I.list h
  have e := refs_at rv
  subst e
  exact pl.isList
theorem min_inst {H2 : Hp} {f I S a i0 c' : Nat} {p : Str} {params : Arguments} {body : Expr} {scope : Scope} {pm ctv : Value} {tb : TE} {k : Nat} {bs : List Addr} {ds : List PyData} {cst : Nat → Int} (hc : X.calm = true) (hr : Room (k + 3) X.A) (L : Lam1 X.env.scope scope p) (hNd : X.N.Nodup) (hi : X.N[i0]? = some p)
    (hbind : ∀ u : Value, bindArgs (PySem.W.kla_fn "<lambda>" (X.env.qual ++ "<lambda>") params body scope (cloFrom X.env.cells scope.names []) pm (.ref c') ctv) ⟨[u], []⟩ = pure [(p, u)])
    (hbody : ∀ (A : Around) (s : Shared) (H : Hp) (L f c' : Addr), Room k (A.deeper (lamEnv X scope L f c')) → L = s.heap.objs.size → PE (lamCx X A X.stack s H (fun _ _ _ => False) scope f c').nox body tb)
    (hco : H2 c' = some (CodeO c' (X.env.qual ++ "<lambda>"))) (hq : SqL X.K H2 a (bs.map V.ref)) (hd : DpAll X.K H2 (bs.map V.ref) ds) (hal : ∀ d ∈ ds, ∀ e ∈ ds, PySem.W.alike d e = true) (hdep : PyData.depthAll ds ≤ 50)
    (ht : ∀ (H' : Hp) (j : Nat) (b : Addr), Same H2 H' → bs[j]? = some b → ∀ Q' : VK, (∀ H'' p, Same H' H'' → H'' p = some (.tup [.int (cst j), .ref b]) → Q' (.ref p) H'') → tb (σ.set i0 (some (.ref b))) H' Q') :
    MinTurns X.prog X.w X.A.in1 I f S bs.length
      (fun i vb kb s => ∃ H' c, MinG X pins σ H2 (PySem.W.kla_obj "<lambda>" (X.env.qual ++ "<lambda>") params body scope (cloFrom X.env.cells scope.names []) pm c' ctv) f I S a i H' s ∧ s.heap.get? S = some (lstO #[vb, kb] c) ∧ Best H' bs ds cst i vb kb)
      (fun i v vb kb s => ∃ H' c b, MinG X pins σ H2 (PySem.W.kla_obj "<lambda>" (X.env.qual ++ "<lambda>") params body scope (cloFrom X.env.cells scope.names []) pm c' ctv) f I S a (i + 1) H' s ∧ s.heap.get? S = some (lstO #[vb, kb] c) ∧ Best H' bs ds cst i vb kb ∧ bs[i]? = some b ∧ v = .ref b)
      (fun i v kx vb kb s => ∃ H' c b pk, MinG X pins σ H2 (PySem.W.kla_obj "<lambda>" (X.env.qual ++ "<lambda>") params body scope (cloFrom X.env.cells scope.names []) pm c' ctv) f I S a (i + 1) H' s ∧ s.heap.get? S = some (lstO #[vb, kb] c) ∧ Best H' bs ds cst i vb kb ∧ bs[i]? = some b ∧ v = .ref b ∧ kx = .ref pk ∧ H' pk = some (.tup [.int (cst i), .ref b]))
      (fun vb s => ∃ H' c kb, Inv X pins σ H' s ∧ Same H2 H' ∧ FpOk X pins H' S ∧ s.heap.get? S = some (lstO #[vb, kb] c) ∧ Best H' bs ds cst bs.length vb kb) where
  atJ := fun i vb kb s ⟨H', c, _, h, _⟩ => ⟨c, h⟩
  atC := fun i v kx vb kb s ⟨H', c, _, _, _, h, _⟩ => ⟨c, h⟩
  atD := fun vb s ⟨H', c, kb, _, _, _, h, _⟩ => ⟨_, c, by simp, h⟩
  next := by
    rintro i vb kb s Q E hlt ⟨H', c, g, hS, hB⟩ hQ
    have hl := lst_items g.inv (g.same.seq hq)
    obtain ⟨b, hb⟩ : ∃ b, bs[i]? = some b := ⟨bs[i], List.getElem?_eq_getElem hlt⟩
    refine wpAny_pyNext_list_item g.it hl (x := .ref b) (by simp [hb]) fun h' hit sb => hQ _ _ ⟨H', c, b, g.drawn hit sb, ?_, hB, hb, rfl⟩
    exact (sb.2 S (Ne.symm g.nIS)).trans hS
  call := by
    rintro i v vb kb s Q E hlt ⟨H', c, b, g, hS, hB, hb, rfl⟩ hQ
    refine thn (lam1_call (v := .ref b) (tb := tb) (k := k) (Q := fun u H'' => ∃ p, u = .ref p ∧ H'' p = some (.tup [.int (cst i), .ref b]) ∧ Same H' H'') g.inv L hNd hi rfl g.inv.env0.in1 (by exact hr.in1.mono (by omega)) g.fo (g.same _ _ hco) (hbind _) (fun hr' => hbody _ _ _ _ _ _ hr' rfl) ?_) fun u s' hce => ?_
    · exact ht H' i b g.same hb _ fun H'' p sm e => ⟨p, rfl, e, sm⟩
    · obtain ⟨v', H'', os, bare, un, hok, rv, p, rfl, hp, sm⟩ := hce
      cases rv
      obtain ⟨g', hS'⟩ := g.called hS os bare un hok sm
      exact hQ _ _ ⟨H'', c, b, p, g', hS', hB.same sm, hb, rfl, rfl, hp⟩
  cmp := by
    rintro i v kx vb kb s hlt ⟨H', c, b, pk, g, hS, hB, hb, rfl, rfl, hp⟩
    obtain ⟨jb, b2, pb, h1, rfl, rfl, h4, h5⟩ := hB.ex
    have key : ∀ (j : Nat) (b pk : Addr), bs[j]? = some b → H' pk = some (.tup [.int (cst j), .ref b]) → ∃ d, ds[j]? = some d ∧ Dp X.K H' (.ref pk) (keyAt cst ds j) ∧ keyAt cst ds j = .tuple [.int (cst j), d] := by
      intro j b pk hj hpk
      obtain ⟨d, e1, e2⟩ := dpAll_get hd (i := j) (v := .ref b) (by simp [hj])
      have e3 : ds.getD j .none = d := by simp [List.getD, e1]
      refine ⟨d, e1, ?_, by unfold keyAt; rw [e3]⟩
      unfold keyAt
      rw [e3]
      exact .tup (SqT.of hpk) (.cons (.int _) (.cons (dp_ext (ExtN.of g.same) e2) .nil))
    obtain ⟨d1, e1, k1, q1⟩ := key i b pk hb hp
    obtain ⟨d2, e2, k2, q2⟩ := key jb b2 pb h1 h4
    obtain ⟨as1, r1⟩ := Dp.reads g.inv _ _ (.ref pk) k1 rfl
    obtain ⟨as2, r2⟩ := Dp.reads g.inv _ _ (.ref pb) k2 rfl
    refine ⟨PySem.W.dataLt (keyAt cst ds i) (keyAt cst ds jb), fun Q E hQ => ?_, fun hy => ?_, fun hn => ?_⟩
    · refine PySem.W.rcLt_alike _ _ X.A.in1 s _ _ _ _ r1 r2 ?_ ?_ ?_ X.prog X.w E Q hQ
      · rw [q1, q2]
        simp [PySem.W.alike, PySem.W.alikeAll, hal d1 (List.mem_of_getElem? e1) d2 (List.mem_of_getElem? e2)]
      · rw [q1]
        intro z
        cases z
      · have h1 := hr.units
        have h2 := depth_le (List.mem_of_getElem? e1)
        have h3 : (keyAt cst ds i).depth ≤ d1.depth + 1 := by
          rw [q1]
          simp [PyData.depth, PyData.depthAll]
        have h4 := Nat.min_le_left (keyAt cst ds i).depth (keyAt cst ds jb).depth
        have h5 : X.A.in1.units = X.A.units + 1 := rfl
        omega
    · refine ⟨H', _, g.setS _, get?_update_seq hS (fun _ => #[Value.ref b, Value.ref pk]), ⟨i, b, pk, hb, rfl, rfl, hp, fun j hj => ?_⟩⟩
      by_cases e : j = i
      · rw [e]
        exact dataLt_irrefl _
      · refine Bool.eq_false_iff.mpr fun z => ?_
        have z2 := dataLt_trans z hy
        rw [h5 j (by omega)] at z2
        cases z2
    · refine ⟨H', c, g, hS, ⟨jb, b2, pb, h1, rfl, rfl, h4, fun j hj => ?_⟩⟩
      by_cases e : j = i
      · rw [e]
        exact hn
      · exact h5 j (by omega)
  done := by
    rintro vb kb s Q E ⟨H', c, g, hS, hB⟩ hQ
    have hl := lst_items g.inv (g.same.seq hq)
    obtain ⟨f0, f1, f2, f3, f4, f5⟩ := id g.fI
    refine wpAny_pyNext_list_end (g.inv.ok.hd hc) g.it hl (by simp) fun h' eb => hQ _ ⟨H', c, kb, g.inv.turned (t' := s.toks) (fun b o hb e => eb b o hb e) f0 f1 f3 f4 f5, g.same, g.fS, eb S _ (Ne.symm g.nIS) hS, hB⟩
end
end MR
namespace MR
open PySem PySem.Spec PyProof.Rows L2 LamX
section
variable {X : Cx}
theorem pe_minKey {T : List (Addr × Str)} {c P : Addr} {e : Expr} {te tb : TE} {q : Str} {params : Arguments} {body : Expr} {scope : Scope} {k i0 : Nat} {p lpos kpos pos : Pos} (hc : X.calm = true) (hg : Gl X "min") (hm : X.mg "min" = none)
    (TB : TabB X.base X.mg c P) (hcode : X.env.code = .ref c) (hmT : (P, X.env.qual ++ "<lambda>") ∈ T) (hu : ∀ p ∈ T, p.1 = P → p.2 = X.env.qual ++ "<lambda>") (hr : Room (k + 4) X.A) (L : Lam1 X.env.scope scope q) (hdef : defaultsOf params X.env = ([], []))
    (hNd : X.N.Nodup) (hi : X.N[i0]? = some q)
    (hbind : ∀ (qn : Str) (cl : List (Str × Addr)) (pm cv ctv v : Value), bindArgs (PySem.W.kla_fn "<lambda>" qn params body scope cl pm cv ctv) ⟨[v], []⟩ = pure [(q, v)])
    (he : PE X e te)
    (hbody : ∀ (A : Around) (s : Shared) (H : Hp) (L f c' : Addr), Room k (A.deeper (lamEnv X scope L f c')) → L = s.heap.objs.size → PE (lamCx X A X.stack s H (fun _ _ _ => False) scope f c').nox body tb)
    (hst : backTo pos (starEach [e] X.env) = (false, eval e X.env) :: backTo pos (starEach [] X.env) := by rfl) (hpl : (backTo pos (starEach [e] X.env)).any (·.1) = false := by rfl)
    (hall : (backToKw pos (keywordEach [⟨some "key", .Lambda params body scope lpos, kpos⟩] X.env)).all (·.1.isSome) = true := by rfl) (hnone : (backToKw pos (keywordEach [⟨some "key", .Lambda params body scope lpos, kpos⟩] X.env)).any (·.1.isNone) = false := by rfl)
    (hks : (backToKw pos (keywordEach [⟨some "key", .Lambda params body scope lpos, kpos⟩] X.env)).filterMap (·.1) = [Str.ofString "key"] := by rfl) :
    PE X (.Call (.Name "min" p) [e] [⟨some "key", .Lambda params body scope lpos, kpos⟩] pos) (tMinKey X.K T te i0 tb) := by
  refine ⟨fun pins s σ H Q I h => ?_⟩
  refine wpAny_Call_Name_kw (ld_blt I hg hm (u := .builtin "min") (by decide +kernel) ?_)
  refine PyProof.Rows.callWith_kw ?_ hst hpl hall hnone
  rw [hst]
  refine Calls.spliced_cons (thn (he.run pins s σ H _ I h) fun u s1 ⟨x0, H1, I1, r1, a, bs, ds, cst, ev, hq, hd, hn0, hal, hdep, hT, hk, hQ⟩ => Calls.spliced_nil ?_)
  subst ev
  cases r1
  rw [hks]
  show wpAny _ _ (evalAll [(do let v ← eval (.Lambda params body scope lpos) X.env; standAt pos; pure v)]) _ _ s1
  refine wpAny_evalAll_cons (wpAny_bind (lam_make2 I1 TB hcode hmT hu hT hdef (L.has I1.ok) fun f c' pm ctv H2 s2 I2 eN T2 hf hfn hfr hco => wpAny_bind (wpAny_standAt (wpAny_pure (wpAny_evalAll_nil ?_)))))
  show wpAny _ _ (PySem.call (.builtin "min") [.ref a] [(Str.ofString "key", .ref f)]) _ _ s2
  have hq2 : SqL X.K H2 a (bs.map V.ref) := sqL_ext eN hq
  have hl2 := lst_items I2 hq2
  have hlt : a < s2.heap.objs.size := by obtain ⟨o, ho, _⟩ := hl2; exact Heap.lt_size ho
  have hflt : f < s2.heap.objs.size := Heap.lt_size hf
  refine call_minK (wpAny_pyIter_list hl2 ⟨s2.heap.objs.size, rfl, ?_⟩)
  -- the iterator at I, the list of the best at S
  generalize hI : s2.heap.objs.size = Ia at *
  have hs3 : (s2.heap.push { cls := .type "list_iterator", data := .fields #[.ref a, .int 0 0] }).objs.size = Ia + 1 := by rw [Heap.size_push, hI]
  show codeAny _ _ (.builtin "min.loop" ⟨[.ref Ia, .ref f, .ref (s2.heap.push { cls := .type "list_iterator", data := .fields #[.ref a, .int 0 0] }).objs.size], []⟩) _ _
  rw [hs3]
  generalize hh4 : (s2.heap.push { cls := .type "list_iterator", data := .fields #[.ref a, .int 0 0] }).push (lstO #[] 0) = h4
  have kp : ∀ b o, s2.heap.get? b = some o → h4.get? b = some o := fun b o e => by
    rw [← hh4]
    exact Heap.get?_push_of_some _ (Heap.get?_push_of_some _ e)
  have I4 : Inv X pins σ H2 { s2 with heap := h4 } := I2.kept (t' := s2.toks) kp
  have fI : FpOk X pins H2 Ia := I2.fpOk (Nat.le_of_eq hI) (I2.hok.fresh (Nat.le_of_eq hI))
  have hI2 : s2.heap.objs.size ≤ Ia + 1 := Nat.le_trans (Nat.le_of_eq hI) (Nat.le_succ _)
  have fS : FpOk X pins H2 (Ia + 1) := I2.fpOk hI2 (I2.hok.fresh hI2)
  have itI : h4.IsListIter Ia a 0 := by
    rw [← hh4, ← hI]
    exact ⟨_, Heap.get?_push_of_some _ (Heap.get?_push_size _ rfl), rfl, rfl⟩
  have hS4 : h4.get? (Ia + 1) = some (lstO #[] 0) := by
    rw [← hh4, ← hs3]
    exact Heap.get?_push_size _ rfl
  have g0 : MinG X pins σ H2 (PySem.W.kla_obj "<lambda>" (X.env.qual ++ "<lambda>") params body scope (cloFrom X.env.cells scope.names []) pm c' ctv) f Ia (Ia + 1) a 0 H2 { s2 with heap := h4 } :=
    ⟨I4, Same.refl _, fI, fS, Nat.ne_of_lt (Nat.lt_succ_self _), hfn, kp _ _ hf, hfr, Nat.ne_of_lt hflt, Nat.ne_of_lt (Nat.lt_succ_of_lt hflt), itI⟩
  have ht : ∀ (H' : Hp) (j : Nat) (b : Addr), Same H2 H' → bs[j]? = some b → ∀ Q' : VK, (∀ H'' p, Same H' H'' → H'' p = some (.tup [.int (cst j), .ref b]) → Q' (.ref p) H'') → tb (σ.set i0 (some (.ref b))) H' Q' :=
    fun H' j b sm hb Q' hQ' => hk H' j b (eN.trans (ExtN.of sm)) hb Q' hQ'
  have T := min_inst (X := X) (pins := pins) (σ := σ) (H2 := H2) (f := f) (I := Ia) (S := Ia + 1) (a := a) (c' := c') (pm := pm) (ctv := ctv) (k := k) hc (hr.mono (by omega)) L hNd hi (fun u => hbind _ _ _ _ _ u) hbody hco hq2 (dpAll_ext eN hd) hal hdep ht
  refine min_first T [] ?_ hn0 hS4 ?_
  · rintro vb s ⟨H', c1, kb, I5, sm, f5, hS5, hB⟩
    refine ⟨vb, rfl, ?_⟩
    obtain ⟨jb, b, pk, h1, rfl, h3, h4', h5⟩ := hB.ex
    obtain ⟨f0, f1, f2, f3, f4, f5'⟩ := f5
    have I6 := I5.turned (h' := s.heap.update (Ia + 1) (Obj.mapSeq fun _ => #[])) (t' := s.toks) (fun b o hb e => (Heap.get?_update_ne _ _ _ _ hb).trans e) f0 f1 f3 f4 f5'
    exact ⟨.ref b, H', I6, rfl, hQ H' jb b (eN.trans (ExtN.of sm)) (T2.ext sm) h1 h5⟩
  · intro Q0 E0 hQ0
    obtain ⟨b, hb⟩ : ∃ b, bs[0]? = some b := ⟨bs[0], List.getElem?_eq_getElem hn0⟩
    have hl4 : h4.IsList a (bs.map Value.ref).toArray := lst_items I4 hq2
    refine wpAny_pyNext_list_item g0.it hl4 (x := .ref b) (by simp [hb]) fun h' hit sb => hQ0 _ _ fun Q1 E1 hQ1 => ?_
    have g1 := g0.drawn hit sb
    have hS5 : h'.get? (Ia + 1) = some (lstO #[] 0) := (sb.2 _ (Nat.ne_of_gt (Nat.lt_succ_self _))).trans hS4
    refine thn (lam1_call (v := .ref b) (tb := tb) (k := k) (Q := fun u H'' => ∃ p, u = .ref p ∧ H'' p = some (.tup [.int (cst 0), .ref b]) ∧ Same H2 H'') g1.inv L hNd hi rfl g1.inv.env0.in1 (by exact hr.in1.mono (by omega)) g1.fo hco (hbind _ _ _ _ _ _) (fun hr' => hbody _ _ _ _ _ _ hr' rfl) ?_) fun u s' hce => ?_
    · exact ht H2 0 b (Same.refl _) hb _ fun H'' p sm e => ⟨p, rfl, e, sm⟩
    · obtain ⟨v', H'', os, bare, un, hok, rv, p, rfl, hp, sm⟩ := hce
      cases rv
      obtain ⟨g', hS'⟩ := g1.called hS5 os bare un hok sm
      refine hQ1 _ _ ⟨_, hS'⟩ ⟨H'', _, g'.setS _, get?_update_seq hS' (fun _ => #[Value.ref b, Value.ref p]), ⟨0, b, p, hb, rfl, rfl, hp, fun j hj => ?_⟩⟩
      have e : j = 0 := by omega
      rw [e]
      exact dataLt_irrefl _
end
end MR
namespace MH
open PySem PySem.Spec PyProof.Rows L2
def top (i : Nat) : Stmt := PySem.Challenge.pw_playstead_k69_whole_cups_round_by_round.main.body.getD i (.Pass ⟨0, 0, 0, 0⟩)
abbrev s_is_name : Stmt := top 10
abbrev s_is_number : Stmt := top 11
abbrev s_is_row : Stmt := top 12
abbrev s_are_names : Stmt := top 16
abbrev s_are_points : Stmt := top 17
abbrev s_is_result : Stmt := top 18
abbrev s_are_entrants : Stmt := top 23
abbrev s_is_one_of : Stmt := top 24
abbrev s_are_sums : Stmt := top 25
abbrev s_is_met : Stmt := top 26
abbrev s_need_pairable : Stmt := top 27
abbrev s_least_pairs : Stmt := top 28
abbrev s_barred_of : Stmt := top 29
abbrev s_paired : Stmt := top 30
abbrev s_in_order : Stmt := top 31
abbrev s_C_init__ : Stmt := inClass (top 36) 0
abbrev s_C_pair : Stmt := inClass (top 36) 1
abbrev s_C_rounds : Stmt := inClass (top 36) 2
abbrev s_C_game_name : Stmt := inClass (top 36) 3
abbrev s_C_seats_of : Stmt := inClass (top 36) 4
abbrev s_C_points_by : Stmt := inClass (top 36) 5
abbrev s_law_begin : Stmt := top 38
abbrev s_law_more : Stmt := top 39
abbrev s_law_next : Stmt := top 40
abbrev s_law_pick : Stmt := top 41
abbrev s_law_word : Stmt := top 42
abbrev s_law_crew : Stmt := top 43
abbrev s_law_lots : Stmt := top 44
abbrev s_law_cost : Stmt := top 45
abbrev s_law_best : Stmt := top 46
abbrev s_law_results : Stmt := top 47
abbrev s_law_points : Stmt := top 48
abbrev s_law_due : Stmt := top 49
abbrev s_law_told : Stmt := top 50
abbrev s_law : Stmt := top 51
end MH
namespace MR
open PySem PySem.Spec PyProof.Rows L2 LamX
/-! the text's facts -/
def Gc (mg : Str → Option Value) (x : Str) (v : V) : Prop := ∃ u, mg x = some u ∧ RelV v u
theorem pe_gc {X : Cx} {x : Str} {v : V} {pos : Pos} (hm : Gc X.mg x v) (hg : Gl X x) (hd : (x == ("__debug__" : Str)) = false := by decide) : PE X (.Name x pos) (tC v) := by
  obtain ⟨u, h, r⟩ := hm
  exact pe_glob hg h r hd
abbrev FnS (K : PySem.W.Frag) (x qual : Str) (st : Stmt) (f : Addr) (fd : FuncData) : Prop := FunD K x qual (defArgs st) (defBody st) (defScope st) [] [] f fd
def Df (K : PySem.W.Frag) (mg : Str → Option Value) (x : Str) (st : Stmt) : Prop := ∃ f fd, FnS K x x st f fd ∧ mg x = some (.ref f)
def Mt (K : PySem.W.Frag) (C : Addr) (x qual : Str) (st : Stmt) : Prop := ∃ f fd, FnS K x qual st f fd ∧ Meth K C x f
def Mi (K : PySem.W.Frag) (C : Addr) (x qual : Str) (st : Stmt) : Prop := ∃ f fd, FnS K x qual st f fd ∧ Mk K C f
structure Txt (K : PySem.W.Frag) (mg : Str → Option Value) (C : Addr) : Prop where
  b_len : mg "len" = none
  b_isinstance : mg "isinstance" = none
  b_all : mg "all" = none
  b_set : mg "set" = none
  b_str : mg "str" = none
  b_int : mg "int" = none
  b_bool : mg "bool" = none
  b_list : mg "list" = none
  b_tuple : mg "tuple" = none
  b_dict : mg "dict" = none
  b_sorted : mg "sorted" = none
  b_min : mg "min" = none
  b_sum : mg "sum" = none
  b_range : mg "range" = none
  b_enumerate : mg "enumerate" = none
  b_zip : mg "zip" = none
  k_LETTERS : Gc mg "LETTERS" (.str "abcdefghijklmnopqrstuvwxyz")
  k_LONGEST : Gc mg "LONGEST" (.int 8)
  k_MOST_DAY : Gc mg "MOST_DAY" (.int 400)
  k_MOST_POINTS : Gc mg "MOST_POINTS" (.int 4)
  k_LEAST_NAMES : Gc mg "LEAST_NAMES" (.int 2)
  k_MOST_NAMES : Gc mg "MOST_NAMES" (.int 10)
  k_MOST_SUM : Gc mg "MOST_SUM" (.int 100)
  k_LONGEST_CUP : Gc mg "LONGEST_CUP" (.int 6)
  k_MOST_ROUNDS : Gc mg "MOST_ROUNDS" (.int 9)
  k_SAT_OUT : Gc mg "SAT_OUT" (.int 2)
  d_is_name : Df K mg "is_name" MH.s_is_name
  d_is_number : Df K mg "is_number" MH.s_is_number
  d_is_row : Df K mg "is_row" MH.s_is_row
  d_are_names : Df K mg "are_names" MH.s_are_names
  d_are_points : Df K mg "are_points" MH.s_are_points
  d_is_result : Df K mg "is_result" MH.s_is_result
  d_are_entrants : Df K mg "are_entrants" MH.s_are_entrants
  d_is_one_of : Df K mg "is_one_of" MH.s_is_one_of
  d_are_sums : Df K mg "are_sums" MH.s_are_sums
  d_is_met : Df K mg "is_met" MH.s_is_met
  d_need_pairable : Df K mg "need_pairable" MH.s_need_pairable
  d_least_pairs : Df K mg "least_pairs" MH.s_least_pairs
  d_barred_of : Df K mg "barred_of" MH.s_barred_of
  d_paired : Df K mg "paired" MH.s_paired
  d_in_order : Df K mg "in_order" MH.s_in_order
  d_C_init__ : Mi K C "__init__" "Cup.__init__" MH.s_C_init__
  d_C_pair : Mt K C "pair" "Cup.pair" MH.s_C_pair
  d_C_rounds : Mt K C "rounds" "Cup.rounds" MH.s_C_rounds
  d_C_game_name : Mt K C "game_name" "Cup.game_name" MH.s_C_game_name
  d_C_seats_of : Mt K C "seats_of" "Cup.seats_of" MH.s_C_seats_of
  d_C_points_by : Mt K C "points_by" "Cup.points_by" MH.s_C_points_by
  d_law_begin : Df K mg "_law_begin" MH.s_law_begin
  d_law_more : Df K mg "_law_more" MH.s_law_more
  d_law_next : Df K mg "_law_next" MH.s_law_next
  d_law_pick : Df K mg "_law_pick" MH.s_law_pick
  d_law_word : Df K mg "_law_word" MH.s_law_word
  d_law_crew : Df K mg "_law_crew" MH.s_law_crew
  d_law_lots : Df K mg "_law_lots" MH.s_law_lots
  d_law_cost : Df K mg "_law_cost" MH.s_law_cost
  d_law_best : Df K mg "_law_best" MH.s_law_best
  d_law_results : Df K mg "_law_results" MH.s_law_results
  d_law_points : Df K mg "_law_points" MH.s_law_points
  d_law_due : Df K mg "_law_due" MH.s_law_due
  d_law_told : Df K mg "_law_told" MH.s_law_told
  cl : Cls K C
  n_title : NoAttr K C "title"
  n_entrants : NoAttr K C "entrants"
  n_bound : NoAttr K C "bound"
  n_laps : NoAttr K C "laps"
  mgC : mg "Cup" = some (.ref C)
/-! a def that keeps its promise, by its name -/
def Ok (P : Program) (w : World) (K : PySem.W.Frag) (mg : Str → Option Value) (base : Heap) (CX : CXT) (k : Nat) (x : Str) (ps : List Str) (sp : Sp) : Prop :=
  ∃ f fd, FnOk P w K mg base CX k f fd ps sp ∧ mg x = some (.ref f) ∧ PySem.W.keepIn K (.ref f) = true ∧ Binds K fd ps []
def OkM (P : Program) (w : World) (K : PySem.W.Frag) (mg : Str → Option Value) (base : Heap) (CX : CXT) (C : Addr) (k : Nat) (x : Str) (ps : List Str) (sp : Sp) : Prop :=
  ∃ f fd, FnOk P w K mg base CX k f fd ps sp ∧ Meth K C x f ∧ Binds K fd ps []
section
variable {P : Program} {w : World} {K : PySem.W.Frag} {mg : Str → Option Value} {base : Heap} {CX : CXT} {C : Addr} {k : Nat} {x qual : Str} {ps N : List Str} {sp : Sp} {st : Stmt}
theorem Df.ok (D : Df K mg x st) (S : FnScope N ps (defScope st)) (len : ∀ vs H Q E, sp vs H Q E → vs.length = ps.length)
    (hb : ∀ (kV doc pm : Value) (an : Option Addr) (cdv ct : Value) (us : List Value), us.length = ps.length → bindArgs (PySem.W.fnOf x x (defArgs st) (defBody st) (defScope st) .none kV doc pm an cdv ct) ⟨us, []⟩ = pure (ps.zip us))
    (hbody : ∀ (f : Addr) (cdv : Value) (A : Around) (outer : List Env) (s : Shared) (H : Hp) (vs : List V) (Q : VK) (E : XK), Room k (A.deeper (envOfC x (defScope st) s.heap.objs.size f cdv)) → sp vs H Q E →
      ∃ t, PSs (cxOf CX P w K mg base N x (defScope st) f cdv A outer s H E) (defBody st) t ∧ t { nx := fun _ H' => Q .non H', rt := Q } (start N vs) H) : Ok P w K mg base CX (k + 1) x ps sp := by
  obtain ⟨f, fd, F, hm⟩ := D
  exact ⟨f, fd, F.ok S len (fun cdv A outer s H vs Q E => hbody f cdv A outer s H vs Q E), hm, F.kp, F.bindsN hb⟩
theorem Mt.ok (D : Mt K C x qual st) (S : FnScope N ps (defScope st)) (len : ∀ vs H Q E, sp vs H Q E → vs.length = ps.length)
    (hb : ∀ (kV doc pm : Value) (an : Option Addr) (cdv ct : Value) (us : List Value), us.length = ps.length → bindArgs (PySem.W.fnOf x qual (defArgs st) (defBody st) (defScope st) .none kV doc pm an cdv ct) ⟨us, []⟩ = pure (ps.zip us))
    (hbody : ∀ (f : Addr) (cdv : Value) (A : Around) (outer : List Env) (s : Shared) (H : Hp) (vs : List V) (Q : VK) (E : XK), Room k (A.deeper (envOfC qual (defScope st) s.heap.objs.size f cdv)) → sp vs H Q E →
      ∃ t, PSs (cxOf CX P w K mg base N qual (defScope st) f cdv A outer s H E) (defBody st) t ∧ t { nx := fun _ H' => Q .non H', rt := Q } (start N vs) H) : OkM P w K mg base CX C (k + 1) x ps sp := by
  obtain ⟨f, fd, F, hm⟩ := D
  exact ⟨f, fd, F.ok S len (fun cdv A outer s H vs Q E => hbody f cdv A outer s H vs Q E), hm, F.bindsN hb⟩
end
section
variable {X : Cx} {CX : CXT} {k : Nat} {x : Str} {ps : List Str} {sp : Sp} {E : XK} {e o : Expr} {es : List Expr} {t : TA} {ta : TE} {p pos apos : Pos} {C : Addr}
theorem pe_fn (O : Ok X.prog X.w X.K X.mg X.base CX0 k x ps sp) (hr : Room k X.A) (hg : Gl X x) (h : PA X (e :: es) t) (hdb : (x == ("__debug__" : Str)) = false := by decide)
    (he : starEach (e :: es) X.env = (false, eval e X.env) :: starEach es X.env := by rfl) (hpl : (backTo pos (starEach es X.env)).any (·.1) = false := by rfl) : PE X (.Call (.Name x p) (e :: es) [] pos) (tCall sp [] E0 t) := by
  obtain ⟨f, fd, F, hm, hk, hb⟩ := O
  exact pe_call F hr hg hm hk hb .nil pass0 h hdb he hpl
theorem pe_mt {pl : Sem Bool} (he : PE X o ta) (c : Cls X.K C) (O : OkM X.prog X.w X.K X.mg X.base CX0 C k x ps sp) (hr : Room k X.A) (ha : PA X (e :: es) t)
    (hst : starEach (e :: es) X.env = (false, eval e X.env) :: starEach es X.env := by rfl) (hpl : (backTo pos (starEach es X.env)).any (·.1) = false := by rfl)
    (ht : eval (.Call (.Attribute o x apos) (e :: es) [] pos) X.env = (do
      let ov ← eval o X.env
      standAt apos.atName
      let (f, first) ← holding [ov] (getMethod ov x pl)
      callWith pos f first (backTo pos (starEach (e :: es) X.env)) (backToKw pos (keywordEach [] X.env))) := by rfl) :
    PE X (.Call (.Attribute o x apos) (e :: es) [] pos) (tMeth C x sp [] E0 ta t) := by
  obtain ⟨f, fd, F, hm, hb⟩ := O
  exact pe_meth he c hm F hr hb .nil pass0 ha hst hpl ht
theorem pe_mt0 {pl : Sem Bool} (he : PE X o ta) (c : Cls X.K C) (O : OkM X.prog X.w X.K X.mg X.base CX0 C k x ps sp) (hr : Room k X.A)
    (ht : eval (.Call (.Attribute o x apos) [] [] pos) X.env = (do
      let ov ← eval o X.env
      standAt apos.atName
      let (f, first) ← holding [ov] (getMethod ov x pl)
      callWith pos f first (backTo pos (starEach [] X.env)) (backToKw pos (keywordEach [] X.env))) := by rfl) :
    PE X (.Call (.Attribute o x apos) [] [] pos) (tMeth C x sp [] E0 ta tNil) := by
  obtain ⟨f, fd, F, hm, hb⟩ := O
  exact pe_meth0 he c hm F hr hb .nil pass0 ht
end
end MR
namespace MR
open PySem PySem.Spec PyProof.Rows L2 LamX
/-! frames -/
def Fr (L : List Addr) (H H' : Hp) : Prop := ∀ b o, H b = some o → b ∉ L → (∀ ps, o ≠ .tbl ps) → H' b = some o
/-- all but S is kept -/
def Sx (S : Addr) (H H' : Hp) : Prop := ∀ b o, H b = some o → b ≠ S → H' b = some o
theorem Sx.refl (S : Addr) (H : Hp) : Sx S H H := fun _ _ h _ => h
theorem Sx.trans {S : Addr} {H H1 H2 : Hp} (a : Sx S H H1) (b : Sx S H1 H2) : Sx S H H2 := fun c o h n => b c o (a c o h n) n
theorem Sx.of {S : Addr} {H H' : Hp} (a : Same H H') : Sx S H H' := fun c o h _ => a c o h
theorem Sx.fr {S : Addr} {H H' : Hp} (a : Sx S H H') : Fr [S] H H' := fun c o h n _ => a c o h (by simpa using n)
theorem Fr.refl (L : List Addr) (H : Hp) : Fr L H H := fun _ _ h _ _ => h
theorem Fr.trans {L : List Addr} {H H1 H2 : Hp} (a : Fr L H H1) (b : Fr L H1 H2) : Fr L H H2 := fun c o h n m => b c o (a c o h n m) n m
theorem Fr.of {L : List Addr} {H H' : Hp} (a : Same H H') : Fr L H H' := fun c o h _ _ => a c o h
theorem Fr.ofE {L : List Addr} {H H' : Hp} (a : ExtN H H') : Fr L H H' := fun c o h _ m => a c o h m
theorem Fr.mono {L L' : List Addr} {H H' : Hp} (a : Fr L H H') (s : ∀ x ∈ L, x ∈ L') : Fr L' H H' := fun c o h n m => a c o h (fun z => n (s _ z)) m
theorem same_new {H : Hp} {p : Addr} {o : HO} (h : H p = none) : Same H (upd H p o) := fun b q e => by rw [upd_ne (ne_of_none e h)]; exact e
theorem Fr.set {L : List Addr} {H : Hp} {p : Addr} {o : HO} (h : p ∈ L) : Fr L H (upd H p o) := fun b q e n _ => by rw [upd_ne (fun z => n (by rw [z]; exact h))]; exact e
theorem Sx.set {S : Addr} {H : Hp} {o : HO} : Sx S H (upd H S o) := fun b q e n => by rw [upd_ne n]; exact e
theorem extN_fr {H H' : Hp} (a : Fr [] H H') : ExtN H H' := fun b o h m => a b o h (by simp) m
theorem nmem_cons {a p : Addr} {L : List Addr} (h : a ≠ p) (n : a ∉ L) : a ∉ p :: L := by simp [h, n]
/-! data -/
mutual
inductive Da (L : List Addr) (H : Hp) : V → PyData → Prop
  | non : Da L H .non .none
  | bl (b : Bool) : Da L H (.bl b) (.bool b)
  | int (i : Int) : Da L H (.int i) (.int i)
  | str (x : Str) : Da L H (.str x) (.str x)
  | lst {a : Addr} {xs : List V} {ds : List PyData} : H a = some (.lst xs) → a ∉ L → DaAll L H xs ds → Da L H (.ref a) (.list ds)
  | tup {a : Addr} {xs : List V} {ds : List PyData} : H a = some (.tup xs) → a ∉ L → DaAll L H xs ds → Da L H (.ref a) (.tuple ds)
inductive DaAll (L : List Addr) (H : Hp) : List V → List PyData → Prop
  | nil : DaAll L H [] []
  | cons {v : V} {vs : List V} {d : PyData} {ds : List PyData} : Da L H v d → DaAll L H vs ds → DaAll L H (v :: vs) (d :: ds)
end
mutual
theorem Da.fr {L L' : List Addr} {H H' : Hp} (e : Fr L' H H') (s : ∀ x ∈ L', x ∈ L) : ∀ {v : V} {d : PyData}, Da L H v d → Da L H' v d
  | _, _, .non => .non
  | _, _, .bl b => .bl b
  | _, _, .int i => .int i
  | _, _, .str x => .str x
  | _, _, .lst h n a => .lst (e _ _ h (fun z => n (s _ z)) (fun ps z => by cases z)) n (DaAll.fr e s a)
  | _, _, .tup h n a => .tup (e _ _ h (fun z => n (s _ z)) (fun ps z => by cases z)) n (DaAll.fr e s a)
theorem DaAll.fr {L L' : List Addr} {H H' : Hp} (e : Fr L' H H') (s : ∀ x ∈ L', x ∈ L) : ∀ {v : List V} {d : List PyData}, DaAll L H v d → DaAll L H' v d
  | _, _, .nil => .nil
  | _, _, .cons a b => .cons (Da.fr e s a) (DaAll.fr e s b)
end
mutual
theorem Da.mono {L L' : List Addr} {H : Hp} (s : ∀ x ∈ L', x ∈ L) : ∀ {v : V} {d : PyData}, Da L H v d → Da L' H v d
  | _, _, .non => .non
  | _, _, .bl b => .bl b
  | _, _, .int i => .int i
  | _, _, .str x => .str x
  | _, _, .lst h n a => .lst h (fun z => n (s _ z)) (DaAll.mono s a)
  | _, _, .tup h n a => .tup h (fun z => n (s _ z)) (DaAll.mono s a)
theorem DaAll.mono {L L' : List Addr} {H : Hp} (s : ∀ x ∈ L', x ∈ L) : ∀ {v : List V} {d : List PyData}, DaAll L H v d → DaAll L' H v d
  | _, _, .nil => .nil
  | _, _, .cons a b => .cons (Da.mono s a) (DaAll.mono s b)
end
mutual
/-- what is new is not in it -/
theorem Da.more {L : List Addr} {H : Hp} {p : Addr} (hp : H p = none) : ∀ {v : V} {d : PyData}, Da L H v d → Da (p :: L) H v d
  | _, _, .non => .non
  | _, _, .bl b => .bl b
  | _, _, .int i => .int i
  | _, _, .str x => .str x
  | _, _, .lst h n a => .lst h (nmem_cons (ne_of_none h hp) n) (DaAll.more hp a)
  | _, _, .tup h n a => .tup h (nmem_cons (ne_of_none h hp) n) (DaAll.more hp a)
theorem DaAll.more {L : List Addr} {H : Hp} {p : Addr} (hp : H p = none) : ∀ {v : List V} {d : List PyData}, DaAll L H v d → DaAll (p :: L) H v d
  | _, _, .nil => .nil
  | _, _, .cons a b => .cons (Da.more hp a) (DaAll.more hp b)
end
mutual
theorem Da.dp {K : PySem.W.Frag} {L : List Addr} {H : Hp} : ∀ {v : V} {d : PyData}, Da L H v d → Dp K H v d
  | _, _, .non => .non
  | _, _, .bl b => .bl b
  | _, _, .int i => .int i
  | _, _, .str x => .str x
  | _, _, .lst h _ a => .lst (SqL.of h) (DaAll.dp a)
  | _, _, .tup h _ a => .tup (SqT.of h) (DaAll.dp a)
theorem DaAll.dp {K : PySem.W.Frag} {L : List Addr} {H : Hp} : ∀ {v : List V} {d : List PyData}, DaAll L H v d → DpAll K H v d
  | _, _, .nil => .nil
  | _, _, .cons a b => .cons (Da.dp a) (DaAll.dp b)
end
theorem Da.same {L : List Addr} {H H' : Hp} {v : V} {d : PyData} (h : Da L H v d) (e : Same H H') : Da L H' v d := Da.fr (L' := []) (Fr.of e) (by simp) h
theorem DaAll.same {L : List Addr} {H H' : Hp} {v : List V} {d : List PyData} (h : DaAll L H v d) (e : Same H H') : DaAll L H' v d := DaAll.fr (L' := []) (Fr.of e) (by simp) h
theorem Da.frs {L : List Addr} {H H' : Hp} {v : V} {d : PyData} (h : Da L H v d) (e : Fr L H H') : Da L H' v d := Da.fr e (fun _ z => z) h
theorem DaAll.frs {L : List Addr} {H H' : Hp} {v : List V} {d : List PyData} (h : DaAll L H v d) (e : Fr L H H') : DaAll L H' v d := DaAll.fr e (fun _ z => z) h
theorem Da.sx {L : List Addr} {S : Addr} {H H' : Hp} {v : V} {d : PyData} (h : Da L H v d) (e : Sx S H H') (m : S ∈ L) : Da L H' v d := Da.fr (Sx.fr e) (by simpa using m) h
theorem DaAll.sx {L : List Addr} {S : Addr} {H H' : Hp} {v : List V} {d : List PyData} (h : DaAll L H v d) (e : Sx S H H') (m : S ∈ L) : DaAll L H' v d := DaAll.fr (Sx.fr e) (by simpa using m) h
theorem DaAll.upd {L : List Addr} {p : Addr} {o : HO} {H : Hp} {v : List V} {d : List PyData} (h : DaAll L H v d) (m : p ∈ L) : DaAll L (upd H p o) v d := DaAll.frs h (Fr.set m)
theorem Da.upd {L : List Addr} {p : Addr} {o : HO} {H : Hp} {v : V} {d : PyData} (h : Da L H v d) (m : p ∈ L) : Da L (upd H p o) v d := Da.frs h (Fr.set m)
theorem DaAll.snoc {L : List Addr} {H : Hp} {v : V} {d : PyData} : ∀ {vs : List V} {ds : List PyData}, DaAll L H vs ds → Da L H v d → DaAll L H (vs ++ [v]) (ds ++ [d])
  | _, _, .nil, h => .cons h .nil
  | _, _, .cons a b, h => .cons a (DaAll.snoc b h)
theorem DaAll.app {L : List Addr} {H : Hp} {v : List V} {d : List PyData} : ∀ {vs : List V} {ds : List PyData}, DaAll L H vs ds → DaAll L H v d → DaAll L H (vs ++ v) (ds ++ d)
  | _, _, .nil, h => h
  | _, _, .cons a b, h => .cons a (DaAll.app b h)
theorem DaAll.len {L : List Addr} {H : Hp} : ∀ {vs : List V} {ds : List PyData}, DaAll L H vs ds → vs.length = ds.length
  | _, _, .nil => rfl
  | _, _, .cons _ b => by simp [DaAll.len b]
theorem DaAll.get {L : List Addr} {H : Hp} : ∀ {vs : List V} {ds : List PyData} {i : Nat} {v : V}, DaAll L H vs ds → vs[i]? = some v → ∃ d, ds[i]? = some d ∧ Da L H v d
  | _, _, 0, _, .cons a _, h => ⟨_, rfl, by simp at h; rw [← h]; exact a⟩
  | _, _, i + 1, _, .cons _ b, h => by simpa using DaAll.get b (by simpa using h)
theorem DaAll.at {L : List Addr} {H : Hp} : ∀ {vs : List V} {ds : List PyData} {i : Nat} {d : PyData}, DaAll L H vs ds → ds[i]? = some d → ∃ v, vs[i]? = some v ∧ Da L H v d
  | _, _, 0, _, .cons a _, h => ⟨_, rfl, by simp at h; rw [← h]; exact a⟩
  | _, _, i + 1, _, .cons _ b, h => by simpa using DaAll.at b (by simpa using h)
theorem daInts {L : List Addr} {H : Hp} : ∀ (xs : List Int), DaAll L H (xs.map V.int) (xs.map PyData.int)
  | [] => .nil
  | x :: xs => .cons (.int x) (daInts xs)
theorem daStrs {L : List Addr} {H : Hp} : ∀ (xs : List Str), DaAll L H (xs.map V.str) (xs.map PyData.str)
  | [] => .nil
  | x :: xs => .cons (.str x) (daStrs xs)
theorem daAll_ints {L : List Addr} {H : Hp} : ∀ {xs : List Int} {vs : List V}, DaAll L H vs (xs.map PyData.int) → vs = xs.map V.int
  | [], _, .nil => rfl
  | x :: xs, _, .cons (.int _) b => by rw [daAll_ints b]; rfl
theorem daAll_strs {L : List Addr} {H : Hp} : ∀ {xs : List Str} {vs : List V}, DaAll L H vs (xs.map PyData.str) → vs = xs.map V.str
  | [], _, .nil => rfl
  | x :: xs, _, .cons (.str _) b => by rw [daAll_strs b]; rfl
theorem Da.list {L : List Addr} {H : Hp} {v : V} {ds : List PyData} (h : Da L H v (.list ds)) : ∃ a xs, v = .ref a ∧ H a = some (.lst xs) ∧ a ∉ L ∧ DaAll L H xs ds := by
  cases h with
  | lst h n a => exact ⟨_, _, rfl, h, n, a⟩
theorem Da.tuple {L : List Addr} {H : Hp} {v : V} {ds : List PyData} (h : Da L H v (.tuple ds)) : ∃ a xs, v = .ref a ∧ H a = some (.tup xs) ∧ a ∉ L ∧ DaAll L H xs ds := by
  cases h with
  | tup h n a => exact ⟨_, _, rfl, h, n, a⟩
/-! pairs, laps -/
abbrev Pr := Str × Str
abbrev Lap := List Pr × Option Str
def prD (g : Pr) : PyData := .tuple [.str g.1, .str g.2]
def prV (H : Hp) (L : List Addr) (a : Addr) (g : Pr) : Prop := H a = some (.tup [.str g.1, .str g.2]) ∧ a ∉ L
def oD : Option Str → PyData
  | none => .none
  | some x => .str x
def oV : Option Str → V
  | none => .non
  | some x => .str x
def gsD (gs : List Pr) : PyData := .list (gs.map prD)
def lapD (l : Lap) : PyData := .tuple [gsD l.1, oD l.2]
def lapsD (l : List Lap) : List PyData := l.map lapD
theorem da_o {L : List Addr} {H : Hp} {v : V} {o : Option Str} (h : Da L H v (oD o)) : v = oV o := by
  cases o <;> (cases h; rfl)
theorem da_o' {L : List Addr} {H : Hp} (o : Option Str) : Da L H (oV o) (oD o) := by
  cases o
  · exact .non
  · exact .str _
theorem da_pr {L : List Addr} {H : Hp} {v : V} {g : Pr} (h : Da L H v (prD g)) : ∃ a, v = .ref a ∧ H a = some (.tup [.str g.1, .str g.2]) ∧ a ∉ L := by
  obtain ⟨a, xs, rfl, h, n, b⟩ := h.tuple
  have := daAll_strs (xs := [g.1, g.2]) b
  subst this
  exact ⟨a, rfl, h, n⟩
theorem da_pr' {L : List Addr} {H : Hp} {a : Addr} {g : Pr} (h : H a = some (.tup [.str g.1, .str g.2])) (n : a ∉ L) : Da L H (.ref a) (prD g) := .tup h n (daStrs [g.1, g.2])
theorem da_lap {L : List Addr} {H : Hp} {v : V} {l : Lap} (h : Da L H v (lapD l)) : ∃ a b xs, v = .ref a ∧ H a = some (.tup [.ref b, oV l.2]) ∧ a ∉ L ∧ H b = some (.lst xs) ∧ b ∉ L ∧ DaAll L H xs (l.1.map prD) := by
  obtain ⟨a, xs, rfl, h, n, b⟩ := h.tuple
  cases b with
  | cons b1 b2 =>
    cases b2 with
    | cons b2 b3 =>
      cases b3
      obtain ⟨c, ys, rfl, hc, nc, hd⟩ := Da.list b1
      rw [da_o b2] at h
      exact ⟨a, c, ys, rfl, h, n, hc, nc, hd⟩
theorem da_lap' {L : List Addr} {H : Hp} {a b : Addr} {xs : List V} {l : Lap} (h : H a = some (.tup [.ref b, oV l.2])) (n : a ∉ L) (hb : H b = some (.lst xs)) (nb : b ∉ L) (d : DaAll L H xs (l.1.map prD)) : Da L H (.ref a) (lapD l) :=
  .tup h n (.cons (.lst hb nb d) (.cons (da_o' _) .nil))
theorem not_mem_of {L : List Addr} {H : Hp} (h : ∀ x ∈ L, ∃ o, H x = some o) {p : Addr} (hp : H p = none) : p ∉ L := fun z => by
  obtain ⟨o, e⟩ := h _ z
  rw [hp] at e
  cases e
/-- no table -/
def NT (o : HO) : Prop := ∀ ps, o ≠ .tbl ps
theorem nt_lst {xs : List V} : NT (.lst xs) := fun _ z => by cases z
theorem nt_dK {xs : List (Key × V)} : NT (.dK xs) := fun _ z => by cases z
/-- each of L stands, no table among them -/
def Lv (L : List Addr) (H : Hp) : Prop := ∀ x ∈ L, ∃ o, H x = some o ∧ NT o
theorem Lv.same {L : List Addr} {H H' : Hp} (h : Lv L H) (e : Same H H') : Lv L H' := fun x m => let ⟨o, q, n⟩ := h x m; ⟨o, e _ _ q, n⟩
theorem Lv.ext {L : List Addr} {H H' : Hp} (h : Lv L H) (e : ExtN H H') : Lv L H' := fun x m => let ⟨o, q, n⟩ := h x m; ⟨o, e _ _ q n, n⟩
theorem Lv.cons {L : List Addr} {H : Hp} {p : Addr} {o : HO} (h : Lv L H) (hp : H p = some o) (n : NT o) : Lv (p :: L) H := fun x m => by
  rcases List.mem_cons.mp m with rfl | m
  · exact ⟨o, hp, n⟩
  · exact h x m
theorem Lv.upd {L : List Addr} {H : Hp} {p : Addr} {o : HO} (h : Lv L H) (n : NT o) : Lv L (upd H p o) := fun x m => by
  by_cases e : x = p
  · subst e
    exact ⟨o, upd_same, n⟩
  · rw [upd_ne e]
    exact h x m
theorem Lv.sx {L : List Addr} {S : Addr} {H H' : Hp} (h : Lv L H) (e : Sx S H H') (s : ∃ o, H' S = some o ∧ NT o) : Lv L H' := fun x m => by
  by_cases q : x = S
  · rw [q]; exact s
  · exact let ⟨o, z, n⟩ := h x m; ⟨o, e _ _ z q, n⟩
theorem Lv.new {L : List Addr} {H : Hp} (h : Lv L H) {p : Addr} (hp : H p = none) : p ∉ L := not_mem_of (fun x m => let ⟨o, q, _⟩ := h x m; ⟨o, q⟩) hp
theorem Da.ext {L : List Addr} {H H' : Hp} {v : V} {d : PyData} (h : Da L H v d) (e : ExtN H H') : Da L H' v d := h.frs (Fr.ofE e)
theorem DaAll.ext {L : List Addr} {H H' : Hp} {v : List V} {d : List PyData} (h : DaAll L H v d) (e : ExtN H H') : DaAll L H' v d := h.frs (Fr.ofE e)
/-- whatever way a statement takes, one state behind it -/
theorem ps_join {X : Cx} {st : Stmt} {t : TS} (h : PS X st t) : PS X st (fun D σ H => ∃ J : St → Hp → Prop, t { D with nx := J } σ H ∧ ∀ σ' H', J σ' H' → D.nx σ' H') := by
  refine ⟨fun pins s σ H D I hw => ?_⟩
  obtain ⟨J, hw, hJ⟩ := hw
  refine thn (h.run pins s σ H _ I hw) fun f s1 q => ?_
  cases f with
  | next => obtain ⟨σ', H', I2, q⟩ := q; exact ⟨σ', H', I2, hJ _ _ q⟩
  | brk => exact q
  | cont => exact q
  | ret v => exact q
theorem pe_joinE {X : Cx} {e : Expr} {t : TE} (h : PE X e t) : PE X e (fun σ H Q => ∃ J : V → Hp → Prop, t σ H J ∧ ∀ v H', J v H' → Q v H') := by
  refine ⟨fun pins s σ H Q I hw => ?_⟩
  obtain ⟨J, hw, hJ⟩ := hw
  refine thn (h.run pins s σ H _ I hw) fun v s1 ⟨x, H1, I2, r, q⟩ => ⟨x, H1, I2, r, hJ _ _ q⟩
theorem pt_join {X : Cx} {e : Expr} {t : TT} (h : PT X e t) : PT X e (fun σ H Q => ∃ J : Bool → Hp → Prop, t σ H J ∧ ∀ v H', J v H' → Q v H') := by
  refine ⟨fun pins s σ H Q I hw => ?_⟩
  obtain ⟨J, hw, hJ⟩ := hw
  refine thn (h.run pins s σ H _ I hw) fun v s1 ⟨H1, I2, q⟩ => ⟨H1, I2, hJ _ _ q⟩
end MR
namespace MR
open PySem PySem.Spec PyProof.Rows L2 LamX
theorem szl : (1000000 : Nat) < sizeLine := by rw [sizeLine_eq]; decide
theorem same_upd {H1 H : Hp} {D : Addr} {o : HO} (hD : H1 D = none) (s : Same H1 H) : Same H1 (upd H D o) := fun b q e => by rw [upd_ne (ne_of_none e hD)]; exact s _ _ e
/-- a list is made at D -/
def PvL (D : Addr) (I : Nat → List V → Hp → Prop) (i : Nat) (H : Hp) : Prop := ∃ acc, H D = some (.lst acc) ∧ acc.length ≤ i ∧ I i acc H
theorem putL {D : Addr} {I : Nat → List V → Hp → Prop} {i : Nat} {H : Hp} {acc : List V} {y : V} (h : H D = some (.lst acc)) (hl : acc.length ≤ i) (hi : i < 1000000) (p : I (i + 1) (acc ++ [y]) (upd H D (.lst (acc ++ [y])))) :
    ∃ acc, H D = some (.lst acc) ∧ acc.length < sizeLine ∧ PvL D I (i + 1) (upd H D (.lst (acc ++ [y]))) :=
  ⟨acc, h, by have := szl; omega, acc ++ [y], upd_same, by simp; omega, p⟩
/-- the values are known -/
def PvF (H1 : Hp) (D : Addr) (F : Nat → List V) (i : Nat) (H : Hp) : Prop := Same H1 H ∧ H D = some (.lst (F i)) ∧ (F i).length ≤ i
theorem putF {H1 H H4 : Hp} {D : Addr} {F : Nat → List V} {i : Nat} {y : V} (p : PvF H1 D F i H) (hD : H1 D = none) (s : Same H H4) (hi : i < 1000000) (e : F (i + 1) = F i ++ [y]) :
    ∃ acc, H4 D = some (.lst acc) ∧ acc.length < sizeLine ∧ PvF H1 D F (i + 1) (upd H4 D (.lst (acc ++ [y]))) :=
  ⟨F i, s _ _ p.2.1, by have := szl; have := p.2.2; omega, same_upd hD (p.1.trans s), by rw [upd_same, e], by rw [e]; have := p.2.2; simp; omega⟩
theorem skipF {H1 H H4 : Hp} {D : Addr} {F : Nat → List V} {i : Nat} (p : PvF H1 D F i H) (s : Same H H4) (e : F (i + 1) = F i) : PvF H1 D F (i + 1) H4 :=
  ⟨p.1.trans s, by rw [e]; exact s _ _ p.2.1, by rw [e]; have := p.2.2; omega⟩
/-- data is made -/
def PvD (L : List Addr) (H1 : Hp) (D : Addr) (F : Nat → List PyData) (i : Nat) (H : Hp) : Prop := Same H1 H ∧ ∃ acc, H D = some (.lst acc) ∧ acc.length ≤ i ∧ DaAll (D :: L) H acc (F i)
theorem putD {L : List Addr} {H1 H H4 : Hp} {D : Addr} {F : Nat → List PyData} {i : Nat} {y : V} {d : PyData} (p : PvD L H1 D F i H) (hD : H1 D = none) (s : Same H H4) (hi : i < 1000000) (hd : Da (D :: L) H4 y d) (e : F (i + 1) = F i ++ [d]) :
    ∃ acc, H4 D = some (.lst acc) ∧ acc.length < sizeLine ∧ PvD L H1 D F (i + 1) (upd H4 D (.lst (acc ++ [y]))) := by
  obtain ⟨p1, acc, p2, p3, p4⟩ := p
  refine ⟨acc, s _ _ p2, by have := szl; omega, same_upd hD (p1.trans s), acc ++ [y], upd_same, by simp; omega, ?_⟩
  rw [e]
  exact DaAll.upd ((p4.same s).snoc hd) (by simp)
theorem skipD {L : List Addr} {H1 H H4 : Hp} {D : Addr} {F : Nat → List PyData} {i : Nat} (p : PvD L H1 D F i H) (s : Same H H4) (e : F (i + 1) = F i) : PvD L H1 D F (i + 1) H4 := by
  obtain ⟨p1, acc, p2, p3, p4⟩ := p
  exact ⟨p1.trans s, acc, s _ _ p2, by omega, by rw [e]; exact p4.same s⟩
section
variable {J : It} {n : Nat} {G : Hp → Prop} {Y : Nat → Hp → V → Hp → Prop} {g : TG} {tt : TT} {te tk tv : TE} {vs : List Nat} {σ : L2.St} {H1 : Hp} {D : Addr} {Qd : Hp → Prop}
abbrev LcW (J : It) (g : TG) (tt : TT) (te : TE) (vs : List Nat) (σ : L2.St) (H1 : Hp) (D : Addr) (Qd : Hp → Prop) : Prop :=
  ∃ W : Nat → Nat → Hp → Prop, (∃ m, W 0 m (upd H1 D (.lst []))) ∧ ∀ i m H, W i m H →
      (J.stop i H ∧ Qd H) ∨ (J.go i H ∧ ∃ Nx : Hp → Prop, (∀ H', Nx H' → ∃ m', m' < m ∧ W (i + 1) m' H') ∧ ∀ x H', J.yld i H x H' → g x (wipe σ vs) H' fun σ2 H2 => wipe σ2 vs = wipe σ vs ∧ tt σ2 H2 fun b H3 =>
        if b = true then te σ2 H3 fun y H4 => ∃ acc, H4 D = some (.lst acc) ∧ acc.length < sizeLine ∧ Nx (upd H4 D (.lst (acc ++ [y]))) else Nx H3)
abbrev DcW (J : It) (g : TG) (tt : TT) (tk tv : TE) (vs : List Nat) (σ : L2.St) (H1 : Hp) (D : Addr) (Qd : Hp → Prop) : Prop :=
  ∃ W : Nat → Nat → Hp → Prop, (∃ m, W 0 m (upd H1 D (.dK []))) ∧ ∀ i m H, W i m H →
      (J.stop i H ∧ Qd H) ∨ (J.go i H ∧ ∃ Nx : Hp → Prop, (∀ H', Nx H' → ∃ m', m' < m ∧ W (i + 1) m' H') ∧ ∀ x H', J.yld i H x H' → g x (wipe σ vs) H' fun σ2 H2 => wipe σ2 vs = wipe σ vs ∧ tt σ2 H2 fun b H3 =>
        if b = true then tk σ2 H3 fun y H4 => tv σ2 H4 fun z H5 => ∃ kvs k, y = kV k ∧ H5 D = some (.dK kvs) ∧ kvs.length < sizeLine ∧ Nx (upd H5 D (.dK (putK kvs k z))) else Nx H3)
theorem lc_L (w : Walk J n G Y) (I : Nat → List V → Hp → Prop) (h0 : I 0 [] (upd H1 D (.lst []))) (hG : ∀ i acc H, i ≤ n → I i acc H → G H)
    (hs : ∀ i x acc H H', i < n → H D = some (.lst acc) → acc.length ≤ i → I i acc H → Y i H x H' → g x (wipe σ vs) H' fun σ2 H2 => wipe σ2 vs = wipe σ vs ∧ tt σ2 H2 fun b H3 =>
      if b = true then te σ2 H3 fun y H4 => ∃ acc, H4 D = some (.lst acc) ∧ acc.length < sizeLine ∧ PvL D I (i + 1) (upd H4 D (.lst (acc ++ [y]))) else PvL D I (i + 1) H3)
    (hd : ∀ acc H, H D = some (.lst acc) → acc.length ≤ n → I n acc H → Qd H) : LcW J g tt te vs σ H1 D Qd :=
  lc_it w (PvL D I) ⟨[], upd_same, Nat.le_refl _, h0⟩ (fun i H hi ⟨acc, _, _, p⟩ => hG i acc H hi p) (fun i x H H' hi ⟨acc, e, l, p⟩ y => hs i x acc H H' hi e l p y) (fun H ⟨acc, e, l, p⟩ => hd acc H e l p)
theorem lc_F (w : Walk J n G Y) (F : Nat → List V) (hD : H1 D = none) (hF0 : F 0 = []) (hG : ∀ H, Same H1 H → G H)
    (hs : ∀ i x H H', i < n → PvF H1 D F i H → Y i H x H' → g x (wipe σ vs) H' fun σ2 H2 => wipe σ2 vs = wipe σ vs ∧ tt σ2 H2 fun b H3 =>
      if b = true then te σ2 H3 fun y H4 => ∃ acc, H4 D = some (.lst acc) ∧ acc.length < sizeLine ∧ PvF H1 D F (i + 1) (upd H4 D (.lst (acc ++ [y]))) else PvF H1 D F (i + 1) H3)
    (hd : ∀ H, Same H1 H → H D = some (.lst (F n)) → Qd H) : LcW J g tt te vs σ H1 D Qd :=
  lc_it w (PvF H1 D F) ⟨same_new hD, by rw [upd_same, hF0], by rw [hF0]; exact Nat.le_refl _⟩ (fun i H hi p => hG H p.1) hs (fun H p => hd H p.1 p.2.1)
theorem lc_D (w : Walk J n G Y) (L : List Addr) (F : Nat → List PyData) (hD : H1 D = none) (hF0 : F 0 = []) (hG : ∀ H, Same H1 H → G H)
    (hs : ∀ i x H H', i < n → PvD L H1 D F i H → Y i H x H' → g x (wipe σ vs) H' fun σ2 H2 => wipe σ2 vs = wipe σ vs ∧ tt σ2 H2 fun b H3 =>
      if b = true then te σ2 H3 fun y H4 => ∃ acc, H4 D = some (.lst acc) ∧ acc.length < sizeLine ∧ PvD L H1 D F (i + 1) (upd H4 D (.lst (acc ++ [y]))) else PvD L H1 D F (i + 1) H3)
    (hd : ∀ acc H, Same H1 H → H D = some (.lst acc) → DaAll (D :: L) H acc (F n) → Qd H) : LcW J g tt te vs σ H1 D Qd :=
  lc_it w (PvD L H1 D F) ⟨same_new hD, [], upd_same, Nat.le_refl _, by rw [hF0]; exact .nil⟩ (fun i H hi p => hG H p.1) hs (fun H ⟨s, acc, e, _, d⟩ => hd acc H s e d)
theorem dc_it (w : Walk J n G Y) (Pv : Nat → Hp → Prop) (h0 : Pv 0 (upd H1 D (.dK []))) (hG : ∀ i H, i ≤ n → Pv i H → G H)
    (hs : ∀ i x H H', i < n → Pv i H → Y i H x H' → g x (wipe σ vs) H' fun σ2 H2 => wipe σ2 vs = wipe σ vs ∧ tt σ2 H2 fun b H3 =>
      if b = true then tk σ2 H3 fun y H4 => tv σ2 H4 fun z H5 => ∃ kvs k, y = kV k ∧ H5 D = some (.dK kvs) ∧ kvs.length < sizeLine ∧ Pv (i + 1) (upd H5 D (.dK (putK kvs k z))) else Pv (i + 1) H3) (hd : ∀ H, Pv n H → Qd H) :
    DcW J g tt tk tv vs σ H1 D Qd := by
  refine ⟨fun i m H => m = n - i ∧ i ≤ n ∧ Pv i H, ⟨n, by simp, Nat.zero_le _, h0⟩, ?_⟩
  rintro i m H ⟨rfl, hi, p⟩
  have q := hG i H hi p
  by_cases hlt : i < n
  · refine .inr ⟨w.goes i H hlt q, Pv (i + 1), fun H' p' => ⟨n - (i + 1), by omega, rfl, hlt, p'⟩, fun x H' y => hs i x H H' hlt p (w.yields i H x H' hlt q y)⟩
  · have e : i = n := by omega
    subst e
    exact .inl ⟨w.stops H q, hd H p⟩
def PvC (H1 : Hp) (D : Addr) (F : Nat → List (Key × V)) (i : Nat) (H : Hp) : Prop := Same H1 H ∧ H D = some (.dK (F i)) ∧ (F i).length ≤ i
theorem putC {H1 H H4 : Hp} {D : Addr} {F : Nat → List (Key × V)} {i : Nat} {k : Key} {z : V} (p : PvC H1 D F i H) (hD : H1 D = none) (s : Same H H4) (hi : i < 1000000) (e : F (i + 1) = putK (F i) k z) (hl : (F (i + 1)).length ≤ i + 1) :
    ∃ kvs k', kV k = kV k' ∧ H4 D = some (.dK kvs) ∧ kvs.length < sizeLine ∧ PvC H1 D F (i + 1) (upd H4 D (.dK (putK kvs k' z))) :=
  ⟨F i, k, rfl, s _ _ p.2.1, by have := szl; have := p.2.2; omega, same_upd hD (p.1.trans s), by rw [upd_same, e], hl⟩
theorem dc_F (w : Walk J n G Y) (F : Nat → List (Key × V)) (hD : H1 D = none) (hF0 : F 0 = []) (hG : ∀ H, Same H1 H → G H)
    (hs : ∀ i x H H', i < n → PvC H1 D F i H → Y i H x H' → g x (wipe σ vs) H' fun σ2 H2 => wipe σ2 vs = wipe σ vs ∧ tt σ2 H2 fun b H3 =>
      if b = true then tk σ2 H3 fun y H4 => tv σ2 H4 fun z H5 => ∃ kvs k, y = kV k ∧ H5 D = some (.dK kvs) ∧ kvs.length < sizeLine ∧ PvC H1 D F (i + 1) (upd H5 D (.dK (putK kvs k z))) else PvC H1 D F (i + 1) H3)
    (hd : ∀ H, Same H1 H → H D = some (.dK (F n)) → Qd H) : DcW J g tt tk tv vs σ H1 D Qd :=
  dc_it w (PvC H1 D F) ⟨same_new hD, by rw [upd_same, hF0], by rw [hF0]; exact Nat.le_refl _⟩ (fun i H hi p => hG H p.1) hs (fun H p => hd H p.1 p.2.1)
end
theorem walk_zipT {K : PySem.W.Frag} {a b : Addr} {xs ys : List V} {n : Nat} (h1 : n = xs.length) (h2 : n = ys.length) : Walk (RZ.ItzT K a b) n (fun H => SqT K H a xs ∧ SqT K H b ys) (YPair (fun i => xs[i]?) (fun i => ys[i]?)) := by
  refine ⟨fun i _ hi q => ?_, fun _ q => ?_, fun i H v H' _ q y => ?_⟩
  · exact ⟨xs, ys, xs[i], ys[i], q.1, q.2, by simp [show i < xs.length by omega], by simp [show i < ys.length by omega]⟩
  · exact ⟨xs, ys, q.1, q.2, by omega⟩
  · obtain ⟨T, x, z, h1, h2, h3, h4, h5⟩ := y
    exact ⟨T, x, z, h1, h2, h3, h4 xs q.1, h5 ys q.2⟩
def rLenSq (K : PySem.W.Frag) : List V → Hp → VK → Prop := fun xs H Q => ∃ p ys, xs = [.ref p] ∧ (SqL K H p ys ∨ SqT K H p ys) ∧ Q (.int ys.length) H
def rListOf (K : PySem.W.Frag) : List V → Hp → VK → Prop := fun xs H Q => ∃ p ys, xs = [.ref p] ∧ (SqL K H p ys ∨ SqT K H p ys) ∧ ∀ l, H l = none → Q (.ref l) (upd H l (.lst ys))
def rTupOf (K : PySem.W.Frag) : List V → Hp → VK → Prop := fun xs H Q => ∃ p ys, xs = [.ref p] ∧ ((SqL K H p ys ∧ ∀ l, H l = none → Q (.ref l) (upd H l (.tup ys))) ∨ (SqT K H p ys ∧ Q (.ref p) H))
section
variable {X : Cx} {K : PySem.W.Frag} {o e : Expr} {apos cpos : Pos} {to te : TE}
theorem pe_idx (ho : PE X o to) (he : PE X e te) (hK : X.K = K := by rfl)
    (hbase : attributeBase o "index" X.env (eval o X.env) = eval o X.env := by rfl)
    (hfew : ((backTo cpos (starEach (e :: []) X.env)).all (fun x => !x.1) && (backToKw cpos (keywordEach [] X.env)).all (fun x => x.1.isSome)
      && decide ((e :: []).length + ([] : List Keyword).length + (if ([] : List Keyword).isEmpty then 0 else 1) < 30)) = true := by rfl)
    (hline : (apos.endLine == cpos.line) = true := by rfl) (hs : starEach (e :: []) X.env = (false, eval e X.env) :: starEach [] X.env := by rfl) (hplain : (backTo cpos (starEach [] X.env)).any (·.1) = false := by rfl) :
    PE X (.Call (.Attribute o "index" apos) [e] [] cpos) (tBM K "list" (rIndex K) to (tCons te tNil)) := by
  subst hK
  exact pe_bm PySem.F.plainAttrs_list PySem.F.slot_list_index PySem.F.type_list_index mt_index ho (pa_cons he pa_nil hs) hbase hfew hline hs hplain
end
theorem take_succ' {α : Type _} {xs : List α} {i : Nat} {x : α} (h : xs[i]? = some x) : xs.take (i + 1) = xs.take i ++ [x] := by
  rw [List.take_add_one, h]; rfl
theorem mapTake {α β : Type _} {f : α → β} {xs : List α} {i : Nat} {x : α} (h : xs[i]? = some x) : (xs.take (i + 1)).map f = (xs.take i).map f ++ [f x] := by
  rw [take_succ' h, List.map_append]; rfl
theorem filTake {α : Type _} {f : α → Bool} {xs : List α} {i : Nat} {x : α} (h : xs[i]? = some x) : (xs.take (i + 1)).filter f = (xs.take i).filter f ++ (if f x = true then [x] else []) := by
  rw [take_succ' h, List.filter_append]
  cases e : f x <;> simp [e]
theorem mapAt {α : Type _} {f : α → V} {xs : List α} {i : Nat} {v : V} (h : (xs.map f)[i]? = some v) : ∃ x, xs[i]? = some x ∧ v = f x := by
  rw [List.getElem?_map] at h
  cases e : xs[i]? with
  | none => rw [e] at h; cases h
  | some x => rw [e] at h; exact ⟨x, rfl, (Option.some.inj h).symm⟩
end MR
namespace MR
open PySem PySem.Spec PyProof.Rows L2 LamX
abbrev letters : Str := "abcdefghijklmnopqrstuvwxyz"
def NameOk (s : Str) : Prop := 1 ≤ s.length ∧ s.length ≤ 8 ∧ ∀ c ∈ s.cps.toList, c ∈ letters.cps.toList
theorem ite_tt {c A B : Prop} [Decidable c] (hc : c) (h : A) : if decide c = true then A else B := by
  rw [decide_eq_true hc]; exact h
theorem ite_ff {c A B : Prop} [Decidable c] (hc : ¬ c) (h : B) : if decide c = true then A else B := by
  rw [decide_eq_false hc]; exact h
theorem ite_nf {c A B : Prop} [Decidable c] (hc : c) (h : B) : if (!decide c) = true then A else B := by
  rw [decide_eq_true hc]; exact h
theorem allTrue (n : Nat) : ((List.replicate n true).all id) = true := by induction n with
  | zero => rfl
  | succ n ih => rw [List.replicate_succ, List.all_cons, ih]; rfl
theorem repSnoc {α : Type _} (n : Nat) (a : α) : List.replicate (n + 1) a = List.replicate n a ++ [a] := by
  rw [List.replicate_succ']
section
variable {P : Program} {w : World} {K : PySem.W.Frag} {mg : Str → Option Value} {base : Heap} {C : Addr}
def sp_is_number : Sp := fun vs H Q _ => ∃ (n lo : Int) (hi : V), vs = [.int n, .int lo, hi] ∧ lo ≤ n ∧ (hi = .non ∨ ∃ h, hi = .int h ∧ n ≤ h) ∧ Q (.bl true) H
abbrev N_is_number : List Str := ["thing", "low", "high"]
abbrev ps_is_number : List Str := ["thing", "low", "high"]
theorem sc_is_number : FnScope N_is_number ps_is_number (defScope MH.s_is_number) := ⟨rfl, rfl, rfl, by decide +kernel, rfl, by decide +kernel, by decide +kernel⟩
theorem ok_is_number (T : Txt K mg C) : Ok P w K mg base CX0 1 "is_number" ps_is_number sp_is_number := by
  refine T.d_is_number.ok sc_is_number (fun vs H Q E h => ?_) (fun _ _ _ _ _ _ us hl => match us, hl with | [_, _, _], _ => rfl)
    (fun f cdv A outer s H vs Q E hr h => ?_)
  · obtain ⟨_, _, _, rfl, _⟩ := h
    rfl
  · obtain ⟨n, lo, hi, rfl, h1, h2, k⟩ := h
    refine ⟨_, PSs.nox (pss_cons (ps_if (PW.pt (pw_or (pt_not (pt_val (pe_callB call_isi (by rfl) T.b_isinstance (by decide +kernel) (pa_cons (pv 0) (pa_cons (pe_bltn (v := .ty "int") (by rfl) T.b_int (by decide +kernel) rfl) pa_nil))))) (pw_or (pt_val (pe_callB call_isi (by rfl) T.b_isinstance (by decide +kernel) (pa_cons (pv 0) (pa_cons (pe_bltn (v := .ty "bool") (by rfl) T.b_bool (by decide +kernel) rfl) pa_nil)))) (pw_or1 (pt_cmpR op_lt (pv 0) (pv 1) (nomark _)))))) (pss_one (ps_ret pe_bl)) pss_nil)
        (pss_one (ps_ret (pe_or (pe_cmpR op_isN (pv 2) pe_non (nomark _)) (pe_one (pe_cmpR op_le (pv 0) (pv 2) (nomark _)))))))
      , ?_⟩
    refine ⟨_, rfl, _, _, _, _, true, rfl, .ty _, .base (.int n), kit_ty (by decide +kernel), _, rfl, ?_⟩
    refine ⟨_, rfl, _, _, _, _, false, rfl, .ty _, .base (.int n), kit_ty (by decide +kernel), _, rfl, ?_⟩
    refine ⟨_, rfl, _, rfl, _, _, rfl, rfl, _, rfl, ite_ff (by omega) ?_⟩
    rcases h2 with rfl | ⟨h, rfl, h3⟩
    · exact ⟨_, rfl, rfl, true, rfl, k⟩
    · refine ⟨_, rfl, rfl, false, rfl, _, rfl, _, rfl, _, _, rfl, rfl, ?_⟩
      show Q (.bl (decide (n ≤ h))) H
      rw [decide_eq_true h3]
      exact k
abbrev N_is_name : List Str := ["thing", "sign"]
abbrev ps_is_name : List Str := ["thing"]
theorem sc_is_name : FnScope N_is_name ps_is_name (defScope MH.s_is_name) := ⟨rfl, rfl, rfl, by decide +kernel, rfl, by decide +kernel, by decide +kernel⟩
def sp_is_name : Sp := fun vs H Q _ => ∃ x : Str, vs = [.str x] ∧ NameOk x ∧ ∀ H', Same H H' → Q (.bl true) H'
theorem ok_is_name (T : Txt K mg C) : Ok P w K mg base CX0 1 "is_name" ps_is_name sp_is_name := by
  refine T.d_is_name.ok sc_is_name (fun vs H Q E h => ?_) (fun _ _ _ _ _ _ us hl => match us, hl with | [_], _ => rfl)
    (fun f cdv A outer s H vs Q E hr h => ?_)
  · obtain ⟨_, rfl, _⟩ := h
    rfl
  · obtain ⟨x, rfl, ⟨h1, h2, h3⟩, k⟩ := h
    refine ⟨_, PSs.nox (pss_one (ps_ret (pe_and (pe_callB call_isi (by rfl) T.b_isinstance (by decide +kernel) (pa_cons (pv 0) (pa_cons (pe_bltn (v := .ty "str") (by rfl) T.b_str (by decide +kernel) rfl) pa_nil))) (pe_and (pe_chain op_le op_le pe_int (pe_callB call_len_str (by rfl) T.b_len PySem.boot_len (pa_cons (pv 0) pa_nil)) (pe_gc T.k_LONGEST rfl)) (pe_one (pe_callB (cr_all rfl) (by rfl) T.b_all (by decide +kernel) (pa_cons (pe_lc (own := [("sign", 1)]) (g := (gName 1)) (tt := tYes) rfl sc_is_name.nd (pi_str (pv 0)) (blkOk_by (own := [("sign", 1)]) (N := N_is_name) (sc := defScope MH.s_is_name) (by decide +kernel)) (fun _ _ _ _ _ => (pg_name (i := 1) sc_is_name.nd rfl (Or.inl rfl))) (fun _ _ _ _ _ => pts_nil) (fun _ _ _ _ _ => (pe_cmpR op_in_sign (pv 1) (pe_gc T.k_LETTERS rfl) (by rfl)))) pa_nil)))))))
      , ?_⟩
    refine ⟨_, rfl, _, _, _, _, true, rfl, .ty _, .base (.str x), kit_ty (by decide +kernel), true, rfl, ?_⟩
    refine ⟨_, rfl, _, rfl, by have := szl; omega, _, _, rfl, rfl, _, rfl, ite_tt (by omega) ⟨_, _, rfl, rfl, _, rfl, ite_tt (by omega) ?_⟩⟩
    refine ⟨_, rfl, _, rfl, fun D hD => ?_⟩
    have hn : x.cps.size ≤ 8 := h2
    refine lc_F (walk_str (z := x)) (fun i => (List.replicate i true).map V.bl) hD rfl (fun _ _ => trivial) (fun i v H1 H1' hi p y => ?_) (fun H1 s1 e => ?_)
    · obtain ⟨rfl, c, hc, rfl⟩ := y
      refine ⟨rfl, _, rfl, c, _, rfl, rfl, putF p hD (Same.refl _) (by omega) ?_⟩
      have hm : c ∈ letters.cps.toList := h3 c (by
        have := Array.mem_of_getElem? hc
        simpa using this)
      rw [decide_eq_true hm, repSnoc, List.map_append]
      rfl
    · exact ⟨_, _, rfl, SqL.of e, by rw [allTrue]; exact k _ s1⟩
abbrev N_is_row : List Str := ["thing", "low", "high"]
abbrev ps_is_row : List Str := ["thing", "low", "high"]
theorem sc_is_row : FnScope N_is_row ps_is_row (defScope MH.s_is_row) := ⟨rfl, rfl, rfl, by decide +kernel, rfl, by decide +kernel, by decide +kernel⟩
def sp_is_row : Sp := fun vs H Q _ => ∃ (a : Addr) (xs : List V) (lo : Int) (hi : V), vs = [.ref a, .int lo, hi] ∧ (H a = some (.lst xs) ∨ H a = some (.tup xs)) ∧ lo ≤ (xs.length : Int) ∧ (hi = .non ∨ ∃ h, hi = .int h ∧ (xs.length : Int) ≤ h) ∧ ∀ H', Same H H' → Q (.bl true) H'
theorem ok_is_row (T : Txt K mg C) : Ok P w K mg base CX0 2 "is_row" ps_is_row sp_is_row := by
  refine T.d_is_row.ok sc_is_row (fun vs H Q E h => ?_) (fun _ _ _ _ _ _ us hl => match us, hl with | [_, _, _], _ => rfl)
    (fun f cdv A outer s H vs Q E hr h => ?_)
  · obtain ⟨_, _, _, _, rfl, _⟩ := h
    rfl
  · obtain ⟨a, xs, lo, hi, rfl, h1, h2, h3, k⟩ := h
    refine ⟨_, PSs.nox (pss_one (ps_ret (pe_and (pe_callB call_isiT (by rfl) T.b_isinstance (by decide +kernel) (pa_cons (pv 0) (pa_cons (pe_tup (pa_cons (pe_bltn (v := .ty "list") (by rfl) T.b_list (by decide +kernel) rfl) (pa_cons (pe_bltn (v := .ty "tuple") (by rfl) T.b_tuple (by decide +kernel) rfl) pa_nil))) pa_nil))) (pe_one (pe_fn (ok_is_number T) (hr.mono (by decide)) (by rfl) (pa_cons (pe_callB call_len_seq (by rfl) T.b_len PySem.boot_len (pa_cons (pv 0) pa_nil)) (pa_cons (pv 1) (pa_cons (pv 2) pa_nil))))))))
      , ?_⟩
    refine ⟨_, rfl, by show 2 ≤ sizeLine; have := szl; omega, fun t ht => ?_⟩
    have s1 : Same H (upd H t (.tup [.ty "list", .ty "tuple"])) := same_new ht
    have fin : ∀ H', Same H H' → Q (.bl true) H' := k
    have rest : (H a = some (.lst xs) ∨ H a = some (.tup xs)) → ∃ s : String, TyX K (upd H t (.tup [.ty "list", .ty "tuple"])) (.ref a) (.type s) ∧ PySem.W.kitAny K (.type s) [.type "list", .type "tuple"] = some true := by
      rintro (h | h)
      · exact ⟨"list", .base (.lst (s1 _ _ h)), kitAny_cons (kit_ty (r := true) (by decide +kernel)) (fun z => by cases z) (fun _ => rfl)⟩
      · exact ⟨"tuple", .base (.tup (s1 _ _ h)), kitAny_cons (kit_ty (r := false) (by decide +kernel)) (fun _ => kitAny_cons (kit_ty (r := true) (by decide +kernel)) (fun z => by cases z) (fun _ => rfl)) (fun z => by cases z)⟩
    obtain ⟨ty, t1, t2⟩ := rest h1
    refine ⟨.ref a, t, _, .type ty, [.type "list", .type "tuple"], true, rfl, upd_same, .cons (.ty _) (.cons (.ty _) .nil), t1, t2, true, rfl, ?_⟩
    refine ⟨_, rfl, a, xs, rfl, ?_, _, rfl, _, rfl, _, _, _, rfl, h2, h3, k _ s1⟩
    rcases h1 with h1 | h1
    · exact .inl (SqL.of (s1 _ _ h1))
    · exact .inr (SqT.of (s1 _ _ h1))
abbrev N_are_names : List Str := ["thing", "low", "high", "name"]
abbrev ps_are_names : List Str := ["thing", "low", "high"]
theorem sc_are_names : FnScope N_are_names ps_are_names (defScope MH.s_are_names) := ⟨rfl, rfl, rfl, by decide +kernel, rfl, by decide +kernel, by decide +kernel⟩
def sp_are_names : Sp := fun vs H Q _ => ∃ (a : Addr) (xs : List Str) (lo hi : Int), vs = [.ref a, .int lo, .int hi] ∧ H a = some (.tup (xs.map V.str)) ∧ lo ≤ (xs.length : Int) ∧ (xs.length : Int) ≤ hi ∧ xs.length ≤ 20 ∧ (∀ x ∈ xs, NameOk x) ∧ xs.Nodup ∧ ∀ H', Same H H' → Q (.bl true) H'
theorem ok_are_names (T : Txt K mg C) : Ok P w K mg base CX0 2 "are_names" ps_are_names sp_are_names := by
  refine T.d_are_names.ok sc_are_names (fun vs H Q E h => ?_) (fun _ _ _ _ _ _ us hl => match us, hl with | [_, _, _], _ => rfl)
    (fun f cdv A outer s H vs Q E hr h => ?_)
  · obtain ⟨_, _, _, _, rfl, _⟩ := h
    rfl
  · obtain ⟨a, xs, lo, hi, rfl, h1, h2, h3, h4, h5, h6, k⟩ := h
    refine ⟨_, PSs.nox (pss_cons (ps_if (PW.pt (pw_or (pt_not (pt_val (pe_callB call_isi (by rfl) T.b_isinstance (by decide +kernel) (pa_cons (pv 0) (pa_cons (pe_bltn (v := .ty "tuple") (by rfl) T.b_tuple (by decide +kernel) rfl) pa_nil))))) (pw_or1 (pt_not (pt_chain op_le op_le (pv 1) (pe_callB call_len_seq (by rfl) T.b_len PySem.boot_len (pa_cons (pv 0) pa_nil)) (pv 2)))))) (pss_one (ps_ret pe_bl)) pss_nil)
        (pss_one (ps_ret (pe_and (pe_callB (cr_all rfl) (by rfl) T.b_all (by decide +kernel) (pa_cons (pe_lc (own := [("name", 3)]) (g := (gName 3)) (tt := tYes) rfl sc_are_names.nd (pi_tup (pv 0)) (blkOk_by (own := [("name", 3)]) (N := N_are_names) (sc := defScope MH.s_are_names) (by decide +kernel)) (fun _ _ _ _ _ => (pg_name (i := 3) sc_are_names.nd rfl (Or.inl rfl))) (fun _ _ _ _ _ => pts_nil) (fun _ _ _ _ _ => (pe_fn (ok_is_name T) (hr.mono (by decide)) (by rfl) (pa_cons (pv 3) pa_nil)))) pa_nil)) (pe_one (pe_cmpR op_eq (pe_lenSetS (by rfl) T.b_len (by rfl) T.b_set (pv 0)) (pe_callB call_len_seq (by rfl) T.b_len PySem.boot_len (pa_cons (pv 0) pa_nil)) (nomark _)))))))
      , ?_⟩
    refine ⟨_, rfl, _, _, _, _, true, rfl, .ty _, .base (.tup h1), kit_ty (by decide +kernel), _, rfl, ?_⟩
    have hl : (xs.map V.str).length = xs.length := List.length_map _
    refine ⟨_, rfl, _, rfl, a, _, rfl, .inr (SqT.of h1), _, _, rfl, rfl, _, rfl, ite_tt (by omega) ⟨_, rfl, _, _, rfl, rfl, _, rfl, ?_⟩⟩
    refine ite_nf (by omega) ?_
    refine ⟨_, rfl, _, rfl, ⟨_, SqT.of h1⟩, fun D hD => ?_⟩
    refine lc_F walk_tup (fun i => (List.replicate i true).map V.bl) hD rfl (fun _ s1 => SqT.of (s1 _ _ h1)) (fun i v H1 H1' hi p y => ?_) (fun H1 s1 e => ?_)
    · obtain ⟨rfl, y⟩ := y
      obtain ⟨x, hx, rfl⟩ := mapAt y
      refine ⟨rfl, _, rfl, x, rfl, h5 x (List.mem_of_getElem? hx), fun H2 s2 => putF p hD s2 (by omega) ?_⟩
      rw [repSnoc, List.map_append]
      rfl
    · refine ⟨_, _, rfl, SqL.of e, true, by rw [allTrue], ?_⟩
      have h1' := s1 _ _ h1
      refine ⟨_, rfl, a, xs, rfl, .inr (SqT.of h1'), h6, by omega, ?_⟩
      refine ⟨_, rfl, a, _, rfl, .inr (SqT.of h1'), rfl, ?_⟩
      show Q (.bl (decide (V.int (xs.length : Nat) = V.int (xs.map V.str).length))) H1
      rw [decide_eq_true (by rw [hl])]
      exact k _ s1
abbrev N_are_points : List Str := ["thing", "many", "n"]
abbrev ps_are_points : List Str := ["thing", "many"]
theorem sc_are_points : FnScope N_are_points ps_are_points (defScope MH.s_are_points) := ⟨rfl, rfl, rfl, by decide +kernel, rfl, by decide +kernel, by decide +kernel⟩
def sp_are_points : Sp := fun vs H Q _ => ∃ (a : Addr) (ps : List Int) (m : Int), vs = [.ref a, .int m] ∧ H a = some (.tup (ps.map V.int)) ∧ (ps.length : Int) = m ∧ ps.length ≤ 20 ∧ (∀ x ∈ ps, 0 ≤ x ∧ x ≤ 4) ∧ ∀ H', Same H H' → Q (.bl true) H'
theorem ok_are_points (T : Txt K mg C) : Ok P w K mg base CX0 2 "are_points" ps_are_points sp_are_points := by
  refine T.d_are_points.ok sc_are_points (fun vs H Q E h => ?_) (fun _ _ _ _ _ _ us hl => match us, hl with | [_, _], _ => rfl)
    (fun f cdv A outer s H vs Q E hr h => ?_)
  · obtain ⟨_, _, _, rfl, _⟩ := h
    rfl
  · obtain ⟨a, xs, m, rfl, h1, h2, h3, h4, k⟩ := h
    have hl : (xs.map V.int).length = xs.length := List.length_map _
    refine ⟨_, PSs.nox (pss_one (ps_ret (pe_and (pe_callB call_isi (by rfl) T.b_isinstance (by decide +kernel) (pa_cons (pv 0) (pa_cons (pe_bltn (v := .ty "tuple") (by rfl) T.b_tuple (by decide +kernel) rfl) pa_nil))) (pe_and (pe_cmpR op_eq (pe_callB call_len_seq (by rfl) T.b_len PySem.boot_len (pa_cons (pv 0) pa_nil)) (pv 1) (nomark _)) (pe_one (pe_callB (cr_all rfl) (by rfl) T.b_all (by decide +kernel) (pa_cons (pe_lc (own := [("n", 2)]) (g := (gName 2)) (tt := tYes) rfl sc_are_points.nd (pi_tup (pv 0)) (blkOk_by (own := [("n", 2)]) (N := N_are_points) (sc := defScope MH.s_are_points) (by decide +kernel)) (fun _ _ _ _ _ => (pg_name (i := 2) sc_are_points.nd rfl (Or.inl rfl))) (fun _ _ _ _ _ => pts_nil) (fun _ _ _ _ _ => (pe_fn (ok_is_number T) (hr.mono (by decide)) (by rfl) (pa_cons (pv 2) (pa_cons pe_int (pa_cons (pe_gc T.k_MOST_POINTS rfl) pa_nil)))))) pa_nil)))))))
      , ?_⟩
    refine ⟨_, rfl, _, _, _, _, true, rfl, .ty _, .base (.tup h1), kit_ty (by decide +kernel), _, rfl, ?_⟩
    refine ⟨_, rfl, a, _, rfl, .inr (SqT.of h1), _, rfl, rfl, _, rfl, ite_tt (by rw [hl, h2]) ?_⟩
    refine ⟨_, rfl, _, rfl, ⟨_, SqT.of h1⟩, fun D hD => ?_⟩
    refine lc_F walk_tup (fun i => (List.replicate i true).map V.bl) hD rfl (fun _ s1 => SqT.of (s1 _ _ h1)) (fun i v H1 H1' hi p y => ?_) (fun H1 s1 e => ?_)
    · obtain ⟨rfl, y⟩ := y
      obtain ⟨x, hx, rfl⟩ := mapAt y
      obtain ⟨h5, h6⟩ := h4 x (List.mem_of_getElem? hx)
      refine ⟨rfl, _, rfl, x, 0, _, rfl, h5, .inr ⟨4, rfl, h6⟩, putF p hD (Same.refl _) (by omega) ?_⟩
      rw [repSnoc, List.map_append]
      rfl
    · exact ⟨_, _, rfl, SqL.of e, by rw [allTrue]; exact k _ s1⟩
abbrev N_is_result : List Str := ["thing", "game", "day", "names", "points"]
abbrev ps_is_result : List Str := ["thing"]
theorem sc_is_result : FnScope N_is_result ps_is_result (defScope MH.s_is_result) := ⟨rfl, rfl, rfl, by decide +kernel, rfl, by decide +kernel, by decide +kernel⟩
/-- a result as it is told -/
structure Res where
  game : Str
  day : Int
  names : List Str
  pts : List Int
def resD (r : Res) : PyData := .tuple [.str r.game, .int r.day, .tuple (r.names.map PyData.str), .tuple (r.pts.map PyData.int)]
def ResOk (r : Res) : Prop := NameOk r.game ∧ 0 ≤ r.day ∧ r.day ≤ 400 ∧ 2 ≤ r.names.length ∧ r.names.length ≤ 4 ∧ (∀ x ∈ r.names, NameOk x) ∧ r.names.Nodup ∧ r.pts.length = r.names.length ∧ ∀ x ∈ r.pts, 0 ≤ x ∧ x ≤ 4
theorem da_res {L : List Addr} {H : Hp} {v : V} {r : Res} (h : Da L H v (resD r)) : ∃ a b c, v = .ref a ∧ H a = some (.tup [.str r.game, .int r.day, .ref b, .ref c]) ∧ a ∉ L ∧ H b = some (.tup (r.names.map V.str)) ∧ b ∉ L ∧ H c = some (.tup (r.pts.map V.int)) ∧ c ∉ L := by
  obtain ⟨a, xs, rfl, h, n, d⟩ := h.tuple
  cases d with
  | cons d1 d =>
  cases d with
  | cons d2 d =>
  cases d with
  | cons d3 d =>
  cases d with
  | cons d4 d =>
  cases d
  cases d1
  cases d2
  obtain ⟨b, ys, rfl, h3, n3, e3⟩ := d3.tuple
  obtain ⟨c, zs, rfl, h4, n4, e4⟩ := d4.tuple
  rw [daAll_strs e3] at h3
  rw [daAll_ints e4] at h4
  exact ⟨a, b, c, rfl, h, n, h3, n3, h4, n4⟩
theorem da_res' {L : List Addr} {H : Hp} {a b c : Addr} {r : Res} (h : H a = some (.tup [.str r.game, .int r.day, .ref b, .ref c])) (n : a ∉ L) (hb : H b = some (.tup (r.names.map V.str))) (nb : b ∉ L) (hc : H c = some (.tup (r.pts.map V.int))) (nc : c ∉ L) : Da L H (.ref a) (resD r) :=
  .tup h n (.cons (.str _) (.cons (.int _) (.cons (.tup hb nb (daStrs _)) (.cons (.tup hc nc (daInts _)) .nil))))
def sp_is_result : Sp := fun vs H Q _ => ∃ (v : V) (r : Res), vs = [v] ∧ Da [] H v (resD r) ∧ ResOk r ∧ ∀ H', Same H H' → Q (.bl true) H'
theorem ok_is_result (T : Txt K mg C) : Ok P w K mg base CX0 3 "is_result" ps_is_result sp_is_result := by
  refine T.d_is_result.ok sc_is_result (fun vs H Q E h => ?_) (fun _ _ _ _ _ _ us hl => match us, hl with | [_], _ => rfl)
    (fun f cdv A outer s H vs Q E hr h => ?_)
  · obtain ⟨_, _, rfl, _⟩ := h
    rfl
  · obtain ⟨v, r, rfl, hd, ⟨o1, o2, o3, o4, o5, o6, o7, o8, o9⟩, k⟩ := h
    obtain ⟨a, b, c, rfl, h1, _, h2, _, h3, _⟩ := da_res hd
    refine ⟨_, PSs.nox (pss_cons (ps_if (PW.pt (pw_or (pt_not (pt_val (pe_callB call_isi (by rfl) T.b_isinstance (by decide +kernel) (pa_cons (pv 0) (pa_cons (pe_bltn (v := .ty "tuple") (by rfl) T.b_tuple (by decide +kernel) rfl) pa_nil))))) (pw_or1 (pt_cmpR op_ne (pe_callB call_len_seq (by rfl) T.b_len PySem.boot_len (pa_cons (pv 0) pa_nil)) pe_int (nomark _))))) (pss_one (ps_ret pe_bl)) pss_nil)
        (pss_cons (ps_asg (pv 0) (pg_tup rfl (pgs_cons (pg_name (i := 1) sc_is_result.nd rfl (Or.inl rfl)) (pgs_cons (pg_name (i := 2) sc_is_result.nd rfl (Or.inl rfl)) (pgs_cons (pg_name (i := 3) sc_is_result.nd rfl (Or.inl rfl)) (pgs_cons (pg_name (i := 4) sc_is_result.nd rfl (Or.inl rfl)) pgs_nil))))))
        (pss_cons (ps_if (PW.pt (pw_or (pt_not (pt_val (pe_fn (ok_is_name T) (hr.mono (by decide)) (by rfl) (pa_cons (pv 1) pa_nil)))) (pw_or (pt_not (pt_val (pe_fn (ok_is_number T) (hr.mono (by decide)) (by rfl) (pa_cons (pv 2) (pa_cons pe_int (pa_cons (pe_gc T.k_MOST_DAY rfl) pa_nil)))))) (pw_or1 (pt_not (pt_val (pe_fn (ok_are_names T) (hr.mono (by decide)) (by rfl) (pa_cons (pv 3) (pa_cons pe_int (pa_cons pe_int pa_nil)))))))))) (pss_one (ps_ret pe_bl)) pss_nil)
        (pss_one (ps_ret (pe_fn (ok_are_points T) (hr.mono (by decide)) (by rfl) (pa_cons (pv 4) (pa_cons (pe_callB call_len_seq (by rfl) T.b_len PySem.boot_len (pa_cons (pv 3) pa_nil)) pa_nil))))))))
      , ?_⟩
    refine ⟨_, rfl, _, _, _, _, true, rfl, .ty _, .base (.tup h1), kit_ty (by decide +kernel), _, rfl, ?_⟩
    refine ⟨_, rfl, a, _, rfl, .inr (SqT.of h1), rfl, _, rfl, ?_⟩
    refine ite_nf rfl ?_
    refine ⟨_, rfl, a, _, rfl, SqT.of h1, rfl, _, _, rfl, _, _, rfl, _, _, rfl, _, _, rfl, rfl, ?_⟩
    refine ⟨_, rfl, r.game, rfl, o1, fun H1 s1 => ⟨_, rfl, ?_⟩⟩
    refine ⟨_, rfl, r.day, 0, _, rfl, o2, .inr ⟨400, rfl, o3⟩, _, rfl, ?_⟩
    refine ⟨_, rfl, b, r.names, 2, 4, rfl, s1 _ _ h2, by omega, by omega, by omega, o6, o7, fun H2 s2 => ⟨_, rfl, ?_⟩⟩
    have s12 := s1.trans s2
    refine ⟨_, rfl, _, rfl, b, _, rfl, .inr (SqT.of (s12 _ _ h2)), c, r.pts, _, rfl, s12 _ _ h3, by simp [o8], by omega, o9, fun H3 s3 => k _ (s12.trans s3)⟩
end
end MR
namespace MR
open PySem PySem.Spec PyProof.Rows L2 LamX
/-- a dict of the names in their order -/
def tab (names : List Str) (f : Str → Int) : List (Key × V) := names.map fun x => (Sum.inr x, V.int (f x))
theorem tab_val {names : List Str} {f : Str → Int} {x : Str} (h : x ∈ names) : valV (tab names f) (Sum.inr x) = some (.int (f x)) := by
  unfold valV tab
  induction names with
  | nil => cases h
  | cons y ys ih =>
    rw [List.map_cons, List.find?_cons]
    by_cases e : y = x
    · subst e
      simp
    · have : decide ((Sum.inr y : Key) = Sum.inr x) = false := by simp [e]
      rw [this]
      exact ih (by simpa [Ne.symm e] using h)
theorem eqV_str {x y : Str} : eqV (.str x) (.str y) = decide (x = y) := by
  show (x == y) = decide (x = y)
  by_cases h : x = y
  · subst h; simp
  · simp [h]
theorem inV_strs {x : Str} {xs : List Str} : inV (.str x) (xs.map V.str) = decide (x ∈ xs) := by
  unfold inV
  induction xs with
  | nil => simp
  | cons y ys ih =>
    rw [List.map_cons, List.any_cons, ih, eqV_str]
    by_cases e : y = x
    · subst e; simp
    · simp [e, Ne.symm e]
theorem flat_strs (xs : List Str) : (xs.map V.str).all flatV = true := by
  rw [List.all_eq_true]
  intro v hv
  obtain ⟨x, _, rfl⟩ := List.mem_map.mp hv
  rfl
section
variable {P : Program} {w : World} {K : PySem.W.Frag} {mg : Str → Option Value} {base : Heap} {C : Addr}
abbrev N_are_entrants : List Str := ["thing", "name"]
abbrev ps_are_entrants : List Str := ["thing"]
theorem sc_are_entrants : FnScope N_are_entrants ps_are_entrants (defScope MH.s_are_entrants) := ⟨rfl, rfl, rfl, by decide +kernel, rfl, by decide +kernel, by decide +kernel⟩
def sp_are_entrants : Sp := fun vs H Q _ => ∃ (a : Addr) (xs : List Str), vs = [.ref a] ∧ (H a = some (.lst (xs.map V.str)) ∨ H a = some (.tup (xs.map V.str))) ∧ 2 ≤ xs.length ∧ xs.length ≤ 10 ∧ (∀ x ∈ xs, NameOk x) ∧ xs.Nodup ∧ ∀ H', Same H H' → Q (.bl true) H'
theorem ok_are_entrants (T : Txt K mg C) : Ok P w K mg base CX0 3 "are_entrants" ps_are_entrants sp_are_entrants := by
  refine T.d_are_entrants.ok sc_are_entrants (fun vs H Q E h => ?_) (fun _ _ _ _ _ _ us hl => match us, hl with | [_], _ => rfl)
    (fun f cdv A outer s H vs Q E hr h => ?_)
  · obtain ⟨_, _, rfl, _⟩ := h
    rfl
  · obtain ⟨a, xs, rfl, h1, h2, h3, h4, h5, k⟩ := h
    have hl : (xs.map V.str).length = xs.length := List.length_map _
    rcases h1 with h1 | h1
    · refine ⟨_, PSs.nox (pss_cons (ps_if (PW.pt (pw_or (pt_not (pt_val (pe_fn (ok_is_row T) (hr.mono (by decide)) (by rfl) (pa_cons (pv 0) (pa_cons (pe_gc T.k_LEAST_NAMES rfl) (pa_cons (pe_gc T.k_MOST_NAMES rfl) pa_nil)))))) (pw_or1 (pt_not (pt_val (pe_callB (cr_all rfl) (by rfl) T.b_all (by decide +kernel) (pa_cons (pe_lc (own := [("name", 1)]) (g := (gName 1)) (tt := tYes) rfl sc_are_entrants.nd (pi_list (pv 0)) (blkOk_by (own := [("name", 1)]) (N := N_are_entrants) (sc := defScope MH.s_are_entrants) (by decide +kernel)) (fun _ _ _ _ _ => (pg_name (i := 1) sc_are_entrants.nd rfl (Or.inl rfl))) (fun _ _ _ _ _ => pts_nil) (fun _ _ _ _ _ => (pe_fn (ok_is_name T) (hr.mono (by decide)) (by rfl) (pa_cons (pv 1) pa_nil)))) pa_nil))))))) (pss_one (ps_ret pe_bl)) pss_nil)
        (pss_one (ps_ret (pe_cmpR op_eq (pe_lenSetS (by rfl) T.b_len (by rfl) T.b_set (pv 0)) (pe_callB call_len_seq (by rfl) T.b_len PySem.boot_len (pa_cons (pv 0) pa_nil)) (nomark _)))))
        , ?_⟩
      refine ⟨_, rfl, a, _, 2, .int 10, rfl, .inl h1, by omega, .inr ⟨10, rfl, by omega⟩, fun H1 s1 => ⟨_, rfl, ?_⟩⟩
      refine ⟨_, rfl, _, rfl, ⟨_, SqL.of (s1 _ _ h1)⟩, fun D hD => ?_⟩
      refine lc_F walk_list (fun i => (List.replicate i true).map V.bl) hD rfl (fun _ s2 => SqL.of (s2 _ _ (s1 _ _ h1))) (fun i v H2 H2' hi p y => ?_) (fun H2 s2 e => ?_)
      · obtain ⟨rfl, y⟩ := y
        obtain ⟨x, hx, rfl⟩ := mapAt y
        refine ⟨rfl, _, rfl, x, rfl, h4 x (List.mem_of_getElem? hx), fun H3 s3 => putF p hD s3 (by omega) ?_⟩
        rw [repSnoc, List.map_append]
        rfl
      · have h1' := s2 _ _ (s1 _ _ h1)
        refine ⟨_, _, rfl, SqL.of e, true, by rw [allTrue], ?_⟩
        refine ⟨_, rfl, a, xs, rfl, .inl (SqL.of h1'), h5, by omega, ?_⟩
        refine ⟨_, rfl, a, _, rfl, .inl (SqL.of h1'), rfl, ?_⟩
        show Q (.bl (decide (V.int (xs.length : Nat) = V.int (xs.map V.str).length))) H2
        rw [decide_eq_true (by rw [hl])]
        exact k _ (s1.trans s2)
    · refine ⟨_, PSs.nox (pss_cons (ps_if (PW.pt (pw_or (pt_not (pt_val (pe_fn (ok_is_row T) (hr.mono (by decide)) (by rfl) (pa_cons (pv 0) (pa_cons (pe_gc T.k_LEAST_NAMES rfl) (pa_cons (pe_gc T.k_MOST_NAMES rfl) pa_nil)))))) (pw_or1 (pt_not (pt_val (pe_callB (cr_all rfl) (by rfl) T.b_all (by decide +kernel) (pa_cons (pe_lc (own := [("name", 1)]) (g := (gName 1)) (tt := tYes) rfl sc_are_entrants.nd (pi_tup (pv 0)) (blkOk_by (own := [("name", 1)]) (N := N_are_entrants) (sc := defScope MH.s_are_entrants) (by decide +kernel)) (fun _ _ _ _ _ => (pg_name (i := 1) sc_are_entrants.nd rfl (Or.inl rfl))) (fun _ _ _ _ _ => pts_nil) (fun _ _ _ _ _ => (pe_fn (ok_is_name T) (hr.mono (by decide)) (by rfl) (pa_cons (pv 1) pa_nil)))) pa_nil))))))) (pss_one (ps_ret pe_bl)) pss_nil)
        (pss_one (ps_ret (pe_cmpR op_eq (pe_lenSetS (by rfl) T.b_len (by rfl) T.b_set (pv 0)) (pe_callB call_len_seq (by rfl) T.b_len PySem.boot_len (pa_cons (pv 0) pa_nil)) (nomark _)))))
        , ?_⟩
      refine ⟨_, rfl, a, _, 2, .int 10, rfl, .inr h1, by omega, .inr ⟨10, rfl, by omega⟩, fun H1 s1 => ⟨_, rfl, ?_⟩⟩
      refine ⟨_, rfl, _, rfl, ⟨_, SqT.of (s1 _ _ h1)⟩, fun D hD => ?_⟩
      refine lc_F walk_tup (fun i => (List.replicate i true).map V.bl) hD rfl (fun _ s2 => SqT.of (s2 _ _ (s1 _ _ h1))) (fun i v H2 H2' hi p y => ?_) (fun H2 s2 e => ?_)
      · obtain ⟨rfl, y⟩ := y
        obtain ⟨x, hx, rfl⟩ := mapAt y
        refine ⟨rfl, _, rfl, x, rfl, h4 x (List.mem_of_getElem? hx), fun H3 s3 => putF p hD s3 (by omega) ?_⟩
        rw [repSnoc, List.map_append]
        rfl
      · have h1' := s2 _ _ (s1 _ _ h1)
        refine ⟨_, _, rfl, SqL.of e, true, by rw [allTrue], ?_⟩
        refine ⟨_, rfl, a, xs, rfl, .inr (SqT.of h1'), h5, by omega, ?_⟩
        refine ⟨_, rfl, a, _, rfl, .inr (SqT.of h1'), rfl, ?_⟩
        show Q (.bl (decide (V.int (xs.length : Nat) = V.int (xs.map V.str).length))) H2
        rw [decide_eq_true (by rw [hl])]
        exact k _ (s1.trans s2)
abbrev N_is_one_of : List Str := ["thing", "some"]
abbrev ps_is_one_of : List Str := ["thing", "some"]
theorem sc_is_one_of : FnScope N_is_one_of ps_is_one_of (defScope MH.s_is_one_of) := ⟨rfl, rfl, rfl, by decide +kernel, rfl, by decide +kernel, by decide +kernel⟩
def sp_is_one_of : Sp := fun vs H Q _ => ∃ (x : Str) (a : Addr) (xs : List Str), vs = [.str x, .ref a] ∧ H a = some (.lst (xs.map V.str)) ∧ NameOk x ∧ x ∈ xs ∧ ∀ H', Same H H' → Q (.bl true) H'
theorem ok_is_one_of (T : Txt K mg C) : Ok P w K mg base CX0 2 "is_one_of" ps_is_one_of sp_is_one_of := by
  refine T.d_is_one_of.ok sc_is_one_of (fun vs H Q E h => ?_) (fun _ _ _ _ _ _ us hl => match us, hl with | [_, _], _ => rfl)
    (fun f cdv A outer s H vs Q E hr h => ?_)
  · obtain ⟨_, _, _, rfl, _⟩ := h
    rfl
  · obtain ⟨x, a, xs, rfl, h1, h2, h3, k⟩ := h
    refine ⟨_, PSs.nox (pss_one (ps_ret (pe_and (pe_fn (ok_is_name T) (hr.mono (by decide)) (by rfl) (pa_cons (pv 0) pa_nil)) (pe_one (pe_cmpR op_in_seq (pv 0) (pv 1) (by rfl))))))
      , ?_⟩
    refine ⟨_, rfl, x, rfl, h2, fun H1 s1 => ⟨_, rfl, _, rfl, _, rfl, a, _, rfl, .inl (SqL.of (s1 _ _ h1)), rfl, flat_strs _, ?_⟩⟩
    show Q (.bl (inV (.str x) (xs.map V.str))) H1
    rw [inV_strs, decide_eq_true h3]
    exact k _ s1
abbrev N_are_sums : List Str := ["thing", "some", "name"]
abbrev ps_are_sums : List Str := ["thing", "some"]
theorem sc_are_sums : FnScope N_are_sums ps_are_sums (defScope MH.s_are_sums) := ⟨rfl, rfl, rfl, by decide +kernel, rfl, by decide +kernel, by decide +kernel⟩
def sp_are_sums : Sp := fun vs H Q _ => ∃ (d a : Addr) (xs : List Str) (f : Str → Int), vs = [.ref d, .ref a] ∧ H d = some (.dK (tab xs f)) ∧ H a = some (.lst (xs.map V.str)) ∧ xs.length ≤ 20 ∧ (∀ x ∈ xs, NameOk x) ∧ (∀ x ∈ xs, 0 ≤ f x ∧ f x ≤ 100) ∧ ∀ H', Same H H' → Q (.bl true) H'
theorem ok_are_sums (T : Txt K mg C) : Ok P w K mg base CX0 3 "are_sums" ps_are_sums sp_are_sums := by
  refine T.d_are_sums.ok sc_are_sums (fun vs H Q E h => ?_) (fun _ _ _ _ _ _ us hl => match us, hl with | [_, _], _ => rfl)
    (fun f cdv A outer s H vs Q E hr h => ?_)
  · obtain ⟨_, _, _, _, rfl, _⟩ := h
    rfl
  · obtain ⟨d, a, xs, f, rfl, h1, h2, h3, h4, h5, k⟩ := h
    have hl : (tab xs f).length = xs.length := List.length_map _
    refine ⟨_, PSs.nox (pss_cons (ps_if (pt_not (pt_val (pe_callB call_isi (by rfl) T.b_isinstance (by decide +kernel) (pa_cons (pv 0) (pa_cons (pe_bltn (v := .ty "dict") (by rfl) T.b_dict (by decide +kernel) rfl) pa_nil))))) (pss_one (ps_ret pe_bl)) pss_nil)
        (pss_one (ps_ret (pe_callB (cr_all rfl) (by rfl) T.b_all (by decide +kernel) (pa_cons (pe_lock (pe_lc (own := [("name", 2)]) (g := (gName 2)) (tt := tYes) rfl sc_are_sums.nd (pi_keys (pv 0)) (blkOk_by (own := [("name", 2)]) (N := N_are_sums) (sc := defScope MH.s_are_sums) (by decide +kernel)) (fun _ _ _ _ _ => (pg_name (i := 2) sc_are_sums.nd rfl (Or.inl rfl))) (fun _ _ _ _ _ => pts_nil) (fun _ _ _ _ _ => (pe_and (pe_fn (ok_is_one_of T) (hr.mono (by decide)) (by rfl) (pa_cons (pv 2) (pa_cons (pv 1) pa_nil))) (pe_one (pe_fn (ok_is_number T) (hr.mono (by decide)) (by rfl) (pa_cons (pe_dget (hu_of hr) (pv 0) (pv 2) (fun _ _ => rfl)) (pa_cons pe_int (pa_cons (pe_gc T.k_MOST_SUM rfl) pa_nil))))))))) pa_nil)))))
      , ?_⟩
    refine ⟨_, rfl, _, _, _, _, true, rfl, .ty _, .base (.dK h1), kit_ty (by decide +kernel), _, rfl, ?_⟩
    have nda : a ≠ d := ne_of h2 h1 (by intro z; cases z)
    refine ⟨d, _, h1, trivial, fun od => ?_⟩
    refine ⟨_, rfl, d, od, rfl, .inl ⟨_, upd_same, fun D hD => ?_⟩⟩
    have hDd : D ≠ d := fun z => by rw [z, upd_same] at hD; cases hD
    refine lc_F walk_keys (fun i => (List.replicate i true).map V.bl) hD rfl (fun _ s1 => s1 _ _ upd_same) (fun i v H1 H1' hi p y => ?_) (fun H1 s1 e => ?_)
    · obtain ⟨rfl, kk, vv, hkv, rfl⟩ := y
      have hkv' : (xs.map fun x => ((Sum.inr x : Key), V.int (f x)))[i]? = some (kk, vv) := hkv
      rw [List.getElem?_map] at hkv'
      obtain ⟨x, hx, hxe⟩ := Option.map_eq_some_iff.mp hkv'
      cases hxe
      have hm := List.mem_of_getElem? hx
      have ha1 : H1' a = some (.lst (xs.map V.str)) := p.1 _ _ (by rw [upd_ne nda]; exact h2)
      have hd1 : H1' d = some (.frz od (.dK (tab xs f))) := p.1 _ _ upd_same
      refine ⟨rfl, _, rfl, _, rfl, x, a, xs, rfl, ha1, h4 x hm, hm, fun H2 s2 => ⟨_, rfl, ?_⟩⟩
      obtain ⟨h6, h7⟩ := h5 x hm
      refine ⟨_, rfl, _, rfl, d, .int (f x), rfl, ?_, f x, 0, .int 100, rfl, h6, .inr ⟨100, rfl, h7⟩, putF p hD s2 (by omega) ?_⟩
      · exact .inl ⟨tab xs f, Sum.inr x, .inr ⟨od, s2 _ _ hd1⟩, rfl, (tab_val hm).symm⟩
      · rw [repSnoc, List.map_append]
        rfl
    · refine ⟨s1 _ _ upd_same, D, _, rfl, SqL.of (by rw [upd_ne hDd]; exact e), ?_⟩
      rw [allTrue]
      refine k _ fun b o q => ?_
      by_cases hb : b = d
      · subst hb
        rw [upd_same, ← q, h1]
      · rw [upd_ne hb]
        exact s1 _ _ (by rw [upd_ne hb]; exact q)
abbrev N_is_met : List Str := ["thing", "some", "name"]
abbrev ps_is_met : List Str := ["thing", "some"]
theorem sc_is_met : FnScope N_is_met ps_is_met (defScope MH.s_is_met) := ⟨rfl, rfl, rfl, by decide +kernel, rfl, by decide +kernel, by decide +kernel⟩
def sp_is_met : Sp := fun vs H Q _ => ∃ (t a : Addr) (g : Pr) (xs : List Str), vs = [.ref t, .ref a] ∧ H t = some (.tup [.str g.1, .str g.2]) ∧ H a = some (.lst (xs.map V.str)) ∧ (∀ x ∈ xs, NameOk x) ∧ g.1 ∈ xs ∧ g.2 ∈ xs ∧ g.1 ≠ g.2 ∧ ∀ H', Same H H' → Q (.bl true) H'
theorem ok_is_met (T : Txt K mg C) : Ok P w K mg base CX0 3 "is_met" ps_is_met sp_is_met := by
  refine T.d_is_met.ok sc_is_met (fun vs H Q E h => ?_) (fun _ _ _ _ _ _ us hl => match us, hl with | [_, _], _ => rfl)
    (fun f cdv A outer s H vs Q E hr h => ?_)
  · obtain ⟨_, _, _, _, rfl, _⟩ := h
    rfl
  · obtain ⟨t, a, g, xs, rfl, h1, h2, h3, h4, h5, h6, k⟩ := h
    have htv : [V.str g.1, V.str g.2] = [g.1, g.2].map V.str := rfl
    have hin : ∀ x ∈ [g.1, g.2], x ∈ xs := by
      intro x hx
      rcases List.mem_cons.mp hx with rfl | hx
      · exact h4
      · rw [List.mem_singleton.mp hx]; exact h5
    refine ⟨_, PSs.nox (pss_cons (ps_if (PW.pt (pw_or (pt_not (pt_val (pe_callB call_isi (by rfl) T.b_isinstance (by decide +kernel) (pa_cons (pv 0) (pa_cons (pe_bltn (v := .ty "tuple") (by rfl) T.b_tuple (by decide +kernel) rfl) pa_nil))))) (pw_or (pt_cmpR op_ne (pe_callB call_len_seq (by rfl) T.b_len PySem.boot_len (pa_cons (pv 0) pa_nil)) pe_int (nomark _)) (pw_or1 (pt_not (pt_val (pe_callB (cr_all rfl) (by rfl) T.b_all (by decide +kernel) (pa_cons (pe_lc (own := [("name", 2)]) (g := (gName 2)) (tt := tYes) rfl sc_is_met.nd (pi_tup (pv 0)) (blkOk_by (own := [("name", 2)]) (N := N_is_met) (sc := defScope MH.s_is_met) (by decide +kernel)) (fun _ _ _ _ _ => (pg_name (i := 2) sc_is_met.nd rfl (Or.inl rfl))) (fun _ _ _ _ _ => pts_nil) (fun _ _ _ _ _ => (pe_fn (ok_is_one_of T) (hr.mono (by decide)) (by rfl) (pa_cons (pv 2) (pa_cons (pv 1) pa_nil))))) pa_nil)))))))) (pss_one (ps_ret pe_bl)) pss_nil)
        (pss_one (ps_ret (pe_cmpR op_ne (pe_ix ix_tup (pv 0) pe_int (fun _ _ => rfl)) (pe_ix ix_tup (pv 0) pe_int (fun _ _ => rfl)) (nomark _)))))
      , ?_⟩
    refine ⟨_, rfl, _, _, _, _, true, rfl, .ty _, .base (.tup h1), kit_ty (by decide +kernel), _, rfl, ?_⟩
    refine ⟨_, rfl, t, _, rfl, .inr (SqT.of h1), rfl, _, rfl, ?_⟩
    refine ite_nf rfl ?_
    refine ⟨_, rfl, _, rfl, ⟨_, SqT.of h1⟩, fun D hD => ?_⟩
    refine lc_F walk_tup (fun i => (List.replicate i true).map V.bl) hD rfl (fun _ s1 => SqT.of (s1 _ _ h1)) (fun i v H1 H1' hi p y => ?_) (fun H1 s1 e => ?_)
    · obtain ⟨rfl, y⟩ := y
      rw [htv] at y
      obtain ⟨x, hx, rfl⟩ := mapAt y
      have hm := hin x (List.mem_of_getElem? hx)
      have hi' : i < 2 := hi
      refine ⟨rfl, _, rfl, _, rfl, x, a, xs, rfl, p.1 _ _ h2, h3 x hm, hm, fun H2 s2 => putF p hD s2 (by omega) ?_⟩
      rw [repSnoc, List.map_append]
      rfl
    · refine ⟨_, _, rfl, SqL.of e, _, rfl, ?_⟩
      rw [allTrue]
      have h1' := s1 _ _ h1
      refine ⟨_, rfl, t, _, _, _, rfl, rfl, SqT.of h1', rfl, _, rfl, t, _, _, _, rfl, rfl, SqT.of h1', rfl, rfl, ?_⟩
      show Q (.bl (!decide (V.str g.1 = V.str g.2))) H1
      rw [decide_eq_false (by intro z; exact h6 (V.str.inj z))]
      exact k _ s1
abbrev N_need_pairable : List Str := ["names", "points", "met", "sat", "firsts", "pair", "name"]
abbrev ps_need_pairable : List Str := ["names", "points", "met", "sat", "firsts"]
theorem sc_need_pairable : FnScope N_need_pairable ps_need_pairable (defScope MH.s_need_pairable) := ⟨rfl, rfl, rfl, by decide +kernel, rfl, by decide +kernel, by decide +kernel⟩
def sp_need_pairable : Sp := fun vs H Q _ => ∃ (a d m s e : Addr) (xs : List Str) (f g : Str → Int) (ms : List V) (met : List Pr) (sat : List Str), vs = [.ref a, .ref d, .ref m, .ref s, .ref e] ∧
  H a = some (.lst (xs.map V.str)) ∧ 2 ≤ xs.length ∧ xs.length ≤ 10 ∧ (∀ x ∈ xs, NameOk x) ∧ xs.Nodup ∧ H d = some (.dK (tab xs f)) ∧ (∀ x ∈ xs, 0 ≤ f x ∧ f x ≤ 100) ∧
  H m = some (.lst ms) ∧ DaAll [] H ms (met.map prD) ∧ met.length ≤ 1000 ∧ (∀ q ∈ met, q.1 ∈ xs ∧ q.2 ∈ xs ∧ q.1 ≠ q.2) ∧ H s = some (.lst (sat.map V.str)) ∧ sat.length ≤ 1000 ∧ (∀ x ∈ sat, x ∈ xs) ∧
  H e = some (.dK (tab xs g)) ∧ (∀ x ∈ xs, 0 ≤ g x ∧ g x ≤ 100) ∧ ∀ H', Same H H' → Q .non H'
theorem ok_need_pairable (T : Txt K mg C) : Ok P w K mg base CX0 4 "need_pairable" ps_need_pairable sp_need_pairable := by
  refine T.d_need_pairable.ok sc_need_pairable (fun vs H Q E h => ?_) (fun _ _ _ _ _ _ us hl => match us, hl with | [_, _, _, _, _], _ => rfl)
    (fun f cdv A outer s H vs Q E hr h => ?_)
  · obtain ⟨_, _, _, _, _, _, _, _, _, _, _, rfl, _⟩ := h
    rfl
  · obtain ⟨a, d, m, s, e, xs, f, g, ms, met, sat, rfl, ha, l1, l2, hn, hnd, hd, hf, hm, hms, lm, hmet, hs, ls, hsat, he, hg, k⟩ := h
    have hl : (xs.map V.str).length = xs.length := List.length_map _
    have hlt : (tab xs f).length = xs.length := List.length_map _
    refine ⟨_, PSs.nox (pss_cons (ps_if (PW.pt (pw_or (pt_not (pt_val (pe_fn (ok_are_entrants T) (hr.mono (by decide)) (by rfl) (pa_cons (pv 0) pa_nil)))) (pw_or (pt_not (pt_val (pe_fn (ok_are_sums T) (hr.mono (by decide)) (by rfl) (pa_cons (pv 1) (pa_cons (pv 0) pa_nil))))) (pw_or1 (pt_cmpR op_ne (pe_callB call_lenD (by rfl) T.b_len PySem.boot_len (pa_cons (pv 1) pa_nil)) (pe_callB call_len_seq (by rfl) T.b_len PySem.boot_len (pa_cons (pv 0) pa_nil)) (nomark _)))))) (pss_one ps_never) pss_nil)
        (pss_cons (ps_if (PW.pt (pw_or (pt_not (pt_val (pe_fn (ok_is_row T) (hr.mono (by decide)) (by rfl) (pa_cons (pv 2) (pa_cons pe_int (pa_cons pe_non pa_nil)))))) (pw_or1 (pt_not (pt_val (pe_callB (cr_all rfl) (by rfl) T.b_all (by decide +kernel) (pa_cons (pe_lc (own := [("pair", 5)]) (g := (gName 5)) (tt := tYes) rfl sc_need_pairable.nd (pi_list (pv 2)) (blkOk_by (own := [("pair", 5)]) (N := N_need_pairable) (sc := defScope MH.s_need_pairable) (by decide +kernel)) (fun _ _ _ _ _ => (pg_name (i := 5) sc_need_pairable.nd rfl (Or.inl rfl))) (fun _ _ _ _ _ => pts_nil) (fun _ _ _ _ _ => (pe_fn (ok_is_met T) (hr.mono (by decide)) (by rfl) (pa_cons (pv 5) (pa_cons (pv 0) pa_nil))))) pa_nil))))))) (pss_one ps_never) pss_nil)
        (pss_cons (ps_if (PW.pt (pw_or (pt_not (pt_val (pe_fn (ok_is_row T) (hr.mono (by decide)) (by rfl) (pa_cons (pv 3) (pa_cons pe_int (pa_cons pe_non pa_nil)))))) (pw_or1 (pt_not (pt_val (pe_callB (cr_all rfl) (by rfl) T.b_all (by decide +kernel) (pa_cons (pe_lc (own := [("name", 6)]) (g := (gName 6)) (tt := tYes) rfl sc_need_pairable.nd (pi_list (pv 3)) (blkOk_by (own := [("name", 6)]) (N := N_need_pairable) (sc := defScope MH.s_need_pairable) (by decide +kernel)) (fun _ _ _ _ _ => (pg_name (i := 6) sc_need_pairable.nd rfl (Or.inl rfl))) (fun _ _ _ _ _ => pts_nil) (fun _ _ _ _ _ => (pe_fn (ok_is_one_of T) (hr.mono (by decide)) (by rfl) (pa_cons (pv 6) (pa_cons (pv 0) pa_nil))))) pa_nil))))))) (pss_one ps_never) pss_nil)
        (pss_one (ps_if (PW.pt (pw_and (pt_cmpR op_notN (pv 4) pe_non (nomark _)) (pw_and1 (pt_not (pt_val (pe_fn (ok_are_sums T) (hr.mono (by decide)) (by rfl) (pa_cons (pv 4) (pa_cons (pv 0) pa_nil)))))))) (pss_one ps_never) pss_nil)))))
      , ?_⟩
    refine ⟨_, rfl, a, xs, rfl, .inl ha, l1, l2, hn, hnd, fun H1 s1 => ⟨_, rfl, ?_⟩⟩
    refine ⟨_, rfl, _, rfl, d, a, xs, f, rfl, s1 _ _ hd, s1 _ _ ha, by omega, hn, hf, fun H2 s2 => ⟨_, rfl, ?_⟩⟩
    have s12 := s1.trans s2
    refine ⟨_, rfl, d, _, rfl, s12 _ _ hd, _, rfl, a, _, rfl, .inl (SqL.of (s12 _ _ ha)), rfl, _, rfl, ?_⟩
    refine ite_nf (by rw [hl, hlt]) ?_
    have lms : ms.length = met.length := by rw [hms.len, List.length_map]
    refine ⟨_, rfl, m, ms, 0, .non, rfl, .inl (s12 _ _ hm), by omega, .inl rfl, fun H3 s3 => ⟨_, rfl, ?_⟩⟩
    have s13 := s12.trans s3
    refine ⟨_, rfl, _, rfl, ⟨_, SqL.of (s13 _ _ hm)⟩, fun D hD => ?_⟩
    refine lc_F walk_list (fun i => (List.replicate i true).map V.bl) hD rfl (fun _ s4 => SqL.of (s4 _ _ (s13 _ _ hm))) (fun i v H4 H4' hi p y => ?_) (fun H4 s4 e4 => ?_)
    · obtain ⟨rfl, y⟩ := y
      have s14 := s13.trans p.1
      obtain ⟨dd, hdd, hda⟩ := (hms.same s14).get y
      rw [List.getElem?_map] at hdd
      obtain ⟨q, hq, rfl⟩ := Option.map_eq_some_iff.mp hdd
      obtain ⟨t, rfl, ht, _⟩ := da_pr hda
      obtain ⟨q1, q2, q3⟩ := hmet q (List.mem_of_getElem? hq)
      refine ⟨rfl, _, rfl, _, rfl, t, a, q, xs, rfl, ht, s14 _ _ ha, hn, q1, q2, q3, fun H5 s5 => putF p hD s5 (by omega) ?_⟩
      rw [repSnoc, List.map_append]
      rfl
    refine ⟨_, _, rfl, SqL.of e4, _, rfl, ?_⟩
    rw [allTrue]
    have s14 := s13.trans s4
    have lsm : (sat.map V.str).length = sat.length := List.length_map _
    refine ⟨_, rfl, s, _, 0, .non, rfl, .inl (s14 _ _ hs), by omega, .inl rfl, fun H5 s5 => ⟨_, rfl, ?_⟩⟩
    have s15 := s14.trans s5
    refine ⟨_, rfl, _, rfl, ⟨_, SqL.of (s15 _ _ hs)⟩, fun D2 hD2 => ?_⟩
    refine lc_F walk_list (fun i => (List.replicate i true).map V.bl) hD2 rfl (fun _ s6 => SqL.of (s6 _ _ (s15 _ _ hs))) (fun i v H6 H6' hi p y => ?_) (fun H6 s6 e6 => ?_)
    · obtain ⟨rfl, y⟩ := y
      obtain ⟨x, hx, rfl⟩ := mapAt y
      have hmx := hsat x (List.mem_of_getElem? hx)
      refine ⟨rfl, _, rfl, _, rfl, x, a, xs, rfl, (s15.trans p.1) _ _ ha, hn x hmx, hmx, fun H7 s7 => putF p hD2 s7 (by omega) ?_⟩
      rw [repSnoc, List.map_append]
      rfl
    refine ⟨_, _, rfl, SqL.of e6, _, rfl, ?_⟩
    rw [allTrue]
    have s16 := s15.trans s6
    refine ⟨_, rfl, rfl, _, rfl, _, rfl, _, rfl, e, a, xs, g, rfl, s16 _ _ he, s16 _ _ ha, by omega, hn, hg, fun H7 s7 => ⟨_, rfl, ?_⟩⟩
    exact k _ (s16.trans s7)
end
end MR
namespace MR
open PySem PySem.Spec PyProof.Rows L2 LamX
open PySem.W (dataLt keyToks keyToksAll)
abbrev Ip := Int × Int
def ipD (p : Ip) : PyData := .tuple [.int p.1, .int p.2]
def lotD (m : List Ip) : PyData := .list (m.map ipD)
def cost (s : Int → Int) (m : List Ip) : Int := (m.map fun p => (s p.1 - s p.2) ^ 2).sum
def keyD (s : Int → Int) (m : List Ip) : PyData := .tuple [.int (cost s m), lotD m]
def lots : Nat → List Int → List (List Ip)
  | _, [] => [[]]
  | 0, _ :: _ => []
  | n + 1, x :: xs => xs.flatMap fun o => (lots n (xs.filter fun p => decide (p ≠ o))).map fun m => (x, o) :: m
def okL (bar : Ip → Bool) (m : List Ip) : Bool := m.all fun p => !bar p
def Bst (s : Int → Int) (bar : Ip → Bool) (ls : List (List Ip)) : Option (List Ip) → Prop
  | none => ∀ m ∈ ls, okL bar m = false
  | some m => m ∈ ls ∧ okL bar m = true ∧ ∀ m' ∈ ls, okL bar m' = true → dataLt (keyD s m') (keyD s m) = false
theorem keyD_toks (s : Int → Int) (m : List Ip) : keyToks (keyD s m) = [.inl 1, .inl (cost s m)] ++ ([.inl 1] ++ (keyToksAll (m.map ipD) ++ [.inl 0])) := by
  simp [keyD, lotD, keyToks, keyToksAll]
theorem ip_toks (p : Ip) (m : List Ip) : keyToksAll ((p :: m).map ipD) = [.inl 1, .inl 1, .inl p.1, .inl 1, .inl p.2, .inl 0] ++ keyToksAll (m.map ipD) := by
  simp [ipD, keyToks, keyToksAll]
theorem ip_inj : ∀ (m m' : List Ip), keyToksAll (m.map ipD) = keyToksAll (m'.map ipD) → m = m'
  | [], [], _ => rfl
  | [], p :: m', h => by rw [ip_toks] at h; simp [keyToksAll] at h
  | p :: m, [], h => by rw [ip_toks] at h; simp [keyToksAll] at h
  | p :: m, q :: m', h => by
    rw [ip_toks, ip_toks] at h
    simp only [List.cons_append, List.nil_append, List.cons.injEq, Sum.inl.injEq, true_and] at h
    obtain ⟨h1, h2, h3⟩ := h
    rw [ip_inj m m' h3, show p = q from Prod.ext h1 h2]
theorem key_total {s : Int → Int} {m m' : List Ip} (h1 : dataLt (keyD s m) (keyD s m') = false) (h2 : dataLt (keyD s m') (keyD s m) = false) : m = m' := by
  have h := lex_total (O := itemOrd) _ _ h1 h2
  rw [keyD_toks, keyD_toks] at h
  simp only [List.cons_append, List.nil_append, List.cons.injEq, true_and] at h
  exact ip_inj _ _ (List.append_cancel_right h.2)
theorem key_neg {a b c : PyData} (h1 : dataLt a b = false) (h2 : dataLt b c = false) : dataLt a c = false := by
  rw [Bool.eq_false_iff]
  intro h
  rcases lex_negTrans (O := itemOrd) (keyToks a) (keyToks b) (keyToks c) h with q | q
  · exact absurd (h1.symm.trans q) (by decide)
  · exact absurd (h2.symm.trans q) (by decide)
theorem cost_cons (s : Int → Int) (p : Ip) (m : List Ip) : cost s (p :: m) = cost s m + (s p.1 - s p.2) ^ 2 := by
  unfold cost
  rw [List.map_cons, List.sum_cons]
  omega
theorem blt_inl (a b : Int) : itemOrd.blt (.inl a) (.inl b) = decide (a < b) := by first | rfl | simp [itemOrd, PySem.W.itemLt]
theorem key_shift {s : Int → Int} {p : Ip} {m m' : List Ip} : dataLt (keyD s (p :: m')) (keyD s (p :: m)) = dataLt (keyD s m') (keyD s m) := by
  show PyProof.Rows.lexLt itemOrd _ _ = PyProof.Rows.lexLt itemOrd _ _
  rw [keyD_toks, keyD_toks, keyD_toks, keyD_toks, cost_cons, cost_cons, ip_toks, ip_toks]
  simp only [List.cons_append, List.nil_append]
  rw [lex_self (O := itemOrd), lex_self (O := itemOrd)]
  by_cases e : cost s m' = cost s m
  · rw [e, lex_self (O := itemOrd), lex_self (O := itemOrd)]
    iterate 6 rw [lex_self (O := itemOrd)]
    rw [lex_self (O := itemOrd)]
    rw [lex_self (O := itemOrd)]
  · rw [lex_diff (O := itemOrd) (x := .inl (cost s m' + (s p.fst - s p.snd) ^ 2)) (by intro z; have := Sum.inl.inj z; omega), lex_diff (O := itemOrd) (x := .inl (cost s m')) (by intro z; exact e (Sum.inl.inj z))]
    rw [blt_inl, blt_inl]
    have : (cost s m' + (s p.fst - s p.snd) ^ 2 < cost s m + (s p.fst - s p.snd) ^ 2) ↔ (cost s m' < cost s m) := by omega
    simp [this]
theorem Bst.uniq {s : Int → Int} {bar : Ip → Bool} {ls : List (List Ip)} : ∀ {a b : Option (List Ip)}, Bst s bar ls a → Bst s bar ls b → a = b
  | none, none, _, _ => rfl
  | none, some m, h, h' => by have := h m h'.1; rw [h'.2.1] at this; cases this
  | some m, none, h, h' => by have := h' m h.1; rw [h.2.1] at this; cases this
  | some m, some m', h, h' => by rw [key_total (h'.2.2 m h.1 h.2.1) (h.2.2 m' h'.1 h'.2.1)]
/-- a turn's candidates -/
structure Cands (s : Int → Int) (bar : Ip → Bool) (n : Nat) (x : Int) (xs ys : List Int) (cs : List (List Ip)) : Prop where
  of : ∀ c ∈ cs, ∃ o ∈ ys, ∃ m, c = (x, o) :: m ∧ m ∈ lots n (xs.filter fun p => decide (p ≠ o)) ∧ okL bar m = true
  all : ∀ o ∈ ys, ∀ m ∈ lots n (xs.filter fun p => decide (p ≠ o)), okL bar m = true → ∃ c ∈ cs, dataLt (keyD s ((x, o) :: m)) (keyD s c) = false
theorem Cands.nil {s : Int → Int} {bar : Ip → Bool} {n : Nat} {x : Int} {xs : List Int} : Cands s bar n x xs [] [] := ⟨fun _ h => by simp at h, fun _ h => by simp at h⟩
theorem Cands.skip {s : Int → Int} {bar : Ip → Bool} {n : Nat} {x o : Int} {xs ys : List Int} {cs : List (List Ip)} (h : Cands s bar n x xs ys cs) (b : Bst s bar (lots n (xs.filter fun p => decide (p ≠ o))) none) : Cands s bar n x xs (ys ++ [o]) cs := by
  refine ⟨fun c hc => ?_, fun o' ho m hm hk => ?_⟩
  · obtain ⟨o, h1, h2⟩ := h.of c hc
    exact ⟨o, by simp [h1], h2⟩
  · rcases List.mem_append.mp ho with ho | ho
    · exact h.all o' ho m hm hk
    · rw [List.mem_singleton.mp ho] at hm
      have := b m hm
      rw [hk] at this
      cases this
theorem Cands.put {s : Int → Int} {bar : Ip → Bool} {n : Nat} {x o : Int} {xs ys : List Int} {cs : List (List Ip)} {m : List Ip} (h : Cands s bar n x xs ys cs) (b : Bst s bar (lots n (xs.filter fun p => decide (p ≠ o))) (some m)) : Cands s bar n x xs (ys ++ [o]) (cs ++ [(x, o) :: m]) := by
  refine ⟨fun c hc => ?_, fun o' ho m' hm hk => ?_⟩
  · rcases List.mem_append.mp hc with hc | hc
    · obtain ⟨o, h1, h2⟩ := h.of c hc
      exact ⟨o, by simp [h1], h2⟩
    · exact ⟨o, by simp, m, List.mem_singleton.mp hc, b.1, b.2.1⟩
  · rcases List.mem_append.mp ho with ho | ho
    · obtain ⟨c, h1, h2⟩ := h.all o' ho m' hm hk
      exact ⟨c, by simp [h1], h2⟩
    · rw [List.mem_singleton.mp ho] at hm ⊢
      exact ⟨_, by simp, key_shift.trans (b.2.2 m' hm hk)⟩
theorem Cands.fin {s : Int → Int} {bar : Ip → Bool} {n : Nat} {x : Int} {xs : List Int} {cs : List (List Ip)} (h : Cands s bar n x xs (xs.filter fun o => !bar (x, o)) cs) :
    (cs = [] → Bst s bar (lots (n + 1) (x :: xs)) none) ∧ ∀ c ∈ cs, (∀ c' ∈ cs, dataLt (keyD s c') (keyD s c) = false) → Bst s bar (lots (n + 1) (x :: xs)) (some c) := by
  have key : ∀ m ∈ lots (n + 1) (x :: xs), okL bar m = true → ∃ c ∈ cs, dataLt (keyD s m) (keyD s c) = false := by
    intro m hm hk
    unfold lots at hm
    obtain ⟨o, ho, hm⟩ := List.mem_flatMap.mp hm
    obtain ⟨m', hm', rfl⟩ := List.mem_map.mp hm
    have hk2 : (!bar (x, o)) = true ∧ okL bar m' = true := by simpa [okL] using hk
    exact h.all o (List.mem_filter.mpr ⟨ho, hk2.1⟩) m' hm' hk2.2
  constructor
  · rintro rfl m hm
    rw [Bool.eq_false_iff]
    intro hk
    obtain ⟨c, hc, _⟩ := key m hm hk
    simp at hc
  · intro c hc hmin
    refine ⟨?_, ?_, fun m' hm' hk => ?_⟩
    · obtain ⟨o, ho, m, rfl, hm, _⟩ := h.of c hc
      unfold lots
      exact List.mem_flatMap.mpr ⟨o, (List.mem_filter.mp ho).1, List.mem_map.mpr ⟨m, hm, rfl⟩⟩
    · obtain ⟨o, ho, m, rfl, _, hm⟩ := h.of c hc
      have := (List.mem_filter.mp ho).2
      unfold okL at hm ⊢
      rw [List.all_cons, this, hm]
      rfl
    · obtain ⟨c', hc', h1⟩ := key m' hm' hk
      exact key_neg h1 (hmin c' hc')
/-- the least of a row -/
theorem minD_least : ∀ (ys : List PyData) (y : PyData) (d : PyData), d ∈ y :: ys → dataLt d (PySem.W.minD y ys) = false
  | [], y, d, h => by
    rw [List.mem_singleton.mp h]
    exact dataLt_irrefl _
  | z :: ys, y, d, h => by
    have e : PySem.W.minD y (z :: ys) = PySem.W.minD (if dataLt z y = true then z else y) ys := rfl
    rw [e]
    have q := minD_least ys (if dataLt z y = true then z else y)
    have qh := q _ (List.mem_cons_self ..)
    rcases List.mem_cons.mp h with rfl | h
    · by_cases c : dataLt z d = true
      · rw [if_pos c] at qh ⊢
        refine key_neg ?_ qh
        rw [Bool.eq_false_iff]
        intro c2
        have := dataLt_trans c c2
        rw [dataLt_irrefl] at this
        cases this
      · rw [if_neg c] at qh ⊢
        exact qh
    · rcases List.mem_cons.mp h with rfl | h
      · by_cases c : dataLt d y = true
        · rw [if_pos c] at qh ⊢
          exact qh
        · rw [if_neg c] at qh ⊢
          exact key_neg (Bool.eq_false_iff.mpr c) qh
      · exact q d (List.mem_cons_of_mem _ h)
/-! filters of unlike items -/
theorem erase_filter : ∀ {xs : List Int} {j : Nat} {o : Int}, xs.Nodup → xs[j]? = some o → xs.eraseIdx j = xs.filter fun p => decide (p ≠ o)
  | [], j, o, _, h => by simp at h
  | x :: xs, 0, o, nd, h => by
    have e : x = o := by simpa using h
    subst e
    have hx : x ∉ xs := (List.nodup_cons.mp nd).1
    rw [List.eraseIdx_cons_zero, List.filter_cons]
    simp only [ne_eq, not_true_eq_false, decide_false, Bool.false_eq_true, if_false]
    refine (List.filter_eq_self.mpr fun a ha => ?_).symm
    simp only [decide_eq_true_eq]
    intro z
    exact hx (z ▸ ha)
  | x :: xs, j + 1, o, nd, h => by
    have hx : x ∉ xs := (List.nodup_cons.mp nd).1
    have h' : xs[j]? = some o := by simpa using h
    have ho : o ∈ xs := List.mem_of_getElem? h'
    have e : x ≠ o := fun z => hx (z ▸ ho)
    rw [List.eraseIdx_cons_succ, List.filter_cons, erase_filter (List.nodup_cons.mp nd).2 h']
    simp [e]
theorem filter_len {xs : List Int} {o : Int} (nd : xs.Nodup) (h : o ∈ xs) : (xs.filter fun p => decide (p ≠ o)).length + 1 = xs.length := by
  obtain ⟨j, hj⟩ := List.getElem?_of_mem h
  rw [← erase_filter nd hj, List.length_eraseIdx]
  have := (List.getElem?_eq_some_iff.mp hj).1
  simp [this]
  omega
def flat (m : List Ip) : List Int := m.flatMap fun p => [p.1, p.2]
theorem filter_perm {xs : List Int} {o : Int} (nd : xs.Nodup) (h : o ∈ xs) : (o :: xs.filter fun p => decide (p ≠ o)).Perm xs := by
  induction xs with
  | nil => cases h
  | cons x xs ih =>
    have hx := (List.nodup_cons.mp nd).1
    rw [List.filter_cons]
    by_cases e : x = o
    · subst e
      simp only [ne_eq, not_true_eq_false, decide_false, Bool.false_eq_true, if_false]
      refine List.Perm.cons _ ?_
      rw [List.filter_eq_self.mpr]
      intro a ha
      simp only [decide_eq_true_eq]
      intro z
      exact hx (z ▸ ha)
    · have ho : o ∈ xs := by simpa [Ne.symm e] using h
      simp only [ne_eq, e, not_false_eq_true, decide_true, if_true]
      exact (List.Perm.swap _ _ _).trans ((ih (List.nodup_cons.mp nd).2 ho).cons _)
theorem lots_perm : ∀ (n : Nat) (xs : List Int), xs.Nodup → ∀ m ∈ lots n xs, (flat m).Perm xs
  | n, [], _, m, h => by
    have : m = [] := by cases n <;> simpa [lots] using h
    subst this
    exact .nil
  | 0, x :: xs, _, m, h => by simp [lots] at h
  | n + 1, x :: xs, nd, m, h => by
    unfold lots at h
    obtain ⟨o, ho, hm⟩ := List.mem_flatMap.mp h
    obtain ⟨m', hm', rfl⟩ := List.mem_map.mp hm
    have nd' := (List.nodup_cons.mp nd).2
    have := lots_perm n _ (nd'.filter _) m' hm'
    show ([x, o] ++ flat m').Perm (x :: xs)
    exact ((this.cons o).trans (filter_perm nd' ho)).cons x
theorem flat_len (m : List Ip) : (flat m).length = 2 * m.length := by
  induction m with
  | nil => rfl
  | cons p m ih =>
    show ([p.1, p.2] ++ flat m).length = _
    rw [List.length_append, ih]
    simp
    omega
theorem lots_len {n : Nat} {xs : List Int} (nd : xs.Nodup) {m : List Ip} (h : m ∈ lots n xs) : 2 * m.length = xs.length := by
  rw [← (lots_perm n xs nd m h).length_eq, flat_len]
def cntB : Nat → Nat
  | 0 => 1
  | 1 => 0
  | k + 2 => (k + 1) * cntB k
theorem cntB_le : ∀ k : Nat, k ≤ 10 → cntB k ≤ 945
  | 0, _ => by decide
  | 1, _ => by decide
  | 2, _ => by decide
  | 3, _ => by decide
  | 4, _ => by decide
  | 5, _ => by decide
  | 6, _ => by decide
  | 7, _ => by decide
  | 8, _ => by decide
  | 9, _ => by decide
  | 10, _ => by decide
  | k + 11, h => by omega
theorem flatMap_len {α β : Type _} {f : α → List β} {M : Nat} : ∀ {xs : List α}, (∀ o ∈ xs, (f o).length ≤ M) → (xs.flatMap f).length ≤ xs.length * M
  | [], _ => by simp
  | x :: xs, h => by
    have h1 := h x (List.mem_cons_self ..)
    have h2 := flatMap_len (xs := xs) fun o ho => h o (List.mem_cons_of_mem _ ho)
    rw [List.flatMap_cons, List.length_append, List.length_cons, Nat.succ_mul]
    omega
theorem lots_count : ∀ (n : Nat) (xs : List Int), xs.Nodup → (lots n xs).length ≤ cntB xs.length
  | n, [], _ => by cases n <;> simp [lots, cntB]
  | 0, x :: xs, _ => by simp [lots]
  | n + 1, x :: xs, nd => by
    have nd' := (List.nodup_cons.mp nd).2
    unfold lots
    cases hxs : xs with
    | nil => simp
    | cons y ys =>
      rw [← hxs]
      have e : (x :: xs).length = ys.length + 2 := by simp [hxs]
      rw [e]
      have h := flatMap_len (xs := xs) (f := fun o => (lots n (xs.filter fun p => decide (p ≠ o))).map fun m => (x, o) :: m) (M := cntB ys.length) fun o ho => by
        rw [List.length_map]
        have h1 := lots_count n _ (nd'.filter fun p => decide (p ≠ o))
        have h2 := filter_len nd' ho
        have h3 : (xs.filter fun p => decide (p ≠ o)).length = ys.length := by rw [hxs] at h2 ⊢; simp at h2 ⊢; omega
        rw [h3] at h1
        exact h1
      have e2 : xs.length = ys.length + 1 := by simp [hxs]
      rw [e2] at h
      exact h
end MR
namespace MR
open PySem PySem.Spec PyProof.Rows L2 LamX
open PySem.W (dataLt keyToks keyToksAll)
theorem eqv_nil_cons (d : PyData) (ds : List PyData) : PyData.eqv (.list (d :: ds)) (.list []) = false := by simp [PyData.eqv, PyData.eqvAll]
theorem eqv_nil_nil : PyData.eqv (.list []) (.list []) = true := by simp [PyData.eqv, PyData.eqvAll]
def Shp (k : Nat) (d : PyData) : Prop := d.canLay0 = true ∧ d.depth ≤ k
theorem Shp.ok {k : Nat} {d : PyData} (h : Shp k d) (hk : k ≤ 64 := by decide) : SeqAt.shaped d = true := by
  unfold SeqAt.shaped
  rw [h.1, decide_eq_true (Nat.le_trans h.2 hk)]
  rfl
theorem shp_all {k : Nat} : ∀ {ds : List PyData}, (∀ d ∈ ds, Shp k d) → PyData.canLayAll0 ds = true ∧ PyData.depthAll ds ≤ k
  | [], _ => ⟨rfl, Nat.zero_le _⟩
  | d :: ds, h => by
    obtain ⟨h1, h2⟩ := h d (List.mem_cons_self ..)
    obtain ⟨h3, h4⟩ := shp_all fun e he => h e (List.mem_cons_of_mem _ he)
    refine ⟨by unfold PyData.canLayAll0; rw [h1, h3]; rfl, ?_⟩
    unfold PyData.depthAll
    omega
theorem Shp.list {k : Nat} {ds : List PyData} (h : ∀ d ∈ ds, Shp k d) : Shp (k + 1) (.list ds) := by
  obtain ⟨h1, h2⟩ := shp_all h
  refine ⟨by unfold PyData.canLay0; exact h1, ?_⟩
  unfold PyData.depth
  omega
theorem Shp.tuple {k : Nat} {ds : List PyData} (h : ∀ d ∈ ds, Shp k d) : Shp (k + 1) (.tuple ds) := by
  obtain ⟨h1, h2⟩ := shp_all h
  refine ⟨by unfold PyData.canLay0; exact h1, ?_⟩
  unfold PyData.depth
  omega
theorem Shp.int {k : Nat} (i : Int) : Shp k (.int i) := ⟨rfl, Nat.zero_le _⟩
theorem Shp.none {k : Nat} : Shp k .none := ⟨rfl, Nat.zero_le _⟩
theorem shaped_ints (xs : List Int) : SeqAt.shaped (.list (xs.map PyData.int)) = true := (Shp.list (k := 0) fun d hd => by
  obtain ⟨x, _, rfl⟩ := List.mem_map.mp hd
  exact .int x).ok
theorem alike_ips : ∀ m m' : List Ip, PySem.W.alikeAll (m.map ipD) (m'.map ipD) = true
  | [], _ => by simp [PySem.W.alikeAll]
  | _ :: _, [] => by simp [PySem.W.alikeAll]
  | p :: m, q :: m' => by
    have := alike_ips m m'
    simp [PySem.W.alikeAll, PySem.W.alike, ipD] at this ⊢
    exact this
theorem alike_key (s : Int → Int) (m m' : List Ip) : PySem.W.alike (keyD s m) (keyD s m') = true := by
  have := alike_ips m m'
  simp [keyD, lotD, PySem.W.alike, PySem.W.alikeAll, this]
theorem shp_lot (m : List Ip) : Shp 2 (lotD m) := Shp.list fun d hd => by
  obtain ⟨p, _, rfl⟩ := List.mem_map.mp hd
  exact Shp.tuple fun d hd => by
    rcases List.mem_cons.mp hd with rfl | hd
    · exact .int _
    · rw [List.mem_singleton.mp hd]
      exact .int _
theorem shp_key (s : Int → Int) (m : List Ip) : Shp 3 (keyD s m) := Shp.tuple fun d hd => by
  rcases List.mem_cons.mp hd with rfl | hd
  · exact .int _
  · rw [List.mem_singleton.mp hd]
    exact shp_lot m
def optD (s : Int → Int) : Option (List Ip) → PyData
  | none => .none
  | some m => keyD s m
section
variable {P : Program} {w : World} {K : PySem.W.Frag} {mg : Str → Option Value} {base : Heap} {C : Addr}
def sp_least (n : Nat) : Sp := fun vs H Q _ => ∃ (a b c : Addr) (ps sl : List Int) (kvs : List (List Key × V)) (bar : Ip → Bool) (L : List Addr), vs = [.ref a, .ref b, .ref c] ∧ H a = some (.lst (ps.map V.int)) ∧ ps.length ≤ n ∧ n ≤ 10 ∧ ps.Nodup ∧
  H b = some (.lst (sl.map V.int)) ∧ (∀ p ∈ ps, 0 ≤ p ∧ p < (sl.length : Int)) ∧ (∀ x ∈ sl, 0 ≤ x ∧ x ≤ 100) ∧ H c = some (.dT kvs) ∧ (∀ a b, (valV kvs [Sum.inl a, Sum.inl b]).isSome = bar (a, b)) ∧ Lv L H ∧
  ∀ H' v o, Same H H' → Bst (fun p => sl.getD p.toNat 0) bar (lots n ps) o → Da L H' v (optD (fun p => sl.getD p.toNat 0) o) → Q v H'
abbrev N_least_pairs : List Str := ["places", "sums", "barred", "one", "others", "found", "other", "rest", "cost", "pairs", "place"]
abbrev ps_least_pairs : List Str := ["places", "sums", "barred"]
theorem sc_least_pairs : FnScope N_least_pairs ps_least_pairs (defScope MH.s_least_pairs) := ⟨rfl, rfl, rfl, by decide +kernel, rfl, by decide +kernel, by decide +kernel⟩
theorem ok_least (T : Txt K mg C) : ∀ n, Ok P w K mg base CX0 (n + 1) "least_pairs" ps_least_pairs (sp_least n)
  | 0 => by
    refine T.d_least_pairs.ok sc_least_pairs (fun vs H Q E h => ?_) (fun _ _ _ _ _ _ us hl => match us, hl with | [_, _, _], _ => rfl)
      (fun f cdv A outer s H vs Q E hr h => ?_)
    · obtain ⟨_, _, _, _, _, _, _, _, rfl, _⟩ := h
      rfl
    · obtain ⟨a, b, c, ps, sl, kvs, bar, L, rfl, ha, hl, _, nd, hb, hp, hs, hc, hbar, hL, k⟩ := h
      have e : ps = [] := List.length_eq_zero_iff.mp (by omega)
      subst e
      refine ⟨_, PSs.nox (pss_cons (ps_if (pt_cmpR (op_eqD hr.units) (pv 0) (pe_lst pa_nil) (nomark _)) (pss_one (ps_ret (pe_tup (pa_cons pe_int (pa_cons (pe_lst pa_nil) pa_nil))))) pss_nil)
        (pss_cons ps_never
        (pss_cons ps_never
        (pss_cons ps_never
        (pss_one ps_never)))))
        , ?_⟩
      refine ⟨_, rfl, by show 0 ≤ sizeLine; have := szl; omega, fun l hl => ?_⟩
      have s1 : Same H (upd H l (.lst [])) := same_new hl
      refine ⟨.list [], .list [], .lst (SqL.of (s1 _ _ ha)) .nil, .lst (SqL.of upd_same) .nil, rfl, rfl, _, rfl, ?_⟩
      rw [eqv_nil_nil]
      refine ⟨by show 0 ≤ sizeLine; have := szl; omega, fun l2 hl2 => ⟨by show 2 ≤ sizeLine; have := szl; omega, fun t ht => ?_⟩⟩
      have s2 := same_new (o := .lst []) hl2
      have s3 := same_new (o := .tup [.int 0, .ref l2]) ht
      refine k _ _ (some []) ((s1.trans s2).trans s3) ?_ ?_
      · refine ⟨by simp [lots], rfl, fun m hm _ => ?_⟩
        have : m = [] := by simpa [lots] using hm
        rw [this]
        exact dataLt_irrefl _
      · refine .tup upd_same ((hL.same (s1.trans s2)).new ht) (.cons (.int 0) (.cons (.lst (s3 _ _ upd_same) ((hL.same s1).new hl2) .nil) .nil))
  | n + 1 => by
    have O : Ok P w K mg base CX0 (n + 1) "least_pairs" ps_least_pairs (sp_least n) := ok_least T n
    refine T.d_least_pairs.ok sc_least_pairs (fun vs H Q E h => ?_) (fun _ _ _ _ _ _ us hl => match us, hl with | [_, _, _], _ => rfl)
      (fun f cdv A outer s H vs Q E hr h => ?_)
    · obtain ⟨_, _, _, _, _, _, _, _, rfl, _⟩ := h
      rfl
    · obtain ⟨a, b, c, ps, sl, kvs, bar, L, rfl, ha, hln, hn10, nd, hb, hp, hs, hc, hbar, hL, k⟩ := h
      refine ⟨_, PSs.nox (pss_cons (ps_if (pt_cmpR (op_eqD hr.units) (pv 0) (pe_lst pa_nil) (nomark _)) (pss_one (ps_ret (pe_tup (pa_cons pe_int (pa_cons (pe_lst pa_nil) pa_nil))))) pss_nil)
        (pss_cons (ps_asg (pv 0) (pg_star1 rfl (pg_name (i := 3) sc_least_pairs.nd rfl (Or.inr rfl)) (pg_name (i := 4) sc_least_pairs.nd rfl (Or.inl rfl))))
        (pss_cons (ps_set (i := 5) sc_least_pairs.nd rfl (Or.inl rfl) (pe_lst pa_nil))
        (pss_cons (ps_for PassesOwn.never rfl (pi_list (pe_lc (own := [("other", 6)]) (g := (gName 6)) rfl sc_least_pairs.nd (pi_list (pv 4)) (blkOk_by (own := [("other", 6)]) (N := N_least_pairs) (sc := defScope MH.s_least_pairs) (by decide +kernel)) (fun _ _ _ _ _ => (pg_name (i := 6) sc_least_pairs.nd rfl (Or.inl rfl))) (fun _ _ _ _ _ => (pts_one (pt_cmp (pc_dnotin (hu_of hr) (pe_tup (pa_cons (pv 3) (pa_cons (pv 6) pa_nil))) (pv 2))))) (fun _ _ _ _ _ => (pv 6)))) (pg_name (i := 6) sc_least_pairs.nd rfl (Or.inr rfl)) (pss_cons (ps_set (i := 7) sc_least_pairs.nd rfl (Or.inl rfl) (pe_fn O hr (by rfl) (pa_cons (pe_lc (own := [("place", 10)]) (g := (gName 10)) rfl sc_least_pairs.nd (pi_list (pv 4)) (blkOk_by (own := [("place", 10)]) (N := N_least_pairs) (sc := defScope MH.s_least_pairs) (by decide +kernel)) (fun _ _ _ _ _ => (pg_name (i := 10) sc_least_pairs.nd rfl (Or.inl rfl))) (fun _ _ _ _ _ => (pts_one (pt_cmpR op_ne (pv 10) (pv 6) (nomark _)))) (fun _ _ _ _ _ => (pv 10))) (pa_cons (pv 1) (pa_cons (pv 2) pa_nil)))))
        (pss_one (ps_if (pt_cmpR op_notN (pv 7) pe_non (nomark _)) (pss_cons (ps_asg (pv 7) (pg_tup rfl (pgs_cons (pg_name (i := 8) sc_least_pairs.nd rfl (Or.inl rfl)) (pgs_cons (pg_name (i := 9) sc_least_pairs.nd rfl (Or.inl rfl)) pgs_nil))))
        (pss_one (ps_expr (pe_bm PySem.F.plainAttrs_list PySem.F.slot_list_append PySem.F.type_list_append mt_append (pv 5) (pa_cons (pe_tup (pa_cons (pe_op op_add (pv 8) (pe_op op_pow (pe_op op_sub (pe_ix ix_list (pv 1) (pv 3) (fun _ _ => rfl)) (pe_ix ix_list (pv 1) (pv 6) (fun _ _ => rfl))) pe_int)) (pa_cons (pe_op op_cat (pe_lst (pa_cons (pe_tup (pa_cons (pv 3) (pa_cons (pv 6) pa_nil))) pa_nil)) (pv 9)) pa_nil))) pa_nil))))) pss_nil))))
        (pss_one (ps_ret (pe_callBK (call_minDef rfl hr.units) (by rfl) T.b_min (by decide +kernel) (pa_cons (pv 5) pa_nil) (pk_cons pe_non pk_nil))))))))
        , ?_⟩
      refine ⟨_, rfl, by show 0 ≤ sizeLine; have := szl; omega, fun l hl => ?_⟩
      have s1 : Same H (upd H l (.lst [])) := same_new hl
      cases ps with
      | nil =>
        refine ⟨.list [], .list [], .lst (SqL.of (s1 _ _ ha)) .nil, .lst (SqL.of upd_same) .nil, rfl, rfl, _, rfl, ?_⟩
        rw [eqv_nil_nil]
        refine ⟨by show 0 ≤ sizeLine; have := szl; omega, fun l2 hl2 => ⟨by show 2 ≤ sizeLine; have := szl; omega, fun t ht => ?_⟩⟩
        have s2 := same_new (o := .lst []) hl2
        have s3 := same_new (o := .tup [.int 0, .ref l2]) ht
        refine k _ _ (some []) ((s1.trans s2).trans s3) ?_ ?_
        · refine ⟨by simp [lots], rfl, fun m hm _ => ?_⟩
          have : m = [] := by simpa [lots] using hm
          rw [this]
          exact dataLt_irrefl _
        · refine .tup upd_same ((hL.same (s1.trans s2)).new ht) (.cons (.int 0) (.cons (.lst (s3 _ _ upd_same) ((hL.same s1).new hl2) .nil) .nil))
      | cons x xs =>
        refine ⟨.list ((x :: xs).map PyData.int), .list [], .lst (SqL.of (s1 _ _ ha)) (DaAll.dp (L := []) (daInts _)), .lst (SqL.of upd_same) .nil, shaped_ints _, rfl, _, rfl, ?_⟩
        rw [show PyData.eqv (.list ((x :: xs).map PyData.int)) (.list []) = false from eqv_nil_cons _ _]
        -- one, *others = places
        have hln' : xs.length ≤ n := by simpa using hln
        refine ⟨_, rfl, a, .int x, xs.map V.int, rfl, SqL.of (s1 _ _ ha), by rw [List.length_map]; omega, fun oth hoth => ?_⟩
        have s2 := s1.trans (same_new (o := .lst (xs.map V.int)) hoth)
        -- found = []
        refine ⟨by show 0 ≤ sizeLine; have := szl; omega, fun F hF => ?_⟩
        have hF1 : H F = none := s2.free hF
        have s3 := s2.trans (same_new (o := .lst []) hF)
        generalize hs2 : upd (upd H l (.lst [])) oth (.lst (xs.map V.int)) = H2 at *
        have hoth2 : H2 oth = some (.lst (xs.map V.int)) := by rw [← hs2]; exact upd_same
        have ndx := (List.nodup_cons.mp nd).2
        have hxn := (List.nodup_cons.mp nd).1
        -- the others that are not barred
        refine ⟨_, rfl, _, rfl, ⟨_, SqL.of (same_new (o := .lst []) hF _ _ hoth2)⟩, fun Y hY => ?_⟩
        refine lc_F walk_list (fun i => ((xs.take i).filter fun o => !bar (x, o)).map V.int) hY rfl (fun _ z => SqL.of (z _ _ (same_new (o := .lst []) hF _ _ hoth2))) (fun i v H3 H3' hi p y => ?_) (fun H3 s4 e3 => ?_)
        · obtain ⟨rfl, y⟩ := y
          obtain ⟨o, ho, rfl⟩ := mapAt y
          have hi' : i < 1000000 := by rw [List.length_map] at hi; omega
          refine ⟨rfl, _, rfl, _, rfl, by show 2 ≤ sizeLine; have := szl; omega, fun t ht => ⟨_, rfl, c, _, rfl, DGet.t (k := [Sum.inl x, Sum.inl o]) (by rw [upd_ne (ne_of_none (p.1 _ _ (s3 _ _ hc)) ht)]; exact p.1 _ _ (s3 _ _ hc)) upd_same, _, rfl, ?_⟩⟩
          rw [hbar x o]
          cases hb2 : bar (x, o) with
          | false => exact ⟨_, rfl, putF p hY (same_new ht) hi' (by rw [filTake ho, hb2]; simp)⟩
          | true => exact skipF p (same_new ht) (by rw [filTake ho, hb2]; simp)
        rw [List.length_map, List.take_length] at e3
        generalize hys : (xs.filter fun o => !bar (x, o)) = ys at *
        have s5 := s3.trans s4
        have hY3 : H3 Y = some (.lst (ys.map V.int)) := e3
        have hF3 : H3 F = some (.lst []) := s4 _ _ upd_same
        have nYF : Y ≠ F := fun z => by rw [z, upd_same] at hY; cases hY
        have noF : oth ≠ F := ne_of_none hoth2 hF
        have nbF : b ≠ F := ne_of_none hb hF1
        have ncF : c ≠ F := ne_of_none hc hF1
        have hoth3 : H3 oth = some (.lst (xs.map V.int)) := s4 _ _ (by rw [upd_ne noF]; exact hoth2)
        have hysx : ∀ o ∈ ys, o ∈ xs := fun o ho => by rw [← hys] at ho; exact (List.mem_filter.mp ho).1
        -- the loop
        refine ⟨Y, rfl, ⟨_, SqL.of hY3⟩, ?_⟩
        refine for_it walk_list (fun i σ H' => ∃ (u1 u2 u3 u4 : Option V) (acc : List V) (cs : List (List Ip)), σ = [some (.ref a), some (.ref b), some (.ref c), some (.int x), some (.ref oth), some (.ref F), u1, u2, u3, u4, Option.none] ∧
          Sx F H3 H' ∧ H' F = some (.lst acc) ∧ DaAll (F :: L) H' acc (cs.map (keyD fun p => sl.getD p.toNat 0)) ∧ Cands (fun p => sl.getD p.toNat 0) bar n x xs (ys.take i) cs ∧ cs.length ≤ i)
          ⟨_, _, _, _, [], [], rfl, Sx.refl _ _, hF3, .nil, Cands.nil, Nat.le_refl _⟩ (fun i σ H' hi ⟨_, _, _, _, _, _, _, z, _⟩ => SqL.of (z _ _ hY3 nYF)) (fun i v σ H4 H4' hi p y => ?_) (fun σ H4 p => ?_)
        · obtain ⟨rfl, y⟩ := y
          obtain ⟨u1, u2, u3, u4, acc, cs, rfl, z4, hF4, hd4, hcs, hcl⟩ := p
          obtain ⟨o, ho, rfl⟩ := mapAt y
          have hox := hysx o (List.mem_of_getElem? ho)
          have hi2 : i < 1000000 := by
            have h1 : (ys.map V.int).length ≤ xs.length := by rw [List.length_map, ← hys]; exact List.length_filter_le _ _
            omega
          have hoth4 := z4 _ _ hoth3 noF
          have hb4 := z4 _ _ (s5 _ _ hb) nbF
          have hc4 := z4 _ _ (s5 _ _ hc) ncF
          -- the places left
          refine ⟨_, rfl, oth, rfl, ⟨_, SqL.of hoth4⟩, fun D hD => ?_⟩
          refine lc_F walk_list (fun i => ((xs.take i).filter fun p => decide (p ≠ o)).map V.int) hD rfl (fun _ z => SqL.of (z _ _ hoth4)) (fun i v H5 H5' hi p y => ?_) (fun H5 s6 e5 => ?_)
          · obtain ⟨rfl, y⟩ := y
            obtain ⟨q, hq, rfl⟩ := mapAt y
            have hi' : i < 1000000 := by rw [List.length_map] at hi; omega
            refine ⟨rfl, _, rfl, _, rfl, rfl, _, rfl, ?_⟩
            by_cases e : q = o
            · subst e
              rw [show (!decide (V.int q = V.int q)) = false by simp]
              exact skipF p (Same.refl _) (by rw [filTake hq]; simp)
            · rw [show (!decide (V.int q = V.int o)) = true by simp [e]]
              exact ⟨_, rfl, putF p hD (Same.refl _) hi' (by rw [filTake hq]; simp [e])⟩
          rw [List.length_map, List.take_length] at e5
          have fl := filter_len ndx hox
          have sS : Same H H4' → True := fun _ => trivial
          have hL3 : Lv L H3 := hL.same s5
          have hL4 : Lv L H4' := hL3.sx z4 ⟨_, hF4, nt_lst⟩
          have hLF : Lv (F :: L) H5 := (hL4.same s6).cons (s6 _ _ hF4) nt_lst
          refine ⟨_, rfl, _, rfl, D, b, c, _, sl, kvs, bar, F :: L, rfl, e5, by omega, by omega, ndx.filter _, s6 _ _ hb4, fun q hq => hp q (List.mem_cons_of_mem _ (List.mem_filter.mp hq).1), hs, s6 _ _ hc4, hbar, hLF, fun H6 v o2 s7 hB hda => ?_⟩
          have s47 := s6.trans s7
          have z6 : Sx F H3 H6 := z4.trans (Sx.of s47)
          have hF6 : H6 F = some (.lst acc) := s47 _ _ hF4
          have ht1 : ys.take (i + 1) = ys.take i ++ [o] := take_succ' ho
          cases o2 with
          | none =>
            cases hda
            refine ⟨_, rfl, rfl, _, rfl, ?_⟩
            exact ⟨_, _, _, _, acc, cs, rfl, z6, hF6, hd4.same s47, by rw [ht1]; exact hcs.skip hB, by omega⟩
          | some m =>
            obtain ⟨t, tx, rfl, ht, ntL, hdt⟩ := Da.tuple hda
            cases hdt with
            | cons d1 d2 =>
            cases d2 with
            | cons d2 d3 =>
            cases d3
            cases d1
            obtain ⟨lm, ml, rfl, hlm, nlm, hml⟩ := Da.list d2
            refine ⟨_, rfl, rfl, _, rfl, ?_⟩
            refine ⟨_, rfl, t, _, rfl, SqT.of ht, rfl, _, _, rfl, _, _, rfl, rfl, ?_⟩
            have hx0 := hp x (List.mem_cons_self ..)
            have ho0 := hp o (List.mem_cons_of_mem _ hox)
            have gx : ∀ q : Int, 0 ≤ q → q < (sl.length : Int) → atI (sl.map V.int) q = some (V.int (sl.getD q.toNat 0)) := fun q h1 h2 => by
              have : q = ((q.toNat : Nat) : Int) := by omega
              rw [this]
              refine atI_nat ?_
              rw [List.getElem?_map, List.getElem?_eq_getElem (show q.toNat < sl.length by omega)]
              have e2 : sl.getD q.toNat 0 = sl[q.toNat]'(by omega) := by
                simp only [List.getD, List.getElem?_eq_getElem (show q.toNat < sl.length by omega), Option.getD_some]
              rw [← this, e2]
              rfl
            have gb : ∀ q : Int, 0 ≤ q → q < (sl.length : Int) → 0 ≤ sl.getD q.toNat 0 ∧ sl.getD q.toNat 0 ≤ 100 := fun q h1 h2 => by
              refine hs _ ?_
              simp only [List.getD, List.getElem?_eq_getElem (show q.toNat < sl.length by omega), Option.getD_some]
              exact List.getElem_mem _
            have hb6 := s47 _ _ hb4
            refine ⟨_, rfl, .inl ⟨rfl, _, SqL.of hF6⟩, _, rfl, _, rfl, _, rfl, b, _, x, _, rfl, rfl, SqL.of hb6, gx x hx0.1 hx0.2, _, rfl, _, rfl, b, _, o, _, rfl, rfl, SqL.of hb6, gx o ho0.1 ho0.2, _, _, rfl, rfl, ?_⟩
            have g1 := gb x hx0.1 hx0.2
            have g2 := gb o ho0.1 ho0.2
            refine ⟨_, _, rfl, rfl, ⟨by omega, by omega, by omega⟩, _, _, rfl, rfl, ?_⟩
            refine ⟨_, rfl, _, rfl, by show 2 ≤ sizeLine; have := szl; omega, fun tp htp => ⟨by show 1 ≤ sizeLine; have := szl; omega, fun ll hll => ?_⟩⟩
            have s8 := s47.trans (same_new (o := .tup [.int x, .int o]) htp)
            have s8' : Same H6 (upd H6 tp (.tup [.int x, .int o])) := same_new htp
            have s9' : Same (upd H6 tp (.tup [.int x, .int o])) (upd (upd H6 tp (.tup [.int x, .int o])) ll (.lst [.ref tp])) := same_new hll
            generalize hH8 : upd H6 tp (.tup [.int x, .int o]) = H8 at *
            generalize hH9 : upd H8 ll (.lst [.ref tp]) = H9 at *
            have htp9 : H9 tp = some (.tup [.int x, .int o]) := s9' _ _ (by rw [← hH8]; exact upd_same)
            have hll9 : H9 ll = some (.lst [.ref tp]) := by rw [← hH9]; exact upd_same
            have s69 := s8'.trans s9'
            have hml' := (hml.same s69)
            have lml : ml.length = m.length := by rw [hml.len, List.length_map]
            have lmm : 2 * m.length = _ := lots_len (ndx.filter _) hB.1
            refine ⟨_, rfl, ll, lm, _, _, rfl, rfl, hll9, s69 _ _ hlm, by rw [lml]; simp; have := szl; omega, fun lc hlc => ⟨by show 2 ≤ sizeLine; have := szl; omega, fun t2 ht2 => ?_⟩⟩
            have s10 : Same H9 (upd H9 lc (.lst ([.ref tp] ++ ml))) := same_new hlc
            have s11 : Same _ (upd (upd H9 lc (.lst ([.ref tp] ++ ml))) t2 (.tup [.int (cost (fun p => sl.getD p.toNat 0) m + (sl.getD x.toNat 0 - sl.getD o.toNat 0) ^ 2), .ref lc])) := same_new ht2
            have hF12 := s11 _ _ (s10 _ _ (s69 _ _ hF6))
            refine ⟨F, acc, _, rfl, rfl, hF12, ?_, ?_⟩
            · have := hd4.len
              rw [List.length_map] at this
              have := szl
              omega
            · have hLn := hLF.same (s7.trans (s69.trans s10))
              refine ⟨_, _, _, _, acc ++ [.ref t2], cs ++ [(x, o) :: m], rfl, (z6.trans (Sx.of (s69.trans (s10.trans s11)))).trans Sx.set, upd_same, ?_, by rw [ht1]; exact hcs.put hB, by simp; omega⟩
              rw [List.map_append]
              refine DaAll.upd ((hd4.same (s47.trans (s69.trans (s10.trans s11)))).snoc ?_) (by simp)
              show Da (F :: L) _ _ (.tuple [.int (cost _ ((x, o) :: m)), .list (ipD (x, o) :: m.map ipD)])
              rw [cost_cons]
              refine .tup upd_same (hLn.new ht2) (.cons (.int _) (.cons (.lst (s11 _ _ upd_same) ((hLF.same (s7.trans s69)).new hlc) (.cons (.tup (s11 _ _ (s10 _ _ htp9)) ((hLF.same s7).new htp) (daInts [x, o])) ?_)) .nil))
              exact hml.same (s69.trans (s10.trans s11))
        · obtain ⟨u1, u2, u3, u4, acc, cs, rfl, z4, hF4, hd4, hcs, hcl⟩ := p
          rw [List.length_map, List.take_length, ← hys] at hcs
          obtain ⟨fn, fs⟩ := hcs.fin
          have sH : Same H H4 := fun q o e => z4 _ _ (s5 _ _ e) (ne_of_none e hF1)
          refine ⟨_, rfl, F, acc, _, .non, rfl, rfl, SqL.of hF4, hd4.dp, ⟨?_, ?_⟩, ?_, fun e => ?_, fun y ys' i v e hv hy => ?_⟩
          · intro d hd e he
            obtain ⟨m, _, rfl⟩ := List.mem_map.mp hd
            obtain ⟨m', _, rfl⟩ := List.mem_map.mp he
            exact alike_key _ m m'
          · intro d hd
            obtain ⟨m, _, rfl⟩ := List.mem_map.mp hd
            intro z
            cases z
          · refine Nat.le_trans (shp_all (k := 3) fun d hd => ?_).2 (by decide)
            obtain ⟨m, _, rfl⟩ := List.mem_map.mp hd
            exact shp_key _ m
          · have e' : cs = [] := List.map_eq_nil_iff.mp e
            exact k _ _ Option.none sH (fn e') .non
          · obtain ⟨d, h1, h2⟩ := hd4.get hv
            rw [hy] at h1
            cases h1
            have hm := List.mem_of_getElem? hy
            obtain ⟨m, hmm, em⟩ := List.mem_map.mp hm
            rw [← em] at h2
            refine k _ _ (some m) sH (fs m hmm fun c' hc' => ?_) (h2.mono (by simp +contextual))
            rw [em]
            refine minD_least ys' y _ ?_
            rw [← e]
            exact List.mem_map.mpr ⟨c', hc', rfl⟩
end
end MR
namespace MR
open PySem PySem.Spec PyProof.Rows L2 LamX
theorem sl2 : 2 ≤ sizeLine := by have := szl; omega
theorem sl0 : 0 ≤ sizeLine := Nat.zero_le _
theorem sl1 : 1 ≤ sizeLine := by have := szl; omega
/-- x[1:1+i] and x[2+i:] -/
theorem cut_a (x : Int) (xs : List Int) (i : Nat) (h : i ≤ xs.length) : cutV ((x :: xs).map V.int) (some 1) (some (1 + (i : Nat))) = (xs.take i).map V.int := by
  unfold cutV
  have h1 : HT.sIx ((x :: xs).map V.int).length 0 (some 1) = 1 := by
    have := HT.sIx_nat ((x :: xs).map V.int).length 0 1
    rw [show ((1 : Int)) = ((1 : Nat) : Int) from rfl, this]
    simp
  have h2 : HT.sIx ((x :: xs).map V.int).length ((x :: xs).map V.int).length (some (1 + (i : Nat))) = 1 + i := by
    have := HT.sIx_nat ((x :: xs).map V.int).length ((x :: xs).map V.int).length (1 + i)
    rw [show ((1 : Int) + (i : Nat)) = ((1 + i : Nat) : Int) by omega, this]
    simp
    omega
  rw [h1, h2]
  simp [List.map_take]
theorem cut_b (x : Int) (xs : List Int) (i : Nat) (h : i < xs.length) : cutV ((x :: xs).map V.int) (some (1 + (i : Nat) + 1)) none = (xs.drop (i + 1)).map V.int := by
  unfold cutV
  have h2 : HT.sIx ((x :: xs).map V.int).length 0 (some (1 + (i : Nat) + 1)) = i + 2 := by
    have := HT.sIx_nat ((x :: xs).map V.int).length 0 (i + 2)
    rw [show ((1 : Int) + (i : Nat) + 1) = ((i + 2 : Nat) : Int) by omega, this]
    simp
    try omega
  rw [h2, HT.sIx_none]
  simp only [List.map_cons, List.drop_succ_cons, List.length_cons, List.length_map]
  rw [List.take_of_length_le (by simp), List.map_drop]
section
variable {P : Program} {w : World} {K : PySem.W.Frag} {mg : Str → Option Value} {base : Heap} {C : Addr}
def sp_lots (n : Nat) : Sp := fun vs H Q _ => ∃ (a : Addr) (ps : List Int) (L : List Addr), vs = [.ref a] ∧ H a = some (.lst (ps.map V.int)) ∧ ps.length ≤ n ∧ n ≤ 10 ∧ ps.Nodup ∧ Lv L H ∧
  ∀ H' v, Same H H' → Da L H' v (.list ((lots n ps).map lotD)) → Q v H'
abbrev N_law_lots : List Str := ["_law_places", "_law_found", "_law_at", "_law_less", "_law_more_here"]
abbrev ps_law_lots : List Str := ["_law_places"]
theorem sc_law_lots : FnScope N_law_lots ps_law_lots (defScope MH.s_law_lots) := ⟨rfl, rfl, rfl, by decide +kernel, rfl, by decide +kernel, by decide +kernel⟩
theorem ok_lots (T : Txt K mg C) : ∀ n, Ok P w K mg base CX0 (n + 1) "_law_lots" ps_law_lots (sp_lots n)
  | 0 => by
    refine T.d_law_lots.ok sc_law_lots (fun vs H Q E h => ?_) (fun _ _ _ _ _ _ us hl => match us, hl with | [_], _ => rfl)
      (fun f cdv A outer s H vs Q E hr h => ?_)
    · obtain ⟨_, _, _, rfl, _⟩ := h
      rfl
    · obtain ⟨a, ps, L, rfl, ha, hl, _, nd, hL, k⟩ := h
      have e : ps = [] := List.length_eq_zero_iff.mp (by omega)
      subst e
      refine ⟨_, PSs.nox (pss_cons (ps_if (pt_cmpR (op_eqD hr.units) (pv 0) (pe_lst pa_nil) (nomark _)) (pss_one (ps_ret (pe_lst (pa_cons (pe_lst pa_nil) pa_nil)))) pss_nil)
        (pss_cons ps_never
        (pss_cons ps_never
        (pss_one ps_never))))
        , ?_⟩
      refine ⟨_, rfl, sl0, fun l hl => ?_⟩
      have s1 : Same H (upd H l (.lst [])) := same_new hl
      refine ⟨.list [], .list [], .lst (SqL.of (s1 _ _ ha)) .nil, .lst (SqL.of upd_same) .nil, rfl, rfl, _, rfl, ?_⟩
      rw [eqv_nil_nil]
      refine ⟨sl0, fun l2 hl2 => ⟨sl1, fun t ht => ?_⟩⟩
      have s2 := same_new (o := .lst []) hl2
      have s3 := same_new (o := .lst [.ref l2]) ht
      refine k _ _ ((s1.trans s2).trans s3) ?_
      exact .lst upd_same ((hL.same (s1.trans s2)).new ht) (.cons (.lst (s3 _ _ upd_same) ((hL.same s1).new hl2) .nil) .nil)
  | n + 1 => by
    have O : Ok P w K mg base CX0 (n + 1) "_law_lots" ps_law_lots (sp_lots n) := ok_lots T n
    refine T.d_law_lots.ok sc_law_lots (fun vs H Q E h => ?_) (fun _ _ _ _ _ _ us hl => match us, hl with | [_], _ => rfl)
      (fun f cdv A outer s H vs Q E hr h => ?_)
    · obtain ⟨_, _, _, rfl, _⟩ := h
      rfl
    · obtain ⟨a, ps, L, rfl, ha, hln, hn10, nd, hL, k⟩ := h
      refine ⟨_, PSs.nox (pss_cons (ps_if (pt_cmpR (op_eqD hr.units) (pv 0) (pe_lst pa_nil) (nomark _)) (pss_one (ps_ret (pe_lst (pa_cons (pe_lst pa_nil) pa_nil)))) pss_nil)
        (pss_cons (ps_set (i := 1) sc_law_lots.nd rfl (Or.inl rfl) (pe_lst pa_nil))
        (pss_cons (ps_for PassesOwn.never rfl (pi_range2 (by rfl) T.b_range (pa_cons pe_int (pa_cons (pe_callB call_len_seq (by rfl) T.b_len PySem.boot_len (pa_cons (pv 0) pa_nil)) pa_nil))) (pg_name (i := 2) sc_law_lots.nd rfl (Or.inr rfl)) (pss_cons (ps_set (i := 3) sc_law_lots.nd rfl (Or.inl rfl) (pe_op op_cat (pe_slice sl_list (pv 0) (po_some pe_int) (po_some (pv 2))) (pe_slice sl_list (pv 0) (po_some (pe_op op_add (pv 2) pe_int)) po_none)))
        (pss_one (ps_set (i := 1) sc_law_lots.nd rfl (Or.inl rfl) (pe_op op_cat (pv 1) (pe_lc (own := [("_law_more_here", 4)]) (g := (gName 4)) (tt := tYes) rfl sc_law_lots.nd (pi_list (pe_fn O hr (by rfl) (pa_cons (pv 3) pa_nil))) (blkOk_by (own := [("_law_more_here", 4)]) (N := N_law_lots) (sc := defScope MH.s_law_lots) (by decide +kernel)) (fun _ _ _ _ _ => (pg_name (i := 4) sc_law_lots.nd rfl (Or.inl rfl))) (fun _ _ _ _ _ => pts_nil) (fun _ _ _ _ _ => (pe_op op_cat (pe_lst (pa_cons (pe_tup (pa_cons (pe_ix (r := rIxL K) ix_list (pv 0) pe_int (fun _ _ => rfl)) (pa_cons (pe_ix (r := rIxL K) ix_list (pv 0) (pv 2) (fun _ _ => rfl)) pa_nil))) pa_nil)) (pv 4)))))))))
        (pss_one (ps_ret (pv 1))))))
        , ?_⟩
      refine ⟨_, rfl, sl0, fun l hl => ?_⟩
      have s1 : Same H (upd H l (.lst [])) := same_new hl
      cases ps with
      | nil =>
        refine ⟨.list [], .list [], .lst (SqL.of (s1 _ _ ha)) .nil, .lst (SqL.of upd_same) .nil, rfl, rfl, _, rfl, ?_⟩
        rw [eqv_nil_nil]
        refine ⟨sl0, fun l2 hl2 => ⟨sl1, fun t ht => ?_⟩⟩
        have s2 := same_new (o := .lst []) hl2
        have s3 := same_new (o := .lst [.ref l2]) ht
        refine k _ _ ((s1.trans s2).trans s3) ?_
        exact .lst upd_same ((hL.same (s1.trans s2)).new ht) (.cons (.lst (s3 _ _ upd_same) ((hL.same s1).new hl2) .nil) .nil)
      | cons x xs =>
        refine ⟨.list ((x :: xs).map PyData.int), .list [], .lst (SqL.of (s1 _ _ ha)) (DaAll.dp (L := []) (daInts _)), .lst (SqL.of upd_same) .nil, shaped_ints _, rfl, _, rfl, ?_⟩
        rw [show PyData.eqv (.list ((x :: xs).map PyData.int)) (.list []) = false from eqv_nil_cons _ _]
        have hln' : xs.length ≤ n := by simpa using hln
        have ndx := (List.nodup_cons.mp nd).2
        have lx : ((x :: xs).map V.int).length = xs.length + 1 := by simp
        refine ⟨sl0, fun F hF => ?_⟩
        have s2 := s1.trans (same_new (o := .lst []) hF)
        have hL2 := hL.same s2
        generalize hH2 : upd (upd H l (.lst [])) F (.lst []) = H2 at *
        refine ⟨_, rfl, a, _, rfl, .inl (SqL.of (s2 _ _ ha)), 1, _, rfl, ⟨by decide, by decide, by rw [lx]; omega, by rw [lx]; omega⟩, ?_⟩
        have hn : ((((x :: xs).map V.int).length : Int) - 1).toNat = xs.length := by rw [lx]; omega
        rw [hn]
        refine for_it walk_range (fun i σ H' => ∃ (u3 u4 : Option V) (g : Addr) (acc : List V), σ = [some (.ref a), some (.ref g), u3, u4, Option.none] ∧ Same H2 H' ∧ H' g = some (.lst acc) ∧ g ∉ L ∧
          DaAll L H' acc ((((xs.take i).flatMap fun o => (lots n (xs.filter fun p => decide (p ≠ o))).map fun m => (x, o) :: m)).map lotD) ∧ acc.length ≤ 1000000)
          ⟨_, _, F, [], rfl, Same.refl _, by rw [← hH2]; exact upd_same, (hL.same s1).new hF, .nil, Nat.zero_le _⟩ (fun _ _ _ _ _ => trivial) (fun i v σ H3 H3' hi p y => ?_) (fun σ H3 p => ?_)
        · obtain ⟨rfl, rfl⟩ := y
          obtain ⟨u3, u4, g, acc, rfl, s3, hg, ng, hd, hal⟩ := p
          have s03 := s2.trans s3
          have ha3 := s03 _ _ ha
          have hix : xs[i]? = some (xs[i]'hi) := List.getElem?_eq_getElem hi
          generalize ho : xs[i]'hi = o at hix
          refine ⟨_, rfl, _, rfl, _, rfl, _, rfl, a, _, rfl, SqL.of ha3, fun c1 hc1 => ?_⟩
          rw [cut_a x xs i (by omega)]
          have s4 := same_new (o := .lst ((xs.take i).map V.int)) hc1
          refine ⟨_, rfl, _, rfl, _, _, rfl, rfl, _, rfl, a, _, rfl, SqL.of (s4 _ _ ha3), fun c2 hc2 => ?_⟩
          rw [cut_b x xs i hi]
          have s5 := same_new (o := .lst ((xs.drop (i + 1)).map V.int)) hc2
          refine ⟨c1, c2, _, _, rfl, rfl, s5 _ _ upd_same, upd_same, by simp; have := szl; omega, fun c3 hc3 => ?_⟩
          rw [← List.map_append, ← List.eraseIdx_eq_take_drop_succ, erase_filter ndx hix]
          have s6 := same_new (o := .lst ((xs.filter fun p => decide (p ≠ o)).map V.int)) hc3
          have s36 : Same H3' _ := s4.trans (s5.trans s6)
          generalize hH6 : upd (upd (upd H3' c1 (.lst ((xs.take i).map V.int))) c2 (.lst ((xs.drop (i + 1)).map V.int))) c3 (.lst ((xs.filter fun p => decide (p ≠ o)).map V.int)) = H6 at *
          have hc36 : H6 c3 = some (.lst ((xs.filter fun p => decide (p ≠ o)).map V.int)) := by rw [← hH6]; exact upd_same
          have hL6 := hL2.same (s3.trans s36)
          have hox := List.mem_of_getElem? hix
          have fl := filter_len ndx hox
          refine ⟨_, rfl, _, rfl, c3, _, L, rfl, hc36, by omega, by omega, ndx.filter _, hL6, fun H7 v s7 hda => ?_⟩
          obtain ⟨Y, ys, rfl, hY, nY, hys⟩ := hda.list
          have hL7 := hL6.same s7
          refine ⟨_, rfl, ⟨_, SqL.of hY⟩, fun D hD => ?_⟩
          have lys : ys.length = (lots n (xs.filter fun p => decide (p ≠ o))).length := by rw [hys.len, List.length_map]
          refine lc_D walk_list L (fun j => (((lots n (xs.filter fun p => decide (p ≠ o))).take j).map fun m => (x, o) :: m).map lotD) hD rfl (fun _ z => SqL.of (z _ _ hY)) (fun j v H8 H8' hj p y => ?_) (fun acc2 H8 s8 hD8 hd8 => ?_)
          · obtain ⟨rfl, y⟩ := y
            obtain ⟨d, hd1, hd2⟩ := ((hys.more hD).same p.1).get y
            rw [List.getElem?_map] at hd1
            obtain ⟨m, hm, rfl⟩ := Option.map_eq_some_iff.mp hd1
            obtain ⟨lm, ml, rfl, hlm, nlm, hml⟩ := Da.list (ds := m.map ipD) hd2
            have hj2 : j < 1000000 := by
              have h1 := lots_count n _ (ndx.filter fun p => decide (p ≠ o))
              have h2 := cntB_le (xs.filter fun p => decide (p ≠ o)).length (by omega)
              rw [lys] at hj
              omega
            have s08 := s03.trans (s36.trans (s7.trans p.1))
            have ha8 := s08 _ _ ha
            have hL8 := hL7.same p.1
            obtain ⟨acc0, hacc0, _⟩ := p.2
            have hLD : Lv (D :: L) H8' := hL8.cons hacc0 nt_lst
            refine ⟨rfl, _, rfl, a, _, 0, _, rfl, rfl, SqL.of ha8, at_of (j := 0) (v := V.int x) rfl rfl, _, rfl, _, rfl, a, _, _, _, rfl, rfl, SqL.of ha8, at_of (j := i + 1) (v := V.int o) (by omega) (by simp [hix]), sl2, fun t ht => ⟨sl1, fun l1 hl1 => ?_⟩⟩
            have r1 := same_new (o := .tup [.int x, .int o]) ht
            have r2 := same_new (o := .lst [.ref t]) hl1
            have lml : ml.length = m.length := by rw [hml.len, List.length_map]
            have lmm := lots_len (ndx.filter _) (List.mem_of_getElem? hm)
            refine ⟨_, rfl, l1, lm, _, _, rfl, rfl, upd_same, r2 _ _ (r1 _ _ hlm), by rw [lml]; simp; have := szl; omega, fun l3 hl3 => ?_⟩
            have r3 := same_new (o := .lst ([.ref t] ++ ml)) hl3
            refine putD p hD (r1.trans (r2.trans r3)) hj2 (d := lotD ((x, o) :: m)) ?_ (by rw [mapTake hm, List.map_append]; rfl)
            show Da (D :: L) _ _ (.list (ipD (x, o) :: m.map ipD))
            refine .lst upd_same ((hLD.same (r1.trans r2)).new hl3) (.cons (.tup (r3 _ _ (r2 _ _ upd_same)) (hLD.new ht) (daInts [x, o])) ?_)
            exact hml.same (r1.trans (r2.trans r3))
          · rw [lys, List.take_length] at hd8
            have s38 := s36.trans (s7.trans s8)
            have cb : ∀ q ∈ xs, ((lots n (xs.filter fun p => decide (p ≠ q))).map fun m => (x, q) :: m).length ≤ 945 := fun q hq => by
              rw [List.length_map]
              have h1 := lots_count n _ (ndx.filter fun p => decide (p ≠ q))
              have h2 := filter_len ndx hq
              have h3 := cntB_le (xs.filter fun p => decide (p ≠ q)).length (by omega)
              omega
            have la : acc.length ≤ 9450 := by
              rw [hd.len, List.length_map]
              have h1 := flatMap_len (xs := xs.take i) (M := 945) fun q hq => cb q (List.mem_of_mem_take hq)
              have h2 : (xs.take i).length ≤ 10 := by rw [List.length_take]; omega
              omega
            have la2 : acc2.length ≤ 945 := by
              have h1 := cb o hox
              rw [List.length_map] at h1
              have h2 := hd8.len
              rw [List.length_map, List.length_map] at h2
              omega
            refine ⟨g, D, acc, acc2, rfl, rfl, s38 _ _ hg, hD8, ?_, fun F2 hF2 => ?_⟩
            · have := szl
              omega
            · have r1 := same_new (o := .lst (acc ++ acc2)) hF2
              refine ⟨_, _, F2, acc ++ acc2, rfl, s3.trans (s38.trans r1), upd_same, (hL7.same s8).new hF2, ?_, ?_⟩
              · rw [take_succ' hix, List.flatMap_append, List.map_append, List.flatMap_cons, List.flatMap_nil, List.append_nil]
                exact (hd.same (s38.trans r1)).app ((hd8.mono (by simp +contextual)).same r1)
              · rw [List.length_append]; omega
        · obtain ⟨u3, u4, g, acc, rfl, s3, hg, ng, hd, hal⟩ := p
          rw [List.take_length] at hd
          exact ⟨_, rfl, k _ _ (s2.trans s3) (.lst hg ng hd)⟩
end
end MR
namespace MR
open PySem PySem.Spec PyProof.Rows L2 LamX
theorem dcT_it {J : It} {n : Nat} {G : Hp → Prop} {Y : Nat → Hp → V → Hp → Prop} {g : TG} {tt : TT} {tk tv : TE} {vs : List Nat} {σ : L2.St} {H1 : Hp} {D : Addr} {Qd : Hp → Prop} (w : Walk J n G Y) (Pv : Nat → Hp → Prop) (h0 : Pv 0 (upd H1 D (.dT []))) (hG : ∀ i H, i ≤ n → Pv i H → G H)
    (hs : ∀ i x H H', i < n → Pv i H → Y i H x H' → g x (wipe σ vs) H' fun σ2 H2 => wipe σ2 vs = wipe σ vs ∧ tt σ2 H2 fun b H3 =>
      if b = true then tk σ2 H3 fun y H4 => tv σ2 H4 fun z H5 => ∃ kvs k b, y = .ref b ∧ H5 b = some (.tup (k.map kV)) ∧ H5 D = some (.dT kvs) ∧ kvs.length < sizeLine ∧ Pv (i + 1) (upd H5 D (.dT (putK kvs k z))) else Pv (i + 1) H3) (hd : ∀ H, Pv n H → Qd H) :
    ∃ W : Nat → Nat → Hp → Prop, (∃ m, W 0 m (upd H1 D (.dT []))) ∧ ∀ i m H, W i m H →
      (J.stop i H ∧ Qd H) ∨ (J.go i H ∧ ∃ Nx : Hp → Prop, (∀ H', Nx H' → ∃ m', m' < m ∧ W (i + 1) m' H') ∧ ∀ x H', J.yld i H x H' → g x (wipe σ vs) H' fun σ2 H2 => wipe σ2 vs = wipe σ vs ∧ tt σ2 H2 fun b H3 =>
        if b = true then tk σ2 H3 fun y H4 => tv σ2 H4 fun z H5 => ∃ kvs k b, y = .ref b ∧ H5 b = some (.tup (k.map kV)) ∧ H5 D = some (.dT kvs) ∧ kvs.length < sizeLine ∧ Nx (upd H5 D (.dT (putK kvs k z))) else Nx H3) := by
  refine ⟨fun i m H => m = n - i ∧ i ≤ n ∧ Pv i H, ⟨n, by simp, Nat.zero_le _, h0⟩, ?_⟩
  rintro i m H ⟨rfl, hi, p⟩
  have q := hG i H hi p
  by_cases hlt : i < n
  · refine .inr ⟨w.goes i H hlt q, Pv (i + 1), fun H' p' => ⟨n - (i + 1), by omega, rfl, hlt, p'⟩, fun x H' y => hs i x H H' hlt p (w.yields i H x H' hlt q y)⟩
  · have e : i = n := by omega
    subst e
    exact .inl ⟨w.stops H q, hd H p⟩
/-- two numbers in order -/
theorem sorted2 {ns : List Int} {i j : Nat} (h : ns.Perm [(i : Int), (j : Int)]) (s : ns.Pairwise (· ≤ ·)) : ns = [((min i j : Nat) : Int), ((max i j : Nat) : Int)] := by
  have hl := h.length_eq
  match ns, hl with
  | [a, b], _ =>
    have hab : a ≤ b := (List.pairwise_cons.mp s).1 b (by simp)
    have ha : a ∈ [(i : Int), (j : Int)] := h.subset (by simp)
    have hb : b ∈ [(i : Int), (j : Int)] := h.subset (by simp)
    have hi : (i : Int) ∈ [a, b] := h.symm.subset (by simp)
    have hj : (j : Int) ∈ [a, b] := h.symm.subset (by simp)
    simp at ha hb hi hj
    have h1 : a = ((min i j : Nat) : Int) := by omega
    have h2 : b = ((max i j : Nat) : Int) := by omega
    rw [h1, h2]
theorem flat_ints (xs : List Int) : (xs.map V.int).all flatV = true := by
  rw [List.all_eq_true]
  intro v hv
  obtain ⟨x, _, rfl⟩ := List.mem_map.mp hv
  rfl
/-- the place of a name -/
def ixN' (names : List Str) (x : Str) : Nat := names.findIdx fun y => decide (y = x)
theorem ix_lt {names : List Str} {x : Str} (h : x ∈ names) : ixN' names x < names.length := List.findIdx_lt_length_of_exists ⟨x, h, by simp⟩
theorem ix_at {names : List Str} {x : Str} (h : x ∈ names) : names[ixN' names x]? = some x := by
  have hl := ix_lt h
  rw [List.getElem?_eq_getElem hl]
  have := List.findIdx_getElem (w := hl)
  have h2 : names[ixN' names x] = x := by unfold ixN'; simpa using this
  rw [h2]
theorem ix_no {names : List Str} {x y : Str} {m : Nat} (h : m < ixN' names x) (hy : names[m]? = some y) : y ≠ x := by
  have hlt : m < names.length := (List.getElem?_eq_some_iff.mp hy).1
  have := List.not_of_lt_findIdx h
  intro e
  have h2 := (List.getElem?_eq_some_iff.mp hy).2
  simp [h2, e] at this
theorem ix_inj {names : List Str} {x y : Str} (hx : x ∈ names) (hy : y ∈ names) (h : ixN' names x = ixN' names y) : x = y := by
  have h1 := ix_at hx
  have h2 := ix_at hy
  rw [h] at h1
  exact Option.some.inj (h1.symm.trans h2)
/-- the key of a met pair -/
def metK (names : List Str) (g : Pr) : Ip := (((min (ixN' names g.1) (ixN' names g.2) : Nat) : Int), ((max (ixN' names g.1) (ixN' names g.2) : Nat) : Int))
def barS (names : List Str) (met : List Pr) (p : Ip) : Bool := met.any fun g => decide (p = metK names g)
/-- first and second -/
def ordP (f : Str → Int) (g : Pr) : Pr := if f g.2 < f g.1 then (g.2, g.1) else g
def nmI (names : List Str) (i : Int) : Str := names.getD i.toNat ""
theorem nm_at {names : List Str} {i : Int} (h0 : 0 ≤ i) (h1 : i < (names.length : Int)) : atI (names.map V.str) i = some (V.str (nmI names i)) := by
  have : i = ((i.toNat : Nat) : Int) := by omega
  have hl : i.toNat < names.length := by omega
  have e : names[i.toNat]? = some (nmI names i) := by
    unfold nmI
    rw [List.getElem?_eq_getElem hl]
    simp [List.getD, List.getElem?_eq_getElem hl]
  rw [this, atI_nat (v := V.str (nmI names i)) (by rw [List.getElem?_map, e]; rfl), ← this]
theorem nm_mem {names : List Str} {i : Int} (h0 : 0 ≤ i) (h1 : i < (names.length : Int)) : nmI names i ∈ names := by
  have hl : i.toNat < names.length := by omega
  have e : names[i.toNat]? = some (nmI names i) := by
    unfold nmI
    rw [List.getElem?_eq_getElem hl]
    simp [List.getD, List.getElem?_eq_getElem hl]
  exact List.mem_of_getElem? e
/-- the score by places -/
def scI (names : List Str) (f : Str → Int) (i : Int) : Int := (names.map f).getD i.toNat 0
theorem scI_nm {names : List Str} {f : Str → Int} {i : Int} (h0 : 0 ≤ i) (h1 : i < (names.length : Int)) : f (nmI names i) = scI names f i := by
  have hl : i.toNat < names.length := by omega
  unfold scI nmI
  simp [List.getD, List.getElem?_eq_getElem hl]
section
variable {P : Program} {w : World} {K : PySem.W.Frag} {mg : Str → Option Value} {base : Heap} {C : Addr}
abbrev N_law_cost : List Str := ["_law_lot", "_law_score", "_law_crew_here", "_law_one", "_law_other"]
abbrev ps_law_cost : List Str := ["_law_lot", "_law_score", "_law_crew_here"]
theorem sc_law_cost : FnScope N_law_cost ps_law_cost (defScope MH.s_law_cost) := ⟨rfl, rfl, rfl, by decide +kernel, rfl, by decide +kernel, by decide +kernel⟩
def sp_cost : Sp := fun vs H Q _ => ∃ (a d c : Addr) (names : List Str) (f : Str → Int) (m : List Ip), vs = [.ref a, .ref d, .ref c] ∧ Da [] H (.ref a) (lotD m) ∧ H d = some (.dK (tab names f)) ∧ H c = some (.lst (names.map V.str)) ∧ m.length ≤ 1000 ∧
  (∀ p ∈ m, (0 ≤ p.1 ∧ p.1 < (names.length : Int)) ∧ 0 ≤ p.2 ∧ p.2 < (names.length : Int)) ∧ (∀ x ∈ names, 0 ≤ f x ∧ f x ≤ 100) ∧ ∀ H', Same H H' → Q (.int (cost (scI names f) m)) H'
theorem ok_law_cost (T : Txt K mg C) : Ok P w K mg base CX0 1 "_law_cost" ps_law_cost sp_cost := by
  refine T.d_law_cost.ok sc_law_cost (fun vs H Q E h => ?_) (fun _ _ _ _ _ _ us hl => match us, hl with | [_, _, _], _ => rfl)
    (fun f cdv A outer s H vs Q E hr h => ?_)
  · obtain ⟨_, _, _, _, _, _, rfl, _⟩ := h
    rfl
  · obtain ⟨a, d, c, names, f, m, rfl, ha, hd, hc, hl, hp, hf, k⟩ := h
    obtain ⟨a', xs, e, ha', _, hxs⟩ := Da.list (ds := m.map ipD) ha
    cases e
    have lx : xs.length = m.length := by rw [hxs.len, List.length_map]
    refine ⟨_, PSs.nox (pss_one (ps_ret (pe_callB (cr_sum rfl) (by rfl) T.b_sum (by decide +kernel) (pa_cons (pe_lc (own := [("_law_one", 3), ("_law_other", 4)]) (g := (gTup K 2 (gCons (gName 3) (gCons (gName 4) gNil)))) (tt := tYes) rfl sc_law_cost.nd (pi_list (pv 0)) (blkOk_by (own := [("_law_one", 3), ("_law_other", 4)]) (N := N_law_cost) (sc := defScope MH.s_law_cost) (by decide +kernel)) (fun _ _ _ _ _ => (pg_tup rfl (pgs_cons (pg_name (i := 3) sc_law_cost.nd rfl (Or.inl rfl)) (pgs_cons (pg_name (i := 4) sc_law_cost.nd rfl (Or.inl rfl)) pgs_nil)))) (fun _ _ _ _ _ => pts_nil) (fun _ _ _ _ _ => (pe_op op_pow (pe_op op_sub (pe_dget (hu_of hr) (pv 1) (pe_ix (r := rIxL K) ix_list (pv 2) (pv 3) (fun _ _ => rfl)) (fun _ _ => rfl)) (pe_dget (hu_of hr) (pv 1) (pe_ix (r := rIxL K) ix_list (pv 2) (pv 4) (fun _ _ => rfl)) (fun _ _ => rfl))) pe_int))) pa_nil))))
      , ?_⟩
    refine ⟨_, rfl, _, rfl, ⟨_, SqL.of ha'⟩, fun D hD => ?_⟩
    refine lc_F walk_list (fun i => ((m.take i).map fun p => (scI names f p.1 - scI names f p.2) ^ 2).map V.int) hD rfl (fun _ z => SqL.of (z _ _ ha')) (fun i v H1 H1' hi p y => ?_) (fun H1 s1 e => ?_)
    · obtain ⟨rfl, y⟩ := y
      obtain ⟨dd, hd1, hd2⟩ := (hxs.same p.1).get y
      rw [List.getElem?_map] at hd1
      obtain ⟨q, hq, rfl⟩ := Option.map_eq_some_iff.mp hd1
      obtain ⟨t, ys, rfl, ht, _, hys⟩ := Da.tuple hd2
      have := daAll_ints (xs := [q.1, q.2]) hys
      subst this
      obtain ⟨⟨q1, q2⟩, q3, q4⟩ := hp q (List.mem_of_getElem? hq)
      have g1 := hf _ (nm_mem q1 q2)
      have g2 := hf _ (nm_mem q3 q4)
      have hc1 := p.1 _ _ hc
      have hd1 := p.1 _ _ hd
      refine ⟨t, _, rfl, SqT.of ht, rfl, _, _, rfl, _, _, rfl, rfl, ?_⟩
      refine ⟨rfl, _, rfl, _, rfl, _, rfl, c, _, q.1, _, rfl, rfl, SqL.of hc1, nm_at q1 q2, d, _, rfl, .inl ⟨_, _, .inl hd1, rfl, (tab_val (nm_mem q1 q2)).symm⟩, ?_⟩
      refine ⟨_, rfl, _, rfl, _, rfl, c, _, q.2, _, rfl, rfl, SqL.of hc1, nm_at q3 q4, d, _, rfl, .inl ⟨_, _, .inl hd1, rfl, (tab_val (nm_mem q3 q4)).symm⟩, ?_⟩
      refine ⟨_, _, rfl, rfl, _, _, rfl, rfl, ⟨by omega, by omega, by omega⟩, ?_⟩
      refine putF p hD (Same.refl _) (by omega) ?_
      rw [mapTake hq, List.map_append, ← scI_nm q1 q2, ← scI_nm q3 q4]
      rfl
    · rw [lx, List.take_length] at e
      exact ⟨D, _, rfl, SqL.of e, k _ s1⟩
abbrev N_barred_of : List Str := ["names", "met", "one", "other"]
abbrev ps_barred_of : List Str := ["names", "met"]
theorem sc_barred_of : FnScope N_barred_of ps_barred_of (defScope MH.s_barred_of) := ⟨rfl, rfl, rfl, by decide +kernel, rfl, by decide +kernel, by decide +kernel⟩
def sp_barred : Sp := fun vs H Q _ => ∃ (a m : Addr) (names : List Str) (ms : List V) (met : List Pr), vs = [.ref a, .ref m] ∧ H a = some (.lst (names.map V.str)) ∧ H m = some (.lst ms) ∧ DaAll [] H ms (met.map prD) ∧ met.length ≤ 1000 ∧
  (∀ q ∈ met, q.1 ∈ names ∧ q.2 ∈ names) ∧ ∀ H' D kvs, Same H H' → H' D = some (.dT kvs) → (∀ a b, (valV kvs [Sum.inl a, Sum.inl b]).isSome = barS names met (a, b)) → Q (.ref D) H'
theorem ok_barred_of (T : Txt K mg C) : Ok P w K mg base CX0 1 "barred_of" ps_barred_of sp_barred := by
  refine T.d_barred_of.ok sc_barred_of (fun vs H Q E h => ?_) (fun _ _ _ _ _ _ us hl => match us, hl with | [_, _], _ => rfl)
    (fun f cdv A outer s H vs Q E hr h => ?_)
  · obtain ⟨_, _, _, _, _, rfl, _⟩ := h
    rfl
  · obtain ⟨a, m, names, ms, met, rfl, ha, hm, hms, hl, hq, k⟩ := h
    have lm : ms.length = met.length := by rw [hms.len, List.length_map]
    refine ⟨_, PSs.nox (pss_one (ps_ret (pe_dcT (own := [("one", 2), ("other", 3)]) (g := (gTup K 2 (gCons (gName 2) (gCons (gName 3) gNil)))) (tt := tYes) (hu_of hr) rfl sc_barred_of.nd (pi_list (pv 1)) (blkOk_by (own := [("one", 2), ("other", 3)]) (N := N_barred_of) (sc := defScope MH.s_barred_of) (by decide +kernel)) (fun _ _ _ _ _ => (pg_tup rfl (pgs_cons (pg_name (i := 2) sc_barred_of.nd rfl (Or.inl rfl)) (pgs_cons (pg_name (i := 3) sc_barred_of.nd rfl (Or.inl rfl)) pgs_nil)))) (fun _ _ _ _ _ => pts_nil) (fun _ _ _ _ _ => (pe_callTy (r := rTupOf K) call_tuple_of (by rfl) T.b_tuple (by decide +kernel) (pa_cons (pe_callB (r := rSorted K) cr_sorted (by rfl) T.b_sorted (by decide +kernel) (pa_cons (pe_lst (pa_cons (pe_idx (K := K) (pv 0) (pv 2)) (pa_cons (pe_idx (K := K) (pv 0) (pv 3)) pa_nil))) pa_nil)) pa_nil))) (fun _ _ _ _ _ => pe_bl))))
      , ?_⟩
    refine ⟨_, rfl, _, rfl, ⟨_, SqL.of hm⟩, fun D hD => ?_⟩
    refine dcT_it walk_list (fun i H' => Same H H' ∧ ∃ kvs, H' D = some (.dT kvs) ∧ kvs.length ≤ i ∧ ∀ a b, (valV kvs [Sum.inl a, Sum.inl b]).isSome = barS names (met.take i) (a, b)) ⟨same_new hD, [], upd_same, Nat.le_refl _, fun _ _ => rfl⟩ (fun i H' hi p => SqL.of (p.1 _ _ hm)) (fun i v H1 H1' hi p y => ?_) (fun H1 p => ?_)
    · obtain ⟨rfl, y⟩ := y
      obtain ⟨s1, kvs, hk1, hk2, hk3⟩ := p
      obtain ⟨dd, hd1, hd2⟩ := (hms.same s1).get y
      rw [List.getElem?_map] at hd1
      obtain ⟨q, hqq, rfl⟩ := Option.map_eq_some_iff.mp hd1
      obtain ⟨t, rfl, ht, _⟩ := da_pr hd2
      obtain ⟨q1, q2⟩ := hq q (List.mem_of_getElem? hqq)
      have ha1 := s1 _ _ ha
      have idx : ∀ x ∈ names, (names.map V.str)[ixN' names x]? = some (V.str x) := fun x hx => by rw [List.getElem?_map, ix_at hx]; rfl
      have idn : ∀ x ∈ names, ∀ (m : Nat) (z : V), m < ixN' names x → (names.map V.str)[m]? = some z → eqV z (.str x) = false := fun x hx m z hm hz => by
        obtain ⟨y, hy, rfl⟩ := mapAt hz
        rw [eqV_str]
        exact decide_eq_false (ix_no hm hy)
      refine ⟨t, _, rfl, SqT.of ht, rfl, _, _, rfl, _, _, rfl, rfl, ?_⟩
      refine ⟨rfl, _, rfl, .inl ⟨rfl, _, SqL.of ha1⟩, _, rfl, a, _, .str q.1, ixN' names q.1, _, rfl, rfl, SqL.of ha1, rfl, flat_strs _, idx _ q1, by rw [eqV_str]; simp, idn _ q1, ?_⟩
      refine ⟨_, rfl, .inl ⟨rfl, _, SqL.of ha1⟩, _, rfl, a, _, .str q.2, ixN' names q.2, _, rfl, rfl, SqL.of ha1, rfl, flat_strs _, idx _ q2, by rw [eqV_str]; simp, idn _ q2, ?_⟩
      refine ⟨sl2, fun l1 hl1 => ⟨l1, [((ixN' names q.1 : Nat) : Int), ((ixN' names q.2 : Nat) : Int)], rfl, SqL.of upd_same, by simp, fun ns' l2 pm sr hl2 => ?_⟩⟩
      rw [sorted2 pm sr]
      refine ⟨l2, _, rfl, .inl ⟨SqL.of upd_same, fun l3 hl3 => ?_⟩⟩
      have s4 := (same_new (o := .lst ([((ixN' names q.1 : Nat) : Int), ((ixN' names q.2 : Nat) : Int)].map V.int)) hl1).trans ((same_new (o := .lst ([((min (ixN' names q.1) (ixN' names q.2) : Nat) : Int), ((max (ixN' names q.1) (ixN' names q.2) : Nat) : Int)].map V.int)) hl2).trans (same_new (o := .tup ([((min (ixN' names q.1) (ixN' names q.2) : Nat) : Int), ((max (ixN' names q.1) (ixN' names q.2) : Nat) : Int)].map V.int)) hl3))
      refine ⟨kvs, [Sum.inl (metK names q).1, Sum.inl (metK names q).2], l3, rfl, upd_same, s4 _ _ hk1, by have := szl; omega, same_upd hD (s1.trans s4), _, upd_same, ?_, fun a b => ?_⟩
      · have := length_putK kvs [Sum.inl (metK names q).1, Sum.inl (metK names q).2] (V.bl true)
        omega
      · rw [valV_put]
        unfold barS
        rw [take_succ' hqq, List.any_append, List.any_cons, List.any_nil, Bool.or_false]
        have h3 := hk3 a b
        unfold barS at h3
        by_cases e : (a, b) = metK names q
        · rw [if_pos (by rw [← e])]
          simp [e]
        · rw [if_neg (by
            intro z
            simp only [List.cons.injEq, Sum.inl.injEq, and_true] at z
            exact e (Prod.ext z.1 z.2)), h3]
          simp [e]
    · obtain ⟨s1, kvs, h1, _, h3⟩ := p
      rw [lm, List.take_length] at h3
      exact k _ D kvs s1 h1 h3
abbrev N_in_order : List Str := ["some", "pair", "firsts", "one", "other"]
abbrev ps_in_order : List Str := ["some", "pair", "firsts"]
theorem sc_in_order : FnScope N_in_order ps_in_order (defScope MH.s_in_order) := ⟨rfl, rfl, rfl, by decide +kernel, rfl, by decide +kernel, by decide +kernel⟩
def sp_in_order : Sp := fun vs H Q _ => ∃ (a t e : Addr) (names : List Str) (p : Ip) (g : Str → Int), vs = [.ref a, .ref t, .ref e] ∧ H a = some (.lst (names.map V.str)) ∧ H t = some (.tup [.int p.1, .int p.2]) ∧ H e = some (.dK (tab names g)) ∧
  (0 ≤ p.1 ∧ p.1 < (names.length : Int)) ∧ (0 ≤ p.2 ∧ p.2 < (names.length : Int)) ∧ ∀ H' q, Same H H' → H' q = some (.tup [.str (ordP g (nmI names p.1, nmI names p.2)).1, .str (ordP g (nmI names p.1, nmI names p.2)).2]) → H q = none → Q (.ref q) H'
theorem ok_in_order (T : Txt K mg C) : Ok P w K mg base CX0 1 "in_order" ps_in_order sp_in_order := by
  refine T.d_in_order.ok sc_in_order (fun vs H Q E h => ?_) (fun _ _ _ _ _ _ us hl => match us, hl with | [_, _, _], _ => rfl)
    (fun f cdv A outer s H vs Q E hr h => ?_)
  · obtain ⟨_, _, _, _, _, _, rfl, _⟩ := h
    rfl
  · obtain ⟨a, t, e, names, p, g, rfl, ha, ht, he, ⟨h1, h2⟩, ⟨h3, h4⟩, k⟩ := h
    have m1 := nm_mem h1 h2
    have m2 := nm_mem h3 h4
    refine ⟨_, PSs.nox (pss_cons (ps_par (i := 3) (j := 4) (by rfl) sc_in_order.nd rfl rfl (by decide) rfl rfl (pa_cons (pe_ix ix_list (pv 0) (pe_ix ix_tup (pv 1) pe_int (fun _ _ => rfl)) (fun _ _ => rfl)) (pa_cons (pe_ix ix_list (pv 0) (pe_ix ix_tup (pv 1) pe_int (fun _ _ => rfl)) (fun _ _ => rfl)) pa_nil)) (by rfl))
        (pss_one (ps_ret (pe_ifExp (pt_cmpR op_lt (pe_dget2 (hu_of hr) (pv 2) (pv 4) pe_int ⟨rfl, rfl, rfl, rfl⟩) (pe_dget2 (hu_of hr) (pv 2) (pv 3) pe_int ⟨rfl, rfl, rfl, rfl⟩) (nomark _)) (pe_tup (pa_cons (pv 4) (pa_cons (pv 3) pa_nil))) (pe_tup (pa_cons (pv 3) (pa_cons (pv 4) pa_nil)))))))
      , ?_⟩
    refine ⟨_, rfl, _, rfl, t, _, _, _, rfl, rfl, SqT.of ht, rfl, a, _, _, _, rfl, rfl, SqL.of ha, nm_at h1 h2, ?_⟩
    refine ⟨_, rfl, _, rfl, t, _, _, _, rfl, rfl, SqT.of ht, rfl, a, _, _, _, rfl, rfl, SqL.of ha, nm_at h3 h4, _, _, rfl, ?_⟩
    refine ⟨_, rfl, e, rfl, .inl ⟨_, .inl he⟩, _, rfl, _, .inl ⟨_, Sum.inr _, .inl he, rfl, rfl⟩, ?_⟩
    refine ⟨_, rfl, e, rfl, .inl ⟨_, .inl he⟩, _, rfl, _, .inl ⟨_, Sum.inr _, .inl he, rfl, rfl⟩, ?_⟩
    rw [tab_val m1, tab_val m2]
    refine ⟨_, _, rfl, rfl, _, rfl, ?_⟩
    by_cases c : g (nmI names p.2) < g (nmI names p.1)
    · refine ite_tt c ?_
      refine ⟨_, rfl, _, rfl, sl2, fun q hq => ?_⟩
      refine k _ q (same_new hq) (by rw [upd_same, ordP, if_pos c]) hq
    · refine ite_ff c ?_
      refine ⟨_, rfl, _, rfl, sl2, fun q hq => ?_⟩
      refine k _ q (same_new hq) (by rw [upd_same, ordP, if_neg c]) hq
end
end MR
namespace MR
open PySem PySem.Spec PyProof.Rows L2 LamX
/-! what is raised, the tables of the lambdas -/
structure Exc1 (K : PySem.W.Frag) (mg : Str → Option Value) (x : Str) (c : Addr) : Prop where
  g : mg x = some (.ref c)
  x : PySem.W.excIn K c [.type "ValueError", .type "Exception", .type "BaseException", .type "object"] "ValueError.__new__" = true
  k : PySem.W.keepIn K (.ref c) = true
  b : PySem.W.subIn K (.ref c) (.type "BaseException") = some true
  t : PySem.W.typeIn K (.ref c) = some (.type "type")
def DfC (K : PySem.W.Frag) (mg : Str → Option Value) (x : Str) (st : Stmt) (c : Addr) : Prop := ∃ f fd, FnS K x x st f fd ∧ mg x = some (.ref f) ∧ fd.code = .ref c
structure Lt (K : PySem.W.Frag) (mg : Str → Option Value) (base : Heap) (cp Pp cb Pb : Addr) : Prop where
  dp : DfC K mg "paired" MH.s_paired cp
  tp : TabB base mg cp Pp
  db : DfC K mg "_law_best" MH.s_law_best cb
  tb : TabB base mg cb Pb
  ne : Pp ≠ Pb
abbrev lamP : Str := "paired.<locals>.<lambda>"
abbrev lamB : Str := "_law_best.<locals>.<lambda>"
abbrev TT2 (Pp Pb : Addr) : List (Addr × Str) := [(Pp, lamP), (Pb, lamB)]
section
variable {P : Program} {w : World} {K : PySem.W.Frag} {mg : Str → Option Value} {base : Heap} {CX : CXT} {C : Addr} {k : Nat} {x : Str} {ps N : List Str} {sp : Sp} {st : Stmt} {c : Addr}
theorem DfC.ok (D : DfC K mg x st c) (S : FnScope N ps (defScope st)) (len : ∀ vs H Q E, sp vs H Q E → vs.length = ps.length)
    (hbody : ∀ (f : Addr) (A : Around) (outer : List Env) (s : Shared) (H : Hp) (vs : List V) (Q : VK) (E : XK), Room k (A.deeper (envOfC x (defScope st) s.heap.objs.size f (.ref c))) → sp vs H Q E →
      ∃ t, PSs (cxOf CX P w K mg base N x (defScope st) f (.ref c) A outer s H E) (defBody st) t ∧ t { nx := fun _ H' => Q .non H', rt := Q } (start N vs) H) :
    ∃ f fd, FnS K x x st f fd ∧ mg x = some (.ref f) ∧ FnOk P w K mg base CX (k + 1) f fd ps sp := by
  obtain ⟨f, fd, F, hm, hc⟩ := D
  refine ⟨f, fd, F, hm, ?_⟩
  obtain ⟨oc, od, dV, kV, doc, pm, an, cdv, ct, osl, rfl, lk, hcd, _, _⟩ := F.ex
  cases (show cdv = .ref c from hc)
  exact fn_of lk hcd S len fun A outer s H vs Q E hr hsp => hbody f A outer s H vs Q E hr hsp
end
/-! the mathematics of a round -/
def pls (n : Nat) : List Int := (List.range n).map Int.ofNat
def oI : Option Int → V
  | none => .non
  | some i => .int i
def outF (ps : List Int) (o : Option Int) : List Int := ps.filter fun p => !decide (V.int p = oI o)
inductive PR (s : Int → Int) (bar : Ip → Bool) (ps : List Int) : List (Option Int) → Option (Option Int × List Ip) → Prop
  | nil : PR s bar ps [] none
  | hit {o : Option Int} {os : List (Option Int)} {m : List Ip} : Bst s bar (lots 10 (outF ps o)) (some m) → PR s bar ps (o :: os) (some (o, m))
  | miss {o : Option Int} {os : List (Option Int)} {r : Option (Option Int × List Ip)} : Bst s bar (lots 10 (outF ps o)) none → PR s bar ps os r → PR s bar ps (o :: os) r
theorem PR.uniq {s : Int → Int} {bar : Ip → Bool} {ps : List Int} {l : List (Option Int)} {a b : Option (Option Int × List Ip)} (h1 : PR s bar ps l a) (h2 : PR s bar ps l b) : a = b := by
  induction h1 with
  | nil => cases h2; rfl
  | hit h =>
    cases h2 with
    | hit h' => rw [Option.some.inj (h.uniq h')]
    | miss h' _ => cases h.uniq h'
  | miss h _ ih =>
    cases h2 with
    | hit h' => cases h.uniq h'
    | miss _ h' => exact ih h'
def spareL (names : List Str) (f : Str → Int) (sat : List Str) : List (Option Int) :=
  if names.length % 2 = 1 then (sort2 (scI names f) (fun p => -p) ((pls names.length).filter fun p => !decide (nmI names p ∈ sat))).map some else [none]
def lapOf (names : List Str) (g : Str → Int) (r : Option Int × List Ip) : Lap := (r.2.map fun p => ordP g (nmI names p.1, nmI names p.2), r.1.map (nmI names))
theorem pls_nd (n : Nat) : (pls n).Nodup := by
  unfold pls
  rw [List.nodup_iff_pairwise_ne, List.pairwise_map]
  exact (List.nodup_range (n := n)).imp fun h e => h (Int.ofNat.inj e)
theorem pls_mem {n : Nat} {p : Int} (h : p ∈ pls n) : 0 ≤ p ∧ p < (n : Int) := by
  unfold pls at h
  obtain ⟨a, ha, rfl⟩ := List.mem_map.mp h
  have := List.mem_range.mp ha
  simp
  omega
theorem rg_pls (n : Nat) : rgV 0 (n : Int) = (pls n).map V.int := by
  unfold rgV pls
  rw [List.map_map, show ((n : Int) - 0).toNat = n by omega]
  refine List.map_congr_left fun i _ => ?_
  show V.int (0 + (i : Nat)) = V.int (Int.ofNat i)
  congr 1
  simp
theorem pls_len (n : Nat) : (pls n).length = n := by simp [pls]
theorem spare_mem {names : List Str} {f : Str → Int} {sat : List Str} {z : Int} (h : some z ∈ spareL names f sat) : 0 ≤ z ∧ z < (names.length : Int) := by
  unfold spareL at h
  split at h
  · obtain ⟨a, ha, e⟩ := List.mem_map.mp h
    cases e
    have : z ∈ (pls names.length).filter fun p => !decide (nmI names p ∈ sat) := (List.mergeSort_perm _ _).subset ha
    exact pls_mem (List.mem_filter.mp this).1
  · simp at h
/-- the key of a place: paired's lambda -/
def Bp (σ : St) (H : Hp) (x a b : Int) : Prop := ∃ (p : Addr) (l : List Int), σ[12]? = some (some (.ref p)) ∧ H p = some (.lst (l.map V.int)) ∧ 0 ≤ x ∧ x < (l.length : Int) ∧ a = l.getD x.toNat 0 ∧ b = -x
theorem re_mono {P : Program} {w : World} {A : Around} {E : Value → Shared → Prop} {env : Env} {h₀ : Heap} {e : Expr} {R R' : Value → Heap → Prop} (h : RE P w A E env h₀ e R) (hR : ∀ u h', R u h' → R' u h') : RE P w A E env h₀ e R' := fun s k =>
  thn (h s k) fun u s1 ⟨h', tk, e, k1, r⟩ => ⟨h', tk, e, k1, hR _ _ r⟩
theorem bodyP {X : Cx} {scope : Scope} {p1 p2 p3 p4 p5 p6 : Pos} {k0 : Nat} (hN : X.N[12]? = some ("sums" : Str)) (hk : X.env.scope.names.lookup ("sums" : Str) = some .cell) (L : Lam1 X.env.scope scope "place") (hf : scope.names.lookup ("sums" : Str) = some .free) :
    Body2 X "place" (.Tuple [.Subscript (.Name "sums" p1) (.Name "place" p2) p3, .UnaryOp .USub (.Name "place" p4) p5] k0 p6) scope Bp := by
  rintro pins σ H s I x k1 k2 ⟨p, l, e1, e2, h0, h1, rfl, rfl⟩ h₁ A E Lo f c' t keep ns
  obtain ⟨u, c, ru, hc, hcell⟩ := cell_of I hN e1 hk
  cases (show u = Value.ref p from ru)
  obtain ⟨its, rv, pl, hz⟩ := I.list (SqL.of e2)
  have hl : x.toNat < l.length := by omega
  have hv : (l.map V.int)[x.toNat]? = some (V.int (l.getD x.toNat 0)) := by
    rw [List.getElem?_map, List.getElem?_eq_getElem hl]
    simp [List.getD, List.getElem?_eq_getElem hl]
  obtain ⟨uv, e3, t2, e4⟩ := rv.get hv
  subst e4
  have loc : RE X.prog X.w A E (envL (X.env.qual ++ "<lambda>") scope Lo f c' (cloFrom X.env.cells scope.names [])) h₁ (.Name "place" p2) (fun v _ => ∃ t, v = .int x t) :=
    re_mono (re_loc L.kind L.par ns (by rfl)) fun _ _ e => ⟨t, e⟩
  have loc2 : RE X.prog X.w A E (envL (X.env.qual ++ "<lambda>") scope Lo f c' (cloFrom X.env.cells scope.names [])) h₁ (.Name "place" p4) (fun v _ => ∃ t, v = .int x t) :=
    re_mono (re_loc L.kind L.par ns (by rfl)) fun _ _ e => ⟨t, e⟩
  refine re_tup2 (re_mono (re_ixl (l := p) (its := its) (i := x) (v := .int (l.getD x.toNat 0) t2) (re_free (c := c) L.kind hf (L.clo I.ok hf hc) (let ⟨o, e, d⟩ := hcell; ⟨o, keep _ _ e, d⟩)) loc (let ⟨o, e, d⟩ := pl.isList; ⟨o, keep _ _ e, d⟩) h0 ?_ e3) fun _ _ e => ⟨t2, e⟩) (re_neg loc2)
  have h5 := rv.length
  rw [List.length_map] at h5
  have h6 := sizeLine_eq
  have h7 : l.length ≤ sizeLine := by simpa using hz
  omega
section
variable {P : Program} {w : World} {K : PySem.W.Frag} {mg : Str → Option Value} {base : Heap} {C : Addr} {cp Pp cb Pb CN : Addr}
abbrev N_paired : List Str := ["names", "points", "met", "sat", "firsts", "some", "places", "barred", "spare", "out", "found", "games", "sums", "name", "place", "pair"]
abbrev ps_paired : List Str := ["names", "points", "met", "sat", "firsts"]
theorem sc_paired : FnScope N_paired ps_paired (defScope MH.s_paired) := ⟨rfl, rfl, rfl, by decide +kernel, rfl, by decide +kernel, by decide +kernel⟩
def sp_paired (Pp Pb CN : Addr) : Sp := fun vs H Q E => ∃ (a d m s e : Addr) (xs : List Str) (f g : Str → Int) (ms : List V) (met : List Pr) (sat : List Str) (L : List Addr), vs = [.ref a, .ref d, .ref m, .ref s, .ref e] ∧
  H a = some (.lst (xs.map V.str)) ∧ 2 ≤ xs.length ∧ xs.length ≤ 10 ∧ (∀ x ∈ xs, NameOk x) ∧ xs.Nodup ∧ H d = some (.dK (tab xs f)) ∧ (∀ x ∈ xs, 0 ≤ f x ∧ f x ≤ 100) ∧
  H m = some (.lst ms) ∧ DaAll [] H ms (met.map prD) ∧ met.length ≤ 1000 ∧ (∀ q ∈ met, q.1 ∈ xs ∧ q.2 ∈ xs ∧ q.1 ≠ q.2) ∧ H s = some (.lst (sat.map V.str)) ∧ sat.length ≤ 1000 ∧ (∀ x ∈ sat, x ∈ xs) ∧
  H e = some (.dK (tab xs g)) ∧ (∀ x ∈ xs, 0 ≤ g x ∧ g x ≤ 100) ∧ Lv L H ∧ Tabs (TT2 Pp Pb) H ∧
  (∀ H' t r, ExtN H H' → Tabs (TT2 Pp Pb) H' → PR (scI xs f) (barS xs met) (pls xs.length) (spareL xs f sat) (some r) → Da L H' (.ref t) (lapD (lapOf xs g r)) → Q (.ref t) H') ∧
  ∀ H', ExtN H H' → Tabs (TT2 Pp Pb) H' → PR (scI xs f) (barS xs met) (pls xs.length) (spareL xs f sat) none → E (.ref CN) none H'
theorem ok_paired (T : Txt K mg C) (LT : Lt K mg base cp Pp cb Pb) (XN : Exc1 K mg "NoPairing" CN) :
    ∃ f fd, FnS K "paired" "paired" MH.s_paired f fd ∧ mg "paired" = some (.ref f) ∧ FnOk P w K mg base (L2.CX P w) 13 f fd ps_paired (sp_paired Pp Pb CN) := by
  refine LT.dp.ok sc_paired (fun vs H Q E h => ?_) (fun fa A outer s0 H vs Q E hr h => ?_)
  · obtain ⟨_, _, _, _, _, _, _, _, _, _, _, _, rfl, _⟩ := h
    rfl
  · obtain ⟨a, d, m, s, e, xs, f, g, ms, met, sat, L, rfl, ha, l1, l2, hn, hnd, hd, hf, hm, hms, lm, hmet, hs, ls, hsat, he, hg, hL, hT, kq, ke⟩ := h
    have qe : Str.ofString "paired.<locals>." ++ Str.ofString "<lambda>" = lamP := by decide +kernel
    have hmT : (Pp, Str.ofString "paired.<locals>." ++ Str.ofString "<lambda>") ∈ TT2 Pp Pb := by rw [qe]; simp
    have huT : ∀ p ∈ TT2 Pp Pb, p.1 = Pp → p.2 = Str.ofString "paired.<locals>." ++ Str.ofString "<lambda>" := by
      intro p hp e
      rw [qe]
      rcases List.mem_cons.mp hp with rfl | hp
      · rfl
      · rw [List.mem_singleton.mp hp] at e
        exact absurd e.symm LT.ne
    have hB : ∀ (σ : St) (H H' : Hp) (x a b : Int), ExtN H H' → Bp σ H x a b → Bp σ H' x a b := by
      rintro σ H H' x a b e ⟨p, l, h1, h2, h3⟩
      exact ⟨p, l, h1, e _ _ h2 (fun _ z => by cases z), h3⟩
    refine ⟨_, (pss_cons (ps_expr (pe_fn (ok_need_pairable T) (hr.mono (by decide)) (by rfl) (pa_cons (pv 0) (pa_cons (pv 1) (pa_cons (pv 2) (pa_cons (pv 3) (pa_cons (pv 4) pa_nil)))))))
        (pss_cons (ps_set (i := 5) sc_paired.nd rfl (Or.inr rfl) (pe_callTy call_list_of (by rfl) T.b_list (by decide +kernel) (pa_cons (pv 0) pa_nil)))
        (pss_cons (ps_asg (pe_tup (pa_cons (pe_listRg rfl (by rfl) T.b_list (prg_1 (by rfl) T.b_range (pe_callB call_len_seq (by rfl) T.b_len PySem.boot_len (pa_cons (pv 5) pa_nil)))) (pa_cons (pe_lc (own := [("name", 13)]) (g := (gName 13)) (tt := tYes) rfl sc_paired.nd (pi_list (pv 5)) (blkOk_by (own := [("name", 13)]) (N := N_paired) (sc := defScope MH.s_paired) (by decide +kernel)) (fun _ _ _ _ _ => (pg_name (i := 13) sc_paired.nd rfl (Or.inl rfl))) (fun _ _ _ _ _ => pts_nil) (fun _ _ _ _ _ => (pe_dget (hu_of hr) (pv 1) (pv 13) (fun _ _ => rfl)))) pa_nil))) (pg_tup rfl (pgs_cons (pg_name (i := 6) sc_paired.nd rfl (Or.inl rfl)) (pgs_cons (pg_name (i := 12) sc_paired.nd rfl (Or.inr rfl)) pgs_nil))))
        (pss_cons (ps_par (i := 7) (j := 8) (by rfl) sc_paired.nd rfl rfl (by decide) rfl rfl (pa_cons (pe_fn (ok_barred_of T) (hr.mono (by decide)) (by rfl) (pa_cons (pv 5) (pa_cons (pv 2) pa_nil))) (pa_cons (pe_lst (pa_cons pe_non pa_nil)) pa_nil)) (by rfl))
        (pss_cons (ps_join (ps_if (pt_cmpR op_eq (pe_op op_mod (pe_callB call_len_seq (by rfl) T.b_len PySem.boot_len (pa_cons (pv 6) pa_nil)) pe_int) pe_int (nomark _)) (pss_one (ps_set (i := 8) sc_paired.nd rfl (Or.inl rfl) (pe_sortKey (k := 0) (T := TT2 Pp Pb) (B := Bp) rfl (by rfl) T.b_sorted LT.tp rfl hmT huT (hr.mono (by decide)) (lam1_by (sc := defScope MH.s_paired) (by decide +kernel)) (by rfl) (fun _ _ _ _ _ _ => rfl) (pe_lc (own := [("place", 14)]) (g := (gName 14)) rfl sc_paired.nd (pi_list (pv 6)) (blkOk_by (own := [("place", 14)]) (N := N_paired) (sc := defScope MH.s_paired) (by decide +kernel)) (fun _ _ _ _ _ => (pg_name (i := 14) sc_paired.nd rfl (Or.inl rfl))) (fun _ _ _ _ _ => (pts_one (pt_cmpR (r := rIn K true) op_notIn_seq (pe_ix (r := rIxL K) ix_list (pv 5) (pv 14) (fun _ _ => rfl)) (pv 3) (by rfl)))) (fun _ _ _ _ _ => (pv 14))) hB (bodyP rfl rfl (lam1_by (sc := defScope MH.s_paired) (by decide +kernel)) rfl)))) pss_nil))
        (pss_cons (ps_for (passes_of rfl) rfl (pi_list (pv 8)) (pg_name (i := 9) sc_paired.nd rfl (Or.inr rfl)) (pss_cons (ps_set (i := 10) sc_paired.nd rfl (Or.inl rfl) (pe_fn (ok_least T 10) (hr.mono (by decide)) (by rfl) (pa_cons (pe_lc (own := [("place", 14)]) (g := (gName 14)) rfl sc_paired.nd (pi_list (pv 6)) (blkOk_by (own := [("place", 14)]) (N := N_paired) (sc := defScope MH.s_paired) (by decide +kernel)) (fun _ _ _ _ _ => (pg_name (i := 14) sc_paired.nd rfl (Or.inl rfl))) (fun _ _ _ _ _ => (pts_one (pt_cmpR op_ne (pv 14) (pv 9) (nomark _)))) (fun _ _ _ _ _ => (pv 14))) (pa_cons (pv 12) (pa_cons (pv 7) pa_nil)))))
        (pss_one (ps_if (pt_cmpR op_notN (pv 10) pe_non (nomark _)) (pss_cons (ps_setLc (i := 11) (own := [("pair", 15)]) (g := (gName 15)) (tt := tYes) rfl sc_paired.nd rfl rfl (sw_true rfl rfl rfl (by decide +kernel)) (pi_list (pe_ix ix_tup (pv 10) pe_int (fun _ _ => rfl))) (blkOk_by (own := [("pair", 15)]) (N := N_paired) (sc := defScope MH.s_paired) (by decide +kernel)) (fun _ _ _ _ _ => (pg_name (i := 15) sc_paired.nd rfl (Or.inl rfl))) (fun _ _ _ _ _ => pts_nil) (fun _ _ _ _ _ => (pe_fn (ok_in_order T) (hr.mono (by decide)) (by rfl) (pa_cons (pv 5) (pa_cons (pv 15) (pa_cons (pe_ifExp (pt_cmpR op_isN (pv 4) pe_non (nomark _)) pe_dnewK (pv 4)) pa_nil))))))
        (pss_one (ps_ret (pe_tup (pa_cons (pv 11) (pa_cons (pe_ifExp (pt_cmpR op_isN (pv 9) pe_non (nomark _)) pe_non (pe_ix ix_list (pv 5) (pv 9) (fun _ _ => rfl))) pa_nil)))))) pss_nil))))
        (pss_one (ps_raise rfl (takes_of rfl rfl rfl rfl) (pmk_own PySem.F.excBase_ValueError XN.x XN.g XN.k (raises_own XN.b XN.t) rfl)))))))))
      , ?_⟩
    refine ⟨_, rfl, _, rfl, _, rfl, _, rfl, _, rfl, a, d, m, s, e, xs, f, g, ms, met, sat, rfl, ha, l1, l2, hn, hnd, hd, hf, hm, hms, lm, hmet, hs, ls, hsat, he, hg, fun H1 s1 => ?_⟩
    -- some = list(names)
    refine ⟨_, rfl, a, _, rfl, .inl (SqL.of (s1 _ _ ha)), fun so hso => ?_⟩
    have s2 := s1.trans (same_new (o := .lst (xs.map V.str)) hso)
    generalize hH2 : upd H1 so (.lst (xs.map V.str)) = H2 at *
    have hso2 : H2 so = some (.lst (xs.map V.str)) := by rw [← hH2]; exact upd_same
    have lxs : (xs.map V.str).length = xs.length := List.length_map _
    refine ⟨_, rfl, so, _, rfl, .inl (SqL.of hso2), _, rfl, ?_⟩
    refine ⟨RgOk.of_le (by omega) (by omega) (by omega) (by omega), fun pl hpl => ?_⟩
    rw [lxs, rg_pls]
    have s3 := s2.trans (same_new (o := .lst ((pls xs.length).map V.int)) hpl)
    generalize hH3 : upd H2 pl (.lst ((pls xs.length).map V.int)) = H3 at *
    have hso3 : H3 so = some (.lst (xs.map V.str)) := by rw [← hH3, upd_ne (ne_of_none hso2 hpl)]; exact hso2
    have hpl3 : H3 pl = some (.lst ((pls xs.length).map V.int)) := by rw [← hH3]; exact upd_same
    refine ⟨_, rfl, _, rfl, ⟨_, SqL.of hso3⟩, fun sm hsm => ?_⟩
    refine lc_F walk_list (fun i => ((xs.take i).map f).map V.int) hsm rfl (fun _ z => SqL.of (z _ _ hso3)) (fun i v H4 H4' hi p y => ?_) (fun H4 s4 e4 => ?_)
    · obtain ⟨rfl, y⟩ := y
      obtain ⟨x, hx, rfl⟩ := mapAt y
      have hm := List.mem_of_getElem? hx
      refine ⟨rfl, _, rfl, _, rfl, d, _, rfl, .inl ⟨_, Sum.inr x, .inl (p.1 _ _ (s3 _ _ hd)), rfl, (tab_val hm).symm⟩, putF p hsm (Same.refl _) (by omega) (by rw [mapTake hx, List.map_append]; rfl)⟩
    rw [lxs, List.take_length] at e4
    refine ⟨sl2, fun t0 ht0 => ⟨t0, _, rfl, SqT.of upd_same, rfl, _, _, rfl, _, _, rfl, rfl, ?_⟩⟩
    have s5 := s4.trans (same_new (o := .tup [.ref pl, .ref sm]) ht0)
    generalize hH5 : upd H4 t0 (.tup [.ref pl, .ref sm]) = H5 at *
    have hsm5 : H5 sm = some (.lst ((xs.map f).map V.int)) := by rw [← hH5, upd_ne (ne_of_none e4 ht0)]; exact e4
    have s05 := s3.trans s5
    -- barred, spare
    refine ⟨_, rfl, _, rfl, so, m, xs, ms, met, rfl, s5 _ _ hso3, s05 _ _ hm, hms.same s05, lm, fun q hq => ⟨(hmet q hq).1, (hmet q hq).2.1⟩, fun H6 BD kvs s6 hBD hbar => ⟨sl1, fun sp hsp => ⟨_, _, rfl, ?_⟩⟩⟩
    have s06 := s05.trans s6
    have s7 : Same H6 (upd H6 sp (.lst [.non])) := same_new hsp
    generalize hH7 : upd H6 sp (.lst [.non]) = H7 at *
    have s07 := s06.trans s7
    have s57 := s6.trans s7
    have hT7 := hT.ext s07
    have hsp7 : H7 sp = some (.lst [.non]) := by rw [← hH7]; exact upd_same
    have hso7 := s57 _ _ (s5 _ _ hso3)
    have hpl7 := s57 _ _ (s5 _ _ hpl3)
    have hsm7 := s57 _ _ hsm5
    have hBD7 := s7 _ _ hBD
    refine ⟨fun σ' H' => ∃ sp2 : Addr, σ' = [some (.ref a), some (.ref d), some (.ref m), some (.ref s), some (.ref e), some (.ref so), some (.ref pl), some (.ref BD), some (.ref sp2), none, none, none, some (.ref sm), none, none, none] ∧ ExtN H7 H' ∧ Tabs (TT2 Pp Pb) H' ∧ H' sp2 = some (.lst ((spareL xs f sat).map oI)), ?_, ?_⟩
    · refine ⟨_, rfl, pl, _, rfl, .inl (SqL.of hpl7), _, _, rfl, rfl, (by show (0 : Int) < 2; decide), rfl, _, rfl, ?_⟩
      have lpl : ((pls xs.length).map V.int).length = xs.length := by rw [List.length_map, pls_len]
      rw [lpl]
      by_cases c : xs.length % 2 = 1
      · refine ite_tt (by show V.int (((xs.length : Nat) : Int) % 2) = V.int 1; rw [show ((xs.length : Nat) : Int) % 2 = 1 by omega]) ?_
        -- spare = sorted(..)
        refine ⟨_, rfl, _, rfl, ⟨_, SqL.of hpl7⟩, fun D hD => ?_⟩
        refine lc_F walk_list (fun i => (((pls xs.length).take i).filter fun p => !decide (nmI xs p ∈ sat)).map V.int) hD rfl (fun _ z => SqL.of (z _ _ hpl7)) (fun i v H8 H8' hi p y => ?_) (fun H8 s8 e8 => ?_)
        · obtain ⟨rfl, y⟩ := y
          obtain ⟨q, hq, rfl⟩ := mapAt y
          obtain ⟨q1, q2⟩ := pls_mem (List.mem_of_getElem? hq)
          have hi' : i < 1000000 := by omega
          refine ⟨rfl, _, rfl, _, rfl, so, _, q, _, rfl, rfl, SqL.of (p.1 _ _ hso7), nm_at q1 q2, _, rfl, s, _, rfl, .inl (SqL.of (p.1 _ _ (s07 _ _ hs))), rfl, flat_strs _, _, rfl, ?_⟩
          rw [if_pos rfl, inV_strs]
          by_cases e : nmI xs q ∈ sat
          · rw [decide_eq_true e]
            exact skipF p (Same.refl _) (by rw [filTake hq, decide_eq_true e]; simp)
          · rw [decide_eq_false e]
            exact ⟨_, rfl, putF p hD (Same.refl _) hi' (by rw [filTake hq, decide_eq_false e]; simp)⟩
        rw [lpl, List.take_of_length_le (by rw [pls_len]; exact Nat.le_refl _)] at e8
        refine ⟨D, _, scI xs f, fun p => -p, rfl, SqL.of e8, ?_, hT7.ext s8, fun z hz => ?_, fun H9 p9 e9 T9 hp9 => ?_⟩
        · have := List.length_filter_le (fun p => !decide (nmI xs p ∈ sat)) (pls xs.length)
          rw [pls_len] at this
          omega
        · obtain ⟨q1, q2⟩ := pls_mem (List.mem_filter.mp hz).1
          exact ⟨sm, xs.map f, rfl, s8 _ _ hsm7, q1, by rw [List.length_map]; exact q2, rfl, rfl⟩
        · have sn := same_new (o := .lst ((sort2 (scI xs f) (fun p => -p) ((pls xs.length).filter fun p => !decide (nmI xs p ∈ sat))).map V.int)) hp9
          refine ⟨p9, rfl, (ExtN.of s8).trans (e9.trans (ExtN.of sn)), T9.ext sn, ?_⟩
          rw [upd_same, spareL, if_pos c, List.map_map]
          rfl
      · refine ite_ff (by intro z; have z2 : ((xs.length : Nat) : Int) % 2 = 1 := V.int.inj z; omega) ?_
        exact ⟨sp, rfl, ExtN.refl _, hT7, by rw [spareL, if_neg c]; exact hsp7⟩
    · rintro σ' H8 ⟨sp2, rfl, x8, T8, hsp8⟩
      have x08 : ExtN H H8 := (ExtN.of s07).trans x8
      have lsp : ((spareL xs f sat).map oI).length = (spareL xs f sat).length := List.length_map _
      have hpl8 : ∀ H', ExtN H8 H' → H' pl = some (.lst ((pls xs.length).map V.int)) := fun H' x => x _ _ (x8 _ _ hpl7 nt_lst) nt_lst
      have hso8 : ∀ H', ExtN H8 H' → H' so = some (.lst (xs.map V.str)) := fun H' x => x _ _ (x8 _ _ hso7 nt_lst) nt_lst
      have hsm8 : ∀ H', ExtN H8 H' → H' sm = some (.lst ((xs.map f).map V.int)) := fun H' x => x _ _ (x8 _ _ hsm7 nt_lst) nt_lst
      have hBD8 : ∀ H', ExtN H8 H' → H' BD = some (.dT kvs) := fun H' x => x _ _ (x8 _ _ hBD7 (fun _ z => by cases z)) (fun _ z => by cases z)
      have he8 : ∀ H', ExtN H8 H' → H' e = some (.dK (tab xs g)) := fun H' x => x _ _ (x08 _ _ he nt_dK) nt_dK
      refine ⟨_, rfl, sp2, rfl, ⟨_, SqL.of hsp8⟩, ?_⟩
      refine for_it walk_list (fun i σ H' => ∃ (u9 u10 u11 : Option V), σ = [some (.ref a), some (.ref d), some (.ref m), some (.ref s), some (.ref e), some (.ref so), some (.ref pl), some (.ref BD), some (.ref sp2), u9, u10, u11, some (.ref sm), none, none, none] ∧
        Same H8 H' ∧ ∀ r, PR (scI xs f) (barS xs met) (pls xs.length) ((spareL xs f sat).drop i) r → PR (scI xs f) (barS xs met) (pls xs.length) (spareL xs f sat) r)
        ⟨_, _, _, rfl, Same.refl _, fun r h => h⟩ (fun i σ H' hi ⟨_, _, _, _, z, _⟩ => SqL.of (z _ _ hsp8)) (fun i v σ H9 H9' hi p y => ?_) (fun σ H9 p => ?_)
      · obtain ⟨rfl, y⟩ := y
        obtain ⟨u9, u10, u11, rfl, s9, hpr⟩ := p
        have x9 := ExtN.of s9
        obtain ⟨o, ho, rfl⟩ := mapAt y
        -- the places but out
        refine ⟨_, rfl, _, rfl, ⟨_, SqL.of (hpl8 _ x9)⟩, fun D hD => ?_⟩
        have lpl : ((pls xs.length).map V.int).length = xs.length := by rw [List.length_map, pls_len]
        refine lc_F walk_list (fun i => (((pls xs.length).take i).filter fun p => !decide (V.int p = oI o)).map V.int) hD rfl (fun _ z => SqL.of (z _ _ (hpl8 _ x9))) (fun i v H10 H10' hi p y => ?_) (fun H10 s10 e10 => ?_)
        · obtain ⟨rfl, y⟩ := y
          obtain ⟨q, hq, rfl⟩ := mapAt y
          have hi' : i < 1000000 := by omega
          refine ⟨rfl, _, rfl, _, rfl, (by cases o <;> rfl), _, rfl, ?_⟩
          by_cases c : V.int q = oI o
          · rw [decide_eq_true c]
            exact skipF p (Same.refl _) (by rw [filTake hq, decide_eq_true c]; simp)
          · rw [decide_eq_false c]
            exact ⟨_, rfl, putF p hD (Same.refl _) hi' (by rw [filTake hq, decide_eq_false c]; simp)⟩
        rw [lpl, List.take_of_length_le (by rw [pls_len]; exact Nat.le_refl _)] at e10
        have x10 := x9.trans (ExtN.of s10)
        have hL10 := hL.ext (x08.trans x10)
        have lo : (outF (pls xs.length) o).length ≤ 10 := by
          have := List.length_filter_le (fun p => !decide (V.int p = oI o)) (pls xs.length)
          rw [pls_len] at this
          unfold outF
          omega
        refine ⟨_, rfl, _, rfl, D, sm, BD, outF (pls xs.length) o, xs.map f, kvs, barS xs met, L, rfl, e10, lo, by omega, (pls_nd _).filter _, hsm8 _ x10, fun p hp => ?_, fun z hz => ?_, hBD8 _ x10, hbar, hL10, fun H11 v o2 s11 hB hda => ?_⟩
        · obtain ⟨q1, q2⟩ := pls_mem (List.mem_filter.mp hp).1
          exact ⟨q1, by rw [List.length_map]; exact q2⟩
        · obtain ⟨z', hz', rfl⟩ := List.mem_map.mp hz
          exact hf z' hz'
        have hdr : (spareL xs f sat).drop i = o :: (spareL xs f sat).drop (i + 1) := by
          have hlt := (List.getElem?_eq_some_iff.mp ho)
          rw [List.drop_eq_getElem_cons hlt.1, hlt.2]
        rw [hdr] at hpr
        have x11 := x10.trans (ExtN.of s11)
        cases o2 with
        | none =>
          cases hda
          refine ⟨_, rfl, rfl, _, rfl, ?_⟩
          exact ⟨_, _, _, rfl, s9.trans (s10.trans s11), fun r hr => hpr r (.miss hB hr)⟩
        | some mm =>
          obtain ⟨t, tx, rfl, ht, ntL, hdt⟩ := Da.tuple hda
          cases hdt with
          | cons d1 d2 =>
          cases d2 with
          | cons d2 d3 =>
          cases d3
          cases d1
          obtain ⟨lmm, ml, rfl, hlm, nlm, hml⟩ := Da.list d2
          refine ⟨_, rfl, rfl, _, rfl, ?_⟩
          have lml : ml.length = mm.length := by rw [hml.len, List.length_map]
          have lmm2 := lots_len ((pls_nd _).filter _) hB.1
          have hm10 : mm.length ≤ 10 := by
            have l2 := lo
            unfold outF at l2
            omega
          have hprm := lots_perm _ _ ((pls_nd _).filter _) mm hB.1
          refine ⟨_, rfl, t, _, 1, _, rfl, rfl, SqT.of ht, rfl, lmm, rfl, ⟨_, SqL.of hlm⟩, fun D2 hD2 => ?_⟩
          refine lc_D walk_list L (fun j => ((mm.take j).map fun p => ordP g (nmI xs p.1, nmI xs p.2)).map prD) hD2 rfl (fun _ z => SqL.of (z _ _ hlm)) (fun j v H12 H12' hj p y => ?_) (fun acc H12 s12 e12 d12 => ?_)
          · obtain ⟨rfl, y⟩ := y
            obtain ⟨dd, hd1, hd2⟩ := (hml.same p.1).get y
            rw [List.getElem?_map] at hd1
            obtain ⟨q, hq, rfl⟩ := Option.map_eq_some_iff.mp hd1
            obtain ⟨tq, ys, rfl, htq, _, hys⟩ := Da.tuple hd2
            have := daAll_ints (xs := [q.1, q.2]) hys
            subst this
            have x12 := x11.trans (ExtN.of p.1)
            have hmem : ∀ z ∈ [q.1, q.2], 0 ≤ z ∧ z < (xs.length : Int) := fun z hz => by
              have h1 : z ∈ flat mm := List.mem_flatMap.mpr ⟨q, List.mem_of_getElem? hq, hz⟩
              exact pls_mem (List.mem_filter.mp (hprm.subset h1)).1
            obtain ⟨acc0, hacc0, _⟩ := p.2
            have hLD := (hL10.same (s11.trans p.1)).cons hacc0 nt_lst
            refine ⟨rfl, _, rfl, _, rfl, _, rfl, rfl, _, rfl, ?_⟩
            refine ⟨_, rfl, so, tq, e, xs, q, g, rfl, hso8 _ x12, htq, he8 _ x12, hmem _ (by simp), hmem _ (by simp), fun H13 z s13 hz hzn => ?_⟩
            refine putD p hD2 s13 (by omega) (d := prD (ordP g (nmI xs q.1, nmI xs q.2))) (da_pr' hz (hLD.new hzn)) (by rw [mapTake hq, List.map_append]; rfl)
          · rw [lml, List.take_length] at d12
            have x12 := x11.trans (ExtN.of s12)
            have T12 := (T8.ext (s9.trans (s10.trans s11))).ext s12
            have hL12 := hL10.same (s11.trans s12)
            have hD2L : D2 ∉ L := (hL10.same s11).new hD2
            have d12' := d12.mono (L' := L) (by simp +contextual)
            have hPR := hpr _ (.hit hB)
            have fin : ∀ (t2 : Addr) (ov : V), ov = oV (o.map (nmI xs)) → H12 t2 = none → Q (.ref t2) (upd H12 t2 (.tup [.ref D2, ov])) := by
              rintro t2 ov rfl ht2
              have sn := same_new (o := .tup [.ref D2, oV (o.map (nmI xs))]) ht2
              refine kq _ t2 (o, mm) ((x08.trans x12).trans (ExtN.of sn)) (T12.ext sn) hPR ?_
              exact da_lap' (b := D2) (xs := acc) upd_same (hL12.new ht2) (sn _ _ e12) hD2L (d12'.same sn)
            refine ⟨_, rfl, _, rfl, rfl, ?_⟩
            cases o with
            | none =>
              refine ⟨_, rfl, ?_⟩
              exact ⟨sl2, fun t2 ht2 => fin t2 _ rfl ht2⟩
            | some z =>
              have hz := spare_mem (List.mem_of_getElem? ho)
              refine ⟨_, rfl, ?_⟩
              refine ⟨_, rfl, _, rfl, so, _, z, _, rfl, rfl, SqL.of (hso8 _ x12), nm_at ?_ ?_, sl2, fun t2 ht2 => fin t2 _ rfl ht2⟩
              · exact hz.1
              · exact hz.2
      · obtain ⟨u9, u10, u11, rfl, s9, hpr⟩ := p
        rw [lsp, List.drop_length] at hpr
        exact ke _ (x08.trans (ExtN.of s9)) (T8.ext s9) (hpr none .nil)
end
end MR
namespace MR
open PySem PySem.Spec PyProof.Rows L2 LamX
open PySem.W (dataLt keyToks keyToksAll)
theorem valV_isSome {κ : Type} [DecidableEq κ] (kvs : List (κ × V)) (k : κ) : (valV kvs k).isSome = kvs.any fun q => decide (q.1 = k) := (valV_any k kvs).symm
theorem mergeG_some {κ : Type} [DecidableEq κ] (k : κ) : ∀ (more kvs : List (κ × V)), (valV (mergeG kvs more) k).isSome = ((valV kvs k).isSome || more.any fun q => decide (q.1 = k))
  | [], kvs => by simp [mergeG]
  | q :: more, kvs => by
    have e : mergeG kvs (q :: more) = mergeG (putK kvs q.1 q.2) more := rfl
    rw [e, mergeG_some k more, valV_put, List.any_cons]
    by_cases h : k = q.1
    · subst h; simp
    · simp [h, Ne.symm h]
theorem mergeG_any {κ : Type} [DecidableEq κ] (k : κ) (more kvs : List (κ × V)) : ((mergeG kvs more).any fun q => decide (q.1 = k)) = ((kvs.any fun q => decide (q.1 = k)) || more.any fun q => decide (q.1 = k)) := by
  rw [← valV_isSome, mergeG_some, valV_isSome]
theorem mergeG_nil {κ : Type} [DecidableEq κ] : ∀ (more : List (κ × V)), mergeG [] more = [] → more = []
  | [], _ => rfl
  | q :: more, h => by
    have := mergeG_some q.1 (q :: more) []
    rw [h] at this
    simp [valV] at this
theorem putK_mem {κ : Type} [DecidableEq κ] {kvs : List (κ × V)} {k : κ} {v : V} {q : κ × V} (h : q ∈ putK kvs k v) : q.1 = k ∨ ∃ q' ∈ kvs, q'.1 = q.1 := by
  have h1 : ((putK kvs k v).any fun z => decide (z.1 = q.1)) = true := List.any_eq_true.mpr ⟨q, h, by simp⟩
  rw [← valV_isSome, valV_put] at h1
  by_cases e : q.1 = k
  · exact .inl e
  · rw [if_neg e, valV_isSome] at h1
    obtain ⟨q', hq, e'⟩ := List.any_eq_true.mp h1
    exact .inr ⟨q', hq, of_decide_eq_true e'⟩
theorem mergeG_mem {κ : Type} [DecidableEq κ] {more kvs : List (κ × V)} {q : κ × V} (h : q ∈ mergeG kvs more) : (∃ q' ∈ kvs, q'.1 = q.1) ∨ ∃ q' ∈ more, q'.1 = q.1 := by
  have h1 : ((mergeG kvs more).any fun z => decide (z.1 = q.1)) = true := List.any_eq_true.mpr ⟨q, h, by simp⟩
  rw [mergeG_any, Bool.or_eq_true] at h1
  rcases h1 with h1 | h1
  · obtain ⟨q', hq, e'⟩ := List.any_eq_true.mp h1
    exact .inl ⟨q', hq, of_decide_eq_true e'⟩
  · obtain ⟨q', hq, e'⟩ := List.any_eq_true.mp h1
    exact .inr ⟨q', hq, of_decide_eq_true e'⟩
/-- the law's barred -/
def ipN (names : List Str) (g : Pr) : Ip := (((ixN' names g.1 : Nat) : Int), ((ixN' names g.2 : Nat) : Int))
def barL (names : List Str) (met : List Pr) (p : Ip) : Bool := met.any fun g => decide (p = ipN names g) || decide (p = (ipN names g).swap)
theorem bar_agree {names : List Str} {met : List Pr} {p : Ip} (h : p.1 < p.2) : barS names met p = barL names met p := by
  unfold barS barL
  congr 1
  funext g
  rw [Bool.eq_iff_iff]
  simp only [Bool.or_eq_true, decide_eq_true_eq, metK, ipN, Prod.swap, Prod.ext_iff]
  omega
theorem lots_asc : ∀ (n : Nat) (ps : List Int), ps.Pairwise (· < ·) → ∀ m ∈ lots n ps, ∀ p ∈ m, p.1 < p.2
  | n, [], _, m, h, p, hp => by
    have : m = [] := by cases n <;> simpa [lots] using h
    subst this
    cases hp
  | 0, x :: xs, _, m, h, _, _ => by simp [lots] at h
  | n + 1, x :: xs, nd, m, h, p, hp => by
    unfold lots at h
    obtain ⟨o, ho, hm⟩ := List.mem_flatMap.mp h
    obtain ⟨m', hm', rfl⟩ := List.mem_map.mp hm
    obtain ⟨h1, h2⟩ := List.pairwise_cons.mp nd
    rcases List.mem_cons.mp hp with rfl | hp
    · exact h1 o ho
    · exact lots_asc n _ (h2.filter _) m' hm' p hp
theorem pls_asc (n : Nat) : (pls n).Pairwise (· < ·) := by
  unfold pls
  rw [List.pairwise_map]
  exact (List.pairwise_lt_range (n := n)).imp fun h => Int.ofNat_lt.mpr h
theorem okL_congr {b1 b2 : Ip → Bool} {m : List Ip} (h : ∀ p ∈ m, b1 p = b2 p) : okL b1 m = okL b2 m := by
  unfold okL
  rw [Bool.eq_iff_iff, List.all_eq_true, List.all_eq_true]
  exact ⟨fun z p hp => by rw [← h p hp]; exact z p hp, fun z p hp => by rw [h p hp]; exact z p hp⟩
theorem Bst.congr {s : Int → Int} {b1 b2 : Ip → Bool} {ls : List (List Ip)} (h : ∀ m ∈ ls, okL b1 m = okL b2 m) : ∀ {o : Option (List Ip)}, Bst s b1 ls o → Bst s b2 ls o
  | none, z => fun m hm => by rw [← h m hm]; exact z m hm
  | some m, ⟨z1, z2, z3⟩ => ⟨z1, by rw [← h m z1]; exact z2, fun m' hm' hk => z3 m' hm' (by rw [h m' hm']; exact hk)⟩
theorem PR.congr {s : Int → Int} {b1 b2 : Ip → Bool} {ps : List Int} {l : List (Option Int)} {r : Option (Option Int × List Ip)} (h : ∀ o, ∀ m ∈ lots 10 (outF ps o), okL b1 m = okL b2 m) (z : PR s b1 ps l r) : PR s b2 ps l r := by
  induction z with
  | nil => exact .nil
  | hit q => exact .hit (q.congr (h _))
  | miss q _ ih => exact .miss (q.congr (h _)) ih
theorem pr_agree {names : List Str} {met : List Pr} {s : Int → Int} {n : Nat} {l : List (Option Int)} {r : Option (Option Int × List Ip)} (z : PR s (barS names met) (pls n) l r) : PR s (barL names met) (pls n) l r :=
  z.congr fun o m hm => okL_congr fun p hp => bar_agree (lots_asc 10 _ ((pls_asc n).filter _) m hm p hp)
end MR
namespace MR
open PySem PySem.Spec PyProof.Rows L2 LamX
open PySem.W (dataLt keyToks keyToksAll)
theorem okL_nil {bar : Ip → Bool} {m : List Ip} : okL bar m = true ↔ m.filter bar = [] := by
  unfold okL
  rw [List.all_eq_true, List.filter_eq_nil_iff]
  constructor
  · intro h p hp
    have := h p hp
    simpa using this
  · intro h p hp
    have := h p hp
    simpa using this
theorem lot_refs {L : List Addr} {H : Hp} : ∀ {vs : List V} {ms : List (List Ip)}, DaAll L H vs (ms.map lotD) → ∃ bs : List Addr, vs = bs.map V.ref
  | _, [], .nil => ⟨[], rfl⟩
  | _, m :: ms, .cons a b => by
    obtain ⟨bs, rfl⟩ := lot_refs b
    obtain ⟨p, _, rfl, _⟩ := Da.list (ds := m.map ipD) a
    exact ⟨p :: bs, rfl⟩
theorem tabs_sx {T : List (Addr × Str)} {S : Addr} {o : HO} {H H' : Hp} (t : Tabs T H) (e : Sx S H H') (hS : H S = some o) (n : NT o) (n2 : ∀ phi, o ≠ .ext phi) : Tabs T H' := fun p hp => by
  obtain ⟨ps, h1, h2, h3⟩ := t p hp
  have d1 : p.1 ≠ S := fun z => by rw [z, hS] at h1; exact n _ (Option.some.inj h1)
  refine ⟨ps, e _ _ h1 d1, h2, fun pos cv hc => ?_⟩
  obtain ⟨c, e1, e2⟩ := h3 pos cv hc
  have d2 : c ≠ S := fun z => by rw [z, hS] at e2; exact n2 _ (Option.some.inj e2)
  exact ⟨c, e1, e _ _ e2 d2⟩
/-- pairs of a key and a value -/
abbrev PQ (H : Hp) (ps : List Addr) (kvs : List (List Key × V)) : Prop := Paired (fun (p : Addr) (kv : List Key × V) => ∃ b : Addr, H p = some (.tup [.ref b, kv.2]) ∧ H b = some (.tup (kv.1.map kV))) ps kvs
theorem PQ.nil {H : Hp} : PQ H [] [] := Paired.nil
theorem PQ.mapH {H H' : Hp} (h : ∀ b xs, H b = some (.tup xs) → H' b = some (.tup xs)) {ps : List Addr} {kvs : List (List Key × V)} (p : PQ H ps kvs) : PQ H' ps kvs := by
  induction p with
  | nil => exact .nil
  | cons q t ih => exact .cons (let ⟨b, h1, h2⟩ := q; ⟨b, h _ _ h1, h _ _ h2⟩) ih
theorem PQ.same {H H' : Hp} {ps : List Addr} {kvs : List (List Key × V)} (p : PQ H ps kvs) (s : Same H H') : PQ H' ps kvs := p.mapH fun b xs e => s _ _ e
theorem PQ.upd {H : Hp} {D : Addr} {o o2 : HO} {ps : List Addr} {kvs : List (List Key × V)} (p : PQ H ps kvs) (h : H D = some o) (n : ∀ xs, o ≠ .tup xs) : PQ (upd H D o2) ps kvs := p.mapH fun b xs e => by
  rw [upd_ne (fun z => by rw [z, h] at e; exact n _ (Option.some.inj e))]
  exact e
theorem PQ.snoc {H : Hp} {p b : Addr} {kv : List Key × V} {ps : List Addr} {kvs : List (List Key × V)} (q : PQ H ps kvs) (h1 : H p = some (.tup [.ref b, kv.2])) (h2 : H b = some (.tup (kv.1.map kV))) : PQ H (ps ++ [p]) (kvs ++ [kv]) := by
  induction q with
  | nil => exact .cons ⟨b, h1, h2⟩ .nil
  | cons a t ih => exact .cons a ih
theorem PQ.pairs {K : PySem.W.Frag} {H : Hp} {ps : List Addr} {kvs : List (List Key × V)} (p : PQ H ps kvs) : PairsT K H ps kvs := by
  induction p with
  | nil => exact .nil
  | cons q t ih => exact .cons (let ⟨b, h1, h2⟩ := q; ⟨b, SqT.of h1, h2⟩) ih
def kv1 (names : List Str) (g : Pr) : List Key × V := ([Sum.inl ((ixN' names g.1 : Nat) : Int), Sum.inl ((ixN' names g.2 : Nat) : Int)], V.int 1)
theorem bar_best {xs : List Str} {met : List Pr} {a b : Int} : (valV (mergeG (mergeG [] (met.map (kv1 xs))) (mergeG [] ((mergeG [] (met.map (kv1 xs))).map fun q => (q.1.reverse, V.int 1)))) [Sum.inl a, Sum.inl b]).isSome = barL xs met (a, b) := by
  have h1 : ∀ k : List Key, ((mergeG [] (met.map (kv1 xs))).any fun q => decide (q.1 = k)) = met.any fun g => decide ((kv1 xs g).1 = k) := fun k => by
    rw [mergeG_any, List.any_map]
    rfl
  have h2 : ((mergeG [] ((mergeG [] (met.map (kv1 xs))).map fun q => (q.1.reverse, V.int 1))).any fun q => decide (q.1 = [Sum.inl a, Sum.inl b])) = met.any fun g => decide ((kv1 xs g).1 = [Sum.inl b, Sum.inl a]) := by
    rw [mergeG_any, List.any_map, ← h1]
    simp only [List.any_nil, Bool.false_or]
    congr 1
    funext q
    rw [Bool.eq_iff_iff]
    simp only [Function.comp, decide_eq_true_eq]
    constructor
    · intro e
      have := congrArg List.reverse e
      simpa using this
    · intro e
      rw [e]
      rfl
  rw [mergeG_some, valV_isSome, h1, h2]
  unfold barL
  rw [Bool.eq_iff_iff]
  simp only [Bool.or_eq_true, List.any_eq_true, decide_eq_true_eq, kv1, ipN, Prod.swap, Prod.ext_iff, List.cons.injEq, Sum.inl.injEq, and_true]
  constructor
  · rintro (⟨g, hg, e1, e2⟩ | ⟨g, hg, e1, e2⟩)
    · exact ⟨g, hg, .inl ⟨e1.symm, e2.symm⟩⟩
    · exact ⟨g, hg, .inr ⟨e2.symm, e1.symm⟩⟩
  · rintro ⟨g, hg, e | e⟩
    · exact .inl ⟨g, hg, e.1.symm, e.2.symm⟩
    · exact .inr ⟨g, hg, e.2.symm, e.1.symm⟩
/-- the law's key of a place -/
def Bb (σ : St) (H : Hp) (x a b : Int) : Prop := ∃ (p d : Addr) (xs : List Str) (f : Str → Int), σ[15]? = some (some (.ref p)) ∧ H p = some (.lst (xs.map V.str)) ∧ σ[16]? = some (some (.ref d)) ∧ H d = some (.dK (tab xs f)) ∧ 0 ≤ x ∧ x < (xs.length : Int) ∧ a = scI xs f x ∧ b = 0 - x
theorem bodyB {X : Cx} {scope : Scope} {p1 p2 p3 p4 p5 p6 p7 p8 p9 : Pos} {k0 k1 : Nat} (hN : X.N[15]? = some ("_law_crew_here" : Str)) (hN2 : X.N[16]? = some ("_law_score" : Str)) (hk : X.env.scope.names.lookup ("_law_crew_here" : Str) = some .cell) (hk2 : X.env.scope.names.lookup ("_law_score" : Str) = some .cell)
    (L : Lam1 X.env.scope scope "_law_at") (hf : scope.names.lookup ("_law_crew_here" : Str) = some .free) (hf2 : scope.names.lookup ("_law_score" : Str) = some .free) :
    Body2 X "_law_at" (.Tuple [.Subscript (.Name "_law_score" p1) (.Subscript (.Name "_law_crew_here" p2) (.Name "_law_at" p3) p4) p5, .BinOp (.Constant (.int 0) k1 p6) .Sub (.Name "_law_at" p7) p8] k0 p9) scope Bb := by
  rintro pins σ H s I x k1 k2 ⟨p, d, xs, f, e1, e2, e3, e4, h0, h1, rfl, rfl⟩ h₁ A E Lo fa c' t keep ns
  obtain ⟨u, c, ru, hc, hcell⟩ := cell_of I hN e1 hk
  cases (show u = Value.ref p from ru)
  obtain ⟨u, c2, ru, hc2, hcell2⟩ := cell_of I hN2 e3 hk2
  cases (show u = Value.ref d from ru)
  obtain ⟨its, rv, pl, hz⟩ := I.list (SqL.of e2)
  have hl : x.toNat < xs.length := by omega
  have hv : (xs.map V.str)[x.toNat]? = some (V.str (nmI xs x)) := by
    rw [List.getElem?_map, List.getElem?_eq_getElem hl]
    simp [nmI, List.getD, List.getElem?_eq_getElem hl]
  obtain ⟨uv, e5, rs⟩ := rv.get hv
  obtain ⟨zd, hds, vs, rel, dd⟩ := dk_of I.hok e4
  obtain ⟨w', hw, rw'⟩ := RelO.some_of (v := V.int (f (nmI xs x))) (o := valueAt vs (Sum.inr (nmI xs x))) (by rw [← tab_val (f := f) (nm_mem h0 h1)]; exact rel.val _)
  obtain ⟨t3, rfl⟩ := rw'
  have loc : ∀ pp, RE X.prog X.w A E (envL (X.env.qual ++ "<lambda>") scope Lo fa c' (cloFrom X.env.cells scope.names [])) h₁ (.Name "_law_at" pp) (fun v _ => ∃ t, v = .int x t) := fun pp =>
    re_mono (re_loc L.kind L.par ns (by rfl)) fun _ _ e => ⟨t, e⟩
  have ix : RE X.prog X.w A E (envL (X.env.qual ++ "<lambda>") scope Lo fa c' (cloFrom X.env.cells scope.names [])) h₁ (.Subscript (.Name "_law_crew_here" p2) (.Name "_law_at" p3) p4) (fun v _ => v = uv) :=
    re_ixl (l := p) (its := its) (i := x) (v := uv) (re_free (c := c) L.kind hf (L.clo I.ok hf hc) (let ⟨o, e, d⟩ := hcell; ⟨o, keep _ _ e, d⟩)) (loc p3) (let ⟨o, e, d⟩ := pl.isList; ⟨o, keep _ _ e, d⟩) h0 (by
      have h5 := rv.length
      rw [List.length_map] at h5
      have h6 := sizeLine_eq
      have h7 : xs.length ≤ sizeLine := by simpa using hz
      omega) e5
  refine re_tup2 (re_mono (re_ixd (d := d) (knd := mixKind X.prog X.w) (kvs := vs) (k0 := Sum.inr (nmI xs x)) (v := .int (f (nmI xs x)) t3) (re_free (c := c2) L.kind hf2 (L.clo I.ok hf2 hc2) (let ⟨o, e, d⟩ := hcell2; ⟨o, keep _ _ e, d⟩)) (re_mono ix fun v _ e => by rw [e]; exact kV_is (k := Sum.inr (nmI xs x)) rs) (let ⟨o, es, ep, q, r⟩ := dd; ⟨o, es, ep, keep _ _ q, r⟩) hw) fun _ _ e => ⟨t3, by rw [e, ← scI_nm (f := f) h0 h1]⟩) (re_sub re_int (loc p7))
section
variable {P : Program} {w : World} {K : PySem.W.Frag} {mg : Str → Option Value} {base : Heap} {C : Addr} {cp Pp cb Pb CN : Addr}
def rD (xs : List Str) (g : Str → Int) : Option (Option Int × List Ip) → PyData
  | none => .none
  | some r => lapD (lapOf xs g r)
def sp_best (Pp Pb : Addr) : Sp := fun vs H Q E => ∃ (z a d m s e : Addr) (xs : List Str) (f g : Str → Int) (ms : List V) (met : List Pr) (sat : List Str) (kl : List (Key × V)) (L : List Addr), vs = [.ref z] ∧ H z = some (.lst [.ref a, .ref d, .ref m, .ref s, .ref e]) ∧
  H a = some (.lst (xs.map V.str)) ∧ 2 ≤ xs.length ∧ xs.length ≤ 10 ∧ H d = some (.dK (tab xs f)) ∧ (∀ x ∈ xs, 0 ≤ f x ∧ f x ≤ 100) ∧
  H m = some (.lst ms) ∧ DaAll [] H ms (met.map prD) ∧ met.length ≤ 1000 ∧ (∀ q ∈ met, q.1 ∈ xs ∧ q.2 ∈ xs) ∧ H s = some (.lst (sat.map V.str)) ∧ sat.length ≤ 1000 ∧
  H e = some (.dK kl) ∧ (∀ x ∈ xs, (valV kl (Sum.inr x)).getD (.int 0) = .int (g x)) ∧ Lv L H ∧ Tabs (TT2 Pp Pb) H ∧
  ∀ H' v r, ExtN H H' → Tabs (TT2 Pp Pb) H' → PR (scI xs f) (barL xs met) (pls xs.length) (spareL xs f sat) r → Da L H' v (rD xs g r) → Q v H'
abbrev N_law_best : List Str := ["_law_task", "_law_done", "_law_rest", "_law_lead", "_law_one", "_law_other", "_law_barred", "_law_at", "_law_there", "_law_places", "_law_spare", "_law_out", "_law_lots_here", "_law_lot", "_law_games", "_law_crew_here", "_law_score", "_law_pair"]
abbrev ps_law_best : List Str := ["_law_task"]
theorem sc_law_best : FnScope N_law_best ps_law_best (defScope MH.s_law_best) := ⟨rfl, rfl, rfl, by decide +kernel, rfl, by decide +kernel, by decide +kernel⟩
theorem ok_law_best (T : Txt K mg C) (LT : Lt K mg base cp Pp cb Pb) : Ok P w K mg base CX0 13 "_law_best" ps_law_best (sp_best Pp Pb) := by
  refine (fun ⟨f0, fd0, F0, hm0, O0⟩ => ⟨f0, fd0, O0, hm0, F0.kp, F0.bindsN (fun _ _ _ _ _ _ us hl => match us, hl with | [_], _ => rfl)
    ⟩) (LT.db.ok (P := P) (w := w) (base := base) (CX := CX0) (k := 12) (ps := ps_law_best) (sp := sp_best Pp Pb) sc_law_best (fun vs H Q E h => ?_) (fun fa A outer s0 H vs Q E hr h => ?_))
  · obtain ⟨_, _, _, _, _, _, _, _, _, _, _, _, _, _, rfl, _⟩ := h
    rfl
  · obtain ⟨z, a, d, m, s, e, xs, f, g, ms, met, sat, kl, L, rfl, hz, ha, l1, l2, hd, hf, hm, hms, lm, hmet, hs, ls, he, hg, hL, hT, kq⟩ := h
    have qe : Str.ofString "_law_best.<locals>." ++ Str.ofString "<lambda>" = lamB := by decide +kernel
    have hmT : (Pb, Str.ofString "_law_best.<locals>." ++ Str.ofString "<lambda>") ∈ TT2 Pp Pb := by rw [qe]; simp
    have huT : ∀ p ∈ TT2 Pp Pb, p.1 = Pb → p.2 = Str.ofString "_law_best.<locals>." ++ Str.ofString "<lambda>" := by
      intro p hp e
      rw [qe]
      rcases List.mem_cons.mp hp with rfl | hp
      · exact absurd e LT.ne
      · rw [List.mem_singleton.mp hp]
    have hB : ∀ (σ : St) (H H' : Hp) (x a b : Int), ExtN H H' → Bb σ H x a b → Bb σ H' x a b := by
      rintro σ H H' x a b e ⟨p, d, xs, f, h1, h2, h3, h4, h5⟩
      exact ⟨p, d, xs, f, h1, e _ _ h2 nt_lst, h3, e _ _ h4 nt_dK, h5⟩
    refine ⟨_, PSs.nox (pss_cons (ps_asg (pv 0) (pg_unl rfl (pgs_cons (pg_name (i := 15) sc_law_best.nd rfl (Or.inr rfl)) (pgs_cons (pg_name (i := 16) sc_law_best.nd rfl (Or.inr rfl)) (pgs_cons (pg_name (i := 1) sc_law_best.nd rfl (Or.inl rfl)) (pgs_cons (pg_name (i := 2) sc_law_best.nd rfl (Or.inr rfl)) (pgs_cons (pg_name (i := 3) sc_law_best.nd rfl (Or.inl rfl)) pgs_nil)))))))
        (pss_cons (ps_set (i := 6) sc_law_best.nd rfl (Or.inr rfl) (pe_callTy (call_dictPT hr.units rfl) (by rfl) T.b_dict (by decide +kernel) (pa_cons (pe_lc (own := [("_law_one", 4), ("_law_other", 5)]) (g := (gTup K 2 (gCons (gName 4) (gCons (gName 5) gNil)))) (tt := tYes) rfl sc_law_best.nd (pi_list (pv 1)) (blkOk_by (own := [("_law_one", 4), ("_law_other", 5)]) (N := N_law_best) (sc := defScope MH.s_law_best) (by decide +kernel)) (fun _ _ _ _ _ => (pg_tup rfl (pgs_cons (pg_name (i := 4) sc_law_best.nd rfl (Or.inl rfl)) (pgs_cons (pg_name (i := 5) sc_law_best.nd rfl (Or.inl rfl)) pgs_nil)))) (fun _ _ _ _ _ => pts_nil) (fun _ _ _ _ _ => (pe_tup (pa_cons (pe_tup (pa_cons (pe_idx (K := K) (pv 15) (pv 4)) (pa_cons (pe_idx (K := K) (pv 15) (pv 5)) pa_nil))) (pa_cons pe_int pa_nil))))) pa_nil)))
        (pss_cons (ps_expr (pe_bm PySem.F.plainAttrs_dict PySem.F.slot_dict_update PySem.F.type_dict_update (mt_updT hr.units) (pv 6) (pa_cons (pe_callTy (call_dictPT hr.units rfl) (by rfl) T.b_dict (by decide +kernel) (pa_cons (pe_lock (pe_lc (own := [("_law_at", 7), ("_law_there", 8)]) (g := (gTup K 2 (gCons (gName 7) (gCons (gName 8) gNil)))) (tt := tYes) rfl sc_law_best.nd (pi_keys (pv 6)) (blkOk_by (own := [("_law_at", 7), ("_law_there", 8)]) (N := N_law_best) (sc := defScope MH.s_law_best) (by decide +kernel)) (fun _ _ _ _ _ => (pg_tup rfl (pgs_cons (pg_name (i := 7) sc_law_best.nd rfl (Or.inl rfl)) (pgs_cons (pg_name (i := 8) sc_law_best.nd rfl (Or.inl rfl)) pgs_nil)))) (fun _ _ _ _ _ => pts_nil) (fun _ _ _ _ _ => (pe_tup (pa_cons (pe_tup (pa_cons (pv 8) (pa_cons (pv 7) pa_nil))) (pa_cons pe_int pa_nil)))))) pa_nil)) pa_nil)))
        (pss_cons (ps_set (i := 9) sc_law_best.nd rfl (Or.inl rfl) (pe_listRg rfl (by rfl) T.b_list (prg_1 (by rfl) T.b_range (pe_callB call_len_seq (by rfl) T.b_len PySem.boot_len (pa_cons (pv 15) pa_nil)))))
        (pss_cons (ps_set (i := 10) sc_law_best.nd rfl (Or.inl rfl) (pe_lst (pa_cons pe_non pa_nil)))
        (pss_cons (ps_join (ps_if (pt_cmpR op_eq (pe_op op_mod (pe_callB call_len_seq (by rfl) T.b_len PySem.boot_len (pa_cons (pv 15) pa_nil)) pe_int) pe_int (nomark _)) (pss_one (ps_set (i := 10) sc_law_best.nd rfl (Or.inl rfl) (pe_sortKey (k := 0) (T := TT2 Pp Pb) (B := Bb) rfl (by rfl) T.b_sorted LT.tb rfl hmT huT (hr.mono (by decide)) (lam1_by (sc := defScope MH.s_law_best) (by decide +kernel)) (by rfl) (fun _ _ _ _ _ _ => rfl) (pe_lc (own := [("_law_at", 7)]) (g := (gName 7)) rfl sc_law_best.nd (pi_list (pv 9)) (blkOk_by (own := [("_law_at", 7)]) (N := N_law_best) (sc := defScope MH.s_law_best) (by decide +kernel)) (fun _ _ _ _ _ => (pg_name (i := 7) sc_law_best.nd rfl (Or.inl rfl))) (fun _ _ _ _ _ => (pts_one (pt_cmpR (r := rIn K true) op_notIn_seq (pe_ix (r := rIxL K) ix_list (pv 15) (pv 7) (fun _ _ => rfl)) (pv 2) (by rfl)))) (fun _ _ _ _ _ => (pv 7))) hB (bodyB rfl rfl rfl rfl (lam1_by (sc := defScope MH.s_law_best) (by decide +kernel)) rfl rfl)))) pss_nil))
        (pss_cons (ps_for PassesOwn.never rfl (pi_list (pv 10)) (pg_name (i := 11) sc_law_best.nd rfl (Or.inr rfl)) (pss_cons (ps_set (i := 12) sc_law_best.nd rfl (Or.inl rfl) (pe_fn (ok_lots T 10) (hr.mono (by decide)) (by rfl) (pa_cons (pe_lc (own := [("_law_at", 7)]) (g := (gName 7)) rfl sc_law_best.nd (pi_list (pv 9)) (blkOk_by (own := [("_law_at", 7)]) (N := N_law_best) (sc := defScope MH.s_law_best) (by decide +kernel)) (fun _ _ _ _ _ => (pg_name (i := 7) sc_law_best.nd rfl (Or.inl rfl))) (fun _ _ _ _ _ => (pts_one (pt_cmpR op_ne (pv 7) (pv 11) (nomark _)))) (fun _ _ _ _ _ => (pv 7))) pa_nil)))
        (pss_cons (ps_setLc (i := 12) (own := [("_law_lot", 13)]) (g := (gName 13)) rfl sc_law_best.nd rfl rfl (sw_true rfl rfl rfl (by decide +kernel)) (pi_list (pv 12)) (blkOk_by (own := [("_law_lot", 13)]) (N := N_law_best) (sc := defScope MH.s_law_best) (by decide +kernel)) (fun _ _ _ _ _ => (pg_name (i := 13) sc_law_best.nd rfl (Or.inl rfl))) (fun _ _ _ _ _ => (pts_one (pt_cmpR (r := rEqD K) (op_eqD hr.units) (pe_lc (own := [("_law_pair", 17)]) (wi := (iList K (tVar 13))) (g := (gName 17)) rfl sc_law_best.nd (pi_list (pv 13)) (blkOk_by (own := [("_law_pair", 17)]) (by first | rfl | kernel_rfl)) (fun _ _ _ _ _ => (pg_name (i := 17) sc_law_best.nd rfl (Or.inl rfl))) (fun _ _ _ _ _ => (pts_one (pt_cmp (pc_din (hu_of hr) (pv 17) (pv 6))))) (fun _ _ _ _ _ => (pv 17))) (pe_lst pa_nil) (nomark _)))) (fun _ _ _ _ _ => (pv 13)))
        (pss_one (ps_if (pt_cmpR (op_neD hr.units) (pv 12) (pe_lst pa_nil) (nomark _)) (pss_cons (ps_set (i := 13) sc_law_best.nd rfl (Or.inl rfl) (pe_minKey (k := 1) (T := TT2 Pp Pb) (i0 := 4) rfl (by rfl) T.b_min LT.tb rfl hmT huT (hr.mono (by decide)) (lam1_by (sc := defScope MH.s_law_best) (by decide +kernel)) (by rfl) sc_law_best.nd rfl (fun _ _ _ _ _ _ => rfl) (pv 12) (fun A2 s2 H2 Lq f2 c2 hr2 hLq => by subst hLq; exact pe_tup (pa_cons (pe_fn (ok_law_cost T) hr2 (by rfl) (pa_cons (pv 4) (pa_cons (pv 16) (pa_cons (pv 15) pa_nil)))) (pa_cons (pv 4) pa_nil)))))
        (pss_cons (ps_set (i := 14) sc_law_best.nd rfl (Or.inl rfl) (pe_lst pa_nil))
        (pss_cons (ps_for PassesOwn.never rfl (pi_list (pv 13)) (pg_tup rfl (pgs_cons (pg_name (i := 7) sc_law_best.nd rfl (Or.inl rfl)) (pgs_cons (pg_name (i := 8) sc_law_best.nd rfl (Or.inl rfl)) pgs_nil))) (pss_cons (ps_par (i := 4) (j := 5) (by rfl) sc_law_best.nd rfl rfl (by decide) rfl rfl (pa_cons (pe_ix ix_list (pv 15) (pv 7) (fun _ _ => rfl)) (pa_cons (pe_ix ix_list (pv 15) (pv 8) (fun _ _ => rfl)) pa_nil)) (by rfl))
        (pss_one (ps_expr (pe_bm PySem.F.plainAttrs_list PySem.F.slot_list_append PySem.F.type_list_append mt_append (pv 14) (pa_cons (pe_ifExp (pt_cmpR op_lt (pe_dget2 (hu_of hr) (pv 3) (pv 5) pe_int ⟨rfl, rfl, rfl, rfl⟩) (pe_dget2 (hu_of hr) (pv 3) (pv 4) pe_int ⟨rfl, rfl, rfl, rfl⟩) (nomark _)) (pe_tup (pa_cons (pv 5) (pa_cons (pv 4) pa_nil))) (pe_tup (pa_cons (pv 4) (pa_cons (pv 5) pa_nil)))) pa_nil))))))
        (pss_one (ps_ret (pe_tup (pa_cons (pv 14) (pa_cons (pe_ifExp (pt_cmpR op_isN (pv 11) pe_non (nomark _)) pe_non (pe_ix ix_list (pv 15) (pv 11) (fun _ _ => rfl))) pa_nil)))))))) pss_nil)))))
        (pss_one (ps_ret pe_non)))))))))
      , ?_⟩
    -- the task
    refine ⟨_, rfl, z, _, rfl, SqL.of hz, rfl, _, _, rfl, _, _, rfl, _, _, rfl, _, _, rfl, _, _, rfl, rfl, ?_⟩
    refine ⟨_, rfl, _, rfl, ⟨_, SqL.of hm⟩, fun D hD => ?_⟩
    have lms : ms.length = met.length := by rw [hms.len, List.length_map]
    have idx : ∀ x ∈ xs, (xs.map V.str)[ixN' xs x]? = some (V.str x) := fun x hx => by rw [List.getElem?_map, ix_at hx]; rfl
    have idn : ∀ x ∈ xs, ∀ (m : Nat) (z : V), m < ixN' xs x → (xs.map V.str)[m]? = some z → eqV z (.str x) = false := fun x hx m z hm hz => by
      obtain ⟨y, hy, rfl⟩ := mapAt hz
      rw [eqV_str]
      exact decide_eq_false (ix_no hm hy)
    refine lc_L walk_list (fun i acc H' => Same H H' ∧ ∃ ps, acc = ps.map V.ref ∧ PQ H' ps ((met.take i).map (kv1 xs))) ⟨same_new hD, [], rfl, .nil⟩ (fun i acc H' _ p => SqL.of (p.1 _ _ hm)) (fun i v acc H1 H1' hi hacc hal p y => ?_) (fun acc H1 hacc hal p => ?_)
    · obtain ⟨rfl, y⟩ := y
      obtain ⟨s1, ps, rfl, hps⟩ := p
      obtain ⟨dd, hd1, hd2⟩ := (hms.same s1).get y
      rw [List.getElem?_map] at hd1
      obtain ⟨q, hq, rfl⟩ := Option.map_eq_some_iff.mp hd1
      obtain ⟨t, rfl, ht, _⟩ := da_pr hd2
      obtain ⟨q1, q2⟩ := hmet q (List.mem_of_getElem? hq)
      have ha1 := s1 _ _ ha
      refine ⟨t, _, rfl, SqT.of ht, rfl, _, _, rfl, _, _, rfl, rfl, ?_⟩
      refine ⟨rfl, _, rfl, .inl ⟨rfl, _, SqL.of ha1⟩, _, rfl, a, _, .str q.1, ixN' xs q.1, _, rfl, rfl, SqL.of ha1, rfl, flat_strs _, idx _ q1, by rw [eqV_str]; simp, idn _ q1, ?_⟩
      refine ⟨_, rfl, .inl ⟨rfl, _, SqL.of ha1⟩, _, rfl, a, _, .str q.2, ixN' xs q.2, _, rfl, rfl, SqL.of ha1, rfl, flat_strs _, idx _ q2, by rw [eqV_str]; simp, idn _ q2, ?_⟩
      refine ⟨sl2, fun t1 ht1 => ⟨sl2, fun t2 ht2 => ?_⟩⟩
      have r1 := same_new (o := .tup [.int ((ixN' xs q.1 : Nat) : Int), .int ((ixN' xs q.2 : Nat) : Int)]) ht1
      have r2 := same_new (o := .tup [.ref t1, .int 1]) ht2
      refine putL ((r1.trans r2) _ _ hacc) hal (by omega) ⟨same_upd hD (s1.trans (r1.trans r2)), ps ++ [t2], by rw [List.map_append]; rfl, ?_⟩
      refine PQ.upd (by rw [mapTake hq]; exact PQ.snoc (hps.same (r1.trans r2)) upd_same (r2 _ _ upd_same)) ((r1.trans r2) _ _ hacc) (fun _ z => by cases z)
    obtain ⟨s1, ps, rfl, hps⟩ := p
    rw [lms, List.take_length] at hps
    refine ⟨D, ps, _, rfl, SqL.of hacc, hps.pairs, fun BD hBD => ?_⟩
    generalize hk1 : mergeG [] (met.map (kv1 xs)) = k1
    have s2 : Same H1 (upd H1 BD (.dT k1)) := same_new hBD
    generalize hH2 : upd H1 BD (.dT k1) = H2 at *
    have hB2 : H2 BD = some (.dT k1) := by rw [← hH2]; exact upd_same
    have s02 := s1.trans s2
    have hk1k : ∀ q ∈ k1, ∃ i j : Int, q.1 = [Sum.inl i, Sum.inl j] := by
      intro q hq
      rw [← hk1] at hq
      rcases mergeG_mem hq with ⟨q', h, _⟩ | ⟨q', h, e⟩
      · cases h
      · obtain ⟨g', _, rfl⟩ := List.mem_map.mp h
        exact ⟨_, _, e.symm⟩
    have hk1l : k1.length ≤ 1000 := by
      rw [← hk1]
      have := mergeG_len (met.map (kv1 xs)) []
      rw [List.length_map] at this
      simp at this
      omega
    -- update
    refine ⟨_, rfl, .inr (.inr (.inl ⟨rfl, .inr ⟨_, hB2⟩⟩)), ?_⟩
    refine ⟨BD, _, hB2, trivial, fun od => ?_⟩
    refine ⟨_, rfl, BD, od, rfl, .inr ⟨_, upd_same, fun D2 hD2 => ?_⟩⟩
    have hD2B : D2 ≠ BD := fun z => by rw [z, upd_same] at hD2; cases hD2
    refine lc_L walk_keysT (fun i acc H' => Same (upd H2 BD (.frz od (.dT k1))) H' ∧ ∃ ps, acc = ps.map V.ref ∧ PQ H' ps ((k1.take i).map fun q => (q.1.reverse, V.int 1))) ⟨same_new hD2, [], rfl, .nil⟩ (fun i acc H' _ p => p.1 _ _ upd_same) (fun i v acc H3 H3' hi hacc hal p y => ?_) (fun acc H3 hacc hal p => ?_)
    · obtain ⟨rfl, kk, vv, q, hkk, rfl, hq⟩ := y
      obtain ⟨s3, ps, rfl, hps⟩ := p
      obtain ⟨i1, j1, rfl⟩ := hk1k _ (List.mem_of_getElem? hkk)
      refine ⟨q, _, rfl, SqT.of hq, rfl, _, _, rfl, _, _, rfl, rfl, ?_⟩
      refine ⟨rfl, _, rfl, _, rfl, sl2, fun t1 ht1 => ⟨sl2, fun t2 ht2 => ?_⟩⟩
      have r1 := same_new (o := .tup [.int j1, .int i1]) ht1
      have r2 := same_new (o := .tup [.ref t1, .int 1]) ht2
      refine putL ((r1.trans r2) _ _ hacc) hal (by omega) ⟨same_upd hD2 (s3.trans (r1.trans r2)), ps ++ [t2], by rw [List.map_append]; rfl, ?_⟩
      refine PQ.upd (by rw [mapTake hkk]; exact PQ.snoc (hps.same (r1.trans r2)) upd_same (r2 _ _ upd_same)) ((r1.trans r2) _ _ hacc) (fun _ z => by cases z)
    obtain ⟨s3, ps2, rfl, hps2⟩ := p
    rw [List.take_length] at hps2
    refine ⟨s3 _ _ upd_same, D2, ps2, _, rfl, SqL.of (by rw [upd_ne hD2B]; exact hacc), (hps2.upd (s3 _ _ upd_same) (fun _ z => by cases z)).pairs, fun p2 hp2 => ?_⟩
    have s4 : Same H2 (upd H3 BD (.dT k1)) := fun b o e => by
      by_cases hb : b = BD
      · subst hb
        rw [upd_same, ← e, hB2]
      · rw [upd_ne hb]
        exact s3 _ _ (by rw [upd_ne hb]; exact e)
    generalize hk2 : mergeG [] (k1.map fun q => (q.1.reverse, V.int 1)) = k2
    have s5 : Same (upd H3 BD (.dT k1)) (upd (upd H3 BD (.dT k1)) p2 (.dT k2)) := same_new hp2
    generalize hH5 : upd (upd H3 BD (.dT k1)) p2 (.dT k2) = H5 at *
    have hB5 : H5 BD = some (.dT k1) := s5 _ _ upd_same
    have hp25 : H5 p2 = some (.dT k2) := by rw [← hH5]; exact upd_same
    have nBp : BD ≠ p2 := ne_of_none (upd_same (o := HO.dT k1)) hp2
    have hk2l : k2.length ≤ 1000 := by
      rw [← hk2]
      have := mergeG_len (k1.map fun q => (q.1.reverse, V.int 1)) []
      rw [List.length_map] at this
      simp at this
      omega
    refine ⟨BD, p2, k1, k2, rfl, rfl, hB5, hp25, nBp, fun e => ?_, by have := szl; omega, ?_⟩
    · rw [← hk2, e]
      rfl
    have hbar : ∀ a b, (valV (mergeG k1 k2) [Sum.inl a, Sum.inl b]).isSome = barL xs met (a, b) := fun a b => by
      rw [← hk2, ← hk1]
      exact bar_best
    generalize hkv : mergeG k1 k2 = kvs at *
    have s25 := s4.trans s5
    -- all but the barred dict
    have hH6 : ∀ q o, H q = some o → upd H5 BD (.dT kvs) q = some o := fun q o e => by
      have e2 := s02 _ _ e
      have hqB : q ≠ BD := fun z => by
        have := s1 _ _ e
        rw [z, hBD] at this
        cases this
      rw [upd_ne hqB]
      exact s25 _ _ e2
    have s06 : Same H (upd H5 BD (.dT kvs)) := hH6
    generalize hH6' : upd H5 BD (.dT kvs) = H6 at *
    have hBD6 : H6 BD = some (.dT kvs) := by rw [← hH6']; exact upd_same
    have lxs : (xs.map V.str).length = xs.length := List.length_map _
    -- places
    refine ⟨_, rfl, a, _, rfl, .inl (SqL.of (s06 _ _ ha)), _, rfl, ?_⟩
    refine ⟨RgOk.of_le (by omega) (by omega) (by omega) (by omega), fun pl hpl => ?_⟩
    rw [lxs, rg_pls]
    have s7 : Same H6 (upd H6 pl (.lst ((pls xs.length).map V.int))) := same_new hpl
    generalize hH7 : upd H6 pl (.lst ((pls xs.length).map V.int)) = H7 at *
    have hpl7 : H7 pl = some (.lst ((pls xs.length).map V.int)) := by rw [← hH7]; exact upd_same
    refine ⟨sl1, fun sp hsp => ?_⟩
    have s8 : Same H7 (upd H7 sp (.lst [.non])) := same_new hsp
    generalize hH8 : upd H7 sp (.lst [.non]) = H8 at *
    have hsp8 : H8 sp = some (.lst [.non]) := by rw [← hH8]; exact upd_same
    have s08 := s06.trans (s7.trans s8)
    have hT8 := hT.ext s08
    have hpl8 := s8 _ _ hpl7
    have hBD8 := s8 _ _ (s7 _ _ hBD6)
    refine ⟨fun σ' H' => ∃ (sp2 : Addr), σ' = [some (.ref z), some (.ref m), some (.ref s), some (.ref e), none, none, some (.ref BD), none, none, some (.ref pl), some (.ref sp2), none, none, none, none, some (.ref a), some (.ref d), none] ∧ ExtN H8 H' ∧ Tabs (TT2 Pp Pb) H' ∧ H' sp2 = some (.lst ((spareL xs f sat).map oI)), ?_, ?_⟩
    · refine ⟨_, rfl, a, _, rfl, .inl (SqL.of (s08 _ _ ha)), _, _, rfl, rfl, (by show (0 : Int) < 2; decide), rfl, _, rfl, ?_⟩
      have lpl : ((pls xs.length).map V.int).length = xs.length := by rw [List.length_map, pls_len]
      rw [lxs]
      by_cases c : xs.length % 2 = 1
      · refine ite_tt (by show V.int (((xs.length : Nat) : Int) % 2) = V.int 1; rw [show ((xs.length : Nat) : Int) % 2 = 1 by omega]) ?_
        refine ⟨_, rfl, _, rfl, ⟨_, SqL.of hpl8⟩, fun D hD => ?_⟩
        refine lc_F walk_list (fun i => (((pls xs.length).take i).filter fun p => !decide (nmI xs p ∈ sat)).map V.int) hD rfl (fun _ z => SqL.of (z _ _ hpl8)) (fun i v H8 H8' hi p y => ?_) (fun H9 s9 e9 => ?_)
        · obtain ⟨rfl, y⟩ := y
          obtain ⟨q, hq, rfl⟩ := mapAt y
          obtain ⟨q1, q2⟩ := pls_mem (List.mem_of_getElem? hq)
          have hi' : i < 1000000 := by omega
          refine ⟨rfl, _, rfl, _, rfl, a, _, q, _, rfl, rfl, SqL.of (p.1 _ _ (s08 _ _ ha)), nm_at q1 q2, _, rfl, s, _, rfl, .inl (SqL.of (p.1 _ _ (s08 _ _ hs))), rfl, flat_strs _, _, rfl, ?_⟩
          rw [if_pos rfl, inV_strs]
          by_cases e : nmI xs q ∈ sat
          · rw [decide_eq_true e]
            exact skipF p (Same.refl _) (by rw [filTake hq, decide_eq_true e]; simp)
          · rw [decide_eq_false e]
            exact ⟨_, rfl, putF p hD (Same.refl _) hi' (by rw [filTake hq, decide_eq_false e]; simp)⟩
        rw [lpl, List.take_of_length_le (by rw [pls_len]; exact Nat.le_refl _)] at e9
        refine ⟨D, _, scI xs f, fun p => 0 - p, rfl, SqL.of e9, ?_, hT8.ext s9, fun z hz => ?_, fun H10 p10 x10 T10 hp10 => ?_⟩
        · have := List.length_filter_le (fun p => !decide (nmI xs p ∈ sat)) (pls xs.length)
          rw [pls_len] at this
          omega
        · obtain ⟨q1, q2⟩ := pls_mem (List.mem_filter.mp hz).1
          exact ⟨a, d, xs, f, rfl, s9 _ _ (s08 _ _ ha), rfl, s9 _ _ (s08 _ _ hd), q1, q2, rfl, rfl⟩
        · have sn := same_new (o := .lst ((sort2 (scI xs f) (fun p => 0 - p) ((pls xs.length).filter fun p => !decide (nmI xs p ∈ sat))).map V.int)) hp10
          refine ⟨p10, rfl, (ExtN.of s9).trans (x10.trans (ExtN.of sn)), T10.ext sn, ?_⟩
          have e0 : (fun p : Int => 0 - p) = fun p => -p := by funext p; omega
          rw [upd_same, spareL, if_pos c, List.map_map, e0]
          rfl
      · refine ite_ff (by intro z; have z2 : ((xs.length : Nat) : Int) % 2 = 1 := V.int.inj z; omega) ?_
        exact ⟨sp, rfl, ExtN.refl _, hT8, by rw [spareL, if_neg c]; exact hsp8⟩
    · rintro σ' H9 ⟨sp2, rfl, x9, T9, hsp9⟩
      have x09 : ExtN H H9 := (ExtN.of s08).trans x9
      have lsp : ((spareL xs f sat).map oI).length = (spareL xs f sat).length := List.length_map _
      have hpl9 : ∀ H', ExtN H9 H' → H' pl = some (.lst ((pls xs.length).map V.int)) := fun H' x => x _ _ (x9 _ _ hpl8 nt_lst) nt_lst
      have ha9 : ∀ H', ExtN H9 H' → H' a = some (.lst (xs.map V.str)) := fun H' x => x _ _ (x09 _ _ ha nt_lst) nt_lst
      have hd9 : ∀ H', ExtN H9 H' → H' d = some (.dK (tab xs f)) := fun H' x => x _ _ (x09 _ _ hd nt_dK) nt_dK
      have hBD9 : ∀ H', ExtN H9 H' → H' BD = some (.dT kvs) := fun H' x => x _ _ (x9 _ _ hBD8 (fun _ z => by cases z)) (fun _ z => by cases z)
      have he9 : ∀ H', ExtN H9 H' → H' e = some (.dK kl) := fun H' x => x _ _ (x09 _ _ he nt_dK) nt_dK
      refine ⟨_, rfl, sp2, rfl, ⟨_, SqL.of hsp9⟩, ?_⟩
      refine for_it walk_list (fun i σ H' => ∃ (u4 u5 u7 u8 u11 u12 u13 u14 : Option V), σ = [some (.ref z), some (.ref m), some (.ref s), some (.ref e), u4, u5, some (.ref BD), u7, u8, some (.ref pl), some (.ref sp2), u11, u12, u13, u14, some (.ref a), some (.ref d), none] ∧
        Same H9 H' ∧ ∀ r, PR (scI xs f) (barL xs met) (pls xs.length) ((spareL xs f sat).drop i) r → PR (scI xs f) (barL xs met) (pls xs.length) (spareL xs f sat) r)
        ⟨_, _, _, _, _, _, _, _, rfl, Same.refl _, fun r h => h⟩ (fun i σ H' hi ⟨_, _, _, _, _, _, _, _, _, z, _⟩ => SqL.of (z _ _ hsp9)) (fun i v σ H10 H10' hi p y => ?_) (fun σ H10 p => ?_)
      · obtain ⟨rfl, y⟩ := y
        obtain ⟨u4, u5, u7, u8, u11, u12, u13, u14, rfl, s10, hpr⟩ := p
        have x10 := ExtN.of s10
        obtain ⟨o, ho, rfl⟩ := mapAt y
        refine ⟨_, rfl, _, rfl, ⟨_, SqL.of (hpl9 _ x10)⟩, fun D hD => ?_⟩
        have lpl : ((pls xs.length).map V.int).length = xs.length := by rw [List.length_map, pls_len]
        refine lc_F walk_list (fun i => (((pls xs.length).take i).filter fun p => !decide (V.int p = oI o)).map V.int) hD rfl (fun _ z => SqL.of (z _ _ (hpl9 _ x10))) (fun i v H11 H11' hi p y => ?_) (fun H11 s11 e11 => ?_)
        · obtain ⟨rfl, y⟩ := y
          obtain ⟨q, hq, rfl⟩ := mapAt y
          have hi' : i < 1000000 := by omega
          refine ⟨rfl, _, rfl, _, rfl, (by cases o <;> rfl), _, rfl, ?_⟩
          by_cases c : V.int q = oI o
          · rw [decide_eq_true c]
            exact skipF p (Same.refl _) (by rw [filTake hq, decide_eq_true c]; simp)
          · rw [decide_eq_false c]
            exact ⟨_, rfl, putF p hD (Same.refl _) hi' (by rw [filTake hq, decide_eq_false c]; simp)⟩
        rw [lpl, List.take_of_length_le (by rw [pls_len]; exact Nat.le_refl _)] at e11
        have x11 := x10.trans (ExtN.of s11)
        have hL11 := hL.ext (x09.trans x11)
        have lo : (outF (pls xs.length) o).length ≤ 10 := by
          have := List.length_filter_le (fun p => !decide (V.int p = oI o)) (pls xs.length)
          rw [pls_len] at this
          unfold outF
          omega
        have nd := (pls_nd xs.length).filter fun p => !decide (V.int p = oI o)
        refine ⟨D, outF (pls xs.length) o, L, rfl, e11, lo, by omega, nd, hL11, fun H12 v s12 hda => ?_⟩
        generalize hls : lots 10 (outF (pls xs.length) o) = ls at *
        obtain ⟨Y, ys, rfl, hY, nY, hys⟩ := hda.list
        have lys : ys.length = ls.length := by rw [hys.len, List.length_map]
        have lls : ls.length ≤ 945 := by
          rw [← hls]
          have h1 := lots_count 10 _ nd
          have h2 := cntB_le (outF (pls xs.length) o).length lo
          exact Nat.le_trans h1 h2
        have x12 := x11.trans (ExtN.of s12)
        have hL12 := hL11.same s12
        -- the lots without a barred pair
        refine ⟨_, rfl, _, rfl, ⟨_, SqL.of hY⟩, fun D2 hD2 => ?_⟩
        have hD2n : D2 ≠ BD := fun z => by rw [z] at hD2; rw [hBD9 _ x12] at hD2; cases hD2
        refine lc_D walk_list L (fun j => ((ls.take j).filter (okL (barL xs met))).map lotD) hD2 rfl (fun _ z => SqL.of (z _ _ hY)) (fun j v H13 H13' hj p y => ?_) (fun acc H13 s13 hD3 d13 => ?_)
        · obtain ⟨rfl, y⟩ := y
          obtain ⟨dd, hd1, hd2⟩ := ((hys.more hD2).same p.1).get y
          rw [List.getElem?_map] at hd1
          obtain ⟨mm, hmm, rfl⟩ := Option.map_eq_some_iff.mp hd1
          obtain ⟨lmm, ml, rfl, hlm, nlm, hml⟩ := Da.list (ds := mm.map ipD) hd2
          have lml : ml.length = mm.length := by rw [hml.len, List.length_map]
          have lm2 : 2 * mm.length = (outF (pls xs.length) o).length := lots_len (n := 10) (show (outF (pls xs.length) o).Nodup from nd) (by rw [hls]; exact List.mem_of_getElem? hmm)
          have lm3 : mm.length ≤ 10 := by omega
          have x13 := x12.trans (ExtN.of p.1)
          refine ⟨rfl, _, rfl, lmm, rfl, ⟨_, SqL.of hlm⟩, fun D4 hD4 => ?_⟩
          refine lc_D walk_list [] (fun k => ((mm.take k).filter (barL xs met)).map ipD) hD4 rfl (fun _ z => SqL.of (z _ _ hlm)) (fun k v H14 H14' hk p4 y => ?_) (fun acc4 H14 s14 hD4' d14 => ?_)
          · obtain ⟨rfl, y⟩ := y
            obtain ⟨dd, he1, he2⟩ := (((hml.mono (L' := []) (by simp)).more hD4).same p4.1).get y
            rw [List.getElem?_map] at he1
            obtain ⟨q, hq, rfl⟩ := Option.map_eq_some_iff.mp he1
            obtain ⟨tq, yq, rfl, htq, ntq, hyq⟩ := Da.tuple (ds := [.int q.1, .int q.2]) he2
            have := daAll_ints (xs := [q.1, q.2]) hyq
            subst this
            have hk' : k < 1000000 := by omega
            refine ⟨rfl, _, rfl, _, rfl, BD, _, rfl, DGet.t (k := [Sum.inl q.1, Sum.inl q.2]) (hBD9 _ (x13.trans (ExtN.of p4.1))) htq, _, rfl, ?_⟩
            rw [hbar q.1 q.2]
            cases hb2 : barL xs met (q.1, q.2) with
            | true => exact ⟨_, rfl, putD p4 hD4 (Same.refl _) hk' he2 (by rw [filTake hq, hb2]; simp)⟩
            | false => exact skipD p4 (Same.refl _) (by rw [filTake hq, hb2]; simp)
          · rw [lml, List.take_length] at d14
            refine ⟨sl0, fun l5 hl5 => ?_⟩
            have s15 := same_new (o := .lst []) hl5
            refine ⟨.list ((mm.filter (barL xs met)).map ipD), .list [], .lst (SqL.of (s15 _ _ hD4')) (d14.same s15).dp, .lst (SqL.of upd_same) .nil, (shp_lot _).ok, rfl, _, rfl, ?_⟩
            have s16 := s14.trans s15
            have hj' : j < 1000000 := by omega
            cases hok : okL (barL xs met) mm with
            | true =>
              rw [okL_nil.mp hok]
              rw [show PyData.eqv (.list (List.map ipD [])) (.list []) = true from eqv_nil_nil]
              exact ⟨_, rfl, putD p hD2 s16 hj' (hd2.same s16) (by rw [filTake hmm, hok]; simp)⟩
            | false =>
              have hne : mm.filter (barL xs met) ≠ [] := fun z => by rw [okL_nil.mpr z] at hok; cases hok
              obtain ⟨q, qs, hqs⟩ := List.exists_cons_of_ne_nil hne
              rw [hqs]
              rw [show PyData.eqv (.list (List.map ipD (q :: qs))) (.list []) = false from eqv_nil_cons _ _]
              exact skipD p s16 (by rw [filTake hmm, hok]; simp)
        rw [lys, List.take_length] at d13
        have x14 := x12.trans (ExtN.of s13)
        have hL13 := hL12.same s13
        have hD2L : D2 ∉ L := hL12.new hD2
        generalize hgd : ls.filter (okL (barL xs met)) = gd at *
        refine ⟨_, rfl, sl0, fun l5 hl5 => ?_⟩
        have s15 := same_new (o := .lst []) hl5
        have d15 := d13.same s15
        have hD15 := s15 _ _ hD3
        have x15 := x14.trans (ExtN.of s15)
        have hdr : (spareL xs f sat).drop i = o :: (spareL xs f sat).drop (i + 1) := by
          have hlt := (List.getElem?_eq_some_iff.mp ho)
          rw [List.drop_eq_getElem_cons hlt.1, hlt.2]
        rw [hdr] at hpr
        refine ⟨.list (gd.map lotD), .list [], .lst (SqL.of hD15) d15.dp, .lst (SqL.of upd_same) .nil, ?_, rfl, _, rfl, ?_⟩
        · refine (Shp.list (k := 3) fun d hd => ?_).ok
          obtain ⟨mm, _, rfl⟩ := List.mem_map.mp hd
          exact ⟨(shp_lot mm).1, Nat.le_trans (shp_lot mm).2 (by decide)⟩
        cases hgc : gd with
        | nil =>
          rw [show PyData.eqv (.list (List.map lotD [])) (.list []) = true from eqv_nil_nil]
          have hB : Bst (scI xs f) (barL xs met) ls none := fun m hm => by
            rw [Bool.eq_false_iff]
            intro hk
            have : m ∈ ls.filter (okL (barL xs met)) := List.mem_filter.mpr ⟨hm, hk⟩
            rw [hgd, hgc] at this
            cases this
          exact ⟨_, _, _, _, _, _, _, _, rfl, s10.trans (s11.trans (s12.trans (s13.trans s15))), fun r hr => hpr r (.miss (by rw [hls]; exact hB) hr)⟩
        | cons g0 gs =>
          rw [show PyData.eqv (.list (List.map lotD (g0 :: gs))) (.list []) = false from eqv_nil_cons _ _]
          obtain ⟨bs, rfl⟩ := lot_refs d15
          have lbs : bs.length = gd.length := by
            have := d15.len
            rw [List.length_map, List.length_map] at this
            exact this
          have hgm : ∀ m ∈ gd, m ∈ ls ∧ okL (barL xs met) m = true := fun m hm => by
            rw [← hgd] at hm
            exact List.mem_filter.mp hm
          have hlm : ∀ m ∈ ls, m.length ≤ 10 ∧ ∀ p ∈ m, (0 ≤ p.1 ∧ p.1 < (xs.length : Int)) ∧ 0 ≤ p.2 ∧ p.2 < (xs.length : Int) := fun m hm => by
            rw [← hls] at hm
            have h1 := lots_len (show (outF (pls xs.length) o).Nodup from nd) hm
            have h2 := lots_perm _ _ (show (outF (pls xs.length) o).Nodup from nd) m hm
            have h3 : ∀ z ∈ flat m, 0 ≤ z ∧ z < (xs.length : Int) := fun z hz => pls_mem (List.mem_filter.mp (h2.subset hz)).1
            refine ⟨by omega, fun p hp => ⟨h3 _ (List.mem_flatMap.mpr ⟨p, hp, by simp⟩), h3 _ (List.mem_flatMap.mpr ⟨p, hp, by simp⟩)⟩⟩
          have hT15 := ((T9.ext (s10.trans (s11.trans s12))).ext (s13.trans s15))
          have getb : ∀ (j : Nat) (b : Addr), bs[j]? = some b → ∃ m, gd[j]? = some m := fun j b hj => by
            have h1 : j < gd.length := by rw [← lbs]; exact (List.getElem?_eq_some_iff.mp hj).1
            exact ⟨gd[j], List.getElem?_eq_getElem h1⟩
          have datb : ∀ (j : Nat) (b : Addr) (m : List Ip), bs[j]? = some b → gd[j]? = some m → Da (D2 :: L) (upd _ l5 (.lst [])) (.ref b) (lotD m) := fun j b m hj hm => by
            obtain ⟨d', e1, e2⟩ := d15.get (i := j) (v := .ref b) (by rw [List.getElem?_map, hj]; rfl)
            rw [List.getElem?_map, hm] at e1
            cases e1
            exact e2
          refine ⟨_, rfl, D2, bs, gd.map lotD, fun j => cost (scI xs f) (gd.getD j []), rfl, SqL.of hD15, d15.dp, by rw [lbs, hgc]; simp, ?_, ?_, hT15, fun H16 j b x16 hj Q' hQ' => ?_, fun H16 j b x16 T16 hj hmin => ?_⟩
          · intro d hd e he
            obtain ⟨m, _, rfl⟩ := List.mem_map.mp hd
            obtain ⟨m', _, rfl⟩ := List.mem_map.mp he
            simp [lotD, PySem.W.alike, alike_ips]
          · refine Nat.le_trans (shp_all (k := 2) fun d hd => ?_).2 (by decide)
            obtain ⟨m, _, rfl⟩ := List.mem_map.mp hd
            exact shp_lot m
          · obtain ⟨m, hm⟩ := getb j b hj
            have hb := datb j b m hj hm
            have hmm := hlm m (hgm m (List.mem_of_getElem? hm)).1
            have e1 : gd.getD j [] = m := by simp [List.getD, hm]
            refine ⟨_, rfl, _, rfl, _, rfl, b, d, a, xs, f, m, rfl, (hb.ext x16).mono (by simp), hd9 _ (x15.trans x16), ha9 _ (x15.trans x16), by omega, hmm.2, hf, fun H17 s17 => ⟨_, rfl, sl2, fun p hp => hQ' _ p (s17.trans (same_new hp)) ?_⟩⟩
            rw [upd_same]
            show some (HO.tup [V.int (cost (scI xs f) m), V.ref b]) = some (HO.tup [V.int (cost (scI xs f) (gd.getD j [])), V.ref b])
            rw [e1]
          · obtain ⟨m, hm⟩ := getb j b hj
            have hb := datb j b m hj hm
            have hmm := hlm m (hgm m (List.mem_of_getElem? hm)).1
            have kat : ∀ (j : Nat) (m : List Ip), gd[j]? = some m → keyAt (fun j => cost (scI xs f) (gd.getD j [])) (gd.map lotD) j = keyD (scI xs f) m := fun j m hm => by
              simp [keyAt, keyD, List.getD, hm]
            have hB : Bst (scI xs f) (barL xs met) ls (some m) := by
              refine ⟨(hgm m (List.mem_of_getElem? hm)).1, (hgm m (List.mem_of_getElem? hm)).2, fun m' hm' hk => ?_⟩
              have hm2 : m' ∈ gd := by rw [← hgd]; exact List.mem_filter.mpr ⟨hm', hk⟩
              obtain ⟨j', hj'⟩ := List.getElem?_of_mem hm2
              have h1 := hmin j' (by rw [lbs]; exact (List.getElem?_eq_some_iff.mp hj').1)
              rw [kat j' m' hj', kat j m hm] at h1
              exact h1
            have hPR := hpr _ (.hit (by rw [hls]; exact hB))
            have x17 := x15.trans x16
            have hL16 := hL13.ext ((ExtN.of s15).trans x16)
            obtain ⟨lmm, ml, e1, hlmm, nlm, hml⟩ := Da.list (ds := m.map ipD) ((hb.ext x16).mono (L' := L) (by simp +contextual))
            cases e1
            have lml : ml.length = m.length := by rw [hml.len, List.length_map]
            refine ⟨sl0, fun G hG => ?_⟩
            have s18 := same_new (o := .lst []) hG
            have hG18 : upd H16 G (.lst []) G = some (.lst []) := upd_same
            generalize hH18 : upd H16 G (.lst []) = H18 at *
            have x18 := x17.trans (ExtN.of s18)
            have hGL : G ∉ L := hL16.new hG
            have hlm18 := s18 _ _ hlmm
            have hml18 := (hml.more hG).same s18
            have nlG : b ≠ G := ne_of_none hlmm hG
            have keepG : ∀ H', Sx G H18 H' → ∀ (q : Addr) (ob : HO), (∀ H'', ExtN H9 H'' → H'' q = some ob) → H' q = some ob := fun H' sx q ob hq => sx _ _ (hq _ x18) (ne_of_none (hq _ x17) hG)
            refine ⟨_, rfl, b, rfl, ⟨_, SqL.of hlm18⟩, ?_⟩
            refine for_it walk_list (fun i σ H' => ∃ (u4 u5 u7 u8 : Option V) (acc : List V), σ = [some (.ref z), some (.ref _), some (.ref s), some (.ref e), u4, u5, some (.ref BD), u7, u8, some (.ref pl), some (.ref sp2), some (oI o), some (.ref D2), some (.ref b), some (.ref G), some (.ref a), some (.ref d), none] ∧
              Sx G H18 H' ∧ H' G = some (.lst acc) ∧ DaAll (G :: L) H' acc (((m.take i).map fun p => ordP g (nmI xs p.1, nmI xs p.2)).map prD)) ⟨_, _, _, _, [], rfl, Sx.refl _ _, hG18, .nil⟩ (fun i σ H' hi ⟨_, _, _, _, _, _, z, _⟩ => SqL.of (z _ _ hlm18 nlG)) (fun i v σ H19 H19' hi p y => ?_) (fun σ H19 p => ?_)
            · obtain ⟨rfl, y⟩ := y
              obtain ⟨w4, w5, w7, w8, acc, rfl, sx, hGa, dG⟩ := p
              have lacc : acc.length ≤ 10 := by
                rw [dG.len]
                simp
                omega
              obtain ⟨dd, hd1, hd2⟩ := (hml18.sx sx (by simp)).get y
              rw [List.getElem?_map] at hd1
              obtain ⟨q, hq, rfl⟩ := Option.map_eq_some_iff.mp hd1
              obtain ⟨tq, yq, rfl, htq, ntq, hyq⟩ := Da.tuple (ds := [.int q.1, .int q.2]) hd2
              have := daAll_ints (xs := [q.1, q.2]) hyq
              subst this
              obtain ⟨⟨q1, q2⟩, q3, q4⟩ := hmm.2 q (List.mem_of_getElem? hq)
              have m1 := nm_mem q1 q2
              have m2 := nm_mem q3 q4
              have ha19 := keepG _ sx _ _ ha9
              have he19 := keepG _ sx _ _ he9
              refine ⟨tq, _, rfl, SqT.of htq, rfl, _, _, rfl, _, _, rfl, rfl, ?_⟩
              refine ⟨_, rfl, _, rfl, a, _, q.1, _, rfl, rfl, SqL.of ha19, nm_at q1 q2, _, rfl, _, rfl, a, _, q.2, _, rfl, rfl, SqL.of ha19, nm_at q3 q4, _, _, rfl, ?_⟩
              refine ⟨_, rfl, .inl ⟨rfl, _, SqL.of hGa⟩, ?_⟩
              refine ⟨_, rfl, e, rfl, .inl ⟨_, .inl he19⟩, _, rfl, _, .inl ⟨_, Sum.inr _, .inl he19, rfl, rfl⟩, ?_⟩
              refine ⟨_, rfl, e, rfl, .inl ⟨_, .inl he19⟩, _, rfl, _, .inl ⟨_, Sum.inr _, .inl he19, rfl, rfl⟩, ?_⟩
              rw [hg _ m1, hg _ m2]
              refine ⟨_, _, rfl, rfl, _, rfl, ?_⟩
              have fin : ∀ (tn : Addr), H19' tn = none → ∀ gg : Pr, gg = ordP g (nmI xs q.1, nmI xs q.2) → DaAll (G :: L) (upd (upd H19' tn (.tup [.str gg.1, .str gg.2])) G (.lst (acc ++ [.ref tn]))) (acc ++ [.ref tn]) (((m.take (i + 1)).map fun p => ordP g (nmI xs p.1, nmI xs p.2)).map prD) := by
                rintro tn htn gg rfl
                have sn := same_new (o := .tup [.str (ordP g (nmI xs q.1, nmI xs q.2)).1, .str (ordP g (nmI xs q.1, nmI xs q.2)).2]) htn
                rw [mapTake hq, List.map_append]
                refine ((dG.same sn).snoc ?_).upd (by simp)
                have hLG : Lv (G :: L) H19' := ((hL16.same s18).sx sx ⟨_, hGa, nt_lst⟩).cons hGa nt_lst
                exact da_pr' upd_same (hLG.new htn)
              by_cases c : g (nmI xs q.2) < g (nmI xs q.1)
              · refine ite_tt c ?_
                refine ⟨_, rfl, _, rfl, sl2, fun tn htn => ?_⟩
                have sn := same_new (o := .tup [.str (nmI xs q.2), .str (nmI xs q.1)]) htn
                refine ⟨G, acc, _, rfl, rfl, sn _ _ hGa, by have := szl; omega, ?_⟩
                exact ⟨_, _, _, _, _, rfl, (sx.trans (Sx.of sn)).trans Sx.set, upd_same, fin tn htn (nmI xs q.2, nmI xs q.1) (by rw [ordP, if_pos c])⟩
              · refine ite_ff c ?_
                refine ⟨_, rfl, _, rfl, sl2, fun tn htn => ?_⟩
                have sn := same_new (o := .tup [.str (nmI xs q.1), .str (nmI xs q.2)]) htn
                refine ⟨G, acc, _, rfl, rfl, sn _ _ hGa, by have := szl; omega, ?_⟩
                exact ⟨_, _, _, _, _, rfl, (sx.trans (Sx.of sn)).trans Sx.set, upd_same, fin tn htn (nmI xs q.1, nmI xs q.2) (by rw [ordP, if_neg c])⟩
            · obtain ⟨w4, w5, w7, w8, acc, rfl, sx, hGa, dG⟩ := p
              rw [lml, List.take_length] at dG
              have xx : ExtN H9 H19 := fun q ob e n => sx _ _ (x18 _ _ e n) (ne_of_none (x17 _ _ e n) hG)
              have T19 : Tabs (TT2 Pp Pb) H19 := tabs_sx (Tabs.ext T16 s18) sx hG18 nt_lst (fun _ z => by cases z)
              have hL19 : Lv L H19 := (hL16.same s18).sx sx ⟨_, hGa, nt_lst⟩
              have d19 := dG.mono (L' := L) (by simp +contextual)
              have fin : ∀ (t2 : Addr) (ov : V), ov = oV (o.map (nmI xs)) → H19 t2 = none → Q (.ref t2) (upd H19 t2 (.tup [.ref G, ov])) := by
                rintro t2 ov rfl ht2
                have sn := same_new (o := .tup [.ref G, oV (o.map (nmI xs))]) ht2
                refine kq _ _ (some (o, m)) ((x09.trans xx).trans (ExtN.of sn)) (T19.ext sn) hPR ?_
                exact da_lap' (b := G) (xs := acc) upd_same (hL19.new ht2) (sn _ _ hGa) hGL (d19.same sn)
              refine ⟨_, rfl, _, rfl, rfl, ?_⟩
              cases o with
              | none =>
                refine ⟨_, rfl, ?_⟩
                exact ⟨sl2, fun t2 ht2 => fin t2 _ rfl ht2⟩
              | some zz =>
                have hz := spare_mem (List.mem_of_getElem? ho)
                refine ⟨_, rfl, ?_⟩
                refine ⟨_, rfl, _, rfl, a, _, zz, _, rfl, rfl, SqL.of (ha9 _ xx), nm_at hz.1 hz.2, sl2, fun t2 ht2 => fin t2 _ rfl ht2⟩
      · obtain ⟨u4, u5, u7, u8, u11, u12, u13, u14, rfl, s10, hpr⟩ := p
        rw [lsp, List.drop_length] at hpr
        exact kq _ _ none (x09.trans (ExtN.of s10)) (T9.ext s10) (hpr none .nil) .non
end
end MR
namespace MR
open PySem PySem.Spec PyProof.Rows L2 LamX
def nameB (s : Str) : Bool := decide (1 ≤ s.length) && decide (s.length ≤ 8) && s.cps.toList.all fun c => decide (c ∈ letters.cps.toList)
theorem nameB_ok {s : Str} (h : nameB s = true) : NameOk s := by
  unfold nameB at h
  simp only [Bool.and_eq_true, decide_eq_true_eq, List.all_eq_true] at h
  exact ⟨h.1.1, h.1.2, h.2⟩
theorem allB {l : List Str} {y : Str} (h : y ∈ l) (hb : l.all nameB = true) : NameOk y := nameB_ok (List.all_eq_true.mp hb y h)
theorem len_app (a b : Str) : (a ++ b).length = a.length + b.length := by
  show (a.cps ++ b.cps).size = _
  rw [Array.size_append]
  rfl
theorem cps_app (a b : Str) : (a ++ b).cps.toList = a.cps.toList ++ b.cps.toList := by
  show (a.cps ++ b.cps).toList = _
  simp
/-- signs put together -/
theorem join_ok : ∀ (ys : List Str), (∀ y ∈ ys, ∃ c, y = ⟨#[c]⟩ ∧ c ∈ letters.cps.toList) → (Txt.join "" ys).length = ys.length ∧ ∀ c ∈ (Txt.join "" ys).cps.toList, c ∈ letters.cps.toList
  | [], _ => by
    rw [TL.join_eq]
    exact ⟨rfl, fun c h => by simp [Str.join, Str.empty] at h⟩
  | [y], h => by
    rw [TL.join_eq]
    obtain ⟨c, rfl, hc⟩ := h y (by simp)
    exact ⟨rfl, fun d hd => by simp [Str.join] at hd; rw [hd]; exact hc⟩
  | y :: z :: r, h => by
    have ih := join_ok (z :: r) fun q hq => h q (List.mem_cons_of_mem _ hq)
    rw [TL.join_eq] at ih ⊢
    obtain ⟨c, rfl, hc⟩ := h y (by simp)
    have e : Str.join "" ((⟨#[c]⟩ : Str) :: z :: r) = ((⟨#[c]⟩ : Str) ++ ("" : Str)) ++ Str.join "" (z :: r) := rfl
    rw [e, len_app, len_app, cps_app, cps_app, ih.1]
    refine ⟨?_, fun d hd => ?_⟩
    · show 1 + 0 + _ = _
      simp
      omega
    · rcases List.mem_append.mp hd with hd | hd
      · rcases List.mem_append.mp hd with hd | hd
        · simp at hd
          rw [hd]
          exact hc
        · have : (Str.ofString "").cps.toList = [] := by decide +kernel
          rw [this] at hd
          cases hd
      · exact ih.2 d hd
/-! the law's state -/
def stK (c : Addr) (i l m : Int) : List (Key × V) := [(Sum.inr "cells", .ref c), (Sum.inr "next", .int i), (Sum.inr "left", .int l), (Sum.inr "mixed", .int m)]
theorem st_cells {c : Addr} {i l m : Int} : valV (stK c i l m) (Sum.inr ("cells" : Str)) = some (.ref c) := by rfl
theorem st_next {c : Addr} {i l m : Int} : valV (stK c i l m) (Sum.inr ("next" : Str)) = some (.int i) := by rfl
theorem st_left {c : Addr} {i l m : Int} : valV (stK c i l m) (Sum.inr ("left" : Str)) = some (.int l) := by rfl
theorem st_mixed {c : Addr} {i l m : Int} : valV (stK c i l m) (Sum.inr ("mixed" : Str)) = some (.int m) := by rfl
theorem st_pnext {c : Addr} {i l m j : Int} : putK (stK c i l m) (Sum.inr ("next" : Str)) (.int j) = stK c j l m := by rfl
theorem st_pleft {c : Addr} {i l m j : Int} : putK (stK c i l m) (Sum.inr ("left" : Str)) (.int j) = stK c i j m := by rfl
theorem st_merge {c : Addr} {i l m : Int} : mergeK [] (stK c i l m) = stK c i l m := by rfl
structure StAt (S c : Addr) (H : Hp) : Prop where
  st : ∃ i l m : Int, H S = some (.dK (stK c i l m)) ∧ 0 ≤ i ∧ 0 ≤ l ∧ 0 ≤ m
  cs : ∃ ns : List Int, H c = some (.lst (ns.map V.int))
theorem StAt.sx {S c X : Addr} {H H' : Hp} (h : StAt S c H) (e : Sx X H H') (h1 : S ≠ X) (h2 : c ≠ X) : StAt S c H' := by
  obtain ⟨⟨i, l, m, a, b⟩, ns, d⟩ := h
  exact ⟨⟨i, l, m, e _ _ a h1, b⟩, ns, e _ _ d h2⟩
theorem StAt.same {S c : Addr} {H H' : Hp} (h : StAt S c H) (e : Same H H') : StAt S c H' := by
  obtain ⟨⟨i, l, m, a, b⟩, ns, d⟩ := h
  exact ⟨⟨i, l, m, e _ _ a, b⟩, ns, e _ _ d⟩
theorem StAt.fr {S c : Addr} {L : List Addr} {H H' : Hp} (h : StAt S c H) (e : Fr L H H') (h1 : S ∉ L) (h2 : c ∉ L) : StAt S c H' := by
  obtain ⟨⟨i, l, m, a, b⟩, ns, d⟩ := h
  exact ⟨⟨i, l, m, e _ _ a h1 nt_dK, b⟩, ns, e _ _ d h2 nt_lst⟩
theorem StAt.nt {S c : Addr} {H : Hp} (h : StAt S c H) : ∃ o, H S = some o ∧ NT o := by
  obtain ⟨⟨i, l, m, a, b⟩, _⟩ := h
  exact ⟨_, a, nt_dK⟩
section
variable {P : Program} {w : World} {K : PySem.W.Frag} {mg : Str → Option Value} {base : Heap} {C : Addr}
abbrev N_law_begin : List Str := ["_law_script", "_law_mixed", "_law_cell"]
abbrev ps_law_begin : List Str := ["_law_script"]
theorem sc_law_begin : FnScope N_law_begin ps_law_begin (defScope MH.s_law_begin) := ⟨rfl, rfl, rfl, by decide +kernel, rfl, by decide +kernel, by decide +kernel⟩
def sp_begin (K : PySem.W.Frag) : Sp := fun vs H Q _ => ∃ (a : Addr) (ns : List Int), vs = [.ref a] ∧ SqL K H a (ns.map V.int) ∧ ∀ H' S c, Same H H' → StAt S c H' → H S = none → H c = none → Q (.ref S) H'
theorem ok_law_begin (T : Txt K mg C) : Ok P w K mg base CX0 1 "_law_begin" ps_law_begin (sp_begin K) := by
  refine T.d_law_begin.ok sc_law_begin (fun vs H Q E h => ?_) (fun _ _ _ _ _ _ us hl => match us, hl with | [_], _ => rfl)
    (fun f cdv A outer s H vs Q E hr h => ?_)
  · obtain ⟨_, _, rfl, _⟩ := h
    rfl
  · obtain ⟨a, ns, rfl, ha, k⟩ := h
    refine ⟨_, PSs.nox (pss_cons (ps_set (i := 1) sc_law_begin.nd rfl (Or.inl rfl) pe_int)
        (pss_cons (ps_for PassesOwn.never rfl (pi_list (pv 0)) (pg_name (i := 2) sc_law_begin.nd rfl (Or.inl rfl)) (pss_one (ps_set (i := 1) sc_law_begin.nd rfl (Or.inl rfl) (pe_op op_mod (pe_op op_add (pe_op op_mul (pv 1) pe_int) (pv 2)) pe_int))))
        (pss_one (ps_ret (pe_disp (pps_cons pe_str (pe_callTy call_list_of (by rfl) T.b_list (by decide +kernel) (pa_cons (pv 0) pa_nil)) (pps_cons pe_str pe_int (pps_cons pe_str pe_int (pps_cons pe_str (pv 1) pps_nil)))) (by rfl) (by rfl) (fun z => by cases z) (by decide))))))
      , ?_⟩
    refine ⟨_, rfl, a, rfl, ⟨_, ha⟩, ?_⟩
    refine for_it walk_list (fun i σ H' => ∃ (u2 : Option V) (m : Int), σ = [some (.ref a), some (.int m), u2] ∧ Same H H' ∧ 0 ≤ m ∧ m < 2147483629) ⟨_, 11, rfl, Same.refl _, by decide, by decide⟩ (fun i σ H' hi ⟨_, _, _, z, _⟩ => z.seq ha) (fun i v σ H1 H1' hi p y => ?_) (fun σ H1 p => ?_)
    · obtain ⟨rfl, y⟩ := y
      obtain ⟨u2, m, rfl, s1, m0, m1⟩ := p
      obtain ⟨x, hx, rfl⟩ := mapAt y
      refine ⟨_, rfl, _, _, rfl, rfl, .inl ⟨by omega, by omega⟩, _, rfl, _, _, rfl, rfl, _, _, rfl, rfl, (by show (0 : Int) < 2147483629; decide), ?_⟩
      exact ⟨_, _, rfl, s1, Int.emod_nonneg _ (by decide), Int.emod_lt_of_pos _ (by decide)⟩
    · obtain ⟨u2, m, rfl, s1, m0, m1⟩ := p
      refine fun S hS => ?_
      refine ⟨_, rfl, a, _, rfl, .inl ((s1.trans (same_new hS)).seq ha), fun c hc => ?_⟩
      have hcS : c ≠ S := fun z => by rw [z, upd_same] at hc; cases hc
      refine ⟨_, rfl, by rw [upd_ne hcS.symm]; exact upd_same, stK c 0 0 m, rfl, by show 4 ≤ 15; decide, ?_⟩
      rw [st_merge]
      have sS := s1.trans (same_new (o := .dK []) hS)
      refine k _ S c (fun b o e => ?_) ⟨⟨0, 0, m, upd_same, by decide, by decide, m0⟩, ns, by rw [upd_ne hcS]; exact upd_same⟩ (s1.free hS) (sS.free hc)
      have h1 : b ≠ S := ne_of_none (s1 _ _ e) hS
      rw [upd_ne h1]
      exact (sS.trans (same_new hc)) _ _ e
abbrev N_law_more : List Str := ["_law_state", "_law_step", "_law_cell", "_law_one", "_law_two", "_law_three"]
abbrev ps_law_more : List Str := ["_law_state"]
theorem sc_law_more : FnScope N_law_more ps_law_more (defScope MH.s_law_more) := ⟨rfl, rfl, rfl, by decide +kernel, rfl, by decide +kernel, by decide +kernel⟩
def sp_more : Sp := fun vs H Q _ => ∃ (S c : Addr), vs = [.ref S] ∧ StAt S c H ∧ ∀ H' r, Sx S H H' → StAt S c H' → 0 ≤ r → Q (.int r) H'
theorem ok_law_more (T : Txt K mg C) : Ok P w K mg base CX0 1 "_law_more" ps_law_more sp_more := by
  refine T.d_law_more.ok sc_law_more (fun vs H Q E h => ?_) (fun _ _ _ _ _ _ us hl => match us, hl with | [_], _ => rfl)
    (fun f cdv A outer s H vs Q E hr h => ?_)
  · obtain ⟨_, _, rfl, _⟩ := h
    rfl
  · obtain ⟨S, c, rfl, ⟨⟨i, l, m, hS, i0, l0, m0⟩, ns, hc⟩, k⟩ := h
    have hcS : c ≠ S := ne_of hc hS (by intro z; cases z)
    refine ⟨_, PSs.nox (pss_cons (ps_set (i := 1) sc_law_more.nd rfl (Or.inl rfl) (pe_dget (hu_of hr) (pv 0) pe_str (fun _ _ => rfl)))
        (pss_cons (ps_dput (hu_of hr) (pv 0) pe_str (pe_op op_add (pv 1) pe_int) rfl)
        (pss_cons (ps_set (i := 2) sc_law_more.nd rfl (Or.inl rfl) (pe_op op_add (pe_dget (hu_of hr) (pv 0) pe_str (fun _ _ => rfl)) (pe_op op_mul pe_int (pv 1))))
        (pss_cons (ps_join (ps_if (pt_cmpR op_lt (pv 1) (pe_callB call_len_seq (by rfl) T.b_len PySem.boot_len (pa_cons (pe_dget (hu_of hr) (pv 0) pe_str (fun _ _ => rfl)) pa_nil)) (nomark _)) (pss_one (ps_set (i := 2) sc_law_more.nd rfl (Or.inl rfl) (pe_ix ix_list (pe_dget (hu_of hr) (pv 0) pe_str (fun _ _ => rfl)) (pv 1) (fun _ _ => rfl)))) pss_nil))
        (pss_cons (ps_if (pt_cmpR op_ge (pv 2) (pe_op op_pow pe_int pe_int) (nomark _)) (pss_one (ps_ret (pe_op op_sub (pv 2) (pe_op op_pow pe_int pe_int)))) pss_nil)
        (pss_cons (ps_set (i := 3) sc_law_more.nd rfl (Or.inl rfl) (pe_op op_mod (pe_op op_add (pe_op op_add (pe_op op_mul (pv 2) pe_int) (pe_op op_mul pe_int (pv 1))) pe_int) pe_int))
        (pss_cons (ps_set (i := 4) sc_law_more.nd rfl (Or.inl rfl) (pe_op op_mod (pe_op op_mul (pv 3) (pe_op op_add (pe_op op_add (pv 3) (pe_op op_mul pe_int (pv 1))) pe_int)) pe_int))
        (pss_cons (ps_set (i := 5) sc_law_more.nd rfl (Or.inl rfl) (pe_op op_mod (pe_op op_mul (pv 4) (pe_op op_add (pe_op op_add (pv 4) (pv 3)) pe_int)) pe_int))
        (pss_one (ps_ret (pe_op op_add (pe_op op_mul (pe_op op_add (pe_op op_mul (pv 3) pe_int) (pv 4)) pe_int) (pv 5))))))))))))
      , ?_⟩
    have l4 : 4 < sizeLine := by have := szl; omega
    refine ⟨_, rfl, S, _, rfl, .inl ⟨_, Sum.inr _, .inl hS, rfl, st_next.symm⟩, ?_⟩
    refine ⟨_, rfl, _, _, rfl, rfl, _, rfl, S, _, rfl, DPut.k (k := Sum.inr _) hS l4, ?_⟩
    rw [st_pnext]
    have sx : Sx S H (upd H S (.dK (stK c (i + 1) l m))) := Sx.set
    have hS1 : upd H S (.dK (stK c (i + 1) l m)) S = some (.dK (stK c (i + 1) l m)) := upd_same
    have hc1 := sx _ _ hc hcS
    have hst : StAt S c (upd H S (.dK (stK c (i + 1) l m))) := ⟨⟨_, _, _, hS1, by omega, l0, m0⟩, ns, hc1⟩
    generalize upd H S (.dK (stK c (i + 1) l m)) = H1 at *
    -- the cell
    refine ⟨_, rfl, S, _, rfl, .inl ⟨_, Sum.inr _, .inl hS1, rfl, st_mixed.symm⟩, _, rfl, _, _, rfl, rfl, .inl ⟨by decide, by decide⟩, _, _, rfl, rfl, ?_⟩
    refine ⟨fun σ' H' => ∃ x : Int, σ' = [some (.ref S), some (.int i), some (.int x), none, none, none] ∧ H' = H1, ?_, ?_⟩
    · refine ⟨_, rfl, _, rfl, S, _, rfl, .inl ⟨_, Sum.inr _, .inl hS1, rfl, st_cells.symm⟩, c, _, rfl, .inl (SqL.of hc1), _, _, rfl, rfl, _, rfl, ?_⟩
      by_cases q : i < ((ns.map V.int).length : Int)
      · refine ite_tt q ?_
        rw [List.length_map] at q
        have hx : ns[i.toNat]? = some (ns[i.toNat]'(by omega)) := List.getElem?_eq_getElem (by omega)
        refine ⟨_, rfl, S, _, rfl, .inl ⟨_, Sum.inr _, .inl hS1, rfl, st_cells.symm⟩, _, rfl, c, _, i, _, rfl, rfl, SqL.of hc1, at_of (j := i.toNat) (v := V.int (ns[i.toNat]'(by omega))) (by omega) (by rw [List.getElem?_map, hx]; rfl), ?_⟩
        exact ⟨_, rfl, rfl⟩
      · exact ite_ff q ⟨_, rfl, rfl⟩
    · rintro σ' H' ⟨x, rfl, rfl⟩
      refine ⟨_, rfl, _, _, rfl, rfl, ⟨by omega, by omega, by omega⟩, _, _, rfl, rfl, _, rfl, ?_⟩
      by_cases q : (10 : Int) ^ (18 : Int).toNat ≤ x
      · refine ite_tt (by omega) ?_
        refine ⟨_, rfl, _, _, rfl, rfl, ⟨by omega, by omega, by omega⟩, _, _, rfl, rfl, ?_⟩
        exact k _ _ sx hst (by omega)
      · refine ite_ff (by omega) ?_
        refine ⟨_, rfl, _, _, rfl, rfl, .inr ⟨by decide, by decide⟩, _, rfl, _, _, rfl, rfl, .inl ⟨by decide, by decide⟩, _, _, rfl, rfl, _, _, rfl, rfl, _, _, rfl, rfl, (by show (0 : Int) < 2147483647; decide), ?_⟩
        have a1 := Int.emod_nonneg (x * 48271 + 7919 * i + 11) (by decide : (2147483647 : Int) ≠ 0)
        have a2 := Int.emod_lt_of_pos (x * 48271 + 7919 * i + 11) (by decide : (0 : Int) < 2147483647)
        generalize (x * 48271 + 7919 * i + 11) % 2147483647 = one at *
        refine ⟨_, rfl, _, rfl, _, rfl, _, _, rfl, rfl, .inl ⟨by decide, by decide⟩, _, _, rfl, rfl, _, _, rfl, rfl, _, _, rfl, rfl, .inl ⟨by omega, by omega⟩, _, _, rfl, rfl, (by show (0 : Int) < 2147483629; decide), ?_⟩
        have b1 := Int.emod_nonneg (one * (one + 2 * i + 1)) (by decide : (2147483629 : Int) ≠ 0)
        have b2 := Int.emod_lt_of_pos (one * (one + 2 * i + 1)) (by decide : (0 : Int) < 2147483629)
        generalize (one * (one + 2 * i + 1)) % 2147483629 = two at *
        refine ⟨_, rfl, _, rfl, _, rfl, _, _, rfl, rfl, _, _, rfl, rfl, _, _, rfl, rfl, .inl ⟨by omega, by omega⟩, _, _, rfl, rfl, (by show (0 : Int) < 2147483587; decide), ?_⟩
        have d1 := Int.emod_nonneg (two * (two + one + 1)) (by decide : (2147483587 : Int) ≠ 0)
        have d2 := Int.emod_lt_of_pos (two * (two + one + 1)) (by decide : (0 : Int) < 2147483587)
        generalize (two * (two + one + 1)) % 2147483587 = three at *
        refine ⟨_, rfl, _, _, rfl, rfl, .inl ⟨by omega, by omega⟩, _, rfl, _, _, rfl, rfl, _, _, rfl, rfl, .inr ⟨by decide, by decide⟩, _, rfl, _, _, rfl, rfl, ?_⟩
        exact k _ _ sx hst (by omega)
abbrev N_law_next : List Str := ["_law_state", "_law_many", "_law_found"]
abbrev ps_law_next : List Str := ["_law_state", "_law_many"]
theorem sc_law_next : FnScope N_law_next ps_law_next (defScope MH.s_law_next) := ⟨rfl, rfl, rfl, by decide +kernel, rfl, by decide +kernel, by decide +kernel⟩
def sp_next : Sp := fun vs H Q _ => ∃ (S c : Addr) (m : Int), vs = [.ref S, .int m] ∧ StAt S c H ∧ 1 ≤ m ∧ m ≤ 1000 ∧ ∀ H' r, Sx S H H' → StAt S c H' → 0 ≤ r → r < m → Q (.int r) H'
theorem ok_law_next (T : Txt K mg C) : Ok P w K mg base CX0 2 "_law_next" ps_law_next sp_next := by
  refine T.d_law_next.ok sc_law_next (fun vs H Q E h => ?_) (fun _ _ _ _ _ _ us hl => match us, hl with | [_, _], _ => rfl)
    (fun f cdv A outer s H vs Q E hr h => ?_)
  · obtain ⟨_, _, _, rfl, _⟩ := h
    rfl
  · obtain ⟨S, c, m, rfl, hst, m1, m2, k⟩ := h
    have l4 : 4 < sizeLine := by have := szl; omega
    refine ⟨_, PSs.nox (pss_cons (ps_join (ps_if (pt_cmpR op_eq (pe_dget (hu_of hr) (pv 0) pe_str (fun _ _ => rfl)) pe_int (nomark _)) (pss_one (ps_dput (hu_of hr) (pv 0) pe_str (pe_fn (ok_law_more T) (hr.mono (by decide)) (by rfl) (pa_cons (pv 0) pa_nil)) rfl)) pss_nil))
        (pss_cons (ps_set (i := 2) sc_law_next.nd rfl (Or.inl rfl) (pe_op op_mod (pe_dget (hu_of hr) (pv 0) pe_str (fun _ _ => rfl)) (pv 1)))
        (pss_cons (ps_dput (hu_of hr) (pv 0) pe_str (pe_op op_fdiv (pe_dget (hu_of hr) (pv 0) pe_str (fun _ _ => rfl)) (pv 1)) rfl)
        (pss_one (ps_ret (pv 2))))))
      , ?_⟩
    refine ⟨fun σ' H' => σ' = [some (.ref S), some (.int m), none] ∧ Sx S H H' ∧ StAt S c H', ?_, ?_⟩
    · obtain ⟨⟨i, l, x, hS, i0, l0, x0⟩, ns, hc⟩ := id hst
      refine ⟨_, rfl, S, _, rfl, .inl ⟨_, Sum.inr _, .inl hS, rfl, st_left.symm⟩, rfl, _, rfl, ?_⟩
      by_cases q : V.int l = V.int 0
      · refine ite_tt q ?_
        refine ⟨_, rfl, S, c, rfl, hst, fun H1 r s1 h1 r0 => ?_⟩
        obtain ⟨⟨i, l, x, hS1, i0, l0, x0⟩, ns, hc⟩ := id h1
        have hcS : c ≠ S := ne_of hc hS1 (by intro z; cases z)
        refine ⟨_, rfl, S, _, rfl, DPut.k (k := Sum.inr _) hS1 l4, ?_⟩
        rw [st_pleft]
        exact ⟨rfl, s1.trans Sx.set, ⟨_, _, _, upd_same, i0, r0, x0⟩, ns, Sx.set _ _ hc hcS⟩
      · exact ite_ff q ⟨rfl, Sx.refl _ _, hst⟩
    · rintro σ' H1 ⟨rfl, s1, ⟨i, l, x, hS, i0, l0, x0⟩, ns, hc⟩
      have hcS : c ≠ S := ne_of hc hS (by intro z; cases z)
      refine ⟨_, rfl, S, _, rfl, .inl ⟨_, Sum.inr _, .inl hS, rfl, st_left.symm⟩, _, rfl, _, _, rfl, rfl, (by show 0 < m; omega), ?_⟩
      refine ⟨_, rfl, S, _, rfl, .inl ⟨_, Sum.inr _, .inl hS, rfl, st_left.symm⟩, _, rfl, _, _, rfl, rfl, ⟨by omega, by omega⟩, ?_⟩
      refine ⟨_, rfl, S, _, rfl, DPut.k (k := Sum.inr _) hS l4, ?_⟩
      rw [st_pleft]
      refine ⟨_, rfl, k _ _ (s1.trans Sx.set) ⟨⟨_, _, _, upd_same, i0, Int.ediv_nonneg l0 (by omega), x0⟩, ns, Sx.set _ _ hc hcS⟩ (Int.emod_nonneg _ (by omega)) (Int.emod_lt_of_pos _ (by omega))⟩
abbrev N_law_pick : List Str := ["_law_state", "_law_some"]
abbrev ps_law_pick : List Str := ["_law_state", "_law_some"]
theorem sc_law_pick : FnScope N_law_pick ps_law_pick (defScope MH.s_law_pick) := ⟨rfl, rfl, rfl, by decide +kernel, rfl, by decide +kernel, by decide +kernel⟩
def sp_pick : Sp := fun vs H Q _ => ∃ (S c : Addr) (v : V), vs = [.ref S, v] ∧ StAt S c H ∧
  ((∃ z : Str, v = .str z ∧ 1 ≤ z.length ∧ z.length ≤ 1000 ∧ ∀ H' x, Sx S H H' → StAt S c H' → x ∈ z.cps.toList → Q (.str ⟨#[x]⟩) H') ∨
    ∃ (a : Addr) (xs : List V), v = .ref a ∧ H a = some (.lst xs) ∧ 1 ≤ xs.length ∧ xs.length ≤ 1000 ∧ ∀ H' (j : Nat) x, Sx S H H' → StAt S c H' → xs[j]? = some x → Q x H')
theorem ok_law_pick (T : Txt K mg C) : Ok P w K mg base CX0 3 "_law_pick" ps_law_pick sp_pick := by
  refine T.d_law_pick.ok sc_law_pick (fun vs H Q E h => ?_) (fun _ _ _ _ _ _ us hl => match us, hl with | [_, _], _ => rfl)
    (fun f cdv A outer s H vs Q E hr h => ?_)
  · obtain ⟨_, _, _, rfl, _⟩ := h
    rfl
  · obtain ⟨S, c, v, rfl, hst, h⟩ := h
    rcases h with ⟨z, rfl, z1, z2, k⟩ | ⟨a, xs, rfl, ha, z1, z2, k⟩
    · refine ⟨_, PSs.nox (pss_one (ps_ret (pe_ix ix_str (pv 1) (pe_fn (ok_law_next T) (hr.mono (by decide)) (by rfl) (pa_cons (pv 0) (pa_cons (pe_callB call_len_str (by rfl) T.b_len PySem.boot_len (pa_cons (pv 1) pa_nil)) pa_nil))) (fun _ _ => rfl))))
        , ?_⟩
      have := szl
      refine ⟨_, rfl, _, rfl, _, rfl, _, rfl, by omega, S, c, _, rfl, hst, by omega, by omega, fun H1 r s1 h1 r0 r1 => ?_⟩
      have hl : r.toNat < z.cps.toList.length := by
        have : z.cps.toList.length = z.length := by simp [Str.length]
        omega
      have er : r = ((r.toNat : Nat) : Int) := by omega
      have hat0 := atI_nat (List.getElem?_eq_getElem hl)
      rw [← er] at hat0
      have hat : atI z.cps.toList r = some (z.cps.toList[r.toNat]'hl) := hat0
      refine ⟨_, r, _, rfl, rfl, by omega, hat, ?_⟩
      exact k _ _ s1 h1 (List.getElem_mem _)
    · refine ⟨_, PSs.nox (pss_one (ps_ret (pe_ix ix_list (pv 1) (pe_fn (ok_law_next T) (hr.mono (by decide)) (by rfl) (pa_cons (pv 0) (pa_cons (pe_callB call_len_seq (by rfl) T.b_len PySem.boot_len (pa_cons (pv 1) pa_nil)) pa_nil))) (fun _ _ => rfl))))
        , ?_⟩
      obtain ⟨⟨i, l, x, hS, _⟩, _⟩ := id hst
      have hne : a ≠ S := ne_of ha hS (by intro z; cases z)
      refine ⟨_, rfl, _, rfl, _, rfl, a, _, rfl, .inl (SqL.of ha), S, c, _, rfl, hst, by omega, by omega, fun H1 r s1 h1 r0 r1 => ?_⟩
      have hl : r.toNat < xs.length := by omega
      refine ⟨a, _, r, _, rfl, rfl, SqL.of (s1 _ _ ha hne), at_of (j := r.toNat) (v := xs[r.toNat]'hl) (by omega) (List.getElem?_eq_getElem hl), ?_⟩
      exact k _ _ _ s1 h1 (List.getElem?_eq_getElem hl)
abbrev N_law_word : List Str := ["_law_state", "_law_letters", "_law_own", "_law_size", "_law_turn"]
abbrev ps_law_word : List Str := ["_law_state"]
theorem sc_law_word : FnScope N_law_word ps_law_word (defScope MH.s_law_word) := ⟨rfl, rfl, rfl, by decide +kernel, rfl, by decide +kernel, by decide +kernel⟩
def sp_word : Sp := fun vs H Q _ => ∃ (S c : Addr), vs = [.ref S] ∧ StAt S c H ∧ ∀ H' x, Sx S H H' → StAt S c H' → NameOk x → Q (.str x) H'
theorem ok_law_word (T : Txt K mg C) : Ok P w K mg base CX0 4 "_law_word" ps_law_word sp_word := by
  refine T.d_law_word.ok sc_law_word (fun vs H Q E h => ?_) (fun _ _ _ _ _ _ us hl => match us, hl with | [_], _ => rfl)
    (fun f cdv A outer s H vs Q E hr h => ?_)
  · obtain ⟨_, _, rfl, _⟩ := h
    rfl
  · obtain ⟨S, c, rfl, hst, k⟩ := h
    refine ⟨_, PSs.nox (pss_cons (ps_set (i := 1) sc_law_word.nd rfl (Or.inr rfl) pe_str)
        (pss_cons (ps_set (i := 2) sc_law_word.nd rfl (Or.inl rfl) pe_str)
        (pss_cons (ps_if (pt_cmpR op_eq (pe_fn (ok_law_next T) (hr.mono (by decide)) (by rfl) (pa_cons (pv 0) (pa_cons pe_int pa_nil))) pe_int (nomark _)) (pss_one (ps_ret (pe_fn (ok_law_pick T) (hr.mono (by decide)) (by rfl) (pa_cons (pv 0) (pa_cons (pe_split (pv 2) pe_str) pa_nil))))) pss_nil)
        (pss_cons (ps_set (i := 3) sc_law_word.nd rfl (Or.inl rfl) (pe_ix ix_list (pe_lst (pa_cons pe_int (pa_cons pe_int (pa_cons pe_int (pa_cons pe_int (pa_cons pe_int (pa_cons pe_int pa_nil))))))) (pe_fn (ok_law_next T) (hr.mono (by decide)) (by rfl) (pa_cons (pv 0) (pa_cons pe_int pa_nil))) (fun _ _ => rfl)))
        (pss_one (ps_ret (pe_join pe_str (pe_lc (own := [("_law_turn", 4)]) (g := (gName 4)) (tt := tYes) rfl sc_law_word.nd (pi_range1 (by rfl) T.b_range (pa_cons (pv 3) pa_nil)) (blkOk_by (own := [("_law_turn", 4)]) (N := N_law_word) (sc := defScope MH.s_law_word) (by decide +kernel)) (fun _ _ _ _ _ => (pg_name (i := 4) sc_law_word.nd rfl (Or.inl rfl))) (fun _ _ _ _ _ => pts_nil) (fun _ _ _ _ _ => (pe_fn (ok_law_pick T) (hr.mono (by decide)) (by rfl) (pa_cons (pv 0) (pa_cons (pv 1) pa_nil))))))))))))
      , ?_⟩
    refine ⟨_, rfl, S, c, _, rfl, hst, by decide, by decide, fun H1 r s1 h1 r0 r1 => ⟨rfl, _, rfl, ?_⟩⟩
    by_cases q : V.int r = V.int 0
    · refine ite_tt q ?_
      refine ⟨_, rfl, _, rfl, ⟨_, rfl⟩, _, _, rfl, rfl, rfl, by rw [sizeLine_eq]; decide +kernel, fun p hp => ?_⟩
      refine ⟨S, c, _, rfl, h1.same (same_new hp), .inr ⟨p, _, rfl, upd_same, by decide +kernel, by decide +kernel, fun H2 j x s2 h2 hx => ?_⟩⟩
      obtain ⟨y, hy, rfl⟩ := mapAt hx
      exact k _ _ ((s1.trans (Sx.of (same_new hp))).trans s2) h2 (allB (List.mem_of_getElem? hy) (by decide +kernel))
    · refine ite_ff q ?_
      refine ⟨by show 6 ≤ sizeLine; have := szl; omega, fun p hp => ?_⟩
      have sn := same_new (o := .lst [.int 1, .int 1, .int 2, .int 3, .int 5, .int 8]) hp
      refine ⟨_, rfl, S, c, _, rfl, h1.same sn, by decide, by decide, fun H2 r s2 h2 r0 r1 => ?_⟩
      have hpS : p ≠ S := fun z => by
        obtain ⟨⟨_, _, _, e, _⟩, _⟩ := h1
        rw [z, e] at hp
        cases hp
      have hp2 := s2 _ _ (upd_same (o := HO.lst [.int 1, .int 1, .int 2, .int 3, .int 5, .int 8])) hpS
      obtain ⟨n, hn, n1, n8⟩ : ∃ n : Int, [V.int 1, V.int 1, V.int 2, V.int 3, V.int 5, V.int 8][r.toNat]? = some (V.int n) ∧ 1 ≤ n ∧ n ≤ 8 := by
        have h6 : r.toNat < 6 := by omega
        match hr : r.toNat, h6 with
        | 0, _ => exact ⟨1, rfl, by decide, by decide⟩
        | 1, _ => exact ⟨1, rfl, by decide, by decide⟩
        | 2, _ => exact ⟨2, rfl, by decide, by decide⟩
        | 3, _ => exact ⟨3, rfl, by decide, by decide⟩
        | 4, _ => exact ⟨5, rfl, by decide, by decide⟩
        | 5, _ => exact ⟨8, rfl, by decide, by decide⟩
        | k + 6, h => omega
      refine ⟨p, _, r, _, rfl, rfl, SqL.of hp2, at_of (j := r.toNat) (by omega) hn, ?_⟩
      have s02 := (s1.trans (Sx.of sn)).trans s2
      refine ⟨⟨_, rfl⟩, _, rfl, _, rfl, by omega, by omega, fun D hD => ?_⟩
      have hDS : D ≠ S := fun z => by
        obtain ⟨⟨_, _, _, e, _⟩, _⟩ := h2
        rw [z, e] at hD
        cases hD
      have hDc : D ≠ c := fun z => by
        obtain ⟨_, _, e⟩ := h2
        rw [z, e] at hD
        cases hD
      refine lc_L walk_range (fun i acc H' => Sx S H2 H' ∧ StAt S c H' ∧ ∃ ys : List Str, acc = ys.map V.str ∧ ys.length = i ∧ ∀ y ∈ ys, ∃ c, y = ⟨#[c]⟩ ∧ c ∈ letters.cps.toList) ⟨Sx.of (same_new hD), h2.same (same_new hD), [], rfl, rfl, fun y hy => by cases hy⟩ (fun _ _ _ _ _ => trivial) (fun i v acc H3 H3' hi hacc hal p y => ?_) (fun acc H3 hacc hal p => ?_)
      · obtain ⟨rfl, rfl⟩ := y
        obtain ⟨s3, h3, ys, rfl, hl, hy⟩ := p
        refine ⟨rfl, _, rfl, _, rfl, S, c, _, rfl, h3, .inl ⟨letters, rfl, by decide +kernel, by decide +kernel, fun H4 x s4 h4 hx => ?_⟩⟩
        refine putL (s4 _ _ hacc hDS) hal (by omega) ⟨fun b o e hb => ?_, h4.sx Sx.set hDS.symm hDc.symm, ys ++ [⟨#[x]⟩], by rw [List.map_append]; rfl, by simp [hl], fun y hy' => ?_⟩
        · rw [upd_ne (ne_of_none e hD)]
          exact s4 _ _ (s3 _ _ e hb) hb
        · rcases List.mem_append.mp hy' with hy' | hy'
          · exact hy y hy'
          · exact ⟨x, List.mem_singleton.mp hy', hx⟩
      · obtain ⟨s3, h3, ys, rfl, hl, hy⟩ := p
        obtain ⟨j1, j2⟩ := join_ok ys hy
        have sm : (ys.map (·.length)).sum ≤ ys.length := by
          clear hacc hal hl j1 j2
          induction ys with
          | nil => simp
          | cons y ys ih =>
            have h0 := ih fun q hq => hy q (List.mem_cons_of_mem _ hq)
            obtain ⟨cc, rfl, _⟩ := hy y (List.mem_cons_self ..)
            have : (⟨#[cc]⟩ : Str).length = 1 := rfl
            simp [this]
            omega
        have e0 : (Str.ofString "").length = 0 := by decide +kernel
        refine ⟨_, D, ys, rfl, rfl, .inl (SqL.of hacc), by rw [e0]; omega, ?_⟩
        exact k _ _ (s02.trans s3) h3 ⟨by omega, by omega, j2⟩
end
end MR
namespace MR
open PySem PySem.Spec PyProof.Rows L2 LamX
theorem cutS_front (w : Str) (k : Nat) : (cutS w none (some (k : Int))).cps.toList = w.cps.toList.take k := by
  unfold cutS
  rw [HT.sIx_none, HT.sIx_nat]
  simp only [List.drop_zero, Nat.sub_zero]
  have : w.length = w.cps.toList.length := by simp [Str.length]
  rw [this]
  rcases Nat.le_total k w.cps.toList.length with h | h
  · rw [Nat.min_eq_left h]
  · rw [Nat.min_eq_right h, List.take_length, List.take_of_length_le h]
theorem str_len (w : Str) : w.length = w.cps.toList.length := by simp [Str.length]
def pre7 (w : Str) (c : Nat) : Str := cutS w none (some 7) ++ (⟨#[c]⟩ : Str)
theorem pre7_cps (w : Str) (c : Nat) : (pre7 w c).cps.toList = w.cps.toList.take 7 ++ [c] := by
  unfold pre7
  rw [cps_app, show ((7 : Int)) = ((7 : Nat) : Int) from rfl, cutS_front]
theorem pre7_ok {w : Str} {c : Nat} (h : NameOk w) (hc : c ∈ letters.cps.toList) : NameOk (pre7 w c) := by
  obtain ⟨h1, h2, h3⟩ := h
  have e := pre7_cps w c
  refine ⟨?_, ?_, fun d hd => ?_⟩
  · rw [str_len, e]; simp
  · rw [str_len, e]; simp; omega
  · rw [e] at hd
    rcases List.mem_append.mp hd with hd | hd
    · exact h3 d (List.mem_of_mem_take hd)
    · rw [List.mem_singleton.mp hd]; exact hc
def spareW (w : Str) : List Str := w :: letters.cps.toList.map (pre7 w)
theorem spareW_ok {w x : Str} (h : NameOk w) (hx : x ∈ spareW w) : NameOk x := by
  rcases List.mem_cons.mp hx with rfl | hx
  · exact h
  · obtain ⟨c, hc, rfl⟩ := List.mem_map.mp hx
    exact pre7_ok h hc
theorem nd_sub_len {α : Type _} [DecidableEq α] : ∀ {xs ys : List α}, xs.Nodup → (∀ x ∈ xs, x ∈ ys) → xs.length ≤ ys.length
  | [], _, _, _ => Nat.zero_le _
  | x :: xs, ys, nd, h => by
    have hx : x ∈ ys := h x (List.mem_cons_self ..)
    have nx := (List.nodup_cons.mp nd).1
    have ih := nd_sub_len (ys := ys.erase x) (List.nodup_cons.mp nd).2 fun z hz => (List.mem_erase_of_ne (fun e => nx (by rw [← e]; exact hz))).mpr (h z (List.mem_cons_of_mem _ hz))
    have := List.length_erase_of_mem hx
    have : 0 < ys.length := List.length_pos_of_mem hx
    rw [List.length_cons]
    omega
theorem spareW_some {w : Str} {found : List Str} (h : found.length ≤ 9) : (spareW w).filter (fun x => !decide (x ∈ found)) ≠ [] := by
  intro z
  rw [List.filter_eq_nil_iff] at z
  have hall : ∀ x ∈ letters.cps.toList.map (pre7 w), x ∈ found := fun x hx => by
    have := z x (List.mem_cons_of_mem _ hx)
    simpa using this
  have nd : (letters.cps.toList.map (pre7 w)).Nodup := by
    rw [List.nodup_iff_pairwise_ne, List.pairwise_map]
    have h0 : letters.cps.toList.Pairwise (· ≠ ·) := by decide +kernel
    refine h0.imp fun h e => h ?_
    have e2 := congrArg (fun q : Str => q.cps.toList) e
    simp only [pre7_cps] at e2
    have e3 := List.append_cancel_left e2
    exact List.head_eq_of_cons_eq e3
  have l1 := nd_sub_len nd hall
  have l2 : letters.cps.toList.length = 26 := by decide +kernel
  rw [List.length_map] at l1
  omega
section
variable {P : Program} {w : World} {K : PySem.W.Frag} {mg : Str → Option Value} {base : Heap} {C : Addr}
abbrev N_law_crew : List Str := ["_law_state", "_law_many", "_law_found", "_law_turn", "_law_word_here", "_law_spare", "_law_sign", "_law_one"]
abbrev ps_law_crew : List Str := ["_law_state", "_law_many"]
theorem sc_law_crew : FnScope N_law_crew ps_law_crew (defScope MH.s_law_crew) := ⟨rfl, rfl, rfl, by decide +kernel, rfl, by decide +kernel, by decide +kernel⟩
def sp_crew : Sp := fun vs H Q _ => ∃ (S c : Addr) (n : Int), vs = [.ref S, .int n] ∧ StAt S c H ∧ 2 ≤ n ∧ n ≤ 10 ∧ ∀ (H' : Hp) (a : Addr) (xs : List Str), Sx S H H' → StAt S c H' → H' a = some (.lst (xs.map V.str)) → H a = none → (xs.length : Int) = n → (∀ x ∈ xs, NameOk x) → xs.Nodup → Q (.ref a) H'
theorem ok_law_crew (T : Txt K mg C) : Ok P w K mg base CX0 5 "_law_crew" ps_law_crew sp_crew := by
  refine T.d_law_crew.ok sc_law_crew (fun vs H Q E h => ?_) (fun _ _ _ _ _ _ us hl => match us, hl with | [_, _], _ => rfl)
    (fun f cdv A outer s H vs Q E hr h => ?_)
  · obtain ⟨_, _, _, rfl, _⟩ := h
    rfl
  · obtain ⟨S, c, n, rfl, hst, n2, n10, k⟩ := h
    refine ⟨_, PSs.nox (pss_cons (ps_set (i := 2) sc_law_crew.nd rfl (Or.inr rfl) (pe_lst pa_nil))
        (pss_cons (ps_for PassesOwn.never rfl (pi_range1 (by rfl) T.b_range (pa_cons (pv 1) pa_nil)) (pg_name (i := 3) sc_law_crew.nd rfl (Or.inl rfl)) (pss_cons (ps_set (i := 4) sc_law_crew.nd rfl (Or.inr rfl) (pe_fn (ok_law_word T) (hr.mono (by decide)) (by rfl) (pa_cons (pv 0) pa_nil)))
        (pss_cons (ps_set (i := 5) sc_law_crew.nd rfl (Or.inl rfl) (pe_op op_cat (pe_lst (pa_cons (pv 4) pa_nil)) (pe_lc (own := [("_law_sign", 6)]) (g := (gName 6)) (tt := tYes) rfl sc_law_crew.nd (pi_str pe_str) (blkOk_by (own := [("_law_sign", 6)]) (N := N_law_crew) (sc := defScope MH.s_law_crew) (by decide +kernel)) (fun _ _ _ _ _ => (pg_name (i := 6) sc_law_crew.nd rfl (Or.inl rfl))) (fun _ _ _ _ _ => pts_nil) (fun _ _ _ _ _ => (pe_op op_add_str (pe_slice sl_str (pv 4) po_none (po_some pe_int)) (pv 6))))))
        (pss_one (ps_expr (pe_bm PySem.F.plainAttrs_list PySem.F.slot_list_append PySem.F.type_list_append mt_append (pv 2) (pa_cons (pe_ix ix_list (pe_lc (own := [("_law_one", 7)]) (g := (gName 7)) rfl sc_law_crew.nd (pi_list (pv 5)) (blkOk_by (own := [("_law_one", 7)]) (N := N_law_crew) (sc := defScope MH.s_law_crew) (by decide +kernel)) (fun _ _ _ _ _ => (pg_name (i := 7) sc_law_crew.nd rfl (Or.inl rfl))) (fun _ _ _ _ _ => (pts_one (pt_cmpR (r := rIn K true) op_notIn_seq (pv 7) (pv 2) (by rfl)))) (fun _ _ _ _ _ => (pv 7))) pe_int (fun _ _ => rfl)) pa_nil)))))))
        (pss_one (ps_ret (pv 2)))))
      , ?_⟩
    refine ⟨sl0, fun F hF => ?_⟩
    have hFS : F ≠ S := fun z => by
      obtain ⟨⟨_, _, _, e, _⟩, _⟩ := hst
      rw [z, e] at hF
      cases hF
    have hFc : F ≠ c := fun z => by
      obtain ⟨_, _, e⟩ := hst
      rw [z, e] at hF
      cases hF
    refine ⟨_, rfl, n, rfl, by omega, by omega, ?_⟩
    refine for_it walk_range (fun i σ H' => ∃ (u3 u4 u5 : Option V) (xs : List Str), σ = [some (.ref S), some (.int n), some (.ref F), u3, u4, u5, none, none] ∧ Sx S H H' ∧ StAt S c H' ∧ H' F = some (.lst (xs.map V.str)) ∧ xs.length = i ∧ (∀ x ∈ xs, NameOk x) ∧ xs.Nodup)
      ⟨_, _, _, [], rfl, Sx.of (same_new hF), hst.same (same_new hF), upd_same, rfl, fun x hx => (by cases hx), List.Pairwise.nil⟩ (fun _ _ _ _ _ => trivial) (fun i v σ H1 H1' hi p y => ?_) (fun σ H1 p => ?_)
    · obtain ⟨rfl, rfl⟩ := y
      obtain ⟨u3, u4, u5, xs, rfl, s1, h1, hF1, hl, hn, hnd⟩ := p
      refine ⟨_, rfl, S, c, rfl, h1, fun H2 x s2 h2 hx => ?_⟩
      have hF2 := s2 _ _ hF1 hFS
      -- spare
      refine ⟨_, rfl, sl1, fun p1 hp1 => ?_⟩
      have r1 := same_new (o := .lst [.str x]) hp1
      refine ⟨_, rfl, fun D hD => ?_⟩
      have l26 : letters.cps.toList.length = 26 := by decide +kernel
      have l26' : letters.cps.size = 26 := by decide +kernel
      have l7 : x.length ≤ 8 := hx.2.1
      refine lc_F (walk_str (z := letters)) (fun i => ((letters.cps.toList.take i).map (pre7 x)).map V.str) hD rfl (fun _ _ => trivial) (fun i v H3 H3' hi p y => ?_) (fun H3 s3 e3 => ?_)
      · obtain ⟨rfl, cc, hc, rfl⟩ := y
        have hc' : letters.cps.toList[i]? = some cc := by simpa using hc
        have hi' : i < 1000000 := by rw [l26'] at hi; omega
        refine ⟨rfl, _, rfl, _, rfl, _, rfl, by have := szl; omega, _, rfl, _, _, rfl, rfl, ?_, putF p hD (Same.refl _) hi' (by rw [mapTake hc', List.map_append]; rfl)⟩
        have h3 : (cutS x none (some 7)).length ≤ 7 := by
          rw [str_len, show ((7 : Int)) = ((7 : Nat) : Int) from rfl, cutS_front, List.length_take]
          exact Nat.min_le_left _ _
        have h4 : (⟨#[cc]⟩ : Str).length = 1 := rfl
        have := szl
        omega
      rw [l26', ← l26, List.take_length] at e3
      refine ⟨p1, D, [.str x], _, rfl, rfl, s3 _ _ upd_same, e3, by simp; have := szl; omega, fun SP hSP => ?_⟩
      have s4 := same_new (o := .lst ([.str x] ++ (letters.cps.toList.map (pre7 x)).map V.str)) hSP
      have s24 := (r1.trans s3).trans s4
      have hSP4 : upd H3 SP (.lst ([.str x] ++ (letters.cps.toList.map (pre7 x)).map V.str)) SP = some (.lst ((spareW x).map V.str)) := upd_same
      generalize upd H3 SP (.lst ([.str x] ++ (letters.cps.toList.map (pre7 x)).map V.str)) = H4 at *
      have hF4 := s24 _ _ hF2
      have h4 := h2.same s24
      -- the first that is new
      refine ⟨_, rfl, .inl ⟨rfl, _, SqL.of hF4⟩, _, rfl, _, rfl, ⟨_, SqL.of hSP4⟩, fun D2 hD2 => ?_⟩
      refine lc_F walk_list (fun i => (((spareW x).take i).filter fun y => !decide (y ∈ xs)).map V.str) hD2 rfl (fun _ z => SqL.of (z _ _ hSP4)) (fun i v H5 H5' hi p y => ?_) (fun H5 s5 e5 => ?_)
      · obtain ⟨rfl, y⟩ := y
        obtain ⟨z, hz, rfl⟩ := mapAt y
        have hi' : i < 1000000 := by
          have h5 : (spareW x).length = 27 := by simp [spareW, l26']
          rw [List.length_map] at hi
          omega
        refine ⟨rfl, _, rfl, _, rfl, F, _, rfl, .inl (SqL.of (p.1 _ _ hF4)), rfl, flat_strs _, _, rfl, ?_⟩
        rw [if_pos rfl, inV_strs]
        by_cases e : z ∈ xs
        · rw [decide_eq_true e]
          exact skipF p (Same.refl _) (by rw [filTake hz, decide_eq_true e]; simp)
        · rw [decide_eq_false e]
          exact ⟨_, rfl, putF p hD2 (Same.refl _) hi' (by rw [filTake hz, decide_eq_false e]; simp)⟩
      rw [List.length_map, List.take_length] at e5
      obtain ⟨z, zs, hz⟩ := List.exists_cons_of_ne_nil (spareW_some (w := x) (found := xs) (by have h9 : i < n.toNat := hi; omega))
      rw [hz] at e5
      have hzm : z ∈ (spareW x).filter fun y => !decide (y ∈ xs) := by rw [hz]; simp
      obtain ⟨z1, z2⟩ := List.mem_filter.mp hzm
      have z3 : z ∉ xs := by simpa using z2
      have hF5 := s5 _ _ hF4
      refine ⟨D2, _, 0, _, rfl, rfl, SqL.of e5, at_of (j := 0) (v := V.str z) rfl rfl, ?_⟩
      refine ⟨F, _, _, rfl, rfl, hF5, by rw [List.length_map]; have := szl; omega, ?_⟩
      have h5 := h4.same s5
      refine ⟨_, _, _, xs ++ [z], rfl, fun b o e hb => ?_, h5.sx Sx.set hFS.symm hFc.symm, ?_, by simp [hl], fun y hy => ?_, ?_⟩
      · rw [upd_ne (ne_of_none e hF)]
        exact (s24.trans s5) _ _ (s2 _ _ (s1 _ _ e hb) hb)
      · rw [upd_same, List.map_append]
        rfl
      · rcases List.mem_append.mp hy with hy | hy
        · exact hn y hy
        · rw [List.mem_singleton.mp hy]
          exact spareW_ok hx z1
      · rw [List.nodup_append]
        refine ⟨hnd, by simp, fun a ha b hb => ?_⟩
        rw [List.mem_singleton.mp hb]
        intro e
        exact z3 (e ▸ ha)
    · obtain ⟨u3, u4, u5, xs, rfl, s1, h1, hF1, hl, hn, hnd⟩ := p
      refine ⟨_, rfl, k _ F xs s1 h1 hF1 hF (by omega) hn hnd⟩
end
end MR
namespace MR
open PySem PySem.Spec PyProof.Rows L2 LamX
/-- the letter of a place -/
def letterS (i : Nat) : Str := ⟨#[letters.cps.toList.getD i 0]⟩
def gname (t : Str) (i j : Nat) : Str := (t ++ letterS i) ++ letterS j
theorem letterAt {i : Nat} (h : i < 26) : atI letters.cps.toList ((i : Int) + 1 - 1) = some (letters.cps.toList.getD i 0) := by
  have e : (i : Int) + 1 - 1 = ((i : Nat) : Int) := by omega
  have l : letters.cps.toList.length = 26 := by decide +kernel
  rw [e]
  refine atI_nat ?_
  rw [List.getElem?_eq_getElem (by omega)]
  simp [List.getD, List.getElem?_eq_getElem (show i < letters.cps.toList.length by omega)]
theorem letter_inj {i j : Nat} (hi : i < 26) (hj : j < 26) (h : letterS i = letterS j) : i = j := by
  have l : letters.cps.toList.length = 26 := by decide +kernel
  have nd : letters.cps.toList.Nodup := by decide +kernel
  have e : letters.cps.toList.getD i 0 = letters.cps.toList.getD j 0 := by
    have := congrArg (fun q : Str => q.cps.toList) h
    simpa [letterS] using this
  have e1 : letters.cps.toList[i]'(by omega) = letters.cps.toList[j]'(by omega) := by
    simpa [List.getD, List.getElem?_eq_getElem (show i < letters.cps.toList.length by omega), List.getElem?_eq_getElem (show j < letters.cps.toList.length by omega)] using e
  exact (List.getElem_inj nd).mp e1
theorem gname_inj {t : Str} {i j i' j' : Nat} (hi : i < 26) (hj : j < 26) (hi' : i' < 26) (hj' : j' < 26) (h : gname t i j = gname t i' j') : i = i' ∧ j = j' := by
  have e := congrArg (fun q : Str => q.cps.toList) h
  simp only [gname, cps_app, List.append_assoc] at e
  have e2 := List.append_cancel_left e
  have e3 : (letterS i).cps.toList = [letters.cps.toList.getD i 0] := rfl
  have e4 : (letterS j).cps.toList = [letters.cps.toList.getD j 0] := rfl
  have e5 : (letterS i').cps.toList = [letters.cps.toList.getD i' 0] := rfl
  have e6 : (letterS j').cps.toList = [letters.cps.toList.getD j' 0] := rfl
  rw [e3, e4, e5, e6] at e2
  simp only [List.cons_append, List.nil_append, List.cons.injEq, and_true] at e2
  exact ⟨letter_inj hi hi' (by unfold letterS; rw [e2.1]), letter_inj hj hj' (by unfold letterS; rw [e2.2])⟩
/-! a cup -/
def cupF (t : Str) (e : Addr) (b : Int) (l : Addr) : List (Str × V) := [("title", .str t), ("entrants", .ref e), ("bound", .int b), ("laps", .ref l)]
theorem cf_title {t : Str} {e : Addr} {b : Int} {l : Addr} : (cupF t e b l).lookup ("title" : Str) = some (.str t) := by rfl
theorem cf_ent {t : Str} {e : Addr} {b : Int} {l : Addr} : (cupF t e b l).lookup ("entrants" : Str) = some (.ref e) := by rfl
theorem cf_bound {t : Str} {e : Addr} {b : Int} {l : Addr} : (cupF t e b l).lookup ("bound" : Str) = some (.int b) := by rfl
theorem cf_laps {t : Str} {e : Addr} {b : Int} {l : Addr} : (cupF t e b l).lookup ("laps" : Str) = some (.ref l) := by rfl
theorem cf_no {t : Str} {e : Addr} {b : Int} {l : Addr} {m : Str} (h : decide (m = "title") = false ∧ decide (m = "entrants") = false ∧ decide (m = "bound") = false ∧ decide (m = "laps") = false) : (cupF t e b l).lookup m = none := by
  obtain ⟨h1, h2, h3, h4⟩ := h
  have h1 := of_decide_eq_false h1
  have h2 := of_decide_eq_false h2
  have h3 := of_decide_eq_false h3
  have h4 := of_decide_eq_false h4
  have e1 : (m == ("title" : Str)) = false := beq_eq_false_iff_ne.mpr h1
  have e2 : (m == ("entrants" : Str)) = false := beq_eq_false_iff_ne.mpr h2
  have e3 : (m == ("bound" : Str)) = false := beq_eq_false_iff_ne.mpr h3
  have e4 : (m == ("laps" : Str)) = false := beq_eq_false_iff_ne.mpr h4
  simp only [cupF, List.lookup, e1, e2, e3, e4]
def CupAt (C : Addr) (H : Hp) (p : Addr) (t : Str) (e : Addr) (b : Int) (l : Addr) : Prop := ∃ dx, H p = some (.ins C dx (cupF t e b l))
theorem nt_ins {C dx : Addr} {fs : List (Str × V)} : NT (.ins C dx fs) := fun _ z => by cases z
def Mio (P : Program) (w : World) (K : PySem.W.Frag) (mg : Str → Option Value) (base : Heap) (C : Addr) (k : Nat) (ps : List Str) (sp : Sp) : Prop :=
  ∃ f fd, FnS K "__init__" "Cup.__init__" MH.s_C_init__ f fd ∧ Mk K C f ∧ FnOk P w K mg base CX0 k f fd ps sp
section
variable {P : Program} {w : World} {K : PySem.W.Frag} {mg : Str → Option Value} {base : Heap} {C : Addr}
abbrev N_C_init__ : List Str := ["self", "cup", "names", "rounds"]
abbrev ps_C_init__ : List Str := ["self", "cup", "names", "rounds"]
theorem sc_C_init__ : FnScope N_C_init__ ps_C_init__ (defScope MH.s_C_init__) := ⟨rfl, rfl, rfl, by decide +kernel, rfl, by decide +kernel, by decide +kernel⟩
def sp_init (C : Addr) : Sp := fun vs H Q _ => ∃ (p dx n : Addr) (t : Str) (b : Int) (xs : List Str), vs = [.ref p, .str t, .ref n, .int b] ∧ H p = some (.ins C dx []) ∧ NameOk t ∧ t.length ≤ 6 ∧ (H n = some (.lst (xs.map V.str)) ∨ H n = some (.tup (xs.map V.str))) ∧ 2 ≤ xs.length ∧ xs.length ≤ 10 ∧ (∀ x ∈ xs, NameOk x) ∧ xs.Nodup ∧ 1 ≤ b ∧ b ≤ 9 ∧
  ∀ (H' : Hp) (e l : Addr), CupAt C H' p t e b l → H' e = some (.lst (xs.map V.str)) → H' l = some (.lst []) → H e = none → H l = none → e ≠ l → (∀ q o, H q = some o → q ≠ p → H' q = some o) → Q .non H'
theorem ok_init (T : Txt K mg C) : Mio P w K mg base C 4 ps_C_init__ (sp_init C) := by
  obtain ⟨f, fd, F, M⟩ := T.d_C_init__
  refine ⟨f, fd, F, M, F.ok sc_C_init__ (fun vs H Q E h => ?_) (fun cdv A outer s H vs Q E hr h => ?_)⟩
  · obtain ⟨_, _, _, _, _, _, rfl, _⟩ := h
    rfl
  · obtain ⟨p, dx, n, t, b, xs, rfl, hp, ht, ht6, hn, l1, l2, hnm, hnd, b1, b9, k⟩ := h
    refine ⟨_, PSs.nox (pss_cons (ps_if (PW.pt (pw_or (pt_not (pt_val (pe_fn (ok_is_name T) (hr.mono (by decide)) (by rfl) (pa_cons (pv 1) pa_nil)))) (pw_or1 (pt_cmpR op_gt (pe_callB call_len_str (by rfl) T.b_len PySem.boot_len (pa_cons (pv 1) pa_nil)) (pe_gc T.k_LONGEST_CUP rfl) (nomark _))))) (pss_one ps_never) pss_nil)
        (pss_cons (ps_if (PW.pt (pw_or (pt_not (pt_val (pe_fn (ok_are_entrants T) (hr.mono (by decide)) (by rfl) (pa_cons (pv 2) pa_nil)))) (pw_or1 (pt_not (pt_val (pe_fn (ok_is_number T) (hr.mono (by decide)) (by rfl) (pa_cons (pv 3) (pa_cons pe_int (pa_cons (pe_gc T.k_MOST_ROUNDS rfl) pa_nil))))))))) (pss_one ps_never) pss_nil)
        (pss_cons (ps_fld (pv 0) (pv 1) rfl)
        (pss_cons (ps_fld (pv 0) (pe_callTy call_list_of (by rfl) T.b_list (by decide +kernel) (pa_cons (pv 2) pa_nil)) rfl)
        (pss_cons (ps_fld (pv 0) (pv 3) rfl)
        (pss_one (ps_fld (pv 0) (pe_lst pa_nil) rfl)))))))
      , ?_⟩
    refine ⟨_, rfl, t, rfl, ht, fun H1 s1 => ⟨_, rfl, _, rfl, _, rfl, by have := szl; omega, _, _, rfl, rfl, _, rfl, ?_⟩⟩
    refine ite_ff (by omega) ?_
    have hn1 : H1 n = some (.lst (xs.map V.str)) ∨ H1 n = some (.tup (xs.map V.str)) := hn.imp (s1 _ _) (s1 _ _)
    refine ⟨_, rfl, n, xs, rfl, hn1, l1, l2, hnm, hnd, fun H2 s2 => ⟨_, rfl, _, rfl, b, 1, _, rfl, b1, .inr ⟨9, rfl, b9⟩, _, rfl, ?_⟩⟩
    have s02 := s1.trans s2
    have hp2 := s02 _ _ hp
    refine ⟨_, rfl, _, rfl, p, C, dx, _, rfl, hp2, T.cl, T.n_title, by show 0 < 1000; decide, ?_⟩
    have npn : n ≠ p := by
      rintro rfl
      rcases hn with hn | hn <;> rw [hp] at hn <;> cases hn
    have hn3 : upd H2 p (.ins C dx (L2.putF "title" (.str t) [])) n = some (.lst (xs.map V.str)) ∨ upd H2 p (.ins C dx (L2.putF "title" (.str t) [])) n = some (.tup (xs.map V.str)) := by
      rw [upd_ne npn]
      exact hn1.imp (s2 _ _) (s2 _ _)
    refine ⟨_, rfl, n, xs.map V.str, rfl, hn3.imp SqL.of SqT.of, fun e he => ?_⟩
    have nep : e ≠ p := fun z => by rw [z, upd_same] at he; cases he
    refine ⟨_, rfl, p, C, dx, _, rfl, by rw [upd_ne nep.symm]; exact upd_same, T.cl, T.n_entrants, by show 1 < 1000; decide, ?_⟩
    refine ⟨_, rfl, _, rfl, p, C, dx, _, rfl, upd_same, T.cl, T.n_bound, by show 2 < 1000; decide, ?_⟩
    refine ⟨sl0, fun l hl => ?_⟩
    have nlp : l ≠ p := fun z => by rw [z, upd_same] at hl; cases hl
    have hl0 := hl
    rw [upd_ne nlp, upd_ne nlp] at hl
    have nle : l ≠ e := fun z => by rw [z, upd_same] at hl; cases hl
    rw [upd_ne nle, upd_ne nlp] at hl
    rw [upd_ne nep] at he
    refine ⟨_, rfl, p, C, dx, _, rfl, by rw [upd_ne nlp.symm]; exact upd_same, T.cl, T.n_laps, by show 3 < 1000; decide, ?_⟩
    refine k _ e l ⟨dx, upd_same⟩ ?_ ?_ (s02.free he) (s02.free hl) nle.symm fun q o hq hqp => ?_
    · rw [upd_ne nep, upd_ne nle.symm, upd_ne nep, upd_ne nep, upd_same]
    · rw [upd_ne nlp, upd_same]
    · have q2 := s02 _ _ hq
      rw [upd_ne hqp, upd_ne (ne_of_none q2 hl), upd_ne hqp, upd_ne hqp, upd_ne (ne_of_none q2 he), upd_ne hqp]
      exact q2
abbrev N_C_rounds : List Str := ["self", "games", "out"]
abbrev ps_C_rounds : List Str := ["self"]
theorem sc_C_rounds : FnScope N_C_rounds ps_C_rounds (defScope MH.s_C_rounds) := ⟨rfl, rfl, rfl, by decide +kernel, rfl, by decide +kernel, by decide +kernel⟩
def sp_rounds (C : Addr) : Sp := fun vs H Q _ => ∃ (p e l : Addr) (t : Str) (b : Int) (lx : List V) (laps : List Lap), vs = [.ref p] ∧ CupAt C H p t e b l ∧ H l = some (.lst lx) ∧ DaAll [] H lx (lapsD laps) ∧ laps.length ≤ 1000 ∧ (∀ q ∈ laps, q.1.length ≤ 10) ∧
  ∀ (H' : Hp) (R : Addr) (ts : List V), Same H H' → H' R = some (.lst ts) → H R = none → DaAll [] H' ts (lapsD laps) → (∀ v ∈ ts, ∃ a g o, v = .ref a ∧ H' a = some (.tup [.ref g, o]) ∧ H a = none ∧ H g = none ∧ a ≠ R ∧ g ≠ R ∧ ∃ ys, H' g = some (.lst ys) ∧ ys.length ≤ 1000) → Q (.ref R) H'
theorem ok_C_rounds (T : Txt K mg C) : OkM P w K mg base CX0 C 1 "rounds" ps_C_rounds (sp_rounds C) := by
  refine T.d_C_rounds.ok sc_C_rounds (fun vs H Q E h => ?_) (fun _ _ _ _ _ _ us hl => match us, hl with | [_], _ => rfl)
    (fun f cdv A outer s H vs Q E hr h => ?_)
  · obtain ⟨_, _, _, _, _, _, _, rfl, _⟩ := h
    rfl
  · obtain ⟨p, e, l, t, b, lx, laps, rfl, ⟨dx, hp⟩, hl, hd, ll, l10, k⟩ := h
    refine ⟨_, PSs.nox (pss_one (ps_ret (pe_lc (own := [("games", 1), ("out", 2)]) (g := (gTup K 2 (gCons (gName 1) (gCons (gName 2) gNil)))) (tt := tYes) rfl sc_C_rounds.nd (pi_list (pe_fld (pv 0) rfl)) (blkOk_by (own := [("games", 1), ("out", 2)]) (N := N_C_rounds) (sc := defScope MH.s_C_rounds) (by decide +kernel)) (fun _ _ _ _ _ => (pg_tup rfl (pgs_cons (pg_name (i := 1) sc_C_rounds.nd rfl (Or.inl rfl)) (pgs_cons (pg_name (i := 2) sc_C_rounds.nd rfl (Or.inl rfl)) pgs_nil)))) (fun _ _ _ _ _ => pts_nil) (fun _ _ _ _ _ => (pe_tup (pa_cons (pe_callTy (r := rListOf K) call_list_of (by rfl) T.b_list (by decide +kernel) (pa_cons (pv 1) pa_nil)) (pa_cons (pv 2) pa_nil)))))))
      , ?_⟩
    refine ⟨_, rfl, p, C, dx, _, _, rfl, hp, T.cl, T.n_laps, cf_laps, l, rfl, ⟨_, SqL.of hl⟩, fun R hR => ?_⟩
    have llx : lx.length = laps.length := by rw [hd.len, lapsD, List.length_map]
    refine lc_L walk_list (fun i acc H' => Same H H' ∧ DaAll [R] H' acc ((laps.take i).map lapD) ∧ ∀ v ∈ acc, ∃ a g o, v = .ref a ∧ H' a = some (.tup [.ref g, o]) ∧ H a = none ∧ H g = none ∧ a ≠ R ∧ g ≠ R ∧ ∃ ys, H' g = some (.lst ys) ∧ ys.length ≤ 1000)
      ⟨same_new hR, .nil, fun v hv => by cases hv⟩ (fun i acc H' _ p => SqL.of (p.1 _ _ hl)) (fun i v acc H1 H1' hi hacc hal p y => ?_) (fun acc H1 hacc hal p => ?_)
    · obtain ⟨rfl, y⟩ := y
      obtain ⟨s1, d1, f1⟩ := p
      obtain ⟨dd, e1, e2⟩ := (hd.more hR).same s1 |>.get y
      rw [lapsD, List.getElem?_map] at e1
      obtain ⟨lp, hlp, rfl⟩ := Option.map_eq_some_iff.mp e1
      obtain ⟨a, g, xs, rfl, ha, na, hg, ng, hxs⟩ := da_lap e2
      refine ⟨a, _, rfl, SqT.of ha, rfl, _, _, rfl, _, _, rfl, rfl, ?_⟩
      refine ⟨rfl, _, rfl, g, _, rfl, .inl (SqL.of hg), fun g2 hg2 => ⟨_, rfl, sl2, fun t2 ht2 => ?_⟩⟩
      have r1 := same_new (o := .lst xs) hg2
      have r2 := same_new (o := .tup [.ref g2, oV lp.2]) ht2
      have hg2R : g2 ≠ R := fun z => by rw [z, hacc] at hg2; cases hg2
      have ht2R : t2 ≠ R := fun z => by
        have := r1 _ _ hacc
        rw [z, this] at ht2
        cases ht2
      have hgt : g2 ≠ t2 := ne_of_none (upd_same (o := HO.lst xs)) ht2
      refine putL ((r1.trans r2) _ _ hacc) hal (by omega) ⟨same_upd hR (s1.trans (r1.trans r2)), ?_, fun v hv => ?_⟩
      · rw [mapTake hlp]
        refine ((d1.same (r1.trans r2)).snoc ?_).upd (by simp)
        exact da_lap' (b := g2) (xs := xs) upd_same (by simpa using ht2R) (r2 _ _ upd_same) (by simpa using hg2R) (hxs.same (r1.trans r2))
      · rcases List.mem_append.mp hv with hv | hv
        · obtain ⟨a', g', o', rfl, q1, q2, q3, q4, q5, ys, q6, q7⟩ := f1 v hv
          refine ⟨a', g', o', rfl, ?_, q2, q3, q4, q5, ys, ?_, q7⟩
          · rw [upd_ne q4]; exact (r1.trans r2) _ _ q1
          · rw [upd_ne q5]; exact (r1.trans r2) _ _ q6
        · rw [List.mem_singleton.mp hv]
          refine ⟨t2, g2, _, rfl, by rw [upd_ne ht2R]; exact upd_same, (s1.trans r1).free ht2, s1.free hg2, ht2R, hg2R, xs, by rw [upd_ne hg2R]; exact r2 _ _ upd_same, ?_⟩
          have h1 := l10 lp (List.mem_of_getElem? hlp)
          rw [hxs.len, List.length_map]
          omega
    · obtain ⟨s1, d1, f1⟩ := p
      rw [llx, List.take_length] at d1
      exact k _ R acc s1 hacc hR (d1.mono (by simp)) f1
abbrev N_C_game_name : List Str := ["self", "lap", "k"]
abbrev ps_C_game_name : List Str := ["self", "lap", "k"]
theorem sc_C_game_name : FnScope N_C_game_name ps_C_game_name (defScope MH.s_C_game_name) := ⟨rfl, rfl, rfl, by decide +kernel, rfl, by decide +kernel, by decide +kernel⟩
def sp_gname (C : Addr) : Sp := fun vs H Q _ => ∃ (p e l : Addr) (t : Str) (b : Int) (i j : Nat), vs = [.ref p, .int ((i : Int) + 1), .int ((j : Int) + 1)] ∧ CupAt C H p t e b l ∧ t.length ≤ 8 ∧ i < 26 ∧ j < 26 ∧ Q (.str (gname t i j)) H
theorem ok_gname2 (T : Txt K mg C) : ∃ f fd, FnS K "game_name" "Cup.game_name" MH.s_C_game_name f fd ∧ Meth K C "game_name" f ∧ FnOk P w K mg base CX0 1 f fd ps_C_game_name (sp_gname C) := by
  obtain ⟨f, fd, F, hm⟩ := T.d_C_game_name
  refine ⟨f, fd, F, hm, F.ok sc_C_game_name (fun vs H Q E h => ?_) (fun cdv A outer s H vs Q E hr h => ?_)⟩
  · obtain ⟨_, _, _, _, _, _, _, rfl, _⟩ := h
    rfl
  · obtain ⟨p, e, l, t, b, i, j, rfl, ⟨dx, hp⟩, ht, hi, hj, k⟩ := h
    refine ⟨_, PSs.nox (pss_one (ps_ret (pe_op op_add_str (pe_op op_add_str (pe_fld (pv 0) rfl) (pe_ix ix_str (pe_gc T.k_LETTERS rfl) (pe_op op_sub (pv 1) pe_int) (fun _ _ => rfl))) (pe_ix ix_str (pe_gc T.k_LETTERS rfl) (pe_op op_sub (pv 2) pe_int) (fun _ _ => rfl)))))
      , ?_⟩
    have l26 : letters.length ≤ sizeLine := by rw [sizeLine_eq]; decide +kernel
    have := szl
    refine ⟨_, rfl, p, C, dx, _, _, rfl, hp, T.cl, T.n_title, cf_title, _, rfl, _, _, rfl, rfl, letters, _, _, rfl, rfl, l26, letterAt hi, _, _, rfl, rfl, by have h1 : (letterS i).length = 1 := rfl; show t.length + (letterS i).length ≤ sizeLine; omega, ?_⟩
    refine ⟨_, rfl, _, _, rfl, rfl, letters, _, _, rfl, rfl, l26, letterAt hj, _, _, rfl, rfl, ?_, k⟩
    have h1 : (letterS i).length = 1 := rfl
    have h2 : (letterS j).length = 1 := rfl
    show (t ++ letterS i).length + (letterS j).length ≤ sizeLine
    rw [len_app]
    omega
theorem ok_C_game_name (T : Txt K mg C) : OkM P w K mg base CX0 C 1 "game_name" ps_C_game_name (sp_gname C) := by
  obtain ⟨f, fd, F, hm, O⟩ := ok_gname2 (P := P) (w := w) (base := base) T
  exact ⟨f, fd, O, hm, F.bindsN (fun _ _ _ _ _ _ us hl => match us, hl with | [_, _, _], _ => rfl)
    ⟩
end
end MR
namespace MR
open PySem PySem.Spec PyProof.Rows L2 LamX
def seatsAt (t : Str) (q : Lap × Nat) : List (Str × Pr) := q.1.1.zipIdx.map fun r => (gname t q.2 r.2, r.1)
def seatsL (t : Str) (laps : List Lap) : List (Str × Pr) := laps.zipIdx.flatMap (seatsAt t)
theorem valV_no {κ : Type} [DecidableEq κ] {kvs : List (κ × V)} {k : κ} (h : ∀ q ∈ kvs, q.1 ≠ k) : valV kvs k = none := by
  unfold valV
  rw [List.find?_eq_none.mpr fun q hq => by simpa using h q hq]
  rfl
theorem mergeK_new : ∀ {more kvs : List (Key × V)}, (more.map (·.1)).Nodup → (∀ q ∈ more, ∀ q' ∈ kvs, q'.1 ≠ q.1) → mergeK kvs more = kvs ++ more
  | [], kvs, _, _ => by simp [mergeK]
  | q :: more, kvs, nd, h => by
    have e : mergeK kvs (q :: more) = mergeK (putK kvs q.1 q.2) more := rfl
    have nd' := List.nodup_cons.mp nd
    rw [e, putK_new _ (valV_no fun q' hq' => h q (List.mem_cons_self ..) q' hq'), mergeK_new nd'.2 fun r hr r' hr' => ?_]
    · simp
    · rcases List.mem_append.mp hr' with hr' | hr'
      · exact h r (List.mem_cons_of_mem _ hr) r' hr'
      · rw [List.mem_singleton.mp hr']
        intro z
        have z' : q.1 = r.1 := z
        exact nd'.1 (List.mem_map.mpr ⟨r, hr, z'.symm⟩)
theorem zi_at {α : Type _} {xs : List α} {i : Nat} {x : α} (h : xs[i]? = some x) : xs.zipIdx[i]? = some (x, i) := by
  rw [List.getElem?_zipIdx, h]
  simp
section
variable {P : Program} {w : World} {K : PySem.W.Frag} {mg : Str → Option Value} {base : Heap} {C : Addr}
abbrev N_C_seats_of : List Str := ["self", "found", "at", "games", "out", "k", "pair"]
abbrev ps_C_seats_of : List Str := ["self"]
theorem sc_C_seats_of : FnScope N_C_seats_of ps_C_seats_of (defScope MH.s_C_seats_of) := ⟨rfl, rfl, rfl, by decide +kernel, rfl, by decide +kernel, by decide +kernel⟩
def sp_seats (C : Addr) : Sp := fun vs H Q _ => ∃ (p e l : Addr) (t : Str) (b : Int) (lx : List V) (laps : List Lap), vs = [.ref p] ∧ CupAt C H p t e b l ∧ H l = some (.lst lx) ∧ DaAll [] H lx (lapsD laps) ∧ laps.length ≤ 20 ∧ (∀ q ∈ laps, q.1.length ≤ 20) ∧ t.length ≤ 8 ∧
  ∀ (H' : Hp) (D : Addr) (kvs : List (Key × V)), Same H H' → H' D = some (.dK kvs) → kvs.map (·.1) = (seatsL t laps).map (fun q => Sum.inr q.1) → DaAll [] H' (kvs.map (·.2)) ((seatsL t laps).map fun q => prD q.2) → Q (.ref D) H'
theorem ok_C_seats_of (T : Txt K mg C) : OkM P w K mg base CX0 C 2 "seats_of" ps_C_seats_of (sp_seats C) := by
  refine T.d_C_seats_of.ok sc_C_seats_of (fun vs H Q E h => ?_) (fun _ _ _ _ _ _ us hl => match us, hl with | [_], _ => rfl)
    (fun f cdv A outer s H vs Q E hr h => ?_)
  · obtain ⟨_, _, _, _, _, _, _, rfl, _⟩ := h
    rfl
  · obtain ⟨p, e, l, t, b, lx, laps, rfl, ⟨dx, hp⟩, hl, hd, ll, l20, ht, k⟩ := h
    refine ⟨_, PSs.nox (pss_cons (ps_set (i := 1) sc_C_seats_of.nd rfl (Or.inl rfl) pe_dnewK)
        (pss_cons (ps_for PassesOwn.never rfl (pi_enum (by rfl) T.b_enumerate (pa_cons (pe_fld (pv 0) rfl) pa_nil)) (pg_tup rfl (pgs_cons (pg_name (i := 2) sc_C_seats_of.nd rfl (Or.inr rfl)) (pgs_cons (pg_tup rfl (pgs_cons (pg_name (i := 3) sc_C_seats_of.nd rfl (Or.inl rfl)) (pgs_cons (pg_name (i := 4) sc_C_seats_of.nd rfl (Or.inl rfl)) pgs_nil))) pgs_nil))) (pss_one (ps_expr (pe_bm PySem.F.plainAttrs_dict PySem.F.slot_dict_update PySem.F.type_dict_update mt_updK (pv 1) (pa_cons (pe_dc (own := [("k", 5), ("pair", 6)]) (g := (gTup K 2 (gCons (gName 5) (gCons (gName 6) gNil)))) (tt := tYes) rfl sc_C_seats_of.nd (pi_enum (by rfl) T.b_enumerate (pa_cons (pv 3) pa_nil)) (blkOk_by (own := [("k", 5), ("pair", 6)]) (N := N_C_seats_of) (sc := defScope MH.s_C_seats_of) (by decide +kernel)) (fun _ _ _ _ _ => (pg_tup rfl (pgs_cons (pg_name (i := 5) sc_C_seats_of.nd rfl (Or.inl rfl)) (pgs_cons (pg_name (i := 6) sc_C_seats_of.nd rfl (Or.inl rfl)) pgs_nil)))) (fun _ _ _ _ _ => pts_nil) (fun _ _ _ _ _ => (pe_mt (pv 0) T.cl (ok_C_game_name T) (hr.mono (by decide)) (pa_cons (pe_op op_add (pv 2) pe_int) (pa_cons (pe_op op_add (pv 5) pe_int) pa_nil)))) (fun _ _ _ _ _ => (pv 6))) pa_nil)))))
        (pss_one (ps_ret (pv 1)))))
      , ?_⟩
    refine fun FD hFD => ?_
    have s1 := same_new (o := .dK []) hFD
    have hF1 : upd H FD (.dK []) FD = some (.dK []) := upd_same
    generalize upd H FD (.dK []) = H1 at *
    have llx : lx.length = laps.length := by rw [hd.len, lapsD, List.length_map]
    have keepF : ∀ (H' : Hp) (q : Addr) (o : HO), Sx FD H1 H' → H q = some o → H' q = some o := fun H' q o sx hq => sx _ _ (s1 _ _ hq) (ne_of_none hq hFD)
    refine ⟨_, rfl, p, C, dx, _, _, rfl, s1 _ _ hp, T.cl, T.n_laps, cf_laps, l, _, rfl, SqL.of (s1 _ _ hl), ?_⟩
    refine for_it walk_enum (fun i σ H' => ∃ (u2 u3 u4 : Option V) (kvs : List (Key × V)), σ = [some (.ref p), some (.ref FD), u2, u3, u4, none, none] ∧ Sx FD H1 H' ∧ H' FD = some (.dK kvs) ∧
      kvs.map (·.1) = (((laps.zipIdx.take i).flatMap (seatsAt t)).map fun q => Sum.inr q.1) ∧ DaAll [FD] H' (kvs.map (·.2)) (((laps.zipIdx.take i).flatMap (seatsAt t)).map fun q => prD q.2) ∧ kvs.length ≤ 20 * i)
      ⟨_, _, _, [], rfl, Sx.refl _ _, hF1, rfl, .nil, Nat.le_refl _⟩ (fun i σ H' hi ⟨_, _, _, _, _, z, _⟩ => SqL.of (keepF _ _ _ z hl)) (fun i v σ H2 H2' hi p2 y => ?_) (fun σ H2 p2 => ?_)
    · obtain ⟨u2, u3, u4, kvs, rfl, sx, hk, hk1, hk2, hkl⟩ := p2
      obtain ⟨T1, x, y, rfl, hT1, rfl, hx, hy⟩ := y
      cases hx
      have sT := same_new (o := .tup [.int (i : Nat), y]) hT1
      have hd2 : DaAll [FD] H2 lx (lapsD laps) := ((hd.more hFD).same s1).sx sx (by simp)
      obtain ⟨dd, e1, e2⟩ := (hd2.same sT).get hy
      rw [lapsD, List.getElem?_map] at e1
      obtain ⟨lp, hlp, rfl⟩ := Option.map_eq_some_iff.mp e1
      obtain ⟨a, g, xs, rfl, ha, na, hg, ng, hxs⟩ := da_lap e2
      have hi20 : i < 20 := by omega
      have hg20 : lp.1.length ≤ 20 := l20 lp (List.mem_of_getElem? hlp)
      have lxs : xs.length = lp.1.length := by rw [hxs.len, List.length_map]
      refine ⟨T1, _, rfl, SqT.of upd_same, rfl, _, _, rfl, _, _, rfl, a, _, rfl, SqT.of ha, rfl, _, _, rfl, _, _, rfl, rfl, rfl, ?_⟩
      have hp3 := sT _ _ (keepF _ _ _ sx hp)
      have hk3 := sT _ _ hk
      generalize upd H2 T1 (.tup [.int (i : Nat), .ref a]) = H3 at *
      refine ⟨_, rfl, .inr (.inr (.inl ⟨rfl, .inl ⟨_, hk3⟩⟩)), ?_⟩
      refine ⟨_, rfl, g, _, rfl, SqL.of hg, fun D hD => ?_⟩
      refine dc_F walk_enum (fun j => (xs.zipIdx.take j).map fun q => ((Sum.inr (gname t i q.2) : Key), q.1)) hD rfl (fun _ z => SqL.of (z _ _ hg)) (fun j v H4 H4' hj p4 y => ?_) (fun H4 s4 e4 => ?_)
      · obtain ⟨T2, x, y, rfl, hT2, rfl, hx, hy⟩ := y
        cases hx
        have sT2 := same_new (o := .tup [.int (j : Nat), y]) hT2
        have hp4 := sT2 _ _ (p4.1 _ _ hp3)
        refine ⟨T2, _, rfl, SqT.of upd_same, rfl, _, _, rfl, _, _, rfl, rfl, ?_⟩
        refine ⟨rfl, _, rfl, p, dx, _, rfl, hp4, cf_no (by decide +kernel), _, rfl, _, _, rfl, rfl, _, rfl, _, _, rfl, rfl, p, e, l, t, b, i, j, rfl, ⟨dx, hp4⟩, ht, by omega, by omega, _, rfl, ?_⟩
        have hzj := zi_at hy
        refine putC p4 hD sT2 (k := Sum.inr (gname t i j)) (by omega) ?_ ?_
        · rw [mapTake hzj, putK_new]
          · refine valV_no fun q hq => ?_
            obtain ⟨r, hr, rfl⟩ := List.mem_map.mp hq
            intro z
            obtain ⟨m, hm⟩ := List.getElem?_of_mem hr
            have hmj : m < j := by
              have := (List.getElem?_eq_some_iff.mp hm).1
              rw [List.length_take] at this
              omega
            rw [List.getElem?_take, if_pos hmj, List.getElem?_zipIdx] at hm
            obtain ⟨v0, hv0, e0⟩ := Option.map_eq_some_iff.mp hm
            have er : r.2 = m := by rw [← e0]; simp
            have := gname_inj (by omega) (by omega) (by omega) (by omega) (Sum.inr.inj z)
            omega
        · rw [List.length_map, List.length_take]
          exact Nat.min_le_left _ _
      · rw [← List.length_zipIdx (l := xs), List.take_length] at e4
        have nFD : FD ≠ D := fun z => by
          rw [← z, hk3] at hD
          cases hD
        refine ⟨FD, D, kvs, _, rfl, rfl, s4 _ _ hk3, e4, nFD, by rw [List.length_map, List.length_zipIdx]; have := szl; omega, ?_⟩
        have kx : ∀ {β : Type} (ys : List β), (ys.zipIdx.map fun q => ((Sum.inr (gname t i q.2) : Key))) = (List.range' 0 ys.length).map fun m => Sum.inr (gname t i m) := fun ys => by
          rw [← List.zipIdx_map_snd 0 ys, List.map_map]
          rfl
        have hmk : ((xs.zipIdx.map fun q => ((Sum.inr (gname t i q.2) : Key), q.1)).map (·.1)) = (List.range' 0 lp.1.length).map fun m => Sum.inr (gname t i m) := by
          rw [List.map_map, ← lxs, ← kx xs]
          rfl
        rw [mergeK_new]
        · have hzi := zi_at hlp
          have s24 := sT.trans s4
          refine ⟨_, _, _, _, rfl, ((sx.trans (Sx.of s24))).trans Sx.set, upd_same, ?_, ?_, ?_⟩
          · rw [take_succ' hzi, List.flatMap_append, List.map_append, List.map_append, hk1, hmk, ← kx lp.1]
            congr 1
            simp [seatsAt]
          · rw [take_succ' hzi, List.flatMap_append, List.map_append, List.map_append]
            refine DaAll.upd ((hk2.same s24).app ?_) (by simp)
            have e1 : ((xs.zipIdx.map fun q => ((Sum.inr (gname t i q.2) : Key), q.1)).map (·.2)) = xs := by
              rw [List.map_map]
              exact List.zipIdx_map_fst 0 xs
            have e2 : (([(lp, i)].flatMap (seatsAt t)).map fun q => prD q.2) = lp.1.map prD := by
              simp only [List.flatMap_cons, List.flatMap_nil, List.append_nil, seatsAt, List.map_map]
              have := congrArg (List.map prD) (List.zipIdx_map_fst 0 lp.1)
              rw [List.map_map] at this
              exact this
            rw [e1, e2]
            exact hxs.same s4
          · rw [List.length_append, List.length_map, List.length_zipIdx]
            omega
        · rw [hmk, List.nodup_iff_pairwise_ne, List.pairwise_map]
          have := List.nodup_range' (s := 0) (n := lp.1.length) (step := 1)
          rw [List.nodup_iff_pairwise_ne] at this
          refine List.Pairwise.imp_of_mem (fun {a b} ha hb h e => h ?_) this
          have ha' := List.mem_range'_1.mp ha
          have hb' := List.mem_range'_1.mp hb
          exact (gname_inj (by omega) (by omega) (by omega) (by omega) (Sum.inr.inj e)).2
        · intro q hq q' hq' e
          have h1 : q.1 ∈ (List.range' 0 lp.1.length).map fun m => (Sum.inr (gname t i m) : Key) := by
            rw [← hmk]
            exact List.mem_map_of_mem hq
          obtain ⟨m, hm, em⟩ := List.mem_map.mp h1
          have hm' := List.mem_range'_1.mp hm
          have h2 : q'.1 ∈ ((laps.zipIdx.take i).flatMap (seatsAt t)).map fun q => (Sum.inr q.1 : Key) := by
            rw [← hk1]
            exact List.mem_map_of_mem hq'
          obtain ⟨z, hz, ez⟩ := List.mem_map.mp h2
          obtain ⟨zl, hzl, hz2⟩ := List.mem_flatMap.mp hz
          obtain ⟨r, hr, rfl⟩ := List.mem_map.mp hz2
          obtain ⟨m2, hm2⟩ := List.getElem?_of_mem hzl
          have hm2i : m2 < i := by
            have := (List.getElem?_eq_some_iff.mp hm2).1
            rw [List.length_take] at this
            omega
          rw [List.getElem?_take, if_pos hm2i, List.getElem?_zipIdx] at hm2
          obtain ⟨v0, hv0, e0⟩ := Option.map_eq_some_iff.mp hm2
          have ezl : zl.2 = m2 := by rw [← e0]; simp
          have ezl1 : zl.1 = v0 := by rw [← e0]
          obtain ⟨m3, hm3⟩ := List.getElem?_of_mem hr
          rw [List.getElem?_zipIdx] at hm3
          obtain ⟨v1, hv1, e1⟩ := Option.map_eq_some_iff.mp hm3
          have er : r.2 = m3 := by rw [← e1]; simp
          have hm3l := (List.getElem?_eq_some_iff.mp hv1).1
          have hl3 : zl.1.1.length ≤ 20 := l20 _ (by rw [ezl1]; exact List.mem_of_getElem? hv0)
          have := e
          rw [← ez, ← em] at this
          have := gname_inj (by omega) (by omega) (by omega) (by omega) (Sum.inr.inj this)
          omega
    · obtain ⟨u2, u3, u4, kvs, rfl, sx, hk, hk1, hk2, hkl⟩ := p2
      rw [llx, ← List.length_zipIdx (l := laps), List.take_length] at hk1 hk2
      exact ⟨_, rfl, k _ FD kvs (fun q o hq => keepF _ _ _ sx hq) hk hk1 (hk2.mono (by simp))⟩
end
end MR
namespace MR
open PySem PySem.Spec PyProof.Rows L2 LamX
/-! points, both ways -/
def hit1 (q : Str × Pr) (r : Res) (y : Str) : Int := if r.game = q.1 ∧ r.names = [q.2.1, q.2.2] then (if y = q.2.1 then r.pts.getD 0 0 else 0) + (if y = q.2.2 then r.pts.getD 1 0 else 0) else 0
def rcS (seats : List (Str × Pr)) (r : Res) (y : Str) : Int := (seats.map fun q => hit1 q r y).sum
def restP (y : Str) (l : Lap) : Int := if l.2 = some y then 2 else 0
def ptsBy (t : Str) (laps : List Lap) (rs : List Res) (y : Str) : Int := (rs.map fun r => rcS (seatsL t laps) r y).sum + (laps.map (restP y)).sum
def lapPts (t : Str) (rs : List Res) (y : Str) (z : Lap × Nat) : Int := restP y z.1 + ((seatsAt t z).map fun q => (rs.map fun r => hit1 q r y).sum).sum
def ptsLaw (t : Str) (laps : List Lap) (rs : List Res) (y : Str) : Int := (laps.zipIdx.map (lapPts t rs y)).sum
theorem sum_app (xs ys : List Int) : (xs ++ ys).sum = xs.sum + ys.sum := by
  induction xs with
  | nil => simp
  | cons x xs ih => rw [List.cons_append, List.sum_cons, List.sum_cons, ih]; omega
theorem sum_add {α : Type _} (f g : α → Int) : ∀ xs : List α, (xs.map fun x => f x + g x).sum = (xs.map f).sum + (xs.map g).sum
  | [] => by simp
  | x :: xs => by rw [List.map_cons, List.sum_cons, sum_add f g xs, List.map_cons, List.map_cons, List.sum_cons, List.sum_cons]; omega
theorem sum_zero {α : Type _} {f : α → Int} : ∀ {xs : List α}, (∀ x ∈ xs, f x = 0) → (xs.map f).sum = 0
  | [], _ => rfl
  | x :: xs, h => by rw [List.map_cons, List.sum_cons, h x (List.mem_cons_self ..), sum_zero fun y hy => h y (List.mem_cons_of_mem _ hy)]; rfl
theorem sum_swap {α β : Type _} (f : α → β → Int) (ys : List β) : ∀ xs : List α, (xs.map fun x => (ys.map fun y => f x y).sum).sum = (ys.map fun y => (xs.map fun x => f x y).sum).sum
  | [] => by simp; exact (sum_zero fun _ _ => rfl).symm
  | x :: xs => by
    rw [List.map_cons, List.sum_cons, sum_swap f ys xs, ← sum_add]
    rfl
theorem sum_flatMap {α β : Type _} (f : α → List β) (g : β → Int) : ∀ xs : List α, ((xs.flatMap f).map g).sum = (xs.map fun x => ((f x).map g).sum).sum
  | [] => rfl
  | x :: xs => by rw [List.flatMap_cons, List.map_append, sum_app, sum_flatMap f g xs, List.map_cons, List.sum_cons]
theorem pts_eq (t : Str) (laps : List Lap) (rs : List Res) (y : Str) : ptsBy t laps rs y = ptsLaw t laps rs y := by
  unfold ptsBy ptsLaw lapPts rcS
  rw [sum_swap, sum_add, seatsL, sum_flatMap]
  have e : (laps.zipIdx.map fun x => restP y x.1).sum = (laps.map (restP y)).sum := by
    have := congrArg (List.map (restP y)) (List.zipIdx_map_fst 0 laps)
    rw [List.map_map] at this
    exact congrArg List.sum this
  rw [e]
  omega
/-- games have unlike names -/
theorem seats_nd {t : Str} {laps : List Lap} (h1 : laps.length ≤ 20) (h2 : ∀ q ∈ laps, q.1.length ≤ 20) : ((seatsL t laps).map (·.1)).Nodup := by
  have key : ∀ (n : Nat) (ls : List Lap), ls.length + n ≤ 20 → (∀ q ∈ ls, q.1.length ≤ 20) → (((ls.zipIdx n).flatMap (seatsAt t)).map (·.1)).Nodup ∧ ∀ k ∈ ((ls.zipIdx n).flatMap (seatsAt t)).map (·.1), ∃ i j, n ≤ i ∧ i < 20 ∧ j < 20 ∧ k = gname t i j := by
    intro n ls
    induction ls generalizing n with
    | nil => intro _ _; exact ⟨List.Pairwise.nil, fun k hk => by simp at hk⟩
    | cons l ls ih =>
      intro hl hq
      rw [List.length_cons] at hl
      obtain ⟨i1, i2⟩ := ih (n + 1) (by omega) fun q hq' => hq q (List.mem_cons_of_mem _ hq')
      have hl0 := hq l (List.mem_cons_self ..)
      have e1 : ((seatsAt t (l, n)).map (·.1)) = (List.range' 0 l.1.length).map (gname t n) := by
        rw [← List.zipIdx_map_snd 0 l.1, List.map_map]
        simp [seatsAt]
      rw [List.zipIdx_cons, List.flatMap_cons, List.map_append, e1]
      constructor
      · rw [List.nodup_append]
        refine ⟨?_, i1, fun a ha b hb e => ?_⟩
        · rw [List.nodup_iff_pairwise_ne, List.pairwise_map]
          have := List.nodup_range' (s := 0) (n := l.1.length) (step := 1)
          rw [List.nodup_iff_pairwise_ne] at this
          refine List.Pairwise.imp_of_mem (fun {a b} ha hb h e => h ?_) this
          have ha' := List.mem_range'_1.mp ha
          have hb' := List.mem_range'_1.mp hb
          exact (gname_inj (by omega) (by omega) (by omega) (by omega) e).2
        · obtain ⟨m, hm, rfl⟩ := List.mem_map.mp ha
          have hm' := List.mem_range'_1.mp hm
          obtain ⟨i, j, h1, h2, h3, rfl⟩ := i2 b hb
          have := gname_inj (by omega) (by omega) (by omega) (by omega) e
          omega
      · intro k hk
        rcases List.mem_append.mp hk with hk | hk
        · obtain ⟨m, hm, rfl⟩ := List.mem_map.mp hk
          have hm' := List.mem_range'_1.mp hm
          exact ⟨n, m, by omega, by omega, by omega, rfl⟩
        · obtain ⟨i, j, h1, h2⟩ := i2 k hk
          exact ⟨i, j, by omega, h2⟩
  exact (key 0 laps (by omega) h2).1
theorem rcS_hit : ∀ {seats : List (Str × Pr)} {q : Str × Pr} {r : Res} {y : Str}, (seats.map (·.1)).Nodup → q ∈ seats → q.1 = r.game → rcS seats r y = hit1 q r y
  | [], q, _, _, _, h, _ => by cases h
  | p :: ps, q, r, y, nd, h, e => by
    have nd' := List.nodup_cons.mp nd
    unfold rcS
    rw [List.map_cons, List.sum_cons]
    rcases List.mem_cons.mp h with rfl | h
    · rw [sum_zero fun x hx => ?_]
      · omega
      · unfold hit1
        rw [if_neg]
        rintro ⟨z, _⟩
        exact nd'.1 (List.mem_map.mpr ⟨x, hx, (z.symm.trans e.symm : x.1 = q.1)⟩)
    · have h1 : hit1 p r y = 0 := by
        unfold hit1
        rw [if_neg]
        rintro ⟨z, _⟩
        exact nd'.1 (List.mem_map.mpr ⟨q, h, (e.trans z : q.1 = p.1)⟩)
      have h2 := rcS_hit (y := y) nd'.2 h e
      unfold rcS at h2
      rw [h1, h2]
      omega
theorem rcS_miss {seats : List (Str × Pr)} {r : Res} {y : Str} (h : ∀ q ∈ seats, q.1 ≠ r.game) : rcS seats r y = 0 := sum_zero fun q hq => by
  unfold hit1
  rw [if_neg]
  rintro ⟨z, _⟩
  exact h q hq z.symm
def bump (f : Str → Int) (x : Str) (n : Int) : Str → Int := fun y => if y = x then n else f y
theorem tab_put {names : List Str} {f : Str → Int} {x : Str} {n : Int} (h : x ∈ names) : putK (tab names f) (Sum.inr x) (.int n) = tab names (bump f x n) := by
  unfold putK
  have h1 : ((tab names f).any fun kv => decide (kv.1 = Sum.inr x)) = true := by
    rw [List.any_eq_true]
    exact ⟨(Sum.inr x, .int (f x)), List.mem_map.mpr ⟨x, h, rfl⟩, by simp⟩
  rw [if_pos h1]
  unfold tab
  rw [List.map_map]
  refine List.map_congr_left fun y _ => ?_
  simp only [Function.comp, bump]
  by_cases e : y = x
  · subst e; simp
  · have : ¬ ((Sum.inr y : Key) = Sum.inr x) := fun z => e (Sum.inr.inj z)
    rw [if_neg this, if_neg e]
theorem tab_congr {names : List Str} {f g : Str → Int} (h : ∀ x ∈ names, f x = g x) : tab names f = tab names g := List.map_congr_left fun x hx => by rw [h x hx]
end MR
namespace MR
open PySem PySem.Spec PyProof.Rows L2 LamX
section
variable {X : Cx} {i : Nat} {y : Str} {kx vx tg iter : Expr} {ifs : List Expr} {scope : Scope} {own : List (Str × Nat)} {py pos spos : Pos} {wi : TI} {g : TG} {tt : TT} {tk tv : TE}
theorem sw_dict {l : Nat} {env : Env} {gs : List Comprehension} (h1 : env.scope.kind = .function) (h2 : env.scope.names.lookup y = some .local) (h3 : (py.line == pos.line) = true)
    (h4 : (scope.names.any fun (n, k) => n == y && (k == .local || k == .cell)) = false) :
    swapsWith (.DictComp kx vx gs scope pos) (some (.Name y py)) l env = pure true := by
  have k1 : env.kindOf y = some .local := h2
  have k2 : env.blockKind = .function := by
    unfold Env.blockKind
    rw [h1]
    rfl
  unfold swapsWith
  simp only [k2, k1, h4, Expr.pos, h3]
  rfl
theorem ps_setDc (hc : X.calm = true) (hN : X.N.Nodup) (hy : X.N[i]? = some y) (hyl : X.env.scope.names.lookup y = some .local)
    (hsw : swapsWith (.DictComp kx vx [⟨tg, iter, ifs, 0⟩] scope pos) (some (.Name y py)) spos.line X.env = pure true)
    (hi : PI X tg iter wi) (ok : BlkOk X.N X.env.scope scope own)
    (hg : ∀ (s : Shared) (H : Hp) (C : Addr) (cl : List (Str × Addr)) (fp : List Addr), PG (X.blk s H scope (compEnvC scope cl C X.env) fp) tg g)
    (ht : ∀ (s : Shared) (H : Hp) (C : Addr) (cl : List (Str × Addr)) (fp : List Addr), PTs (X.blk s H scope (compEnvC scope cl C X.env) fp) ifs tt)
    (hk : ∀ (s : Shared) (H : Hp) (C : Addr) (cl : List (Str × Addr)) (fp : List Addr), PE (X.blk s H scope (compEnvC scope cl C X.env) fp) kx tk)
    (he : ∀ (s : Shared) (H : Hp) (C : Addr) (cl : List (Str × Addr)) (fp : List Addr), PE (X.blk s H scope (compEnvC scope cl C X.env) fp) vx tv)
    (hs : ∀ x, foldedSetIterable iter X.env x = pure x := by intro _; rfl) :
    PS X (.Assign [.Name y py] (.DictComp kx vx [⟨tg, iter, ifs, 0⟩] scope pos) spos) (tAsg (tDc wi g tt tk tv (own.map (·.2))) (gName i)) := by
  refine ⟨fun pins s σ H D I h => ?_⟩
  rw [exec_Assign_Name_used _ _ _ _ hsw]
  refine wpAny_bind (wpAny_standAt (wpAny_bind ?_))
  show wpAny _ X.A (do
    let _ ← comprehension (.DictComp kx vx [⟨tg, iter, ifs, 0⟩] scope pos) scope X.env (firstIterPos [⟨tg, iter, ifs, 0⟩] pos) newDict false (eval iter X.env) (some (assign (.Name y py) X.env))) _ _ s
  have h' : tDc wi g tt tk tv (own.map (·.2)) σ H (fun x H1 => gName i x σ H1 D.nx) := h
  refine wpAny_bind (thn (dc_core (Qf := fun _ s' => SP X pins D .next s') hc hN I hi ok hg ht hk he hs h' fun L C s' m H' I' q hn f => ?_) fun _ s' z => wpAny_pure (wpAny_pure z))
  show wpAny _ _ (assign (.Name y py) X.env (.ref L)) _ _ _
  refine wpAny_assign_Name (store_ok2 (v := V.ref L) I' hN hy (.inl hyl) rfl (fun s2 I2 ⟨a, sb, ha⟩ => ?_) (.inr hyl))
  obtain ⟨f0, f1, f2, f3, f4, f5⟩ := f
  have hCa : C ≠ a := by
    rcases ha with z | z
    · intro e
      exact f1 (e.trans z)
    · intro e
      exact f4 y a z e.symm
  exact ⟨m, hn.sameBut sb hCa, fun h3 sb3 => ⟨_, H', I2.turned (t' := s2.toks) (fun b o hb e => (sb3.2 b hb).trans e) f0 f1 f3 f4 f5, q⟩⟩
end
end MR
namespace MR
open PySem PySem.Spec PyProof.Rows L2 LamX
theorem strOk_name {x : Str} (h : NameOk x) : PyData.canLay0 (.str x) = true := by
  show (x.cps.all (· < 0x110000)) = true
  have hl : ∀ c ∈ letters.cps.toList, c < 0x110000 := by decide +kernel
  rw [← Array.all_toList, List.all_eq_true]
  intro c hc
  exact decide_eq_true (hl c (h.2.2 c hc))
theorem shp_str {k : Nat} {x : Str} (h : NameOk x) : Shp k (.str x) := ⟨strOk_name h, Nat.zero_le _⟩
theorem shp_strs {xs : List Str} (h : ∀ x ∈ xs, NameOk x) : Shp 1 (.tuple (xs.map PyData.str)) := Shp.tuple fun d hd => by
  obtain ⟨x, hx, rfl⟩ := List.mem_map.mp hd
  exact shp_str (h x hx)
theorem shp_pr {k : Nat} {g : Pr} (h1 : NameOk g.1) (h2 : NameOk g.2) : Shp (k + 1) (prD g) := Shp.tuple fun d hd => by
  rcases List.mem_cons.mp hd with rfl | hd
  · exact shp_str h1
  · rw [List.mem_singleton.mp hd]; exact shp_str h2
theorem eqvAll_strs : ∀ (xs ys : List Str), PyData.eqvAll (xs.map PyData.str) (ys.map PyData.str) = decide (xs = ys)
  | [], [] => by simp [PyData.eqvAll]
  | [], _ :: _ => by simp [PyData.eqvAll]
  | _ :: _, [] => by simp [PyData.eqvAll]
  | x :: xs, y :: ys => by
    have := eqvAll_strs xs ys
    simp only [List.map_cons, PyData.eqvAll, PyData.eqv, this]
    by_cases h : x = y <;> simp [h]
theorem eqv_tup_strs (xs ys : List Str) : PyData.eqv (.tuple (xs.map PyData.str)) (.tuple (ys.map PyData.str)) = decide (xs = ys) := by
  have := eqvAll_strs xs ys
  simp only [PyData.eqv]
  exact this
/-- points of the players, one behind another -/
def zipP : List Str → List Int → Str → Int
  | x :: xs, n :: ns, y => (if y = x then n else 0) + zipP xs ns y
  | _, _, _ => 0
theorem zipP_take {xs : List Str} {ns : List Int} {i : Nat} {x : Str} {n : Int} {y : Str} (hx : xs[i]? = some x) (hn : ns[i]? = some n) : zipP (xs.take (i + 1)) (ns.take (i + 1)) y = zipP (xs.take i) (ns.take i) y + (if y = x then n else 0) := by
  induction i generalizing xs ns with
  | zero =>
    cases xs with
    | nil => simp at hx
    | cons a xs =>
      cases ns with
      | nil => simp at hn
      | cons b ns =>
        have e1 : a = x := by simpa using hx
        have e2 : b = n := by simpa using hn
        subst e1 e2
        simp [zipP]
  | succ i ih =>
    cases xs with
    | nil => simp at hx
    | cons a xs =>
      cases ns with
      | nil => simp at hn
      | cons b ns =>
        have := ih (xs := xs) (ns := ns) (by simpa using hx) (by simpa using hn)
        rw [List.take_succ_cons, List.take_succ_cons, zipP, this, List.take_succ_cons, List.take_succ_cons, zipP]
        omega
section
variable {P : Program} {w : World} {K : PySem.W.Frag} {mg : Str → Option Value} {base : Heap} {C : Addr}
abbrev N_C_points_by : List Str := ["self", "results", "seats", "name", "found", "game", "day", "names", "points", "n", "games", "out", "result"]
abbrev ps_C_points_by : List Str := ["self", "results"]
theorem sc_C_points_by : FnScope N_C_points_by ps_C_points_by (defScope MH.s_C_points_by) := ⟨rfl, rfl, rfl, by decide +kernel, rfl, by decide +kernel, by decide +kernel⟩
def sp_points_by (C : Addr) : Sp := fun vs H Q _ => ∃ (p e l a : Addr) (t : Str) (b : Int) (lx rx : List V) (laps : List Lap) (xs : List Str) (rs : List Res), vs = [.ref p, .ref a] ∧ CupAt C H p t e b l ∧ H e = some (.lst (xs.map V.str)) ∧ xs.Nodup ∧ xs.length ≤ 20 ∧ (∀ x ∈ xs, NameOk x) ∧
  H l = some (.lst lx) ∧ DaAll [] H lx (lapsD laps) ∧ laps.length ≤ 20 ∧ (∀ q ∈ laps, q.1.length ≤ 20) ∧ (∀ q ∈ laps, ∀ g ∈ q.1, g.1 ∈ xs ∧ g.2 ∈ xs) ∧ (∀ q ∈ laps, ∀ x, q.2 = some x → x ∈ xs) ∧ t.length ≤ 8 ∧
  H a = some (.lst rx) ∧ DaAll [] H rx (rs.map resD) ∧ rs.length ≤ 1000 ∧ (∀ r ∈ rs, ResOk r) ∧
  ∀ (H' : Hp) (D : Addr), Same H H' → H' D = some (.dK (tab xs (ptsBy t laps rs))) → H D = none → Q (.ref D) H'
theorem ok_C_points_by (T : Txt K mg C) : OkM P w K mg base CX0 C 4 "points_by" ps_C_points_by (sp_points_by C) := by
  refine T.d_C_points_by.ok sc_C_points_by (fun vs H Q E h => ?_) (fun _ _ _ _ _ _ us hl => match us, hl with | [_, _], _ => rfl)
    (fun f cdv A outer s H vs Q E hr h => ?_)
  · obtain ⟨_, _, _, _, _, _, _, _, _, _, _, rfl, _⟩ := h
    rfl
  · obtain ⟨p, e, l, a, t, b, lx, rx, laps, xs, rs, rfl, ⟨dx, hp⟩, he, hnd, lxs, hnm, hl, hd, ll, l20, hmem, hmem2, ht, ha, hrs, lrs, hok, k⟩ := h
    refine ⟨_, PSs.nox (pss_cons (ps_if (PW.pt (pw_or (pt_not (pt_val (pe_fn (ok_is_row T) (hr.mono (by decide)) (by rfl) (pa_cons (pv 1) (pa_cons pe_int (pa_cons pe_non pa_nil)))))) (pw_or1 (pt_not (pt_val (pe_callB (cr_all rfl) (by rfl) T.b_all (by decide +kernel) (pa_cons (pe_lc (own := [("result", 12)]) (g := (gName 12)) (tt := tYes) rfl sc_C_points_by.nd (pi_list (pv 1)) (blkOk_by (own := [("result", 12)]) (N := N_C_points_by) (sc := defScope MH.s_C_points_by) (by decide +kernel)) (fun _ _ _ _ _ => (pg_name (i := 12) sc_C_points_by.nd rfl (Or.inl rfl))) (fun _ _ _ _ _ => pts_nil) (fun _ _ _ _ _ => (pe_fn (ok_is_result T) (hr.mono (by decide)) (by rfl) (pa_cons (pv 12) pa_nil)))) pa_nil))))))) (pss_one ps_never) pss_nil)
        (pss_cons (ps_set (i := 2) sc_C_points_by.nd rfl (Or.inl rfl) (pe_mt0 (pv 0) T.cl (ok_C_seats_of T) (hr.mono (by decide))))
        (pss_cons (ps_setDc (i := 4) (own := [("name", 3)]) (g := (gName 3)) (tt := tYes) rfl sc_C_points_by.nd rfl rfl (sw_dict rfl rfl rfl (by decide +kernel)) (pi_list (pe_fld (pv 0) rfl)) (blkOk_by (own := [("name", 3)]) (N := N_C_points_by) (sc := defScope MH.s_C_points_by) (by decide +kernel)) (fun _ _ _ _ _ => (pg_name (i := 3) sc_C_points_by.nd rfl (Or.inl rfl))) (fun _ _ _ _ _ => pts_nil) (fun _ _ _ _ _ => (pv 3)) (fun _ _ _ _ _ => pe_int))
        (pss_cons (ps_for PassesOwn.never rfl (pi_list (pv 1)) (pg_tup rfl (pgs_cons (pg_name (i := 5) sc_C_points_by.nd rfl (Or.inl rfl)) (pgs_cons (pg_name (i := 6) sc_C_points_by.nd rfl (Or.inl rfl)) (pgs_cons (pg_name (i := 7) sc_C_points_by.nd rfl (Or.inl rfl)) (pgs_cons (pg_name (i := 8) sc_C_points_by.nd rfl (Or.inl rfl)) pgs_nil))))) (pss_one (ps_if (PW.pt (pw_and (pt_cmp (pc_din (hu_of hr) (pv 5) (pv 2))) (pw_and1 (pt_cmpR (op_eqD hr.units) (pe_dget (hu_of hr) (pv 2) (pv 5) (fun _ _ => rfl)) (pv 7) (nomark _))))) (pss_one (ps_for PassesOwn.never rfl (RZ.pi_zipA (by rfl) T.b_zip (pa_cons (pv 7) (pa_cons (pv 8) pa_nil))) (pg_tup rfl (pgs_cons (pg_name (i := 3) sc_C_points_by.nd rfl (Or.inl rfl)) (pgs_cons (pg_name (i := 9) sc_C_points_by.nd rfl (Or.inl rfl)) pgs_nil))) (pss_one (ps_daug (hu_of hr) (pv 4) (pv 3) (pv 9) in_add (fun _ _ _ => rfl))))) pss_nil)))
        (pss_cons (ps_for PassesOwn.never rfl (pi_list (pe_fld (pv 0) rfl)) (pg_tup rfl (pgs_cons (pg_name (i := 10) sc_C_points_by.nd rfl (Or.inl rfl)) (pgs_cons (pg_name (i := 11) sc_C_points_by.nd rfl (Or.inl rfl)) pgs_nil))) (pss_one (ps_if (pt_cmpR op_notN (pv 11) pe_non (nomark _)) (pss_one (ps_daug (hu_of hr) (pv 4) (pv 11) (pe_gc T.k_SAT_OUT rfl) in_add (fun _ _ _ => rfl))) pss_nil)))
        (pss_one (ps_ret (pv 4))))))))
      , ?_⟩
    have lrx : rx.length = rs.length := by rw [hrs.len, List.length_map]
    refine ⟨_, rfl, a, rx, 0, .non, rfl, .inl ha, by omega, .inl rfl, fun H1 s1 => ⟨_, rfl, ?_⟩⟩
    refine ⟨_, rfl, _, rfl, ⟨_, SqL.of (s1 _ _ ha)⟩, fun D hD => ?_⟩
    refine lc_F walk_list (fun i => (List.replicate i true).map V.bl) hD rfl (fun _ z => SqL.of (z _ _ (s1 _ _ ha))) (fun i v H2 H2' hi p2 y => ?_) (fun H2 s2 e2 => ?_)
    · obtain ⟨rfl, y⟩ := y
      have s12 := s1.trans p2.1
      obtain ⟨dd, hdd, hda⟩ := (hrs.same s12).get y
      rw [List.getElem?_map] at hdd
      obtain ⟨r, hr, rfl⟩ := Option.map_eq_some_iff.mp hdd
      refine ⟨rfl, _, rfl, v, r, rfl, hda, hok r (List.mem_of_getElem? hr), fun H3 s3 => putF p2 hD s3 (by omega) ?_⟩
      rw [repSnoc, List.map_append]
      rfl
    refine ⟨_, _, rfl, SqL.of e2, _, rfl, ?_⟩
    rw [allTrue]
    have s02 := s1.trans s2
    -- seats
    refine ⟨_, rfl, p, dx, _, rfl, s02 _ _ hp, cf_no (by decide +kernel), p, e, l, t, b, lx, laps, rfl, ⟨dx, s02 _ _ hp⟩, s02 _ _ hl, hd.same s02, ll, l20, ht, fun H3 SD kvs s3 hSD hk1 hk2 => ?_⟩
    have s03 := s02.trans s3
    have hSD3 := hSD
    -- found
    refine ⟨_, rfl, p, C, dx, _, _, rfl, s03 _ _ hp, T.cl, T.n_entrants, cf_ent, e, rfl, ⟨_, SqL.of (s03 _ _ he)⟩, fun FD hFD => ?_⟩
    have hl0 : (xs.map V.str).length = xs.length := List.length_map _
    refine dc_F walk_list (fun i => tab (xs.take i) fun _ => 0) hFD rfl (fun _ z => SqL.of (z _ _ (s03 _ _ he))) (fun i v H4 H4' hi p4 y => ?_) (fun H4 s4 e4 => ?_)
    · obtain ⟨rfl, y⟩ := y
      obtain ⟨x, hx, rfl⟩ := mapAt y
      refine ⟨rfl, _, rfl, putC p4 hFD (k := Sum.inr x) (Same.refl _) (by omega) ?_ ?_⟩
      · rw [putK_new]
        · unfold tab
          rw [mapTake hx]
        · refine valV_no fun q hq => ?_
          obtain ⟨z, hz, rfl⟩ := List.mem_map.mp hq
          intro e
          have e' : z = x := Sum.inr.inj e
          obtain ⟨m, hm⟩ := List.getElem?_of_mem hz
          have hmi : m < i := by
            have := (List.getElem?_eq_some_iff.mp hm).1
            rw [List.length_take] at this
            omega
          rw [List.getElem?_take, if_pos hmi, e'] at hm
          have := nd_ix hnd hm hx
          omega
      · unfold tab
        rw [List.length_map, List.length_take]
        exact Nat.min_le_left _ _
    rw [hl0, List.take_length] at e4
    have s04 := s03.trans s4
    have hSD4 := s4 _ _ hSD3
    have nSF : SD ≠ FD := ne_of_none hSD3 hFD
    have hFD0 : H FD = none := s03.free hFD
    have keepF : ∀ (H' : Hp) (q : Addr) (o : HO), Sx FD H4 H' → H q = some o → H' q = some o := fun H' q o sx hq => sx _ _ (s04 _ _ hq) (ne_of_none hq hFD0)
    have hrsF : ∀ (H' : Hp), Sx FD H4 H' → DaAll [FD] H' rx (rs.map resD) := fun H' sx => ((hrs.more hFD0).same s04).sx sx (by simp)
    have hdF : ∀ (H' : Hp), Sx FD H4 H' → DaAll [FD] H' lx (lapsD laps) := fun H' sx => ((hd.more hFD0).same s04).sx sx (by simp)
    have hkF : ∀ (H' : Hp), Sx FD H4 H' → DaAll [FD] H' (kvs.map (·.2)) ((seatsL t laps).map fun q => prD q.2) := fun H' sx => ((hk2.more hFD).same s4).sx sx (by simp)
    have hnds := seats_nd (t := t) ll l20
    have ltab : ∀ f, (tab xs f).length < sizeLine := fun f => by
      unfold tab
      rw [List.length_map]
      have := szl
      omega
    refine ⟨_, rfl, a, rfl, ⟨_, SqL.of (s04 _ _ ha)⟩, ?_⟩
    refine for_it walk_list (fun i σ H' => ∃ (u3 u5 u6 u7 u8 u9 u10 u11 : Option V), σ = [some (.ref p), some (.ref a), some (.ref SD), u3, some (.ref FD), u5, u6, u7, u8, u9, u10, u11, none] ∧ Sx FD H4 H' ∧ H' FD = some (.dK (tab xs fun y => ((rs.take i).map fun r => rcS (seatsL t laps) r y).sum)))
      ⟨_, _, _, _, _, _, _, _, rfl, Sx.refl _ _, e4⟩ (fun i σ H' hi ⟨_, _, _, _, _, _, _, _, _, z, _⟩ => SqL.of (keepF _ _ _ z ha)) (fun i v σ H5 H5' hi p5 y => ?_) (fun σ H5 p5 => ?_)
    · obtain ⟨rfl, y⟩ := y
      obtain ⟨u3, u5, u6, u7, u8, u9, u10, u11, rfl, sx, hF⟩ := p5
      obtain ⟨dd, hdd, hda⟩ := (hrsF _ sx).get y
      rw [List.getElem?_map] at hdd
      obtain ⟨r, hr, rfl⟩ := Option.map_eq_some_iff.mp hdd
      obtain ⟨a1, b1, c1, rfl, ha1, na1, hb1, nb1, hc1, nc1⟩ := da_res hda
      obtain ⟨o1, o2, o3, o4, o5, o6, o7, o8, o9⟩ := hok r (List.mem_of_getElem? hr)
      have hstep : ∀ y, ((rs.take (i + 1)).map fun r => rcS (seatsL t laps) r y).sum = ((rs.take i).map fun r => rcS (seatsL t laps) r y).sum + rcS (seatsL t laps) r y := fun y => by
        rw [mapTake hr, sum_app]
        simp
      refine ⟨a1, _, rfl, SqT.of ha1, rfl, _, _, rfl, _, _, rfl, _, _, rfl, _, _, rfl, rfl, ?_⟩
      have hSD5 := sx _ _ hSD4 nSF
      refine ⟨_, rfl, _, rfl, SD, _, rfl, DGet.k (k := Sum.inr r.game) hSD5, _, rfl, ?_⟩
      cases hv : valV kvs (Sum.inr r.game) with
      | none =>
        refine ⟨_, _, _, _, _, _, _, _, rfl, sx, ?_⟩
        rw [hF]
        congr 2
        refine tab_congr fun y _ => ?_
        rw [hstep, rcS_miss fun q hq e => ?_]
        · omega
        · have h1 : (Sum.inr r.game : Key) ∈ kvs.map (·.1) := by
            rw [hk1]
            exact List.mem_map.mpr ⟨q, hq, by rw [e]⟩
          obtain ⟨z, hz, ez⟩ := List.mem_map.mp h1
          have : (kvs.any fun kv => decide (kv.1 = Sum.inr r.game)) = true := List.any_eq_true.mpr ⟨z, hz, decide_eq_true ez⟩
          rw [valV_any, hv] at this
          cases this
      | some sv =>
        obtain ⟨m, hm⟩ : ∃ m, kvs[m]? = some ((Sum.inr r.game : Key), sv) := by
          unfold valV at hv
          obtain ⟨z, hz, ez⟩ := Option.map_eq_some_iff.mp hv
          have h1 := List.find?_some hz
          have h2 := List.mem_of_find?_eq_some hz
          obtain ⟨m, hm⟩ := List.getElem?_of_mem h2
          refine ⟨m, by rw [hm, ← ez, ← of_decide_eq_true h1]⟩
        have hmk : ((seatsL t laps).map fun q => (Sum.inr q.1 : Key))[m]? = some (Sum.inr r.game) := by
          rw [← hk1, List.getElem?_map, hm]
          rfl
        rw [List.getElem?_map] at hmk
        obtain ⟨q, hq, eq⟩ := Option.map_eq_some_iff.mp hmk
        have eqg : q.1 = r.game := Sum.inr.inj eq
        have hqm := List.mem_of_getElem? hq
        obtain ⟨dq, hdq, hdaq⟩ := (hkF _ sx).get (i := m) (v := sv) (by rw [List.getElem?_map, hm]; rfl)
        rw [List.getElem?_map, hq] at hdq
        cases hdq
        have hqx : q.2.1 ∈ xs ∧ q.2.2 ∈ xs := by
          obtain ⟨zl, hzl, hz2⟩ := List.mem_flatMap.mp hqm
          obtain ⟨rr, hrr, rfl⟩ := List.mem_map.mp hz2
          have h1 : zl.1 ∈ laps := by
            have := List.mem_map_of_mem (f := Prod.fst) hzl
            rw [List.zipIdx_map_fst] at this
            exact this
          have h2 : rr.1 ∈ zl.1.1 := by
            have := List.mem_map_of_mem (f := Prod.fst) hrr
            rw [List.zipIdx_map_fst] at this
            exact this
          exact hmem _ h1 _ h2
        refine ⟨_, rfl, _, rfl, SD, sv, rfl, .inl ⟨_, Sum.inr r.game, .inl hSD5, rfl, hv.symm⟩, _, rfl, prD q.2, .tuple (r.names.map PyData.str), hdaq.dp, .tup (SqT.of hb1) (DaAll.dp (L := []) (daStrs _)), (shp_pr (k := 0) (hnm _ hqx.1) (hnm _ hqx.2)).ok, (shp_strs o6).ok, _, rfl, ?_⟩
        rw [show PyData.eqv (prD q.2) (.tuple (r.names.map PyData.str)) = decide ([q.2.1, q.2.2] = r.names) from eqv_tup_strs [q.2.1, q.2.2] r.names]
        by_cases hit : [q.2.1, q.2.2] = r.names
        · refine ite_tt hit ?_
          have lnp : r.names.length = r.pts.length := o8.symm
          have hln : (r.names.map V.str).length = r.names.length := List.length_map _
          have hlp : (r.pts.map V.int).length = r.pts.length := List.length_map _
          refine ⟨_, rfl, _, rfl, b1, c1, _, _, rfl, .inr ⟨SqT.of hb1, SqT.of hc1, ?_⟩⟩
          have nbF : b1 ≠ FD := by simpa using nb1
          have ncF : c1 ≠ FD := by simpa using nc1
          refine for_it (walk_zipT (n := r.names.length) hln.symm (by rw [hlp, lnp])) (fun j σ H' => ∃ (u3 u9 : Option V), σ = [some (.ref p), some (.ref a), some (.ref SD), u3, some (.ref FD), some (.str r.game), some (.int r.day), some (.ref b1), some (.ref c1), u9, u10, u11, none] ∧ Sx FD H5' H' ∧
            H' FD = some (.dK (tab xs fun y => ((rs.take i).map fun r => rcS (seatsL t laps) r y).sum + zipP (r.names.take j) (r.pts.take j) y))) ⟨_, _, rfl, Sx.refl _ _, ?_⟩ (fun j σ H' hj ⟨_, _, _, z, _⟩ => ⟨SqT.of (z _ _ hb1 nbF), SqT.of (z _ _ hc1 ncF)⟩) (fun j v σ H6 H6' hj p6 y => ?_) (fun σ H6 p6 => ?_)
          · rw [hF]
            congr 2
            refine tab_congr fun y _ => ?_
            simp [zipP]
          · obtain ⟨w3, w9, rfl, sx6, hF6⟩ := p6
            obtain ⟨T2, x, y, rfl, hT2, rfl, hx, hy⟩ := y
            obtain ⟨nm, hnm1, rfl⟩ := mapAt hx
            obtain ⟨pt, hpt, rfl⟩ := mapAt hy
            have sT2 := same_new (o := .tup [.str nm, .int pt]) hT2
            have hnx : nm ∈ xs := by
              have h1 := List.mem_of_getElem? hnm1
              rw [← hit] at h1
              rcases List.mem_cons.mp h1 with rfl | h1
              · exact hqx.1
              · rw [List.mem_singleton.mp h1]; exact hqx.2
            refine ⟨T2, _, rfl, SqT.of upd_same, rfl, _, _, rfl, _, _, rfl, rfl, ?_⟩
            have hF6' := sT2 _ _ hF6
            refine ⟨_, rfl, _, rfl, FD, _, rfl, .inl ⟨_, Sum.inr nm, .inl hF6', rfl, (tab_val hnx).symm⟩, _, rfl, _, _, rfl, rfl, _, DPut.k (k := Sum.inr nm) hF6' (ltab _), ?_⟩
            rw [tab_put hnx]
            refine ⟨_, _, rfl, (sx6.trans (Sx.of sT2)).trans Sx.set, ?_⟩
            rw [upd_same]
            congr 2
            refine tab_congr fun y _ => ?_
            rw [zipP_take hnm1 hpt]
            unfold bump
            by_cases e : y = nm
            · subst e
              simp
              omega
            · simp [e]
          · obtain ⟨w3, w9, rfl, sx6, hF6⟩ := p6
            refine ⟨_, _, _, _, _, _, _, _, rfl, sx.trans sx6, ?_⟩
            rw [hF6]
            congr 2
            refine tab_congr fun y _ => ?_
            rw [hstep, rcS_hit hnds hqm eqg, List.take_length, lnp, List.take_length]
            congr 1
            unfold hit1
            rw [if_pos ⟨eqg.symm, hit.symm⟩, ← hit]
            have l2 : r.pts.length = 2 := by rw [← lnp, ← hit]; rfl
            match hp : r.pts, l2 with
            | [m1, m2], _ => simp [zipP]
        · refine ite_ff hit ?_
          refine ⟨_, _, _, _, _, _, _, _, rfl, sx, ?_⟩
          rw [hF]
          congr 2
          refine tab_congr fun y _ => ?_
          rw [hstep, rcS_hit hnds hqm eqg]
          unfold hit1
          rw [if_neg fun z => hit z.2.symm]
          omega
    · obtain ⟨u3, u5, u6, u7, u8, u9, u10, u11, rfl, sx, hF⟩ := p5
      rw [lrx, List.take_length] at hF
      have llx : lx.length = laps.length := by rw [hd.len, lapsD, List.length_map]
      refine ⟨_, rfl, p, C, dx, _, _, rfl, keepF _ _ _ sx hp, T.cl, T.n_laps, cf_laps, l, rfl, ⟨_, SqL.of (keepF _ _ _ sx hl)⟩, ?_⟩
      refine for_it walk_list (fun i σ H' => ∃ (u3 u5 u6 u7 u8 u9 u10 u11 : Option V), σ = [some (.ref p), some (.ref a), some (.ref SD), u3, some (.ref FD), u5, u6, u7, u8, u9, u10, u11, none] ∧ Sx FD H4 H' ∧ H' FD = some (.dK (tab xs fun y => (rs.map fun r => rcS (seatsL t laps) r y).sum + ((laps.take i).map (restP y)).sum)))
        ⟨_, _, _, _, _, _, _, _, rfl, sx, ?_⟩ (fun i σ H' hi ⟨_, _, _, _, _, _, _, _, _, z, _⟩ => SqL.of (keepF _ _ _ z hl)) (fun i v σ H6 H6' hi p6 y => ?_) (fun σ H6 p6 => ?_)
      · rw [hF]
        congr 2
        refine tab_congr fun y _ => ?_
        simp
      · obtain ⟨rfl, y⟩ := y
        obtain ⟨w3, w5, w6, w7, w8, w9, w10, w11, rfl, sx6, hF6⟩ := p6
        obtain ⟨dd, e1, e2⟩ := (hdF _ sx6).get y
        rw [lapsD, List.getElem?_map] at e1
        obtain ⟨lp, hlp, rfl⟩ := Option.map_eq_some_iff.mp e1
        obtain ⟨a1, g, ys, rfl, ha1, na, hg, ng, hxs⟩ := da_lap e2
        refine ⟨a1, _, rfl, SqT.of ha1, rfl, _, _, rfl, _, _, rfl, rfl, ?_⟩
        have hstep : ∀ y, ((laps.take (i + 1)).map (restP y)).sum = ((laps.take i).map (restP y)).sum + restP y lp := fun y => by
          rw [mapTake hlp, sum_app]
          simp
        have hm2 := hmem2 lp (List.mem_of_getElem? hlp)
        refine ⟨_, rfl, rfl, _, rfl, ?_⟩
        cases ho : lp.2 with
        | none =>
          refine ⟨_, _, _, _, _, _, _, _, rfl, sx6, ?_⟩
          rw [hF6]
          congr 2
          refine tab_congr fun y _ => ?_
          rw [hstep]
          unfold restP
          rw [ho]
          simp
        | some z =>
          have hzx := hm2 z ho
          refine ⟨_, rfl, _, rfl, FD, _, rfl, .inl ⟨_, Sum.inr z, .inl hF6, rfl, (tab_val hzx).symm⟩, _, _, rfl, rfl, _, DPut.k (k := Sum.inr z) hF6 (ltab _), ?_⟩
          rw [tab_put hzx]
          refine ⟨_, _, _, _, _, _, _, _, rfl, sx6.trans Sx.set, ?_⟩
          rw [upd_same]
          congr 2
          refine tab_congr fun y _ => ?_
          rw [hstep]
          unfold bump restP
          rw [ho]
          by_cases e : y = z
          · subst e
            simp
            omega
          · have e2 : ¬ (some z = some y) := fun q => e (Option.some.inj q).symm
            simp [e, e2]
      · obtain ⟨w3, w5, w6, w7, w8, w9, w10, w11, rfl, sx6, hF6⟩ := p6
        rw [llx, List.take_length] at hF6
        exact ⟨_, rfl, k _ FD (fun q o hq => keepF _ _ _ sx6 hq) hF6 hFD0⟩
end
end MR
namespace MR
open PySem PySem.Spec PyProof.Rows L2 LamX
theorem letterAt0 {i : Nat} (h : i < 26) : atI letters.cps.toList (i : Int) = some (letters.cps.toList.getD i 0) := by
  have := letterAt h
  rwa [show (i : Int) + 1 - 1 = (i : Int) by omega] at this
theorem bump2 {f : Str → Int} {a b y : Str} {s0 s1 : Int} : bump (bump f a (f a + s0)) b (bump f a (f a + s0) b + s1) y = f y + ((if y = a then s0 else 0) + (if y = b then s1 else 0)) := by
  unfold bump
  by_cases h1 : y = b
  · subst h1
    by_cases h2 : y = a
    · subst h2; simp; omega
    · simp [h2]
  · by_cases h2 : y = a
    · subst h2; simp [h1]
    · simp [h1, h2]
theorem dc_pairs {K : PySem.W.Frag} {H : Hp} {ps : List Addr} {kvs : List (Key × V)} (h : Paired (fun (p : Addr) (kv : Key × V) => H p = some (.tup [kV kv.1, kv.2])) ps kvs) : Paired (fun p kv => SqT K H p [kV kv.1, kv.2]) ps kvs := by
  induction h with
  | nil => exact .nil
  | cons q t ih => exact .cons (SqT.of q) ih
abbrev PK1 (H : Hp) (ps : List Addr) (kvs : List (Key × V)) : Prop := Paired (fun (p : Addr) (kv : Key × V) => H p = some (.tup [kV kv.1, kv.2])) ps kvs
theorem PK1.mapH {H H' : Hp} (h : ∀ b xs, H b = some (.tup xs) → H' b = some (.tup xs)) {ps : List Addr} {kvs : List (Key × V)} (p : PK1 H ps kvs) : PK1 H' ps kvs := by
  induction p with
  | nil => exact .nil
  | cons q t ih => exact .cons (h _ _ q) ih
theorem PK1.snoc {H : Hp} {p : Addr} {kv : Key × V} {ps : List Addr} {kvs : List (Key × V)} (q : PK1 H ps kvs) (h1 : H p = some (.tup [kV kv.1, kv.2])) : PK1 H (ps ++ [p]) (kvs ++ [kv]) := by
  induction q with
  | nil => exact .cons h1 .nil
  | cons a t ih => exact .cons a ih
theorem tab_merge {xs : List Str} {f : Str → Int} (h : xs.Nodup) : mergeK [] (tab xs f) = tab xs f := by
  rw [mergeK_new]
  · rfl
  · unfold tab
    rw [List.map_map, List.nodup_iff_pairwise_ne, List.pairwise_map]
    rw [List.nodup_iff_pairwise_ne] at h
    exact h.imp fun h e => h (Sum.inr.inj e)
  · intro q _ q' hq'
    cases hq'
section
variable {P : Program} {w : World} {K : PySem.W.Frag} {mg : Str → Option Value} {base : Heap} {C : Addr}
abbrev N_law_points : List Str := ["_law_title", "_law_laps", "_law_crew_here", "_law_told_here", "_law_letters", "_law_found", "_law_at", "_law_games", "_law_out", "_law_there", "_law_pair", "_law_game", "_law_day", "_law_both", "_law_score", "_law_one"]
abbrev ps_law_points : List Str := ["_law_title", "_law_laps", "_law_crew_here", "_law_told_here"]
theorem sc_law_points : FnScope N_law_points ps_law_points (defScope MH.s_law_points) := ⟨rfl, rfl, rfl, by decide +kernel, rfl, by decide +kernel, by decide +kernel⟩
def sp_law_points : Sp := fun vs H Q _ => ∃ (l c a : Addr) (t : Str) (lx rx : List V) (laps : List Lap) (xs : List Str) (rs : List Res), vs = [.str t, .ref l, .ref c, .ref a] ∧ H c = some (.lst (xs.map V.str)) ∧ xs.Nodup ∧ xs.length ≤ 20 ∧ (∀ x ∈ xs, NameOk x) ∧
  H l = some (.lst lx) ∧ DaAll [] H lx (lapsD laps) ∧ laps.length ≤ 20 ∧ (∀ q ∈ laps, q.1.length ≤ 20) ∧ (∀ q ∈ laps, ∀ g ∈ q.1, g.1 ∈ xs ∧ g.2 ∈ xs) ∧ (∀ q ∈ laps, ∀ x, q.2 = some x → x ∈ xs) ∧ t.length ≤ 8 ∧
  H a = some (.lst rx) ∧ DaAll [] H rx (rs.map resD) ∧ rs.length ≤ 1000 ∧ (∀ r ∈ rs, ResOk r) ∧
  ∀ (H' : Hp) (D : Addr), Same H H' → H' D = some (.dK (tab xs (ptsLaw t laps rs))) → H D = none → Q (.ref D) H'
theorem ok_law_points (T : Txt K mg C) : Ok P w K mg base CX0 1 "_law_points" ps_law_points sp_law_points := by
  refine T.d_law_points.ok sc_law_points (fun vs H Q E h => ?_) (fun _ _ _ _ _ _ us hl => match us, hl with | [_, _, _, _], _ => rfl)
    (fun f cdv A outer s H vs Q E hr h => ?_)
  · obtain ⟨_, _, _, _, _, _, _, _, _, rfl, _⟩ := h
    rfl
  · obtain ⟨l, c, a, t, lx, rx, laps, xs, rs, rfl, hc, hnd, lxs, hnm, hl, hd, ll, l20, hmem, hmem2, ht, ha, hrs, lrs, hok, k⟩ := h
    refine ⟨_, PSs.nox (pss_cons (ps_set (i := 4) sc_law_points.nd rfl (Or.inl rfl) pe_str)
        (pss_cons (ps_set (i := 5) sc_law_points.nd rfl (Or.inl rfl) (pe_callTy (call_dictP rfl) (by rfl) T.b_dict (by decide +kernel) (pa_cons (pe_lc (own := [("_law_one", 15)]) (g := (gName 15)) (tt := tYes) rfl sc_law_points.nd (pi_list (pv 2)) (blkOk_by (own := [("_law_one", 15)]) (N := N_law_points) (sc := defScope MH.s_law_points) (by decide +kernel)) (fun _ _ _ _ _ => (pg_name (i := 15) sc_law_points.nd rfl (Or.inl rfl))) (fun _ _ _ _ _ => pts_nil) (fun _ _ _ _ _ => (pe_tup (pa_cons (pv 15) (pa_cons pe_int pa_nil))))) pa_nil)))
        (pss_cons (ps_for PassesOwn.never rfl (pi_enum (by rfl) T.b_enumerate (pa_cons (pv 1) pa_nil)) (pg_tup rfl (pgs_cons (pg_name (i := 6) sc_law_points.nd rfl (Or.inl rfl)) (pgs_cons (pg_tup rfl (pgs_cons (pg_name (i := 7) sc_law_points.nd rfl (Or.inl rfl)) (pgs_cons (pg_name (i := 8) sc_law_points.nd rfl (Or.inl rfl)) pgs_nil))) pgs_nil))) (pss_cons (ps_join (ps_if (pt_cmpR op_notN (pv 8) pe_non (nomark _)) (pss_one (ps_dput (hu_of hr) (pv 5) (pv 8) (pe_op op_add (pe_dget (hu_of hr) (pv 5) (pv 8) (fun _ _ => rfl)) pe_int) rfl)) pss_nil))
        (pss_one (ps_for PassesOwn.never rfl (pi_enum (by rfl) T.b_enumerate (pa_cons (pv 7) pa_nil)) (pg_tup rfl (pgs_cons (pg_name (i := 9) sc_law_points.nd rfl (Or.inl rfl)) (pgs_cons (pg_name (i := 10) sc_law_points.nd rfl (Or.inl rfl)) pgs_nil))) (pss_one (ps_for PassesOwn.never rfl (pi_list (pv 3)) (pg_tup rfl (pgs_cons (pg_name (i := 11) sc_law_points.nd rfl (Or.inl rfl)) (pgs_cons (pg_name (i := 12) sc_law_points.nd rfl (Or.inl rfl)) (pgs_cons (pg_name (i := 13) sc_law_points.nd rfl (Or.inl rfl)) (pgs_cons (pg_name (i := 14) sc_law_points.nd rfl (Or.inl rfl)) pgs_nil))))) (pss_one (ps_if (PW.pt (pw_and (pt_cmpR op_eq (pv 11) (pe_op op_add_str (pe_op op_add_str (pv 0) (pe_ix ix_str (pv 4) (pv 6) (fun _ _ => rfl))) (pe_ix ix_str (pv 4) (pv 9) (fun _ _ => rfl))) (nomark _)) (pw_and1 (pt_cmpR (op_eqD hr.units) (pv 13) (pv 10) (nomark _))))) (pss_cons (ps_dput (hu_of hr) (pv 5) (pe_ix ix_tup (pv 10) pe_int (fun _ _ => rfl)) (pe_op op_add (pe_dget (hu_of hr) (pv 5) (pe_ix ix_tup (pv 10) pe_int (fun _ _ => rfl)) (fun _ _ => rfl)) (pe_ix ix_tup (pv 14) pe_int (fun _ _ => rfl))) rfl)
        (pss_one (ps_dput (hu_of hr) (pv 5) (pe_ix ix_tup (pv 10) pe_int (fun _ _ => rfl)) (pe_op op_add (pe_dget (hu_of hr) (pv 5) (pe_ix ix_tup (pv 10) pe_int (fun _ _ => rfl)) (fun _ _ => rfl)) (pe_ix ix_tup (pv 14) pe_int (fun _ _ => rfl))) rfl))) pss_nil))))))))
        (pss_one (ps_ret (pv 5))))))
      , ?_⟩
    have lrx : rx.length = rs.length := by rw [hrs.len, List.length_map]
    have llx : lx.length = laps.length := by rw [hd.len, lapsD, List.length_map]
    have hl0 : (xs.map V.str).length = xs.length := List.length_map _
    have l26 : letters.length ≤ sizeLine := by rw [sizeLine_eq]; decide +kernel
    have hszl := szl
    refine ⟨_, rfl, c, rfl, ⟨_, SqL.of hc⟩, fun D hD => ?_⟩
    refine lc_L walk_list (fun i acc H' => Same H H' ∧ ∃ ps, acc = ps.map V.ref ∧ PK1 H' ps (tab (xs.take i) fun _ => 0)) ⟨same_new hD, [], rfl, .nil⟩ (fun i acc H' _ p => SqL.of (p.1 _ _ hc)) (fun i v acc H1 H1' hi hacc hal p y => ?_) (fun acc H1 hacc hal p => ?_)
    · obtain ⟨rfl, y⟩ := y
      obtain ⟨s1, ps, rfl, hps⟩ := p
      obtain ⟨x, hx, rfl⟩ := mapAt y
      refine ⟨rfl, _, rfl, sl2, fun t1 ht1 => ?_⟩
      have r1 := same_new (o := .tup [.str x, .int 0]) ht1
      refine putL (r1 _ _ hacc) hal (by omega) ⟨same_upd hD (s1.trans r1), ps ++ [t1], by rw [List.map_append]; rfl, ?_⟩
      have ht1D : t1 ≠ D := fun z => by rw [z, hacc] at ht1; cases ht1
      unfold tab
      rw [mapTake hx]
      refine PK1.snoc (hps.mapH fun b ys e => ?_) ?_
      · rw [upd_ne (fun z => by rw [z, hacc] at e; cases e)]
        exact r1 _ _ e
      · rw [upd_ne ht1D]
        exact upd_same
    obtain ⟨s1, ps, rfl, hps⟩ := p
    rw [hl0, List.take_length] at hps
    refine ⟨D, ps, _, rfl, SqL.of hacc, dc_pairs hps, fun FD hFD => ?_⟩
    rw [tab_merge hnd]
    have s2 := s1.trans (same_new (o := .dK (tab xs fun _ => 0)) hFD)
    have e4 : upd H1 FD (.dK (tab xs fun _ => 0)) FD = some (.dK (tab xs fun _ => 0)) := upd_same
    generalize upd H1 FD (.dK (tab xs fun _ => 0)) = H4 at *
    have hFD0 : H FD = none := s1.free hFD
    have keepF : ∀ (H' : Hp) (q : Addr) (o : HO), Sx FD H4 H' → H q = some o → H' q = some o := fun H' q o sx hq => sx _ _ (s2 _ _ hq) (ne_of_none hq hFD0)
    have hrsF : ∀ (H' : Hp), Sx FD H4 H' → DaAll [FD] H' rx (rs.map resD) := fun H' sx => ((hrs.more hFD0).same s2).sx sx (by simp)
    have hdF : ∀ (H' : Hp), Sx FD H4 H' → DaAll [FD] H' lx (lapsD laps) := fun H' sx => ((hd.more hFD0).same s2).sx sx (by simp)
    have ltab : ∀ f, (tab xs f).length < sizeLine := fun f => by
      unfold tab
      rw [List.length_map]
      omega
    refine ⟨_, rfl, l, _, rfl, SqL.of (s2 _ _ hl), ?_⟩
    refine for_it walk_enum (fun i σ H' => ∃ (u6 u7 u8 u9 u10 u11 u12 u13 u14 : Option V), σ = [some (.str t), some (.ref l), some (.ref c), some (.ref a), some (.str letters), some (.ref FD), u6, u7, u8, u9, u10, u11, u12, u13, u14, none] ∧ Sx FD H4 H' ∧ H' FD = some (.dK (tab xs fun y => ((laps.zipIdx.take i).map (lapPts t rs y)).sum)))
      ⟨_, _, _, _, _, _, _, _, _, rfl, Sx.refl _ _, e4⟩ (fun i σ H' hi ⟨_, _, _, _, _, _, _, _, _, _, z, _⟩ => SqL.of (keepF _ _ _ z hl)) (fun i v σ H5 H5' hi p5 y => ?_) (fun σ H5 p5 => ?_)
    · obtain ⟨u6, u7, u8, u9, u10, u11, u12, u13, u14, rfl, sx, hF⟩ := p5
      obtain ⟨T1, x, y, rfl, hT1, rfl, hx, hy⟩ := y
      cases hx
      have sT := same_new (o := .tup [.int (i : Nat), y]) hT1
      obtain ⟨dd, e1, e2⟩ := ((hdF _ sx).same sT).get hy
      rw [lapsD, List.getElem?_map] at e1
      obtain ⟨lp, hlp, rfl⟩ := Option.map_eq_some_iff.mp e1
      obtain ⟨a1, g, gx, rfl, ha1, na1, hg, ng, hgx⟩ := da_lap e2
      have hzi := zi_at hlp
      have hi20 : i < 20 := by omega
      have hg20 : lp.1.length ≤ 20 := l20 lp (List.mem_of_getElem? hlp)
      have lgx : gx.length = lp.1.length := by rw [hgx.len, List.length_map]
      have hm2 := hmem2 lp (List.mem_of_getElem? hlp)
      have hm1 := hmem lp (List.mem_of_getElem? hlp)
      have ngF : g ≠ FD := by simpa using ng
      refine ⟨T1, _, rfl, SqT.of upd_same, rfl, _, _, rfl, _, _, rfl, a1, _, rfl, SqT.of ha1, rfl, _, _, rfl, _, _, rfl, rfl, rfl, ?_⟩
      have hF' := sT _ _ hF
      have sx5 := sx.trans (Sx.of sT)
      generalize upd H5 T1 (.tup [.int (i : Nat), .ref a1]) = H6 at *
      refine ⟨fun σ' H' => σ' = [some (.str t), some (.ref l), some (.ref c), some (.ref a), some (.str letters), some (.ref FD), some (.int (i : Nat)), some (.ref g), some (oV lp.2), u9, u10, u11, u12, u13, u14, none] ∧ Sx FD H6 H' ∧ H' FD = some (.dK (tab xs fun y => ((laps.zipIdx.take i).map (lapPts t rs y)).sum + restP y lp)), ?_, ?_⟩
      · refine ⟨_, rfl, rfl, _, rfl, ?_⟩
        cases ho : lp.2 with
        | none =>
          refine ⟨rfl, Sx.refl _ _, ?_⟩
          rw [hF']
          congr 2
          refine tab_congr fun y _ => ?_
          unfold restP
          rw [ho]
          simp
        | some z =>
          have hzx := hm2 z ho
          refine ⟨_, rfl, _, rfl, FD, _, rfl, .inl ⟨_, Sum.inr z, .inl hF', rfl, (tab_val hzx).symm⟩, _, _, rfl, rfl, _, rfl, _, rfl, FD, _, rfl, DPut.k (k := Sum.inr z) hF' (ltab _), ?_⟩
          rw [tab_put hzx]
          refine ⟨rfl, Sx.set, ?_⟩
          rw [upd_same]
          congr 2
          refine tab_congr fun y _ => ?_
          unfold bump restP
          rw [ho]
          by_cases e : y = z
          · subst e
            simp
          · have e2 : ¬ (some z = some y) := fun q => e (Option.some.inj q).symm
            simp [e, e2]
      · rintro σ' H7 ⟨rfl, sx7, hF7⟩
        have hg7 := sx7 _ _ hg ngF
        refine ⟨_, rfl, g, _, rfl, SqL.of hg7, ?_⟩
        have sx47 : Sx FD H4 H7 := sx5.trans sx7
        refine for_it walk_enum (fun j σ H' => ∃ (u9 u10 u11 u12 u13 u14 : Option V), σ = [some (.str t), some (.ref l), some (.ref c), some (.ref a), some (.str letters), some (.ref FD), some (.int (i : Nat)), some (.ref g), some (oV lp.2), u9, u10, u11, u12, u13, u14, none] ∧ Sx FD H7 H' ∧
          H' FD = some (.dK (tab xs fun y => ((laps.zipIdx.take i).map (lapPts t rs y)).sum + restP y lp + ((lp.1.zipIdx.take j).map fun z => (rs.map fun r => hit1 (gname t i z.2, z.1) r y).sum).sum)))
          ⟨_, _, _, _, _, _, rfl, Sx.refl _ _, ?_⟩ (fun j σ H' hj ⟨_, _, _, _, _, _, _, z, _⟩ => SqL.of (z _ _ hg7 ngF)) (fun j v σ H8 H8' hj p8 y => ?_) (fun σ H8 p8 => ?_)
        · rw [hF7]
          congr 2
          refine tab_congr fun y _ => ?_
          simp
        · obtain ⟨w9, w10, w11, w12, w13, w14, rfl, sx8, hF8⟩ := p8
          obtain ⟨T2, x2, y2, rfl, hT2, rfl, hx2, hy2⟩ := y
          cases hx2
          have sT2 := same_new (o := .tup [.int (j : Nat), y2]) hT2
          have hgx8 : DaAll [FD] H8 gx (lp.1.map prD) := (hgx.sx sx7 (by simp)).sx sx8 (by simp)
          obtain ⟨dd, e1, e2⟩ := (hgx8.same sT2).get hy2
          rw [List.getElem?_map] at e1
          obtain ⟨pr, hpr, rfl⟩ := Option.map_eq_some_iff.mp e1
          obtain ⟨ap, rfl, hap, nap⟩ := da_pr e2
          obtain ⟨px1, px2⟩ := hm1 pr (List.mem_of_getElem? hpr)
          have napF : ap ≠ FD := by simpa using nap
          have hj20 : j < 20 := by omega
          refine ⟨T2, _, rfl, SqT.of upd_same, rfl, _, _, rfl, _, _, rfl, rfl, ?_⟩
          have hF8' := sT2 _ _ hF8
          have sx48 : Sx FD H4 (upd H8 T2 (.tup [.int (j : Nat), .ref ap])) := (sx47.trans sx8).trans (Sx.of sT2)
          have sx78 : Sx FD H7 (upd H8 T2 (.tup [.int (j : Nat), .ref ap])) := sx8.trans (Sx.of sT2)
          generalize upd H8 T2 (.tup [.int (j : Nat), .ref ap]) = H9 at *
          refine ⟨_, rfl, a, rfl, ⟨_, SqL.of (keepF _ _ _ sx48 ha)⟩, ?_⟩
          refine for_it walk_list (fun m σ H' => ∃ (u11 u12 u13 u14 : Option V), σ = [some (.str t), some (.ref l), some (.ref c), some (.ref a), some (.str letters), some (.ref FD), some (.int (i : Nat)), some (.ref g), some (oV lp.2), some (.int (j : Nat)), some (.ref ap), u11, u12, u13, u14, none] ∧ Sx FD H9 H' ∧
            H' FD = some (.dK (tab xs fun y => ((laps.zipIdx.take i).map (lapPts t rs y)).sum + restP y lp + ((lp.1.zipIdx.take j).map fun z => (rs.map fun r => hit1 (gname t i z.2, z.1) r y).sum).sum + ((rs.take m).map fun r => hit1 (gname t i j, pr) r y).sum)))
            ⟨_, _, _, _, rfl, Sx.refl _ _, ?_⟩ (fun m σ H' hm ⟨_, _, _, _, _, z, _⟩ => SqL.of (keepF _ _ _ (sx48.trans z) ha)) (fun m v σ H10 H10' hm p10 y => ?_) (fun σ H10 p10 => ?_)
          · rw [hF8']
            congr 2
            refine tab_congr fun y _ => ?_
            simp
          · obtain ⟨rfl, y⟩ := y
            obtain ⟨v11, v12, v13, v14, rfl, sx10, hF10⟩ := p10
            have sx410 := sx48.trans sx10
            obtain ⟨dd, hdd, hda⟩ := (hrsF _ sx410).get y
            rw [List.getElem?_map] at hdd
            obtain ⟨r, hr, rfl⟩ := Option.map_eq_some_iff.mp hdd
            obtain ⟨ar, br, cr, rfl, har, nar, hbr, nbr, hcr, ncr⟩ := da_res hda
            obtain ⟨o1, o2, o3, o4, o5, o6, o7, o8, o9⟩ := hok r (List.mem_of_getElem? hr)
            have hap10 := sx10 _ _ hap napF
            have ncrF : cr ≠ FD := by simpa using ncr
            have hstep : ∀ y, ((rs.take (m + 1)).map fun r => hit1 (gname t i j, pr) r y).sum = ((rs.take m).map fun r => hit1 (gname t i j, pr) r y).sum + hit1 (gname t i j, pr) r y := fun y => by
              rw [mapTake hr, sum_app]
              simp
            have miss : ¬ (r.game = gname t i j ∧ r.names = [pr.1, pr.2]) → ∀ (w11 w12 w13 w14 : Option V), ∃ (u11 u12 u13 u14 : Option V), [some (V.str t), some (.ref l), some (.ref c), some (.ref a), some (.str letters), some (.ref FD), some (.int (i : Nat)), some (.ref g), some (oV lp.2), some (.int (j : Nat)), some (.ref ap), w11, w12, w13, w14, none] = [some (V.str t), some (.ref l), some (.ref c), some (.ref a), some (.str letters), some (.ref FD), some (.int (i : Nat)), some (.ref g), some (oV lp.2), some (.int (j : Nat)), some (.ref ap), u11, u12, u13, u14, none] ∧ Sx FD H9 H10' ∧
                H10' FD = some (.dK (tab xs fun y => ((laps.zipIdx.take i).map (lapPts t rs y)).sum + restP y lp + ((lp.1.zipIdx.take j).map fun z => (rs.map fun r => hit1 (gname t i z.2, z.1) r y).sum).sum + ((rs.take (m + 1)).map fun r => hit1 (gname t i j, pr) r y).sum)) := fun hn w11 w12 w13 w14 => by
              refine ⟨_, _, _, _, rfl, sx10, ?_⟩
              rw [hF10]
              congr 2
              refine tab_congr fun y _ => ?_
              rw [hstep]
              have : hit1 (gname t i j, pr) r y = 0 := by
                unfold hit1
                rw [if_neg hn]
              rw [this]
              omega
            refine ⟨ar, _, rfl, SqT.of har, rfl, _, _, rfl, _, _, rfl, _, _, rfl, _, _, rfl, rfl, ?_⟩
            have li : (letterS i).length = 1 := rfl
            have lj : (letterS j).length = 1 := rfl
            refine ⟨_, rfl, _, rfl, _, rfl, _, rfl, letters, _, _, rfl, rfl, l26, letterAt0 (by omega), _, _, rfl, rfl, by show t.length + (letterS i).length ≤ sizeLine; omega, _, rfl, _, rfl, letters, _, _, rfl, rfl, l26, letterAt0 (by omega), _, _, rfl, rfl, by show (t ++ letterS i).length + (letterS j).length ≤ sizeLine; rw [len_app]; omega, rfl, _, rfl, ?_⟩
            have eg : (V.str r.game = V.str ((t ++ (⟨#[letters.cps.toList.getD i 0]⟩ : Str)) ++ (⟨#[letters.cps.toList.getD j 0]⟩ : Str))) ↔ r.game = gname t i j := ⟨fun z => V.str.inj z, fun z => by rw [z]; rfl⟩
            by_cases g1 : r.game = gname t i j
            · refine ite_tt (eg.mpr g1) ?_
              refine ⟨_, rfl, _, rfl, .tuple (r.names.map PyData.str), prD pr, .tup (SqT.of hbr) (DaAll.dp (L := []) (daStrs _)), .tup (SqT.of hap10) (DaAll.dp (L := []) (daStrs [pr.1, pr.2])), (shp_strs o6).ok, (shp_pr (k := 0) (hnm _ px1) (hnm _ px2)).ok, _, rfl, ?_⟩
              rw [show PyData.eqv (.tuple (r.names.map PyData.str)) (prD pr) = decide (r.names = [pr.1, pr.2]) from eqv_tup_strs r.names [pr.1, pr.2]]
              by_cases g2 : r.names = [pr.1, pr.2]
              · refine ite_tt g2 ?_
                have l2 : r.pts.length = 2 := by rw [o8, g2]; rfl
                obtain ⟨s0, s1', hsp⟩ : ∃ s0 s1', r.pts = [s0, s1'] := by
                  match hp : r.pts, l2 with
                  | [m1, m2], _ => exact ⟨m1, m2, rfl⟩
                rw [hsp] at hcr
                -- found[pair[0]] = found[pair[0]] + score[0]
                refine ⟨_, rfl, _, rfl, ap, _, 0, _, rfl, rfl, SqT.of hap10, at_of (j := 0) (v := V.str pr.1) rfl rfl, FD, _, rfl, .inl ⟨_, Sum.inr pr.1, .inl hF10, rfl, (tab_val px1).symm⟩, ?_⟩
                refine ⟨_, rfl, cr, _, 0, _, rfl, rfl, SqT.of hcr, at_of (j := 0) (v := V.int s0) rfl rfl, _, _, rfl, rfl, ?_⟩
                refine ⟨_, rfl, _, rfl, ap, _, 0, _, rfl, rfl, SqT.of hap10, at_of (j := 0) (v := V.str pr.1) rfl rfl, FD, _, rfl, DPut.k (k := Sum.inr pr.1) hF10 (ltab _), ?_⟩
                rw [tab_put px1]
                have hcr11 : ∀ o, upd H10' FD o cr = some (.tup ([s0, s1'].map V.int)) := fun o => (upd_ne ncrF).trans hcr
                have hap12 : ∀ o, upd H10' FD o ap = some (.tup [.str pr.1, .str pr.2]) := fun o => (upd_ne napF).trans hap10
                refine ⟨_, rfl, _, rfl, ap, _, 1, _, rfl, rfl, SqT.of (hap12 _), at_of (j := 1) (v := V.str pr.2) rfl rfl, FD, _, rfl, .inl ⟨_, Sum.inr pr.2, .inl upd_same, rfl, (tab_val px2).symm⟩, ?_⟩
                refine ⟨_, rfl, cr, _, 1, _, rfl, rfl, SqT.of (hcr11 _), at_of (j := 1) (v := V.int s1') rfl rfl, _, _, rfl, rfl, ?_⟩
                refine ⟨_, rfl, _, rfl, ap, _, 1, _, rfl, rfl, SqT.of (hap12 _), at_of (j := 1) (v := V.str pr.2) rfl rfl, FD, _, rfl, DPut.k (k := Sum.inr pr.2) upd_same (ltab _), ?_⟩
                rw [tab_put px2]
                refine ⟨_, _, _, _, rfl, (sx10.trans Sx.set).trans Sx.set, ?_⟩
                rw [upd_same]
                congr 2
                refine tab_congr fun y _ => ?_
                have hh : hit1 (gname t i j, pr) r y = (if y = pr.1 then s0 else 0) + (if y = pr.2 then s1' else 0) := by
                  unfold hit1
                  rw [if_pos ⟨g1, g2⟩, hsp]
                  rfl
                rw [hstep, bump2, hh]
                omega
              · exact ite_ff g2 (miss (fun z => g2 z.2) _ _ _ _)
            · exact ite_ff (fun z => g1 (eg.mp z)) (miss (fun z => g1 z.1) _ _ _ _)
          · obtain ⟨v11, v12, v13, v14, rfl, sx10, hF10⟩ := p10
            rw [lrx, List.take_length] at hF10
            refine ⟨_, _, _, _, _, _, rfl, sx78.trans sx10, ?_⟩
            rw [hF10]
            congr 2
            refine tab_congr fun y _ => ?_
            rw [mapTake (zi_at hpr), sum_app]
            simp
            omega
        · obtain ⟨w9, w10, w11, w12, w13, w14, rfl, sx8, hF8⟩ := p8
          refine ⟨_, _, _, _, _, _, _, _, _, rfl, sx47.trans sx8, ?_⟩
          rw [lgx, ← List.length_zipIdx (l := lp.1), List.take_length] at hF8
          rw [hF8]
          congr 2
          refine tab_congr fun y _ => ?_
          rw [mapTake hzi, sum_app]
          have hh : lapPts t rs y (lp, i) = restP y lp + (lp.1.zipIdx.map fun z => (rs.map fun r => hit1 (gname t i z.2, z.1) r y).sum).sum := by
            simp [lapPts, seatsAt, List.map_map, Function.comp_def]
          rw [List.sum_cons, List.sum_nil, hh]
          omega
    · obtain ⟨u6, u7, u8, u9, u10, u11, u12, u13, u14, rfl, sx, hF⟩ := p5
      rw [llx, ← List.length_zipIdx (l := laps), List.take_length] at hF
      exact ⟨_, rfl, k _ FD (fun q o hq => keepF _ _ _ sx hq) hF hFD0⟩
end
end MR
namespace MR
open PySem PySem.Spec PyProof.Rows L2 LamX
section
variable {J J1 : It} {n n1 : Nat} {G G1 : Hp → Prop} {Y Y1 : Nat → Hp → V → Hp → Prop} {g g1 : TG} {tt tt1 : TT} {te : TE} {wi1 : TI} {vs vs1 : List Nat} {σ σ2 : L2.St} {H1 : Hp} {D : Addr} {Qd Nx : Hp → Prop}
theorem lc2_in (w : Walk J1 n1 G1 Y1) (Pv : Nat → Hp → Prop) (h0 : Pv 0 H1) (hG : ∀ i H, i ≤ n1 → Pv i H → G1 H)
    (hs : ∀ j x H H', j < n1 → Pv j H → Y1 j H x H' → g1 x (wipe σ2 vs1) H' fun σ3 H5 => wipe σ3 vs1 = wipe σ2 vs1 ∧ tt1 σ3 H5 fun b H6 =>
      if b = true then te σ3 H6 fun y H7 => ∃ acc, H7 D = some (.lst acc) ∧ acc.length < sizeLine ∧ Pv (j + 1) (upd H7 D (.lst (acc ++ [y]))) else Pv (j + 1) H6) (hd : ∀ H, Pv n1 H → Nx H) :
    ∃ W1 : Nat → Nat → Hp → Prop, (∃ m, W1 0 m H1) ∧ ∀ j k H, W1 j k H →
      (J1.stop j H ∧ Nx H) ∨ (J1.go j H ∧ ∃ Nx1 : Hp → Prop, (∀ H', Nx1 H' → ∃ k', k' < k ∧ W1 (j + 1) k' H') ∧ ∀ x H', J1.yld j H x H' → g1 x (wipe σ2 vs1) H' fun σ3 H5 => wipe σ3 vs1 = wipe σ2 vs1 ∧ tt1 σ3 H5 fun b H6 =>
        if b = true then te σ3 H6 fun y H7 => ∃ acc, H7 D = some (.lst acc) ∧ acc.length < sizeLine ∧ Nx1 (upd H7 D (.lst (acc ++ [y]))) else Nx1 H6) := by
  refine ⟨fun i m H => m = n1 - i ∧ i ≤ n1 ∧ Pv i H, ⟨n1, by simp, Nat.zero_le _, h0⟩, ?_⟩
  rintro i m H ⟨rfl, hi, p⟩
  by_cases hlt : i < n1
  · exact .inr ⟨w.goes i H hlt (hG i H hi p), Pv (i + 1), fun H' p' => ⟨n1 - (i + 1), by omega, rfl, hlt, p'⟩, fun x H' y => hs i x H H' hlt p (w.yields i H x H' hlt (hG i H hi p) y)⟩
  · have e : i = n1 := by omega
    subst e
    exact .inl ⟨w.stops H (hG i H hi p), hd H p⟩
theorem lc2_out (w : Walk J n G Y) (Pv : Nat → Hp → Prop) (h0 : Pv 0 (upd H1 D (.lst []))) (hG : ∀ i H, i ≤ n → Pv i H → G H)
    (hs : ∀ i x H H', i < n → Pv i H → Y i H x H' → g x (wipe σ vs) H' fun σ2 H2 => wipe σ2 vs = wipe σ vs ∧ tt σ2 H2 fun b H3 =>
      if b = true then wi1 σ2 H3 fun J1 H4 => ∃ W1 : Nat → Nat → Hp → Prop, (∃ m, W1 0 m H4) ∧ ∀ j k H, W1 j k H →
        (J1.stop j H ∧ Pv (i + 1) H) ∨ (J1.go j H ∧ ∃ Nx1 : Hp → Prop, (∀ H', Nx1 H' → ∃ k', k' < k ∧ W1 (j + 1) k' H') ∧ ∀ x H', J1.yld j H x H' → g1 x (wipe σ2 vs1) H' fun σ3 H5 => wipe σ3 vs1 = wipe σ2 vs1 ∧ tt1 σ3 H5 fun b H6 =>
          if b = true then te σ3 H6 fun y H7 => ∃ acc, H7 D = some (.lst acc) ∧ acc.length < sizeLine ∧ Nx1 (upd H7 D (.lst (acc ++ [y]))) else Nx1 H6)
      else Pv (i + 1) H3) (hd : ∀ H, Pv n H → Qd H) :
    ∃ W : Nat → Nat → Hp → Prop, (∃ m, W 0 m (upd H1 D (.lst []))) ∧ ∀ i m H, W i m H →
      (J.stop i H ∧ Qd H) ∨ (J.go i H ∧ ∃ Nx : Hp → Prop, (∀ H', Nx H' → ∃ m', m' < m ∧ W (i + 1) m' H') ∧ ∀ x H', J.yld i H x H' → g x (wipe σ vs) H' fun σ2 H2 => wipe σ2 vs = wipe σ vs ∧ tt σ2 H2 fun b H3 =>
        if b = true then wi1 σ2 H3 fun J1 H4 => ∃ W1 : Nat → Nat → Hp → Prop, (∃ m, W1 0 m H4) ∧ ∀ j k H, W1 j k H →
          (J1.stop j H ∧ Nx H) ∨ (J1.go j H ∧ ∃ Nx1 : Hp → Prop, (∀ H', Nx1 H' → ∃ k', k' < k ∧ W1 (j + 1) k' H') ∧ ∀ x H', J1.yld j H x H' → g1 x (wipe σ2 vs1) H' fun σ3 H5 => wipe σ3 vs1 = wipe σ2 vs1 ∧ tt1 σ3 H5 fun b H6 =>
            if b = true then te σ3 H6 fun y H7 => ∃ acc, H7 D = some (.lst acc) ∧ acc.length < sizeLine ∧ Nx1 (upd H7 D (.lst (acc ++ [y]))) else Nx1 H6)
        else Nx H3) := by
  refine ⟨fun i m H => m = n - i ∧ i ≤ n ∧ Pv i H, ⟨n, by simp, Nat.zero_le _, h0⟩, ?_⟩
  rintro i m H ⟨rfl, hi, p⟩
  by_cases hlt : i < n
  · exact .inr ⟨w.goes i H hlt (hG i H hi p), Pv (i + 1), fun H' p' => ⟨n - (i + 1), by omega, rfl, hlt, p'⟩, fun x H' y => hs i x H H' hlt p (w.yields i H x H' hlt (hG i H hi p) y)⟩
  · have e : i = n := by omega
    subst e
    exact .inl ⟨w.stops H (hG i H hi p), hd H p⟩
end
theorem vals_app {vs zs : List V} {us ws : List Value} (h1 : Vals vs us) (h2 : Vals zs ws) : Vals (vs ++ zs) (us ++ ws) := by
  induction h1 with
  | nil => exact h2
  | cons a b ih => exact .cons a ih
/-- none of the things that stand (tables aside) -/
def New (H : Hp) (p : Addr) : Prop := ∀ o, NT o → H p ≠ some o
/-! what the rounds so far hold -/
def metL (laps : List Lap) : List Pr := laps.flatMap (·.1)
def satL (laps : List Lap) : List Str := laps.filterMap (·.2)
def fstC (met : List Pr) (x : Str) : Int := ((met.filter fun g => decide (g.1 = x)).length : Nat)
def LapOk (xs : List Str) (l : Lap) : Prop := l.1.length ≤ 5 ∧ (∀ g ∈ l.1, g.1 ∈ xs ∧ g.2 ∈ xs ∧ g.1 ≠ g.2) ∧ ∀ x, l.2 = some x → x ∈ xs
theorem metL_len {laps : List Lap} {xs : List Str} (h : ∀ l ∈ laps, LapOk xs l) : (metL laps).length ≤ laps.length * 5 := flatMap_len fun l hl => (h l hl).1
section
variable {P : Program} {w : World} {K : PySem.W.Frag} {mg : Str → Option Value} {base : Heap} {C : Addr} {cp Pp cb Pb CN CO : Addr}
abbrev N_C_pair : List Str := ["self", "points", "pairs", "firsts", "rests", "lap", "games", "out", "pair", "name", "one", "other"]
abbrev ps_C_pair : List Str := ["self", "points"]
theorem sc_C_pair : FnScope N_C_pair ps_C_pair (defScope MH.s_C_pair) := ⟨rfl, rfl, rfl, by decide +kernel, rfl, by decide +kernel, by decide +kernel⟩
def sp_pair (C Pp Pb CN CO : Addr) : Sp := fun vs H Q E => ∃ (p e l d : Addr) (t : Str) (b : Int) (lx : List V) (laps : List Lap) (xs : List Str) (f : Str → Int) (L : List Addr), vs = [.ref p, .ref d] ∧ CupAt C H p t e b l ∧ H e = some (.lst (xs.map V.str)) ∧
  2 ≤ xs.length ∧ xs.length ≤ 10 ∧ (∀ x ∈ xs, NameOk x) ∧ xs.Nodup ∧ H d = some (.dK (tab xs f)) ∧ (∀ x ∈ xs, 0 ≤ f x ∧ f x ≤ 100) ∧ H l = some (.lst lx) ∧ DaAll [l] H lx (lapsD laps) ∧ laps.length ≤ 9 ∧ (∀ q ∈ laps, LapOk xs q) ∧ Lv L H ∧ Tabs (TT2 Pp Pb) H ∧
  (b ≤ (laps.length : Int) → ∀ H', ExtN H H' → Tabs (TT2 Pp Pb) H' → E (.ref CO) none H') ∧
  ((laps.length : Int) < b → ∀ H', ExtN H H' → Tabs (TT2 Pp Pb) H' → PR (scI xs f) (barS xs (metL laps)) (pls xs.length) (spareL xs f (satL laps)) none → E (.ref CN) none H') ∧
  ((laps.length : Int) < b → ∀ (H' : Hp) (tt g2 : Addr) (ys : List V) (v : V) (r : Option Int × List Ip), PR (scI xs f) (barS xs (metL laps)) (pls xs.length) (spareL xs f (satL laps)) (some r) →
    Fr [l] H H' → Tabs (TT2 Pp Pb) H' → H' l = some (.lst (lx ++ [v])) → Da (g2 :: l :: L) H' v (lapD (lapOf xs (fstC (metL laps)) r)) → H' tt = some (.tup [.ref g2, oV (lapOf xs (fstC (metL laps)) r).2]) → H' g2 = some (.lst ys) → DaAll (g2 :: l :: L) H' ys ((lapOf xs (fstC (metL laps)) r).1.map prD) → New H tt → New H g2 → Q (.ref tt) H')
theorem ok_pair (T : Txt K mg C) (LT : Lt K mg base cp Pp cb Pb) (XN : Exc1 K mg "NoPairing" CN) (XO : Exc1 K mg "Over" CO) : OkM P w K mg base (L2.CX P w) C 14 "pair" ps_C_pair (sp_pair C Pp Pb CN CO) := by
  obtain ⟨fP, fdP, FS, gP, FP⟩ := ok_paired (P := P) (w := w) T LT XN
  have hkb : KBn K fdP ps_paired 1 ["points", "met", "sat", "firsts"] (fun us ws => us ++ ws) (fun vs zs => vs ++ zs) := by
    refine kbn_of FS 1 _ (fun us ws => us ++ ws) (fun r1 r2 => ?_) (fun kV doc pm an cdv ct us ws l1 l2 => ?_)
    · exact vals_app r1 r2
    · match us, ws, l1, l2 with
      | [_], [_, _, _, _], _, _ => rfl
  refine T.d_C_pair.ok sc_C_pair (fun vs H Q E h => ?_) (fun _ _ _ _ _ _ us hl => match us, hl with | [_, _], _ => rfl)
    (fun f cdv A outer s H vs Q E hr h => ?_)
  · obtain ⟨_, _, _, _, _, _, _, _, _, _, _, rfl, _⟩ := h
    rfl
  · obtain ⟨p, e, l, d, t, b, lx, laps, xs, f, L, rfl, ⟨dx, hp⟩, he, l1, l2, hnm, hnd, hd, hf, hl, hlaps, ll, hok, hL, hT, kO, kN, kq⟩ := h
    refine ⟨_, (pss_cons (ps_if (pt_cmpR op_ge (pe_callB call_len_seq (by rfl) T.b_len PySem.boot_len (pa_cons (pe_fld (pv 0) rfl) pa_nil)) (pe_fld (pv 0) rfl) (nomark _)) (pss_one (ps_raise rfl (takes_of rfl rfl rfl rfl) (pmk_own PySem.F.excBase_ValueError XO.x XO.g XO.k (raises_own XO.b XO.t) rfl))) pss_nil)
        (pss_cons (ps_set (i := 2) sc_C_pair.nd rfl (Or.inr rfl) (pe_lc2 (own := [("games", 6), ("out", 7), ("pair", 8)]) (g := (gTup K 2 (gCons (gName 6) (gCons (gName 7) gNil)))) (tt := tYes) (vs1 := [8]) (g1 := (gName 8)) (wi1 := (iList K (tVar 6))) (tt1 := tYes) rfl sc_C_pair.nd (pi_list (pe_fld (pv 0) rfl)) (blkOk_by (own := [("games", 6), ("out", 7), ("pair", 8)]) (N := N_C_pair) (sc := defScope MH.s_C_pair) (by decide +kernel)) (by decide) (fun _ _ _ _ _ => (pg_tup rfl (pgs_cons (pg_name (i := 6) sc_C_pair.nd rfl (Or.inl rfl)) (pgs_cons (pg_name (i := 7) sc_C_pair.nd rfl (Or.inl rfl)) pgs_nil)))) (fun _ _ _ _ _ => pts_nil) (fun _ _ _ _ _ => (pi_list (pv 6))) (fun _ _ _ _ _ => (pg_name (i := 8) sc_C_pair.nd rfl (Or.inl rfl))) (fun _ _ _ _ _ => pts_nil) (fun _ _ _ _ _ => (pv 8))))
        (pss_cons (ps_setDc (i := 3) (own := [("name", 9)]) (g := (gName 9)) (tt := tYes) rfl sc_C_pair.nd rfl rfl (sw_dict rfl rfl rfl (by decide +kernel)) (pi_list (pe_fld (pv 0) rfl)) (blkOk_by (own := [("name", 9)]) (N := N_C_pair) (sc := defScope MH.s_C_pair) (by decide +kernel)) (fun _ _ _ _ _ => (pg_name (i := 9) sc_C_pair.nd rfl (Or.inr rfl))) (fun _ _ _ _ _ => pts_nil) (fun _ _ _ _ _ => (pv 9)) (fun _ _ _ _ _ => (pe_callB (r := rLenSq K) call_len_seq (by rfl) T.b_len PySem.boot_len (pa_cons (pe_lc (own := [("one", 10), ("other", 11)]) (wi := (iList K (tVar 2))) (g := (gTup K 2 (gCons (gName 10) (gCons (gName 11) gNil)))) rfl sc_C_pair.nd (pi_list (pv 2)) (blkOk_by (own := [("one", 10), ("other", 11)]) (by first | rfl | kernel_rfl)) (fun _ _ _ _ _ => (pg_tup rfl (pgs_cons (pg_name (i := 10) sc_C_pair.nd rfl (Or.inl rfl)) (pgs_cons (pg_name (i := 11) sc_C_pair.nd rfl (Or.inl rfl)) pgs_nil)))) (fun _ _ _ _ _ => (pts_one (pt_cmpR op_eq (pv 10) (pv 9) (nomark _)))) (fun _ _ _ _ _ => pe_int)) pa_nil))))
        (pss_cons (ps_setLc (i := 4) (own := [("games", 6), ("out", 7)]) (g := (gTup K 2 (gCons (gName 6) (gCons (gName 7) gNil)))) rfl sc_C_pair.nd rfl rfl (sw_true rfl rfl rfl (by decide +kernel)) (pi_list (pe_fld (pv 0) rfl)) (blkOk_by (own := [("games", 6), ("out", 7)]) (N := N_C_pair) (sc := defScope MH.s_C_pair) (by decide +kernel)) (fun _ _ _ _ _ => (pg_tup rfl (pgs_cons (pg_name (i := 6) sc_C_pair.nd rfl (Or.inl rfl)) (pgs_cons (pg_name (i := 7) sc_C_pair.nd rfl (Or.inl rfl)) pgs_nil)))) (fun _ _ _ _ _ => (pts_one (pt_cmpR op_notN (pv 7) pe_non (nomark _)))) (fun _ _ _ _ _ => (pv 7)))
        (pss_cons (ps_set (i := 5) sc_C_pair.nd rfl (Or.inl rfl) (pe_callN FP (hr.mono (by decide)) (by rfl) gP FS.kp hkb (passes_call (takes_of rfl rfl rfl rfl) fun _ _ _ _ z => z) (pa_cons (pe_fld (pv 0) rfl) pa_nil) (pk_cons (pv 1) (pk_cons (pv 2) (pk_cons (pv 4) (pk_cons (pv 3) pk_nil))))))
        (pss_cons (ps_expr (pe_bm PySem.F.plainAttrs_list PySem.F.slot_list_append PySem.F.type_list_append mt_append (pe_fld (pv 0) rfl) (pa_cons (pv 5) pa_nil)))
        (pss_one (ps_ret (pe_tup (pa_cons (pe_callTy call_list_of (by rfl) T.b_list (by decide +kernel) (pa_cons (pe_ix ix_tup (pv 5) pe_int (fun _ _ => rfl)) pa_nil)) (pa_cons (pe_ix ix_tup (pv 5) pe_int (fun _ _ => rfl)) pa_nil)))))))))))
      , ?_⟩
    have llx : lx.length = laps.length := by rw [hlaps.len, lapsD, List.length_map]
    have lmet := metL_len hok
    refine ⟨_, rfl, p, C, dx, _, _, rfl, hp, T.cl, T.n_laps, cf_laps, l, _, rfl, .inl (SqL.of hl), _, rfl, p, C, dx, _, _, rfl, hp, T.cl, T.n_bound, cf_bound, _, _, rfl, rfl, _, rfl, ?_⟩
    by_cases hb : b ≤ (laps.length : Int)
    · refine ite_tt (by rw [llx]; exact hb) ?_
      exact kO hb _ (ExtN.refl _) hT
    refine ite_ff (by rw [llx]; exact hb) ?_
    have hb' : (laps.length : Int) < b := by omega
    -- pairs
    refine ⟨_, rfl, p, C, dx, _, _, rfl, hp, T.cl, T.n_laps, cf_laps, l, rfl, ⟨_, SqL.of hl⟩, fun D hD => ?_⟩
    refine lc2_out walk_list (fun i H' => Same H H' ∧ ∃ acc, H' D = some (.lst acc) ∧ DaAll [D] H' acc ((metL (laps.take i)).map prD)) ⟨same_new hD, [], upd_same, .nil⟩ (fun i H' _ p => SqL.of (p.1 _ _ hl)) (fun i v H1 H1' hi p1 y => ?_) (fun H1 p1 => ?_)
    · obtain ⟨rfl, y⟩ := y
      obtain ⟨s1, acc, hacc, hda⟩ := p1
      obtain ⟨dd, e1, e2⟩ := ((hlaps.more hD).same s1).get y
      rw [lapsD, List.getElem?_map] at e1
      obtain ⟨lp, hlp, rfl⟩ := Option.map_eq_some_iff.mp e1
      obtain ⟨a1, g, gx, rfl, ha1, na1, hg, ng, hgx⟩ := da_lap e2
      have lgx : gx.length = lp.1.length := by rw [hgx.len, List.length_map]
      have hl5 := (hok lp (List.mem_of_getElem? hlp)).1
      refine ⟨a1, _, rfl, SqT.of ha1, rfl, _, _, rfl, _, _, rfl, rfl, ?_⟩
      refine ⟨rfl, _, rfl, g, rfl, ⟨_, SqL.of hg⟩, ?_⟩
      have ngD : g ≠ D := by simp at ng; exact ng.1
      have hlp2 : metL (laps.take (i + 1)) = metL (laps.take i) ++ lp.1 := by
        unfold metL
        rw [take_succ' hlp, List.flatMap_append]
        simp
      have lacc : (metL (laps.take i)).length ≤ 45 := by
        have h1 := metL_len (laps := laps.take i) (xs := xs) fun q hq => hok q (List.mem_of_mem_take hq)
        have h2 : (laps.take i).length ≤ 9 := by rw [List.length_take]; omega
        omega
      refine lc2_in (walk_list (xs := gx)) (fun j H' => Same H H' ∧ Sx D H1' H' ∧ ∃ acc, H' D = some (.lst acc) ∧ DaAll [D] H' acc ((metL (laps.take i) ++ lp.1.take j).map prD)) ⟨s1, Sx.refl _ _, acc, hacc, by simpa using hda⟩ (fun j H' _ p => SqL.of (p.2.1 _ _ hg ngD)) (fun j v H2 H2' hj p2 y => ?_) (fun H2 p2 => ?_)
      · obtain ⟨rfl, y⟩ := y
        obtain ⟨s2, sx2, acc2, hacc2, hda2⟩ := p2
        obtain ⟨dd, e3, e4⟩ := (hgx.sx sx2 (by simp)).get y
        rw [List.getElem?_map] at e3
        obtain ⟨pr, hpr, rfl⟩ := Option.map_eq_some_iff.mp e3
        have la2 : acc2.length ≤ 50 := by
          rw [hda2.len, List.length_map, List.length_append, List.length_take]
          omega
        refine ⟨rfl, _, rfl, acc2, hacc2, by have := szl; omega, same_upd hD s2, sx2.trans Sx.set, acc2 ++ [v], upd_same, ?_⟩
        rw [take_succ' hpr, ← List.append_assoc, List.map_append]
        exact (hda2.snoc (e4.mono (by simp))).upd (by simp)
      · obtain ⟨s2, sx2, acc2, hacc2, hda2⟩ := p2
        rw [lgx, List.take_length, ← hlp2] at hda2
        exact ⟨s2, acc2, hacc2, hda2⟩
    obtain ⟨s1, ms, hms, hmd⟩ := p1
    rw [llx, List.take_length] at hmd
    generalize hmet : metL laps = met at *
    have hmd0 : DaAll [] H1 ms (met.map prD) := hmd.mono (by simp)
    have lms : ms.length = met.length := by rw [hmd.len, List.length_map]
    have lmt : met.length ≤ 45 := by omega
    have hl0 : (xs.map V.str).length = xs.length := List.length_map _
    -- firsts
    refine ⟨_, rfl, p, C, dx, _, _, rfl, s1 _ _ hp, T.cl, T.n_entrants, cf_ent, e, rfl, ⟨_, SqL.of (s1 _ _ he)⟩, fun FD hFD => ?_⟩
    refine dc_F walk_list (fun i => tab (xs.take i) (fstC met)) hFD rfl (fun _ z => SqL.of (z _ _ (s1 _ _ he))) (fun i v H4 H4' hi p4 y => ?_) (fun H4 s4 e4 => ?_)
    · obtain ⟨rfl, y⟩ := y
      obtain ⟨x, hx, rfl⟩ := mapAt y
      have hms4 := p4.1 _ _ hms
      refine ⟨rfl, _, rfl, _, rfl, D, rfl, ⟨_, SqL.of hms4⟩, fun D2 hD2 => ?_⟩
      refine lc_F walk_list (fun j => ((met.take j).filter fun g => decide (g.1 = x)).map fun _ => V.int 1) hD2 rfl (fun _ z => SqL.of (z _ _ hms4)) (fun j v H5 H5' hj p5 y => ?_) (fun H5 s5 e5 => ?_)
      · obtain ⟨rfl, y⟩ := y
        obtain ⟨dd, e5, e6⟩ := ((hmd0.same p4.1).same p5.1).get y
        rw [List.getElem?_map] at e5
        obtain ⟨pr, hpr, rfl⟩ := Option.map_eq_some_iff.mp e5
        obtain ⟨ap, rfl, hap, _⟩ := da_pr e6
        have hj' : j < 1000000 := by omega
        refine ⟨ap, _, rfl, SqT.of hap, rfl, _, _, rfl, _, _, rfl, rfl, ?_⟩
        refine ⟨rfl, _, rfl, _, rfl, rfl, _, rfl, ?_⟩
        by_cases c : pr.1 = x
        · rw [decide_eq_true (show V.str pr.1 = V.str x by rw [c])]
          exact putF p5 hD2 (Same.refl _) hj' (by rw [filTake hpr, decide_eq_true c]; simp)
        · rw [decide_eq_false (show ¬ V.str pr.1 = V.str x from fun z => c (V.str.inj z))]
          exact skipF p5 (Same.refl _) (by rw [filTake hpr, decide_eq_false c]; simp)
      · rw [lms, List.take_length] at e5
        refine ⟨D2, _, rfl, .inl (SqL.of e5), ?_⟩
        refine putC p4 hFD (k := Sum.inr x) s5 (by omega) ?_ ?_
        · rw [putK_new]
          · unfold tab
            rw [mapTake hx, List.length_map]
            rfl
          · refine valV_no fun q hq => ?_
            obtain ⟨z, hz, rfl⟩ := List.mem_map.mp hq
            intro e
            have e' : z = x := Sum.inr.inj e
            obtain ⟨m, hm⟩ := List.getElem?_of_mem hz
            have hmi : m < i := by
              have := (List.getElem?_eq_some_iff.mp hm).1
              rw [List.length_take] at this
              omega
            rw [List.getElem?_take, if_pos hmi, e'] at hm
            have := nd_ix hnd hm hx
            omega
        · unfold tab
          rw [List.length_map, List.length_take]
          exact Nat.min_le_left _ _
    rw [hl0, List.take_length] at e4
    have s04 := s1.trans s4
    -- rests
    refine ⟨_, rfl, p, C, dx, _, _, rfl, s04 _ _ hp, T.cl, T.n_laps, cf_laps, l, rfl, ⟨_, SqL.of (s04 _ _ hl)⟩, fun RD hRD => ?_⟩
    refine lc_F walk_list (fun j => (satL (laps.take j)).map V.str) hRD rfl (fun _ z => SqL.of (z _ _ (s04 _ _ hl))) (fun j v H5 H5' hj p5 y => ?_) (fun H5 s5 e5 => ?_)
    · obtain ⟨rfl, y⟩ := y
      obtain ⟨dd, e6, e7⟩ := ((hlaps.same s04).same p5.1).get y
      rw [lapsD, List.getElem?_map] at e6
      obtain ⟨lp, hlp, rfl⟩ := Option.map_eq_some_iff.mp e6
      obtain ⟨a1, g, gx, rfl, ha1, na1, hg, ng, hgx⟩ := da_lap e7
      have hj' : j < 1000000 := by omega
      refine ⟨a1, _, rfl, SqT.of ha1, rfl, _, _, rfl, _, _, rfl, rfl, ?_⟩
      refine ⟨rfl, _, rfl, rfl, _, rfl, ?_⟩
      have hst : satL (laps.take (j + 1)) = satL (laps.take j) ++ (match lp.2 with | none => [] | some x => [x]) := by
        unfold satL
        rw [take_succ' hlp, List.filterMap_append]
        cases h2 : lp.2 <;> simp [List.filterMap, h2]
      cases ho : lp.2 with
      | none =>
        rw [ho] at hst
        exact skipF p5 (Same.refl _) (by rw [hst]; simp)
      | some z =>
        rw [ho] at hst
        exact ⟨_, rfl, putF p5 hRD (Same.refl _) hj' (by rw [hst, List.map_append]; rfl)⟩
    rw [llx, List.take_length] at e5
    have s05 := s04.trans s5
    have hmem : ∀ q ∈ met, q.1 ∈ xs ∧ q.2 ∈ xs ∧ q.1 ≠ q.2 := fun q hq => by
      rw [← hmet] at hq
      obtain ⟨lp, hlp, hq2⟩ := List.mem_flatMap.mp hq
      exact (hok lp hlp).2.1 q hq2
    have hsat : ∀ x ∈ satL laps, x ∈ xs := fun x hx => by
      obtain ⟨lp, hlp, hx2⟩ := List.mem_filterMap.mp hx
      exact (hok lp hlp).2.2 x hx2
    have lsat : (satL laps).length ≤ 9 := Nat.le_trans (List.length_filterMap_le _ _) ll
    have hfc : ∀ x ∈ xs, 0 ≤ fstC met x ∧ fstC met x ≤ 100 := fun x _ => by
      have := List.length_filter_le (fun g : Pr => decide (g.1 = x)) met
      unfold fstC
      omega
    have hL5 := hL.same s05
    have hl5 := s05 _ _ hl
    -- paired
    refine ⟨_, rfl, p, C, dx, _, _, rfl, s05 _ _ hp, T.cl, T.n_entrants, cf_ent, _, rfl, _, rfl, _, rfl, _, rfl, rfl, rfl, e, d, D, RD, FD, xs, f, fstC met, ms, met, satL laps, l :: L, rfl, s05 _ _ he, l1, l2, hnm, hnd, s05 _ _ hd, hf, s5 _ _ (s4 _ _ hms), hmd0.same (s4.trans s5), by omega, hmem, e5, by omega, hsat, s5 _ _ e4, hfc, hL5.cons hl5 nt_lst, hT.ext s05, fun H6 tr r x6 T6 hPR hda => ?_, fun H6 x6 T6 hPR => kN hb' _ ((ExtN.of s05).trans x6) T6 hPR⟩
    have x06 : ExtN H H6 := (ExtN.of s05).trans x6
    have hl6 := x6 _ _ hl5 nt_lst
    have hp6 := x06 _ _ hp nt_ins
    have hL6 := hL.ext x06
    obtain ⟨tr', g, gx, e9, htr, ntr, hg, ng, hgx⟩ := da_lap hda
    cases e9
    generalize hlap : lapOf xs (fstC met) r = lap at *
    have ntl : tr ≠ l := fun z => ntr (by rw [z]; simp)
    have ngl : g ≠ l := fun z => ng (by rw [z]; simp)
    refine ⟨_, rfl, p, C, dx, _, _, rfl, hp6, T.cl, T.n_laps, cf_laps, .inl ⟨rfl, _, SqL.of hl6⟩, _, rfl, l, lx, _, rfl, rfl, hl6, by rw [llx]; have := szl; omega, ?_⟩
    have hl7 : upd H6 l (.lst (lx ++ [.ref tr])) l = some (.lst (lx ++ [.ref tr])) := upd_same
    have sx7 : Sx l H6 (upd H6 l (.lst (lx ++ [.ref tr]))) := Sx.set
    have htr7 := sx7 _ _ htr ntl
    have hg7 := sx7 _ _ hg ngl
    have T7 := tabs_sx T6 sx7 hl6 nt_lst (fun _ z => by cases z)
    have hda7 : Da (l :: L) (upd H6 l (.lst (lx ++ [.ref tr]))) (.ref tr) (lapD lap) := hda.sx sx7 (by simp)
    have hgx7 : DaAll (l :: L) (upd H6 l (.lst (lx ++ [.ref tr]))) gx (lap.1.map prD) := hgx.sx sx7 (by simp)
    have hL7 : Lv (l :: L) (upd H6 l (.lst (lx ++ [.ref tr]))) := (hL6.sx sx7 ⟨_, hl7, nt_lst⟩).cons hl7 nt_lst
    have fr7 : Fr [l] H (upd H6 l (.lst (lx ++ [.ref tr]))) := fun b o hb hn hnt => sx7 _ _ (x06 _ _ hb hnt) (by simpa using hn)
    generalize upd H6 l (.lst (lx ++ [.ref tr])) = H7 at *
    refine ⟨_, rfl, tr, _, 0, _, rfl, rfl, SqT.of htr7, at_of (j := 0) (v := .ref g) rfl rfl, g, _, rfl, .inl (SqL.of hg7), fun g2 hg2 => ?_⟩
    have s8 : Same H7 (upd H7 g2 (.lst gx)) := same_new hg2
    have hg28 : upd H7 g2 (.lst gx) g2 = some (.lst gx) := upd_same
    have hda8 : Da (g2 :: l :: L) (upd H7 g2 (.lst gx)) (.ref tr) (lapD lap) := (hda7.more hg2).same s8
    have hgx8 : DaAll (g2 :: l :: L) (upd H7 g2 (.lst gx)) gx (lap.1.map prD) := (hgx7.more hg2).same s8
    generalize upd H7 g2 (.lst gx) = H8 at *
    refine ⟨_, rfl, tr, _, 1, _, rfl, rfl, SqT.of (s8 _ _ htr7), at_of (j := 1) (v := oV lap.2) rfl rfl, sl2, fun tt htt => ?_⟩
    have s9 : Same H8 (upd H8 tt (.tup [.ref g2, oV lap.2])) := same_new htt
    have fr9 := fr7.trans (Fr.of (s8.trans s9))
    have free : ∀ q, H7 q = none → New H q := fun q hq o hnt h0 => by
      by_cases hql : q = l
      · rw [hql, hl7] at hq
        cases hq
      · rw [fr7 _ _ h0 (by simpa using hql) hnt] at hq
        cases hq
    refine kq hb' _ tt g2 gx (.ref tr) r hPR fr9 ((T7.ext s8).ext s9) (s9 _ _ (s8 _ _ hl7)) (by rw [hlap]; exact hda8.same s9) (by rw [hlap]; exact upd_same) (s9 _ _ hg28) (by rw [hlap]; exact hgx8.same s9) (free _ (s8.free htt)) (free _ hg2)
end
end MR
namespace MR
open PySem PySem.Spec PyProof.Rows L2 LamX
abbrev zzzz : Str := "zzzz"
theorem zz_ok : NameOk zzzz := nameB_ok (by decide +kernel)
theorem zz_no {t : Str} {i j : Nat} (h : j < 25) : gname t i j ≠ zzzz := by
  intro e
  have e1 := congrArg (fun q : Str => q.cps.toList.getLast?) e
  have e2 : (gname t i j).cps.toList.getLast? = some (letters.cps.toList.getD j 0) := by
    unfold gname
    rw [cps_app]
    have : (letterS j).cps.toList = [letters.cps.toList.getD j 0] := rfl
    rw [this, List.getLast?_append]
    rfl
  have e3 : zzzz.cps.toList.getLast? = some (letters.cps.toList.getD 25 0) := by decide +kernel
  simp only [e2, e3] at e1
  have e4 : letterS j = letterS 25 := by unfold letterS; rw [Option.some.inj e1]
  have := letter_inj (by omega) (by decide) e4
  omega
theorem gname_ok {t : Str} {i j : Nat} (ht : NameOk t) (h6 : t.length ≤ 6) (hi : i < 26) (hj : j < 26) : NameOk (gname t i j) := by
  have l26 : letters.cps.toList.length = 26 := by decide +kernel
  have lm : ∀ k, k < 26 → ∀ c ∈ (letterS k).cps.toList, c ∈ letters.cps.toList := fun k hk c hc => by
    have e : c = letters.cps.toList.getD k 0 := by
      have : (letterS k).cps.toList = [letters.cps.toList.getD k 0] := rfl
      rw [this] at hc
      exact List.mem_singleton.mp hc
    rw [e]
    simp only [List.getD, List.getElem?_eq_getElem (show k < letters.cps.toList.length by omega), Option.getD_some]
    exact List.getElem_mem _
  have l1 : (letterS i).length = 1 := rfl
  have l2 : (letterS j).length = 1 := rfl
  unfold gname
  refine ⟨?_, ?_, fun c hc => ?_⟩
  · rw [len_app, len_app]; omega
  · rw [len_app, len_app]; omega
  · rw [cps_app, cps_app] at hc
    rcases List.mem_append.mp hc with hc | hc
    · rcases List.mem_append.mp hc with hc | hc
      · exact ht.2.2 c hc
      · exact lm i hi c hc
    · exact lm j hj c hc
/-- a sign that is no name -/
theorem strange_some {found : List Str} (h : found.length ≤ 10) : (letters.cps.toList.map fun c => (⟨#[c]⟩ : Str)).filter (fun x => !decide (x ∈ found)) ≠ [] := by
  intro z
  rw [List.filter_eq_nil_iff] at z
  have hall : ∀ x ∈ letters.cps.toList.map (fun c => (⟨#[c]⟩ : Str)), x ∈ found := fun x hx => by
    have := z x hx
    simpa using this
  have nd : (letters.cps.toList.map fun c => (⟨#[c]⟩ : Str)).Nodup := by
    rw [List.nodup_iff_pairwise_ne, List.pairwise_map]
    have h0 : letters.cps.toList.Pairwise (· ≠ ·) := by decide +kernel
    refine h0.imp fun h e => h ?_
    have e2 := congrArg (fun q : Str => q.cps.toList) e
    simpa using e2
  have l1 := nd_sub_len nd hall
  have l2 : letters.cps.toList.length = 26 := by decide +kernel
  rw [List.length_map] at l1
  omega
def RI (H0 : Hp) (S cc F : Addr) (L : List Addr) (t : Str) (vis : Nat → Nat → Prop) (n : Nat) (H' : Hp) (rx : List V) (rs : List Res) : Prop :=
  Sx S H0 H' ∧ StAt S cc H' ∧ H' F = some (.lst rx) ∧ DaAll (F :: S :: L) H' rx (rs.map resD) ∧ rs.length ≤ n ∧ (∀ r ∈ rs, ResOk r) ∧ (rs.map (·.game)).Nodup ∧ ∀ r ∈ rs, r.game = zzzz ∨ ∃ i j, vis i j ∧ i < 20 ∧ j < 20 ∧ r.game = gname t i j
theorem RI.skip {H0 H' : Hp} {S cc F : Addr} {L : List Addr} {t : Str} {vis vis' : Nat → Nat → Prop} {n n' : Nat} {rx : List V} {rs : List Res} (p : RI H0 S cc F L t vis n H' rx rs) (h : ∀ i j, vis i j → vis' i j) (hn : n ≤ n') : RI H0 S cc F L t vis' n' H' rx rs := by
  obtain ⟨a, b, c, d, e, f, g, k⟩ := p
  exact ⟨a, b, c, d, Nat.le_trans e hn, f, g, fun r hr => (k r hr).imp id fun ⟨i, j, v, w⟩ => ⟨i, j, h i j v, w⟩⟩
theorem RI.same {H0 H' H'' : Hp} {S cc F : Addr} {L : List Addr} {t : Str} {vis : Nat → Nat → Prop} {n : Nat} {rx : List V} {rs : List Res} (p : RI H0 S cc F L t vis n H' rx rs) (s : Same H' H'') : RI H0 S cc F L t vis n H'' rx rs := by
  obtain ⟨a, b, c, d, e⟩ := p
  exact ⟨a.trans (Sx.of s), b.same s, s _ _ c, d.same s, e⟩
theorem RI.draw {H0 H' H'' : Hp} {S cc F : Addr} {L : List Addr} {t : Str} {vis : Nat → Nat → Prop} {n : Nat} {rx : List V} {rs : List Res} (p : RI H0 S cc F L t vis n H' rx rs) (s : Sx S H' H'') (st : StAt S cc H'') : RI H0 S cc F L t vis n H'' rx rs := by
  obtain ⟨a, b, c, d, e⟩ := p
  obtain ⟨⟨_, _, _, hS, _⟩, _⟩ := b
  exact ⟨a.trans s, st, s _ _ c (ne_of c hS (by intro z; cases z)), d.sx s (by simp), e⟩
theorem RI.add {H0 H' : Hp} {S cc F : Addr} {L : List Addr} {t : Str} {vis vis' : Nat → Nat → Prop} {n : Nat} {rx : List V} {rs : List Res} {v : V} {r : Res} {i j : Nat} (p : RI H0 S cc F L t vis n H' rx rs) (hF0 : H0 F = none) (hccF : cc ≠ F) (hr : Da (F :: S :: L) H' v (resD r)) (rok : ResOk r) (hg : r.game = gname t i j)
    (hi : i < 20) (hj : j < 20) (hnv : ¬ vis i j) (hv : ∀ a b, vis a b → vis' a b) (hv2 : vis' i j) : RI H0 S cc F L t vis' (n + 1) (upd H' F (.lst (rx ++ [v]))) (rx ++ [v]) (rs ++ [r]) := by
  obtain ⟨a, b, c, d, e, f, g, k⟩ := p
  have b0 := b
  obtain ⟨⟨_, _, _, hS, _⟩, _, hcc⟩ := b0
  have n1 : S ≠ F := (ne_of c hS (by intro z; cases z)).symm
  refine ⟨fun q o hq hn => ?_, ?_, upd_same, ?_, by simp; omega, fun q hq => ?_, ?_, fun q hq => ?_⟩
  · rw [upd_ne (ne_of_none hq hF0)]
    exact a _ _ hq hn
  · obtain ⟨⟨x1, x2, x3, y1, y2⟩, ns, hc⟩ := b
    refine ⟨⟨x1, x2, x3, by rw [upd_ne n1]; exact y1, y2⟩, ?_⟩
    exact ⟨ns, by rw [upd_ne hccF]; exact hc⟩
  · rw [List.map_append]
    exact (d.snoc hr).upd (by simp)
  · rcases List.mem_append.mp hq with hq | hq
    · exact f q hq
    · rw [List.mem_singleton.mp hq]; exact rok
  · rw [List.map_append, List.nodup_append]
    refine ⟨g, by simp, fun x hx y hy e => ?_⟩
    have hy' : y = r.game := by simpa using hy
    obtain ⟨q, hq, rfl⟩ := List.mem_map.mp hx
    rw [hy', hg] at e
    rcases k q hq with z | ⟨i', j', v1, v2, v3, v4⟩
    · exact zz_no (by omega) (e.symm.trans z)
    · have := gname_inj (by omega) (by omega) (by omega) (by omega) (e.symm.trans v4)
      exact hnv (by rw [this.1, this.2]; exact v1)
  · rcases List.mem_append.mp hq with hq | hq
    · exact (k q hq).imp id fun ⟨i, j, v, w⟩ => ⟨i, j, hv i j v, w⟩
    · rw [List.mem_singleton.mp hq]
      exact .inr ⟨i, j, hv2, hi, hj, hg⟩
section
variable {P : Program} {w : World} {K : PySem.W.Frag} {mg : Str → Option Value} {base : Heap} {C : Addr}
abbrev N_law_results : List Str := ["_law_state", "_law_title", "_law_laps", "_law_crew_here", "_law_letters", "_law_found", "_law_at", "_law_games", "_law_out", "_law_there", "_law_pair", "_law_way", "_law_game", "_law_score", "_law_strange", "_law_more_here", "_law_sign"]
abbrev ps_law_results : List Str := ["_law_state", "_law_title", "_law_laps", "_law_crew_here"]
theorem sc_law_results : FnScope N_law_results ps_law_results (defScope MH.s_law_results) := ⟨rfl, rfl, rfl, by decide +kernel, rfl, by decide +kernel, by decide +kernel⟩
def sp_results : Sp := fun vs H Q _ => ∃ (S cc l c : Addr) (t : Str) (lx : List V) (laps : List Lap) (xs : List Str) (L : List Addr), vs = [.ref S, .str t, .ref l, .ref c] ∧ StAt S cc H ∧ NameOk t ∧ t.length ≤ 6 ∧ H l = some (.lst lx) ∧ DaAll (S :: L) H lx (lapsD laps) ∧ laps.length ≤ 9 ∧ (∀ q ∈ laps, LapOk xs q) ∧ (∀ q ∈ laps, 1 ≤ q.1.length) ∧
  H c = some (.lst (xs.map V.str)) ∧ 2 ≤ xs.length ∧ xs.length ≤ 10 ∧ (∀ x ∈ xs, NameOk x) ∧ xs.Nodup ∧ Lv L H ∧
  ∀ (H' : Hp) (F : Addr) (rx : List V) (rs : List Res), Sx S H H' → StAt S cc H' → H' F = some (.lst rx) → H F = none → DaAll L H' rx (rs.map resD) → rs.length ≤ 100 → (∀ r ∈ rs, ResOk r) → (rs.map (·.game)).Nodup → Q (.ref F) H'
theorem ok_law_results (T : Txt K mg C) : Ok P w K mg base CX0 5 "_law_results" ps_law_results sp_results := by
  refine T.d_law_results.ok sc_law_results (fun vs H Q E h => ?_) (fun _ _ _ _ _ _ us hl => match us, hl with | [_, _, _, _], _ => rfl)
    (fun f cdv A outer s H vs Q E hr h => ?_)
  · obtain ⟨_, _, _, _, _, _, _, _, _, rfl, _⟩ := h
    rfl
  · obtain ⟨S, cc, l, c, t, lx, laps, xs, L, rfl, hst, ht, ht6, hl, hlaps, ll, hok, hne, hc, l1, l2, hnm, hnd, hL, k⟩ := h
    refine ⟨_, PSs.nox (pss_cons (ps_set (i := 4) sc_law_results.nd rfl (Or.inl rfl) pe_str)
        (pss_cons (ps_join (ps_set (i := 5) sc_law_results.nd rfl (Or.inl rfl) (pe_ifExp (PW.pt (pw_and (pt_cmpR op_eq (pe_fn (ok_law_next T) (hr.mono (by decide)) (by rfl) (pa_cons (pv 0) (pa_cons pe_int pa_nil))) pe_int (nomark _)) (pw_and1 (pt_cmpR op_ne (pv 1) pe_str (nomark _))))) (pe_lst (pa_cons (pe_tup (pa_cons pe_str (pa_cons pe_int (pa_cons (pe_tup (pa_cons (pe_ix ix_list (pv 3) pe_int (fun _ _ => rfl)) (pa_cons (pe_ix ix_list (pv 3) pe_int (fun _ _ => rfl)) pa_nil))) (pa_cons (pe_tup (pa_cons pe_int (pa_cons pe_int pa_nil))) pa_nil))))) pa_nil)) (pe_lst pa_nil))))
        (pss_cons (ps_for PassesOwn.never rfl (pi_enum (by rfl) T.b_enumerate (pa_cons (pv 2) pa_nil)) (pg_tup rfl (pgs_cons (pg_name (i := 6) sc_law_results.nd rfl (Or.inl rfl)) (pgs_cons (pg_tup rfl (pgs_cons (pg_name (i := 7) sc_law_results.nd rfl (Or.inl rfl)) (pgs_cons (pg_name (i := 8) sc_law_results.nd rfl (Or.inl rfl)) pgs_nil))) pgs_nil))) (pss_one (ps_for PassesOwn.never rfl (pi_enum (by rfl) T.b_enumerate (pa_cons (pv 7) pa_nil)) (pg_tup rfl (pgs_cons (pg_name (i := 9) sc_law_results.nd rfl (Or.inl rfl)) (pgs_cons (pg_name (i := 10) sc_law_results.nd rfl (Or.inl rfl)) pgs_nil))) (pss_cons (ps_par (i := 11) (j := 12) (by rfl) sc_law_results.nd rfl rfl (by decide) rfl rfl (pa_cons (pe_fn (ok_law_next T) (hr.mono (by decide)) (by rfl) (pa_cons (pv 0) (pa_cons pe_int pa_nil))) (pa_cons (pe_op op_add_str (pe_op op_add_str (pv 1) (pe_ix ix_str (pv 4) (pv 6) (fun _ _ => rfl))) (pe_ix ix_str (pv 4) (pv 9) (fun _ _ => rfl))) pa_nil)) (by rfl))
        (pss_cons (ps_set (i := 13) sc_law_results.nd rfl (Or.inl rfl) (pe_tup (pa_cons (pe_fn (ok_law_next T) (hr.mono (by decide)) (by rfl) (pa_cons (pv 0) (pa_cons pe_int pa_nil))) (pa_cons (pe_fn (ok_law_next T) (hr.mono (by decide)) (by rfl) (pa_cons (pv 0) (pa_cons pe_int pa_nil))) pa_nil))))
        (pss_cons (ps_set (i := 14) sc_law_results.nd rfl (Or.inl rfl) (pe_ix ix_list (pe_lc (own := [("_law_sign", 16)]) (g := (gName 16)) rfl sc_law_results.nd (pi_str (pv 4)) (blkOk_by (own := [("_law_sign", 16)]) (N := N_law_results) (sc := defScope MH.s_law_results) (by decide +kernel)) (fun _ _ _ _ _ => (pg_name (i := 16) sc_law_results.nd rfl (Or.inl rfl))) (fun _ _ _ _ _ => (pts_one (pt_cmpR (r := rIn K true) op_notIn_seq (pv 16) (pv 3) (by rfl)))) (fun _ _ _ _ _ => (pv 16))) pe_int (fun _ _ => rfl)))
        (pss_one (ps_if (pt_cmpR op_eq (pv 11) pe_int (nomark _)) (pss_one (ps_expr (pe_bm PySem.F.plainAttrs_list PySem.F.slot_list_append PySem.F.type_list_append mt_append (pv 5) (pa_cons (pe_tup (pa_cons (pv 12) (pa_cons (pv 6) (pa_cons (pe_rev2 (pv 10)) (pa_cons (pv 13) pa_nil))))) pa_nil)))) (pss_one (ps_if (PW.pt (pw_and (pt_cmpR op_eq (pv 11) pe_int (nomark _)) (pw_and1 (pt_cmpR op_eq (pe_fn (ok_law_next T) (hr.mono (by decide)) (by rfl) (pa_cons (pv 0) (pa_cons pe_int pa_nil))) pe_int (nomark _))))) (pss_one (ps_expr (pe_bm PySem.F.plainAttrs_list PySem.F.slot_list_append PySem.F.type_list_append mt_append (pv 5) (pa_cons (pe_tup (pa_cons (pv 12) (pa_cons (pv 6) (pa_cons (pe_fn (ok_law_pick T) (hr.mono (by decide)) (by rfl) (pa_cons (pv 0) (pa_cons (pe_ix ix_tup (pe_fn (ok_law_pick T) (hr.mono (by decide)) (by rfl) (pa_cons (pv 0) (pa_cons (pv 2) pa_nil))) pe_int (fun _ _ => rfl)) pa_nil))) (pa_cons (pv 13) pa_nil))))) pa_nil)))) (pss_one (ps_if (pt_cmpR op_eq (pv 11) pe_int (nomark _)) (pss_cons (ps_set (i := 15) sc_law_results.nd rfl (Or.inl rfl) (pe_op op_add pe_int (pe_callTy call_int1 (by rfl) T.b_int (by decide +kernel) (pa_cons (pe_cmpR op_notIn_seq (pe_op op_mul_str2 (pv 14) pe_int) (pv 3) (by rfl)) pa_nil))))
        (pss_one (ps_expr (pe_bm PySem.F.plainAttrs_list PySem.F.slot_list_append PySem.F.type_list_append mt_append (pv 5) (pa_cons (pe_tup (pa_cons (pv 12) (pa_cons (pv 6) (pa_cons (pe_op op_catA (pv 10) (pe_slice sl_tupA (pe_tup (pa_cons (pv 14) (pa_cons (pe_op op_mul_str2 (pv 14) pe_int) pa_nil))) po_none (po_some (pv 15)))) (pa_cons (pe_op op_catA (pv 13) (pe_slice sl_tupA (pe_tup (pa_cons pe_int (pa_cons pe_int pa_nil))) po_none (po_some (pv 15)))) pa_nil))))) pa_nil))))) (pss_one (ps_if (pt_cmpR op_eq (pv 11) pe_int (nomark _)) (pss_one (ps_expr (pe_bm PySem.F.plainAttrs_list PySem.F.slot_list_append PySem.F.type_list_append mt_append (pv 5) (pa_cons (pe_tup (pa_cons (pv 12) (pa_cons (pv 6) (pa_cons (pe_tup (pa_cons (pe_ix ix_tup (pv 10) pe_int (fun _ _ => rfl)) (pa_cons (pv 14) pa_nil))) (pa_cons (pv 13) pa_nil))))) pa_nil)))) (pss_one (ps_if (pt_cmpR op_gt (pv 11) pe_int (nomark _)) (pss_one (ps_expr (pe_bm PySem.F.plainAttrs_list PySem.F.slot_list_append PySem.F.type_list_append mt_append (pv 5) (pa_cons (pe_tup (pa_cons (pv 12) (pa_cons (pv 6) (pa_cons (pv 10) (pa_cons (pv 13) pa_nil))))) pa_nil)))) pss_nil))))))))))))))))
        (pss_one (ps_ret (pv 5))))))
      , ?_⟩
    have llx : lx.length = laps.length := by rw [hlaps.len, lapsD, List.length_map]
    have hcx : ∃ x0 x1 r, xs = x0 :: x1 :: r := by
      match xs, l1 with
      | x0 :: x1 :: r, _ => exact ⟨x0, x1, r, rfl⟩
    have stS : ∀ {H'}, StAt S cc H' → ∃ o, H' S = some (.dK o) := fun h => by
      obtain ⟨⟨_, _, _, e, _⟩, _⟩ := h
      exact ⟨_, e⟩
    obtain ⟨kS, hS⟩ := stS hst
    have nlS : l ≠ S := ne_of hl hS (by intro z; cases z)
    have ncS : c ≠ S := ne_of hc hS (by intro z; cases z)
    refine ⟨fun σ' H' => ∃ (F : Addr) (rx : List V) (rs : List Res), σ' = [some (.ref S), some (.str t), some (.ref l), some (.ref c), some (.str letters), some (.ref F), none, none, none, none, none, none, none, none, none, none, none] ∧ Sx S H H' ∧ StAt S cc H' ∧ H' F = some (.lst rx) ∧ H F = none ∧ DaAll (F :: S :: L) H' rx (rs.map resD) ∧ rs.length ≤ 1 ∧ (∀ r ∈ rs, ResOk r) ∧ (∀ r ∈ rs, r.game = zzzz), ?_, ?_⟩
    · refine ⟨_, rfl, S, cc, _, rfl, hst, by decide, by decide, fun H1 r0 s1 h1 r0a r0b => ⟨rfl, _, rfl, ?_⟩⟩
      have hL1 : Lv (S :: L) H1 := (hL.sx s1 h1.nt).cons (stS h1).choose_spec nt_dK
      have emp : ∀ l0 : Addr, H1 l0 = none → ∃ (F : Addr) (rx : List V) (rs : List Res), [some (V.ref S), some (.str t), some (.ref l), some (.ref c), some (.str letters), some (.ref l0), none, none, none, none, none, none, none, none, none, none, none] = [some (V.ref S), some (.str t), some (.ref l), some (.ref c), some (.str letters), some (.ref F), none, none, none, none, none, none, none, none, none, none, none] ∧ Sx S H (upd H1 l0 (.lst [])) ∧ StAt S cc (upd H1 l0 (.lst [])) ∧ upd H1 l0 (.lst []) F = some (.lst rx) ∧ H F = none ∧ DaAll (F :: S :: L) (upd H1 l0 (.lst [])) rx (rs.map resD) ∧ rs.length ≤ 1 ∧ (∀ r ∈ rs, ResOk r) ∧ (∀ r ∈ rs, r.game = zzzz) := fun l0 hl0 => by
        have sn := same_new (o := .lst []) hl0
        refine ⟨l0, [], [], rfl, s1.trans (Sx.of sn), h1.same sn, upd_same, ?_, .nil, by simp, by simp, by simp⟩
        cases h0 : H l0 with
        | none => rfl
        | some o =>
          by_cases e : l0 = S
          · rw [e] at hl0
            obtain ⟨o', ho'⟩ := stS h1
            rw [ho'] at hl0
            cases hl0
          · rw [s1 _ _ h0 e] at hl0
            cases hl0
      by_cases q0 : V.int r0 = V.int 0
      · refine ite_tt q0 ?_
        refine ⟨_, rfl, rfl, _, rfl, ?_⟩
        by_cases q1 : V.str t = V.str ("zz" : Str)
        · rw [decide_eq_true q1]
          exact ⟨sl0, fun l0 hl0 => emp l0 hl0⟩
        · rw [decide_eq_false q1]
          have hc1 := s1 _ _ hc ncS
          obtain ⟨x0, x1, xr, exs⟩ := hcx
          rw [exs] at hc1
          refine ⟨_, rfl, c, _, 0, _, rfl, rfl, SqL.of hc1, at_of (j := 0) (v := V.str x0) rfl rfl, _, rfl, c, _, 1, _, rfl, rfl, SqL.of hc1, at_of (j := 1) (v := V.str x1) rfl rfl, sl2, fun t1 ht1 => ⟨sl2, fun t2 ht2 => ⟨by show 4 ≤ sizeLine; have := szl; omega, fun t3 ht3 => ⟨sl1, fun F hF => ?_⟩⟩⟩⟩
          have m1 := same_new (o := .tup [.str x0, .str x1]) ht1
          have m2 := same_new (o := .tup [.int 1, .int 1]) ht2
          have m3 := same_new (o := .tup [.str zzzz, .int 3, .ref t1, .ref t2]) ht3
          have m4 := same_new (o := .lst [.ref t3]) hF
          have m14 := m1.trans (m2.trans (m3.trans m4))
          have hFH : H F = none := by
            cases h0 : H F with
            | none => rfl
            | some o =>
              have hF1 := (m1.trans (m2.trans m3)).free hF
              by_cases e : F = S
              · rw [e] at hF1
                obtain ⟨o', ho'⟩ := stS h1
                rw [ho'] at hF1
                cases hF1
              · rw [s1 _ _ h0 e] at hF1
                cases hF1
          refine ⟨F, [.ref t3], [⟨zzzz, 3, [x0, x1], [1, 1]⟩], rfl, s1.trans (Sx.of m14), h1.same m14, upd_same, hFH, .cons ?_ .nil, by simp, ?_, by simp⟩
          · have a1 : t1 ∉ S :: L := hL1.new ht1
            have a2 : t2 ∉ S :: L := (hL1.same m1).new ht2
            have a3 : t3 ∉ S :: L := (hL1.same (m1.trans m2)).new ht3
            have k1 := (m2.trans m3) _ _ (upd_same (H := H1) (a := t1) (o := .tup [.str x0, .str x1]))
            have k2 := m3 _ _ (upd_same (H := upd H1 t1 (.tup [.str x0, .str x1])) (a := t2) (o := .tup [.int 1, .int 1]))
            have n1 : t1 ≠ F := ne_of_none k1 hF
            have n2 : t2 ≠ F := ne_of_none k2 hF
            have n3 : t3 ≠ F := ne_of_none (upd_same (o := HO.tup [.str zzzz, .int 3, .ref t1, .ref t2])) hF
            exact da_res' (b := t1) (c := t2) (m4 _ _ upd_same) (nmem_cons n3 a3) (m4 _ _ k1) (nmem_cons n1 a1) (m4 _ _ k2) (nmem_cons n2 a2)
          · intro r hr
            rw [List.mem_singleton.mp hr]
            have hx0 := hnm x0 (by rw [exs]; simp)
            have hx1 := hnm x1 (by rw [exs]; simp)
            refine ⟨zz_ok, (by show (0 : Int) ≤ 3; decide), (by show (3 : Int) ≤ 400; decide), (by show 2 ≤ 2; decide), (by show 2 ≤ 4; decide), fun x hx => ?_, ?_, rfl, fun x hx => ?_⟩
            · rcases List.mem_cons.mp hx with rfl | hx
              · exact hx0
              · rw [List.mem_singleton.mp hx]; exact hx1
            · rw [exs] at hnd
              have := (List.nodup_cons.mp hnd).1
              simp at this
              simp [this.1]
            · have : x = 1 := by simpa using hx
              omega
      · refine ite_ff q0 ?_
        exact ⟨sl0, fun l0 hl0 => emp l0 hl0⟩
    · rintro σ' H1 ⟨F, rx, rs0, rfl, s1, h1, hF, hFH, hda, lrs, hrok, hrz⟩
      have ri0 : RI H S cc F L t (fun _ _ => False) 1 H1 rx rs0 := by
        refine ⟨s1, h1, hF, hda, lrs, hrok, ?_, fun r hr => .inl (hrz r hr)⟩
        match rs0, lrs with
        | [], _ => exact List.Pairwise.nil
        | [r], _ => simp
      have keepH : ∀ {H' : Hp} {q : Addr} {o : HO}, Sx S H H' → H q = some o → q ≠ S → H' q = some o := fun sx hq hn => sx _ _ hq hn
      refine ⟨_, rfl, l, _, rfl, SqL.of (keepH s1 hl nlS), ?_⟩
      refine for_it walk_enum (fun i σ H' => ∃ (u6 u7 u8 u9 u10 u11 u12 u13 u14 u15 : Option V) (rx : List V) (rs : List Res), σ = [some (.ref S), some (.str t), some (.ref l), some (.ref c), some (.str letters), some (.ref F), u6, u7, u8, u9, u10, u11, u12, u13, u14, u15, none] ∧ RI H S cc F L t (fun a b => a < i) (1 + 5 * i) H' rx rs)
        ⟨_, _, _, _, _, _, _, _, _, _, rx, rs0, rfl, ri0.skip (fun _ _ z => z.elim) (by omega)⟩ (fun i σ H' hi ⟨_, _, _, _, _, _, _, _, _, _, _, _, _, z, _⟩ => SqL.of (keepH z hl nlS)) (fun i v σ H2 H2' hi p2 y => ?_) (fun σ H2 p2 => ?_)
      · obtain ⟨u6, u7, u8, u9, u10, u11, u12, u13, u14, u15, rx2, rs2, rfl, ri2⟩ := p2
        obtain ⟨T1, x, y, rfl, hT1, rfl, hx, hy⟩ := y
        cases hx
        have sT := same_new (o := .tup [.int (i : Nat), y]) hT1
        have ri3 := ri2.same sT
        have hF3 : T1 ≠ F := fun z => by rw [z, ri2.2.2.1] at hT1; cases hT1
        have hccF : cc ≠ F := by
          obtain ⟨_, _, e⟩ := hst
          exact ne_of_none e hFH
        have sub2 : ∀ x ∈ [F, S], x ∈ F :: S :: L := fun x hx => by
          rcases List.mem_cons.mp hx with rfl | hx
          · simp
          · rw [List.mem_singleton.mp hx]; simp
        have hd3 : DaAll (F :: S :: L) (upd H2 T1 (.tup [.int (i : Nat), y])) lx (lapsD laps) := (hlaps.more hFH).fr (L' := [S]) (Sx.fr ri3.1) (by simp)
        obtain ⟨dd, e1, e2⟩ := hd3.get hy
        rw [lapsD, List.getElem?_map] at e1
        obtain ⟨lp, hlp, rfl⟩ := Option.map_eq_some_iff.mp e1
        obtain ⟨a1, g, gx, rfl, ha1, na1, hg, ng, hgx⟩ := da_lap e2
        have hi9 : i < 9 := by omega
        obtain ⟨hg5, hgm, hgo⟩ := hok lp (List.mem_of_getElem? hlp)
        have lgx : gx.length = lp.1.length := by rw [hgx.len, List.length_map]
        have ng2 : g ∉ [F, S] := fun z => ng (sub2 _ z)
        refine ⟨T1, _, rfl, SqT.of upd_same, rfl, _, _, rfl, _, _, rfl, a1, _, rfl, SqT.of ha1, rfl, _, _, rfl, _, _, rfl, rfl, rfl, ?_⟩
        generalize upd H2 T1 (.tup [.int (i : Nat), .ref a1]) = H3 at *
        refine ⟨_, rfl, g, _, rfl, SqL.of hg, ?_⟩
        refine for_it (walk_enum (xs := gx)) (fun j σ H' => ∃ (u9 u10 u11 u12 u13 u14 u15 : Option V) (rx : List V) (rs : List Res), σ = [some (.ref S), some (.str t), some (.ref l), some (.ref c), some (.str letters), some (.ref F), some (.int (i : Nat)), some (.ref g), some (oV lp.2), u9, u10, u11, u12, u13, u14, u15, none] ∧
            RI H S cc F L t (fun a b => a < i ∨ (a = i ∧ b < j)) (1 + 5 * i + j) H' rx rs ∧ Fr [F, S] H3 H')
          ⟨_, _, _, _, _, _, _, rx2, rs2, rfl, ri3.skip (fun _ _ z => .inl z) (Nat.le_refl _), Fr.refl _ _⟩ (fun j σ H' hj ⟨_, _, _, _, _, _, _, _, _, _, _, z⟩ => SqL.of (z _ _ hg ng2 nt_lst)) (fun j v σ H4 H4' hj p4 y => ?_) (fun σ H4 p4 => ?_)
        · obtain ⟨w9, w10, w11, w12, w13, w14, w15, rx4, rs4, rfl, ri4, fr4⟩ := p4
          obtain ⟨T2, x2, y2, rfl, hT2, rfl, hx2, hy2⟩ := y
          cases hx2
          have sT2 := same_new (o := .tup [.int (j : Nat), y2]) hT2
          have ri5 := ri4.same sT2
          have fr5 := fr4.trans (Fr.of sT2)
          have hgx5 := hgx.fr fr5 sub2
          obtain ⟨dd, e3, e4⟩ := hgx5.get hy2
          rw [List.getElem?_map] at e3
          obtain ⟨pr, hpr, rfl⟩ := Option.map_eq_some_iff.mp e3
          obtain ⟨ap, rfl, hap, nap⟩ := da_pr e4
          obtain ⟨px1, px2, pxn⟩ := hgm pr (List.mem_of_getElem? hpr)
          have hj5 : j < 5 := by omega
          refine ⟨T2, _, rfl, SqT.of upd_same, rfl, _, _, rfl, _, _, rfl, rfl, ?_⟩
          generalize upd H4 T2 (.tup [.int (j : Nat), .ref ap]) = H5 at *
          have l26 : letters.length ≤ sizeLine := by rw [sizeLine_eq]; decide +kernel
          have hszl := szl
          have li : (letterS i).length = 1 := rfl
          have lj : (letterS j).length = 1 := rfl
          -- way, game
          refine ⟨_, rfl, S, cc, _, rfl, ri5.2.1, by decide, by decide, fun H6 way s6 h6 w0 w8 => ?_⟩
          refine ⟨_, rfl, _, rfl, _, rfl, letters, _, _, rfl, rfl, l26, letterAt0 (by omega), _, _, rfl, rfl, by show t.length + (letterS i).length ≤ sizeLine; omega, _, rfl, _, rfl, letters, _, _, rfl, rfl, l26, letterAt0 (by omega), _, _, rfl, rfl, by show (t ++ letterS i).length + (letterS j).length ≤ sizeLine; rw [len_app]; omega, ?_⟩
          refine ⟨_, _, rfl, ?_⟩
          have ri6 := ri5.draw s6 h6
          -- score
          refine ⟨_, rfl, S, cc, _, rfl, h6, by decide, by decide, fun H7 p1 s7 h7 p10 p15 => ?_⟩
          refine ⟨_, rfl, S, cc, _, rfl, h7, by decide, by decide, fun H8 p2 s8 h8 p20 p25 => ⟨sl2, fun sc hsc => ?_⟩⟩
          have ri8 := (ri6.draw s7 h7).draw s8 h8
          have sx58 : Sx S H5 H8 := (s6.trans s7).trans s8
          have ssc := same_new (o := .tup [.int p1, .int p2]) hsc
          have fr58 : Fr [F, S] H3 H8 := fr5.trans ((Sx.fr sx58).mono (by simp))
          have ri9 := ri8.same ssc
          have fr9 := fr58.trans (Fr.of ssc)
          have hsc9 : upd H8 sc (.tup [.int p1, .int p2]) sc = some (.tup [.int p1, .int p2]) := upd_same
          have hLv8 : Lv (F :: S :: L) H8 := (((hL.sx ri8.1 ri8.2.1.nt).cons (stS ri8.2.1).choose_spec nt_dK)).cons ri8.2.2.1 nt_lst
          have hscn : sc ∉ F :: S :: L := hLv8.new hsc
          generalize upd H8 sc (.tup [.int p1, .int p2]) = H9 at *
          have napS : ap ≠ S := fun z => nap (by rw [z]; simp)
          have hap9 : H9 ap = some (.tup [.str pr.1, .str pr.2]) := ssc _ _ (sx58 _ _ hap napS)
          have hcF : c ≠ F := ne_of_none hc hFH
          -- strange
          have l26' : letters.cps.size = 26 := by decide +kernel
          refine ⟨_, rfl, _, rfl, fun D hD => ?_⟩
          refine lc_F (walk_str (z := letters)) (fun i => (((letters.cps.toList.map fun c => (⟨#[c]⟩ : Str)).take i).filter fun y => !decide (y ∈ xs)).map V.str) hD rfl (fun _ _ => trivial) (fun m v H10 H10' hm p10 y => ?_) (fun H10 s10 e10 => ?_)
          · obtain ⟨rfl, ch, hch, rfl⟩ := y
            have hch' : (letters.cps.toList.map fun c => (⟨#[c]⟩ : Str))[m]? = some ⟨#[ch]⟩ := by simp [hch]
            have hm' : m < 1000000 := by rw [l26'] at hm; omega
            have hc10 := p10.1 _ _ (keepH ri9.1 hc ncS)
            refine ⟨rfl, _, rfl, _, rfl, c, _, rfl, .inl (SqL.of hc10), rfl, flat_strs _, _, rfl, ?_⟩
            rw [if_pos rfl, inV_strs]
            by_cases e : (⟨#[ch]⟩ : Str) ∈ xs
            · rw [decide_eq_true e]
              exact skipF p10 (Same.refl _) (by rw [filTake hch', decide_eq_true e]; simp)
            · rw [decide_eq_false e]
              exact ⟨_, rfl, putF p10 hD (Same.refl _) hm' (by rw [filTake hch', decide_eq_false e]; simp)⟩
          rw [l26', List.take_of_length_le (by simp [l26'])] at e10
          obtain ⟨st, sts, hst2⟩ := List.exists_cons_of_ne_nil (strange_some (found := xs) (by omega))
          rw [hst2] at e10
          have hstm : st ∈ (letters.cps.toList.map fun c => (⟨#[c]⟩ : Str)).filter fun y => !decide (y ∈ xs) := by rw [hst2]; simp
          obtain ⟨z1, z2⟩ := List.mem_filter.mp hstm
          have hstx : st ∉ xs := by simpa using z2
          obtain ⟨ch, hch, rfl⟩ := List.mem_map.mp z1
          have hso : NameOk (⟨#[ch]⟩ : Str) := ⟨Nat.le_refl 1, by show 1 ≤ 8; decide, fun c hc => by
            have : c = ch := by simpa using hc
            rw [this]; exact hch⟩
          have ri10 := ri9.same s10
          have fr10 := fr9.trans (Fr.of s10)
          have hap10 := s10 _ _ hap9
          have hsc10 := s10 _ _ hsc9
          have hLv10 : Lv (F :: S :: L) H10 := ((hLv8.same ssc).same s10)
          refine ⟨D, _, 0, _, rfl, rfl, SqL.of e10, at_of (j := 0) (v := V.str ⟨#[ch]⟩) rfl rfl, ?_⟩
          generalize hgame : (t ++ (⟨#[letters.cps.toList.getD i 0]⟩ : Str)) ++ (⟨#[letters.cps.toList.getD j 0]⟩ : Str) = game
          have hgame' : game = gname t i j := hgame.symm
          have hgok : NameOk game := by rw [hgame']; exact gname_ok ht ht6 (by omega) (by omega)
          have hpts : ∀ x ∈ [p1, p2], 0 ≤ x ∧ x ≤ 4 := fun x hx => by
            rcases List.mem_cons.mp hx with rfl | hx
            · omega
            · rw [List.mem_singleton.mp hx]; omega
          have e12 : ∀ x ∈ [pr.1, pr.2], NameOk x := fun x hx => by
            rcases List.mem_cons.mp hx with rfl | hx
            · exact hnm _ px1
            · rw [List.mem_singleton.mp hx]; exact hnm _ px2
          -- the end of a turn
          have fin : ∀ (H' : Hp) (rxx : List V) (rss : List Res) (tr b s' : Addr) (r : Res), RI H S cc F L t (fun a b => a < i ∨ (a = i ∧ b < j)) (1 + 5 * i + j) H' rxx rss → Fr [F, S] H3 H' → H' tr = some (.tup [.str r.game, .int r.day, .ref b, .ref s']) → tr ∉ F :: S :: L → H' b = some (.tup (r.names.map V.str)) → b ∉ F :: S :: L → H' s' = some (.tup (r.pts.map V.int)) → s' ∉ F :: S :: L → r.game = game → ResOk r →
              ∀ (u9 u10 u11 u12 u13 u14 u15 : Option V), ∃ (v9 v10 v11 v12 v13 v14 v15 : Option V) (rx : List V) (rs : List Res), [some (V.ref S), some (.str t), some (.ref l), some (.ref c), some (.str letters), some (.ref F), some (.int (i : Nat)), some (.ref g), some (oV lp.2), u9, u10, u11, u12, u13, u14, u15, none] = [some (V.ref S), some (.str t), some (.ref l), some (.ref c), some (.str letters), some (.ref F), some (.int (i : Nat)), some (.ref g), some (oV lp.2), v9, v10, v11, v12, v13, v14, v15, none] ∧
                RI H S cc F L t (fun a b => a < i ∨ (a = i ∧ b < j + 1)) (1 + 5 * i + (j + 1)) (upd H' F (.lst (rxx ++ [.ref tr]))) rx rs ∧ Fr [F, S] H3 (upd H' F (.lst (rxx ++ [.ref tr]))) := by
            intro H' rxx rss tr b s' r rri fr htr ntr hb nb hs ns hgm hro u9 u10 u11 u12 u13 u14 u15
            refine ⟨_, _, _, _, _, _, _, _, _, rfl, rri.add hFH hccF (da_res' htr ntr hb nb hs ns) hro (hgm.trans hgame') (by omega) (by omega) (by omega) (fun a b z => by omega) (by omega), fr.trans (Fr.set (by simp))⟩
          have lrx : ∀ (H' : Hp) (rxx : List V) (rss : List Res), RI H S cc F L t (fun a b => a < i ∨ (a = i ∧ b < j)) (1 + 5 * i + j) H' rxx rss → rxx.length < sizeLine := fun H' rxx rss rri => by
            have h1 := rri.2.2.2.1.len
            have h2 := rri.2.2.2.2.1
            rw [List.length_map] at h1
            omega
          have l4 : 4 ≤ sizeLine := by omega
          have nt4 : ∀ {xs : List V}, NT (.tup xs) := fun _ z => by cases z
          -- way == 0
          refine ⟨_, rfl, rfl, _, rfl, ?_⟩
          by_cases q0 : V.int way = V.int 0
          · refine ite_tt q0 ?_
            refine ⟨_, rfl, .inl ⟨rfl, _, SqL.of ri10.2.2.1⟩, _, rfl, _, rfl, _, rfl, ap, _, _, rfl, SqT.of hap10, fun b hb => ?_⟩
            have m1 := same_new (o := .tup [.str pr.2, .str pr.1]) hb
            refine ⟨_, rfl, l4, fun tr htr => ?_⟩
            have m2 := same_new (o := .tup [.str game, .int (i : Nat), .ref b, .ref sc]) htr
            have m12 := m1.trans m2
            refine ⟨F, _, _, rfl, rfl, (ri10.same m12).2.2.1, lrx _ _ _ ri10, ?_⟩
            refine fin _ _ _ tr b sc ⟨game, (i : Nat), [pr.2, pr.1], [p1, p2]⟩ (ri10.same m12) (fr10.trans (Fr.of m12)) upd_same ((hLv10.same m1).new htr) (m2 _ _ upd_same) (hLv10.new hb) (m12 _ _ hsc10) hscn rfl ?_ _ _ _ _ _ _ _
            refine ⟨hgok, by show (0 : Int) ≤ (i : Nat); omega, by show ((i : Nat) : Int) ≤ 400; omega, Nat.le_refl 2, by show 2 ≤ 4; decide, fun x hx => e12 x (by simp at hx ⊢; exact hx.symm), by simp [Ne.symm pxn], rfl, hpts⟩
          refine ite_ff q0 ?_
          have hscS : sc ≠ S := fun z => hscn (by rw [z]; simp)
          -- the pair itself, or another name beside the first
          refine ⟨_, rfl, rfl, _, rfl, ?_⟩
          by_cases q2 : V.int way = V.int 2
          · refine ite_tt q2 ?_
            refine ⟨_, rfl, S, cc, _, rfl, ri10.2.1, by decide, by decide, fun H11 rr sx11 h11 rr0 rr2 => ⟨rfl, _, rfl, ?_⟩⟩
            have ri11 := ri10.draw sx11 h11
            have fr11 : Fr [F, S] H3 H11 := fr10.trans ((Sx.fr sx11).mono (by simp))
            have hap11 := sx11 _ _ hap10 napS
            have hsc11 := sx11 _ _ hsc10 hscS
            have hLv11 : Lv (F :: S :: L) H11 := (((hL.sx ri11.1 ri11.2.1.nt).cons (stS ri11.2.1).choose_spec nt_dK)).cons ri11.2.2.1 nt_lst
            by_cases q3 : V.int rr = V.int 0
            · refine ite_tt q3 ?_
              refine ⟨_, rfl, .inl ⟨rfl, _, SqL.of ri11.2.2.1⟩, _, rfl, _, rfl, _, rfl, _, rfl, _, rfl, S, cc, _, rfl, h11, .inr ⟨l, lx, rfl, keepH ri11.1 hl nlS, by omega, by omega, fun H12 jx x sx12 h12 hx12 => ?_⟩⟩
              have ri12 := ri11.draw sx12 h12
              have fr12 : Fr [F, S] H3 H12 := fr11.trans ((Sx.fr sx12).mono (by simp))
              obtain ⟨dq, e5, e6⟩ := (hd3.fr fr12 sub2).get hx12
              rw [lapsD, List.getElem?_map] at e5
              obtain ⟨lp', hlp', rfl⟩ := Option.map_eq_some_iff.mp e5
              obtain ⟨a1', g', gx', rfl, ha1', na1', hg', ng', hgx'⟩ := da_lap e6
              have lgx' : gx'.length = lp'.1.length := by rw [hgx'.len, List.length_map]
              have hl5' := (hok lp' (List.mem_of_getElem? hlp')).1
              have hl1' := hne lp' (List.mem_of_getElem? hlp')
              refine ⟨a1', _, 0, _, rfl, rfl, SqT.of ha1', at_of (j := 0) (v := .ref g') rfl rfl, ?_⟩
              refine ⟨S, cc, _, rfl, h12, .inr ⟨g', gx', rfl, hg', by omega, by omega, fun H13 jy y sx13 h13 hy13 => ?_⟩⟩
              have ri13 := ri12.draw sx13 h13
              have fr13 : Fr [F, S] H3 H13 := fr12.trans ((Sx.fr sx13).mono (by simp))
              obtain ⟨dq2, e7, e8⟩ := (hgx'.fr (L' := [S]) (Sx.fr sx13) (by simp)).get hy13
              rw [List.getElem?_map] at e7
              obtain ⟨pr', hpr', rfl⟩ := Option.map_eq_some_iff.mp e7
              obtain ⟨ap', rfl, hap', nap'⟩ := da_pr e8
              obtain ⟨py1, py2, pyn⟩ := (hok lp' (List.mem_of_getElem? hlp')).2.1 pr' (List.mem_of_getElem? hpr')
              have hsc13 := sx13 _ _ (sx12 _ _ hsc11 hscS) hscS
              have hLv13 : Lv (F :: S :: L) H13 := (((hL.sx ri13.1 ri13.2.1.nt).cons (stS ri13.2.1).choose_spec nt_dK)).cons ri13.2.2.1 nt_lst
              refine ⟨_, rfl, l4, fun tr htr => ?_⟩
              have m2 := same_new (o := .tup [.str game, .int (i : Nat), .ref ap', .ref sc]) htr
              refine ⟨F, _, _, rfl, rfl, (ri13.same m2).2.2.1, lrx _ _ _ ri13, ?_⟩
              refine fin _ _ _ tr ap' sc ⟨game, (i : Nat), [pr'.1, pr'.2], [p1, p2]⟩ (ri13.same m2) (fr13.trans (Fr.of m2)) upd_same (hLv13.new htr) (m2 _ _ hap') nap' (m2 _ _ hsc13) hscn rfl ?_ _ _ _ _ _ _ _
              refine ⟨hgok, by show (0 : Int) ≤ (i : Nat); omega, by show ((i : Nat) : Int) ≤ 400; omega, Nat.le_refl 2, by show 2 ≤ 4; decide, fun x hx => ?_, by simp [pyn], rfl, hpts⟩
              rcases List.mem_cons.mp hx with rfl | hx
              · exact hnm _ py1
              · rw [List.mem_singleton.mp hx]; exact hnm _ py2
            · refine ite_ff q3 ?_
              refine ⟨_, rfl, rfl, _, rfl, ?_⟩
              refine ite_tt q2 ?_
              have hc11 := keepH ri11.1 hc ncS
              have h2l : (⟨#[ch]⟩ : Str).length = 1 := rfl
              have hso2 : NameOk ((⟨#[ch]⟩ : Str) ++ (⟨#[ch]⟩ : Str)) := by
                refine ⟨by rw [len_app]; omega, by rw [len_app]; omega, fun c hc => ?_⟩
                rw [cps_app] at hc
                rcases List.mem_append.mp hc with hc | hc <;> exact hso.2.2 c hc
              refine ⟨_, rfl, _, rfl, rfl, by rw [h2l]; exact Nat.le_refl 1, by rw [h2l]; decide, _, rfl, c, _, rfl, .inl (SqL.of hc11), rfl, flat_strs _, .inr ⟨_, rfl, ?_⟩⟩
              rw [if_pos rfl, inV_strs]
              by_cases hin : ((⟨#[ch]⟩ : Str) ++ (⟨#[ch]⟩ : Str)) ∈ xs
              · rw [decide_eq_true hin]
                refine ⟨1, 0, rfl, rfl, ?_⟩
                simp only [Int.add_zero]
                refine ⟨_, rfl, .inl ⟨rfl, _, SqL.of ri11.2.2.1⟩, _, rfl, _, rfl, _, rfl, _, rfl, _, rfl, _, rfl, rfl, by rw [h2l]; exact Nat.le_refl 1, by rw [h2l]; decide, sl2, fun b1 hb1 => ⟨_, rfl, _, rfl, b1, _, rfl, SqT.of upd_same, ?_⟩⟩
                have m1 := same_new (o := .tup [.str ⟨#[ch]⟩, .str ((⟨#[ch]⟩ : Str) ++ (⟨#[ch]⟩ : Str))]) hb1
                refine ⟨fun z => absurd (show (1 : Nat) = 2 from z.2) (by decide), fun _ b2 hb2 => ?_⟩
                have m2 := same_new (o := .tup (cutV [.str ⟨#[ch]⟩, .str ((⟨#[ch]⟩ : Str) ++ (⟨#[ch]⟩ : Str))] none (some 1))) hb2
                have m12 := m1.trans m2
                have hb2' : upd (upd H11 b1 (.tup [.str ⟨#[ch]⟩, .str ((⟨#[ch]⟩ : Str) ++ (⟨#[ch]⟩ : Str))])) b2 (.tup (cutV [.str ⟨#[ch]⟩, .str ((⟨#[ch]⟩ : Str) ++ (⟨#[ch]⟩ : Str))] none (some 1))) b2 = some (.tup [.str ⟨#[ch]⟩]) := upd_same
                have hbb := hb2'
                generalize (upd (upd H11 b1 (.tup [.str ⟨#[ch]⟩, .str ((⟨#[ch]⟩ : Str) ++ (⟨#[ch]⟩ : Str))])) b2 (.tup (cutV [.str ⟨#[ch]⟩, .str ((⟨#[ch]⟩ : Str) ++ (⟨#[ch]⟩ : Str))] none (some 1)))) = H12 at *
                refine ⟨ap, b2, _, _, rfl, rfl, SqT.of (m12 _ _ hap11), SqT.of hbb, by show 3 ≤ sizeLine; omega, fun z => absurd z (by simp), fun _ z => absurd z (by simp), fun _ _ b hb => ?_⟩
                have m3 : Same H12 (upd H12 b (.tup [.str pr.1, .str pr.2, .str ⟨#[ch]⟩])) := same_new hb
                have hbn : b ∉ F :: S :: L := (hLv11.same m12).new hb
                have hb' : upd H12 b (.tup [.str pr.1, .str pr.2, .str ⟨#[ch]⟩]) b = some (.tup [.str pr.1, .str pr.2, .str ⟨#[ch]⟩]) := upd_same
                refine ⟨_, rfl, sl2, fun b3 hb3 => ⟨_, rfl, _, rfl, b3, _, rfl, SqT.of upd_same, ?_⟩⟩
                have m4 := same_new (o := .tup [.int 4, .int 4]) hb3
                refine ⟨fun z => absurd (show (1 : Nat) = 2 from z.2) (by decide), fun _ b4 hb4 => ?_⟩
                have m5 := same_new (o := .tup (cutV [.int 4, .int 4] none (some 1))) hb4
                have m45 := m4.trans m5
                refine ⟨sc, b4, _, [.int 4], rfl, rfl, SqT.of (m45 _ _ (m3 _ _ (m12 _ _ hsc11))), SqT.of upd_same, by show 3 ≤ sizeLine; omega, fun z => absurd z (by simp), fun _ z => absurd z (by simp), fun _ _ s' hs' => ?_⟩
                have m6 := same_new (o := .tup [.int p1, .int p2, .int 4]) hs'
                have m16 := m12.trans (m3.trans m45)
                have hsn : s' ∉ F :: S :: L := (hLv11.same m16).new hs'
                refine ⟨l4, fun tr htr => ?_⟩
                have m7 := same_new (o := .tup [.str game, .int (i : Nat), .ref b, .ref s']) htr
                have m17 := m16.trans (m6.trans m7)
                refine ⟨F, _, _, rfl, rfl, (ri11.same m17).2.2.1, lrx _ _ _ ri11, ?_⟩
                refine fin _ _ _ tr b s' ⟨game, (i : Nat), [pr.1, pr.2, ⟨#[ch]⟩], [p1, p2, 4]⟩ (ri11.same m17) (fr11.trans (Fr.of m17)) upd_same ((hLv11.same (m16.trans m6)).new htr) (m7 _ _ (m6 _ _ (m45 _ _ hb'))) hbn (m7 _ _ upd_same) hsn rfl ?_ _ _ _ _ _ _ _
                refine ⟨hgok, by show (0 : Int) ≤ (i : Nat); omega, by show ((i : Nat) : Int) ≤ 400; omega, by show 2 ≤ 3; decide, by show 3 ≤ 4; decide, fun x hx => ?_, ?_, rfl, fun x hx => ?_⟩
                · simp at hx
                  rcases hx with rfl | rfl | rfl
                  · exact hnm _ px1
                  · exact hnm _ px2
                  · exact hso
                · have y1 : pr.1 ≠ (⟨#[ch]⟩ : Str) := fun z => hstx (by rw [← z]; exact px1)
                  have y2 : pr.2 ≠ (⟨#[ch]⟩ : Str) := fun z => hstx (by rw [← z]; exact px2)
                  simp [pxn, y1, y2]
                · simp at hx
                  rcases hx with rfl | rfl | rfl <;> omega
              · rw [decide_eq_false hin]
                refine ⟨1, 1, rfl, rfl, ?_⟩
                refine ⟨_, rfl, .inl ⟨rfl, _, SqL.of ri11.2.2.1⟩, _, rfl, _, rfl, _, rfl, _, rfl, _, rfl, _, rfl, rfl, by rw [h2l]; exact Nat.le_refl 1, by rw [h2l]; decide, sl2, fun b1 hb1 => ⟨_, rfl, _, rfl, b1, _, rfl, SqT.of upd_same, ?_⟩⟩
                have m1 := same_new (o := .tup [.str ⟨#[ch]⟩, .str ((⟨#[ch]⟩ : Str) ++ (⟨#[ch]⟩ : Str))]) hb1
                refine ⟨fun _ => ?_, fun z => absurd ⟨rfl, rfl⟩ z⟩
                have m12 := m1
                have hbb : upd H11 b1 (.tup [.str ⟨#[ch]⟩, .str ((⟨#[ch]⟩ : Str) ++ (⟨#[ch]⟩ : Str))]) b1 = some (.tup [.str ⟨#[ch]⟩, .str ((⟨#[ch]⟩ : Str) ++ (⟨#[ch]⟩ : Str))]) := upd_same
                generalize (upd H11 b1 (.tup [.str ⟨#[ch]⟩, .str ((⟨#[ch]⟩ : Str) ++ (⟨#[ch]⟩ : Str))])) = H12 at *
                refine ⟨ap, b1, _, _, rfl, rfl, SqT.of (m12 _ _ hap11), SqT.of hbb, by show 4 ≤ sizeLine; omega, fun z => absurd z (by simp), fun _ z => absurd z (by simp), fun _ _ b hb => ?_⟩
                have m3 : Same H12 (upd H12 b (.tup [.str pr.1, .str pr.2, .str ⟨#[ch]⟩, .str ((⟨#[ch]⟩ : Str) ++ (⟨#[ch]⟩ : Str))])) := same_new hb
                have hbn : b ∉ F :: S :: L := (hLv11.same m12).new hb
                have hb' : upd H12 b (.tup [.str pr.1, .str pr.2, .str ⟨#[ch]⟩, .str ((⟨#[ch]⟩ : Str) ++ (⟨#[ch]⟩ : Str))]) b = some (.tup [.str pr.1, .str pr.2, .str ⟨#[ch]⟩, .str ((⟨#[ch]⟩ : Str) ++ (⟨#[ch]⟩ : Str))]) := upd_same
                refine ⟨_, rfl, sl2, fun b3 hb3 => ⟨_, rfl, _, rfl, b3, _, rfl, SqT.of upd_same, ?_⟩⟩
                have m4 := same_new (o := .tup [.int 4, .int 4]) hb3
                refine ⟨fun _ => ?_, fun z => absurd ⟨rfl, rfl⟩ z⟩
                have m45 := m4
                refine ⟨sc, b3, _, _, rfl, rfl, SqT.of (m45 _ _ (m3 _ _ (m12 _ _ hsc11))), SqT.of upd_same, by show 4 ≤ sizeLine; omega, fun z => absurd z (by simp), fun _ z => absurd z (by simp), fun _ _ s' hs' => ?_⟩
                have m6 := same_new (o := .tup [.int p1, .int p2, .int 4, .int 4]) hs'
                have m16 := m12.trans (m3.trans m45)
                have hsn : s' ∉ F :: S :: L := (hLv11.same m16).new hs'
                refine ⟨l4, fun tr htr => ?_⟩
                have m7 := same_new (o := .tup [.str game, .int (i : Nat), .ref b, .ref s']) htr
                have m17 := m16.trans (m6.trans m7)
                refine ⟨F, _, _, rfl, rfl, (ri11.same m17).2.2.1, lrx _ _ _ ri11, ?_⟩
                refine fin _ _ _ tr b s' ⟨game, (i : Nat), [pr.1, pr.2, ⟨#[ch]⟩, (⟨#[ch]⟩ : Str) ++ (⟨#[ch]⟩ : Str)], [p1, p2, 4, 4]⟩ (ri11.same m17) (fr11.trans (Fr.of m17)) upd_same ((hLv11.same (m16.trans m6)).new htr) (m7 _ _ (m6 _ _ (m45 _ _ hb'))) hbn (m7 _ _ upd_same) hsn rfl ?_ _ _ _ _ _ _ _
                refine ⟨hgok, by show (0 : Int) ≤ (i : Nat); omega, by show ((i : Nat) : Int) ≤ 400; omega, by show 2 ≤ 4; decide, by show 4 ≤ 4; decide, fun x hx => ?_, ?_, rfl, fun x hx => ?_⟩
                · simp at hx
                  rcases hx with rfl | rfl | rfl | rfl
                  · exact hnm _ px1
                  · exact hnm _ px2
                  · exact hso
                  · exact hso2
                · have y1 : pr.1 ≠ (⟨#[ch]⟩ : Str) := fun z => hstx (by rw [← z]; exact px1)
                  have y2 : pr.2 ≠ (⟨#[ch]⟩ : Str) := fun z => hstx (by rw [← z]; exact px2)
                  have y3 : pr.1 ≠ (⟨#[ch]⟩ : Str) ++ (⟨#[ch]⟩ : Str) := fun z => hin (by rw [← z]; exact px1)
                  have y4 : pr.2 ≠ (⟨#[ch]⟩ : Str) ++ (⟨#[ch]⟩ : Str) := fun z => hin (by rw [← z]; exact px2)
                  have y5 : (⟨#[ch]⟩ : Str) ≠ (⟨#[ch]⟩ : Str) ++ (⟨#[ch]⟩ : Str) := fun z => by
                    have := congrArg Str.length z
                    rw [len_app] at this
                    omega
                  simp [pxn, y1, y2, y3, y4, y5]
                · simp at hx
                  rcases hx with rfl | rfl | rfl | rfl <;> omega
          · refine ite_ff q2 ?_
            refine ⟨_, rfl, rfl, _, rfl, ?_⟩
            refine ite_ff q2 ?_
            refine ⟨_, rfl, rfl, _, rfl, ?_⟩
            by_cases q1 : V.int way = V.int 1
            · refine ite_tt q1 ?_
              refine ⟨_, rfl, .inl ⟨rfl, _, SqL.of ri10.2.2.1⟩, _, rfl, _, rfl, _, rfl, ap, _, 0, _, rfl, rfl, SqT.of hap10, at_of (j := 0) (v := V.str pr.1) rfl rfl, _, rfl, sl2, fun b hb => ?_⟩
              have m1 := same_new (o := .tup [.str pr.1, .str ⟨#[ch]⟩]) hb
              refine ⟨_, rfl, l4, fun tr htr => ?_⟩
              have m2 := same_new (o := .tup [.str game, .int (i : Nat), .ref b, .ref sc]) htr
              have m12 := m1.trans m2
              refine ⟨F, _, _, rfl, rfl, (ri10.same m12).2.2.1, lrx _ _ _ ri10, ?_⟩
              refine fin _ _ _ tr b sc ⟨game, (i : Nat), [pr.1, ⟨#[ch]⟩], [p1, p2]⟩ (ri10.same m12) (fr10.trans (Fr.of m12)) upd_same ((hLv10.same m1).new htr) (m2 _ _ upd_same) (hLv10.new hb) (m12 _ _ hsc10) hscn rfl ?_ _ _ _ _ _ _ _
              refine ⟨hgok, by show (0 : Int) ≤ (i : Nat); omega, by show ((i : Nat) : Int) ≤ 400; omega, Nat.le_refl 2, by show 2 ≤ 4; decide, fun x hx => ?_, ?_, rfl, hpts⟩
              · rcases List.mem_cons.mp hx with rfl | hx
                · exact hnm _ px1
                · rw [List.mem_singleton.mp hx]; exact hso
              · have : pr.1 ≠ (⟨#[ch]⟩ : Str) := fun z => hstx (by rw [← z]; exact px1)
                simp [this]
            · refine ite_ff q1 ?_
              refine ⟨_, rfl, _, _, rfl, rfl, _, rfl, ?_⟩
              have b0 : way ≠ 0 := fun z => q0 (by rw [z])
              have b1 : way ≠ 1 := fun z => q1 (by rw [z])
              have b2 : way ≠ 2 := fun z => q2 (by rw [z])
              refine ite_tt (by omega) ?_
              refine ⟨_, rfl, .inl ⟨rfl, _, SqL.of ri10.2.2.1⟩, _, rfl, _, rfl, _, rfl, _, rfl, l4, fun tr htr => ?_⟩
              have m2 := same_new (o := .tup [.str game, .int (i : Nat), .ref ap, .ref sc]) htr
              refine ⟨F, _, _, rfl, rfl, (ri10.same m2).2.2.1, lrx _ _ _ ri10, ?_⟩
              refine fin _ _ _ tr ap sc ⟨game, (i : Nat), [pr.1, pr.2], [p1, p2]⟩ (ri10.same m2) (fr10.trans (Fr.of m2)) upd_same (hLv10.new htr) (m2 _ _ hap10) nap (m2 _ _ hsc10) hscn rfl ?_ _ _ _ _ _ _ _
              exact ⟨hgok, by show (0 : Int) ≤ (i : Nat); omega, by show ((i : Nat) : Int) ≤ 400; omega, Nat.le_refl 2, by show 2 ≤ 4; decide, e12, by simp [pxn], rfl, hpts⟩
        · obtain ⟨w9, w10, w11, w12, w13, w14, w15, rx4, rs4, rfl, ri4, fr4⟩ := p4
          refine ⟨_, _, _, _, _, _, _, _, _, _, rx4, rs4, rfl, ri4.skip (fun a b z => ?_) (by omega)⟩
          omega
      · obtain ⟨u6, u7, u8, u9, u10, u11, u12, u13, u14, u15, rx2, rs2, rfl, ri2⟩ := p2
        obtain ⟨a1, a2, a3, a4, a5, a6, a7, a8⟩ := ri2
        have hl9 : lx.length ≤ 9 := by omega
        exact ⟨_, rfl, k _ F rx2 rs2 a1 a2 a3 hFH (a4.mono (by simp +contextual)) (by omega) a6 a7⟩
end
end MR
namespace MR
open PySem PySem.Spec PyProof.Rows L2 LamX
mutual
/-- what is no list and no tuple is not in it -/
theorem Da.off {L : List Addr} {H : Hp} {p : Addr} {o : HO} (hp : H p = some o) (n1 : ∀ xs, o ≠ .lst xs) (n2 : ∀ xs, o ≠ .tup xs) : ∀ {v : V} {d : PyData}, Da L H v d → Da (p :: L) H v d
  | _, _, .non => .non
  | _, _, .bl b => .bl b
  | _, _, .int i => .int i
  | _, _, .str x => .str x
  | _, _, .lst h n a => .lst h (nmem_cons (fun z => by rw [z, hp] at h; exact n1 _ (Option.some.inj h)) n) (DaAll.off hp n1 n2 a)
  | _, _, .tup h n a => .tup h (nmem_cons (fun z => by rw [z, hp] at h; exact n2 _ (Option.some.inj h)) n) (DaAll.off hp n1 n2 a)
theorem DaAll.off {L : List Addr} {H : Hp} {p : Addr} {o : HO} (hp : H p = some o) (n1 : ∀ xs, o ≠ .lst xs) (n2 : ∀ xs, o ≠ .tup xs) : ∀ {v : List V} {d : List PyData}, DaAll L H v d → DaAll (p :: L) H v d
  | _, _, .nil => .nil
  | _, _, .cons a b => .cons (Da.off hp n1 n2 a) (DaAll.off hp n1 n2 b)
end
/-! a method that may raise, within a try -/
def tMethS (C : Addr) (m : Str) (sp : Sp) (E : St → XK) (ta : TE) (t : TA) : TE := fun σ H Q => ta σ H fun x H1 => ∃ a dx fs, x = .ref a ∧ H1 a = some (.ins C dx fs) ∧ fs.lookup m = none ∧ t σ H1 fun vs H2 => sp (x :: vs) H2 Q (E σ)
section
variable {X : Cx} {CX : CXT} {k : Nat} {m : Str} {ps : List Str} {sp : Sp} {E : St → XK} {e o : Expr} {es : List Expr} {t : TA} {ta : TE} {apos pos : Pos} {C : Addr}
theorem pe_methS {pl : Sem Bool} (he : PE X o ta) (c : Cls X.K C) (O : OkM X.prog X.w X.K X.mg X.base CX C k m ps sp) (hr : Room k X.A) (hx : ∀ σ, PassesAt CX X σ (E σ)) (ha : PA X (e :: es) t)
    (hst : starEach (e :: es) X.env = (false, eval e X.env) :: starEach es X.env := by rfl) (hpl : (backTo pos (starEach es X.env)).any (·.1) = false := by rfl)
    (ht : eval (.Call (.Attribute o m apos) (e :: es) [] pos) X.env = (do
      let ov ← eval o X.env
      standAt apos.atName
      let (f, first) ← holding [ov] (getMethod ov m pl)
      callWith pos f first (backTo pos (starEach (e :: es) X.env)) (backToKw pos (keywordEach [] X.env))) := by rfl) :
    PE X (.Call (.Attribute o m apos) (e :: es) [] pos) (tMethS C m sp E ta t) := by
  obtain ⟨f, fd, F, hm, hb⟩ := O
  refine ⟨fun pins s σ H Q I h => ?_⟩
  refine PySem.W.methodCall_KW (pl := pl) (thn (he.run pins s σ H _ I h) fun u t1 ⟨y, G1, I1, ry, a, dx, fs, ey, ha1, hno, q⟩ => ?_) ht
  subst ey
  obtain rfl : u = Value.ref a := ry
  refine getmeth_ok I1 ha1 c hm hno ?_
  refine PySem.W.callWith_K (first := [.ref a]) (h₀ := X.base) I.ok.mod.kin hm.kp (thn (ha.run pos pins t1 σ G1 _ I1 q) fun us t2 ⟨vs, G2, I2, r, q2⟩ => ⟨I2.kIn, ?_⟩) hst hpl
  exact run_fnS (us := .ref a :: us) (vs := .ref a :: vs) F hr hb (hx σ) I2 (.cons rfl r) q2
end
section
variable {P : Program} {w : World} {K : PySem.W.Frag} {mg : Str → Option Value} {base : Heap} {C : Addr} {cp Pp cb Pb CN CO : Addr}
abbrev N_law_due : List Str := ["_law_laps", "_law_crew_here", "_law_score", "_law_games", "_law_out", "_law_done", "_law_rest", "_law_lead", "_law_one", "_law_other"]
abbrev ps_law_due : List Str := ["_law_laps", "_law_crew_here", "_law_score"]
theorem sc_law_due : FnScope N_law_due ps_law_due (defScope MH.s_law_due) := ⟨rfl, rfl, rfl, by decide +kernel, rfl, by decide +kernel, by decide +kernel⟩
def sp_due (Pp Pb : Addr) : Sp := fun vs H Q _ => ∃ (l c d : Addr) (lx : List V) (laps : List Lap) (xs : List Str) (f : Str → Int) (L : List Addr), vs = [.ref l, .ref c, .ref d] ∧ H l = some (.lst lx) ∧ DaAll [] H lx (lapsD laps) ∧ laps.length ≤ 9 ∧ (∀ q ∈ laps, LapOk xs q) ∧
  H c = some (.lst (xs.map V.str)) ∧ 2 ≤ xs.length ∧ xs.length ≤ 10 ∧ H d = some (.dK (tab xs f)) ∧ (∀ x ∈ xs, 0 ≤ f x ∧ f x ≤ 100) ∧ Lv L H ∧ Tabs (TT2 Pp Pb) H ∧
  ∀ H' v r, ExtN H H' → Tabs (TT2 Pp Pb) H' → PR (scI xs f) (barL xs (metL laps)) (pls xs.length) (spareL xs f (satL laps)) r → Da L H' v (rD xs (fstC (metL laps)) r) → Q v H'
theorem ok_law_due (T : Txt K mg C) (LT : Lt K mg base cp Pp cb Pb) : Ok P w K mg base CX0 14 "_law_due" ps_law_due (sp_due Pp Pb) := by
  refine T.d_law_due.ok sc_law_due (fun vs H Q E h => ?_) (fun _ _ _ _ _ _ us hl => match us, hl with | [_, _, _], _ => rfl)
    (fun fa cdv A outer s H vs Q E hr h => ?_)
  · obtain ⟨_, _, _, _, _, _, _, _, rfl, _⟩ := h
    rfl
  · obtain ⟨l, c, d, lx, laps, xs, f, L, rfl, hl, hlaps, ll, hok, hc, l1, l2, hd, hf, hL, hT, k⟩ := h
    refine ⟨_, PSs.nox (pss_cons (ps_par3 (i := 5) (j := 6) (l := 7) (by rfl) sc_law_due.nd rfl rfl rfl (by decide) (by decide) (by decide) rfl rfl rfl (pa_cons (pe_lst pa_nil) (pa_cons (pe_lc (own := [("_law_games", 3), ("_law_out", 4)]) (g := (gTup K 2 (gCons (gName 3) (gCons (gName 4) gNil)))) rfl sc_law_due.nd (pi_list (pv 0)) (blkOk_by (own := [("_law_games", 3), ("_law_out", 4)]) (N := N_law_due) (sc := defScope MH.s_law_due) (by decide +kernel)) (fun _ _ _ _ _ => (pg_tup rfl (pgs_cons (pg_name (i := 3) sc_law_due.nd rfl (Or.inl rfl)) (pgs_cons (pg_name (i := 4) sc_law_due.nd rfl (Or.inl rfl)) pgs_nil)))) (fun _ _ _ _ _ => (pts_one (pt_cmpR op_notN (pv 4) pe_non (nomark _)))) (fun _ _ _ _ _ => (pv 4))) (pa_cons pe_dnewK pa_nil))) (by rfl))
        (pss_cons (ps_for PassesOwn.never rfl (pi_list (pv 0)) (pg_tup rfl (pgs_cons (pg_name (i := 3) sc_law_due.nd rfl (Or.inl rfl)) (pgs_cons (pg_name (i := 4) sc_law_due.nd rfl (Or.inl rfl)) pgs_nil))) (pss_one (ps_set (i := 5) sc_law_due.nd rfl (Or.inl rfl) (pe_op op_cat (pv 5) (pv 3)))))
        (pss_cons (ps_for PassesOwn.never rfl (pi_list (pv 5)) (pg_tup rfl (pgs_cons (pg_name (i := 8) sc_law_due.nd rfl (Or.inl rfl)) (pgs_cons (pg_name (i := 9) sc_law_due.nd rfl (Or.inl rfl)) pgs_nil))) (pss_one (ps_dput (hu_of hr) (pv 7) (pv 8) (pe_op op_add (pe_dget2 (hu_of hr) (pv 7) (pv 8) pe_int ⟨rfl, rfl, rfl, rfl⟩) pe_int) rfl)))
        (pss_one (ps_ret (pe_fn (ok_law_best T LT) (hr.mono (by decide)) (by rfl) (pa_cons (pe_lst (pa_cons (pv 1) (pa_cons (pv 2) (pa_cons (pv 5) (pa_cons (pv 6) (pa_cons (pv 7) pa_nil)))))) pa_nil)))))))
      , ?_⟩
    have llx : lx.length = laps.length := by rw [hlaps.len, lapsD, List.length_map]
    refine ⟨sl0, fun D0 hD0 => ?_⟩
    have r0 := same_new (o := .lst []) hD0
    have lmet := metL_len hok
    refine ⟨_, rfl, l, rfl, ⟨_, SqL.of (r0 _ _ hl)⟩, fun RD hRD => ?_⟩
    refine lc_F walk_list (fun j => (satL (laps.take j)).map V.str) hRD rfl (fun _ z => SqL.of (z _ _ (r0 _ _ hl))) (fun j v H5 H5' hj p5 y => ?_) (fun H5 s5 e5 => ?_)
    · obtain ⟨rfl, y⟩ := y
      obtain ⟨dd, e6, e7⟩ := ((hlaps.same r0).same p5.1).get y
      rw [lapsD, List.getElem?_map] at e6
      obtain ⟨lp, hlp, rfl⟩ := Option.map_eq_some_iff.mp e6
      obtain ⟨a1, g, gx, rfl, ha1, na1, hg, ng, hgx⟩ := da_lap e7
      have hj' : j < 1000000 := by omega
      refine ⟨a1, _, rfl, SqT.of ha1, rfl, _, _, rfl, _, _, rfl, rfl, ?_⟩
      refine ⟨rfl, _, rfl, rfl, _, rfl, ?_⟩
      have hst : satL (laps.take (j + 1)) = satL (laps.take j) ++ (match lp.2 with | none => [] | some x => [x]) := by
        unfold satL
        rw [take_succ' hlp, List.filterMap_append]
        cases h2 : lp.2 <;> simp [List.filterMap, h2]
      cases ho : lp.2 with
      | none =>
        rw [ho] at hst
        exact skipF p5 (Same.refl _) (by rw [hst]; simp)
      | some z =>
        rw [ho] at hst
        exact ⟨_, rfl, putF p5 hRD (Same.refl _) hj' (by rw [hst, List.map_append]; rfl)⟩
    rw [llx, List.take_length] at e5
    refine fun LD hLD => ⟨_, _, _, rfl, ?_⟩
    have r1 := same_new (o := .dK []) hLD
    have s05 := (r0.trans s5).trans r1
    have hD05 := r1 _ _ (s5 _ _ (upd_same (H := H) (a := D0) (o := .lst [])))
    have e51 := r1 _ _ e5
    have hLD5 : upd H5 LD (.dK []) LD = some (.dK []) := upd_same
    generalize upd H5 LD (.dK []) = H6 at *
    -- done
    refine ⟨_, rfl, l, rfl, ⟨_, SqL.of (s05 _ _ hl)⟩, ?_⟩
    refine for_it walk_list (fun i σ H' => ∃ (u3 u4 : Option V) (D : Addr) (acc : List V), σ = [some (.ref l), some (.ref c), some (.ref d), u3, u4, some (.ref D), some (.ref RD), some (.ref LD), none, none] ∧ Same H6 H' ∧ H' D = some (.lst acc) ∧ DaAll [] H' acc ((metL (laps.take i)).map prD))
      ⟨_, _, D0, [], rfl, Same.refl _, hD05, .nil⟩ (fun i σ H' hi ⟨_, _, _, _, _, z, _⟩ => SqL.of (z _ _ (s05 _ _ hl))) (fun i v σ H7 H7' hi p7 y => ?_) (fun σ H7 p7 => ?_)
    · obtain ⟨rfl, y⟩ := y
      obtain ⟨u3, u4, D, acc, rfl, s7, hD, hda⟩ := p7
      obtain ⟨dd, e6, e7⟩ := ((hlaps.same s05).same s7).get y
      rw [lapsD, List.getElem?_map] at e6
      obtain ⟨lp, hlp, rfl⟩ := Option.map_eq_some_iff.mp e6
      obtain ⟨a1, g, gx, rfl, ha1, na1, hg, ng, hgx⟩ := da_lap e7
      have lacc : acc.length ≤ 45 := by
        have h1 := metL_len (laps := laps.take i) (xs := xs) fun q hq => hok q (List.mem_of_mem_take hq)
        have h2 : (laps.take i).length ≤ 9 := by rw [List.length_take]; omega
        rw [hda.len, List.length_map]
        omega
      have lgx : gx.length ≤ 5 := by
        rw [hgx.len, List.length_map]
        exact (hok lp (List.mem_of_getElem? hlp)).1
      refine ⟨a1, _, rfl, SqT.of ha1, rfl, _, _, rfl, _, _, rfl, rfl, ?_⟩
      refine ⟨_, rfl, _, rfl, D, g, acc, gx, rfl, rfl, hD, hg, by have := szl; omega, fun D2 hD2 => ?_⟩
      have r2 := same_new (o := .lst (acc ++ gx)) hD2
      refine ⟨_, _, D2, acc ++ gx, rfl, s7.trans r2, upd_same, ?_⟩
      have e8 : metL (laps.take (i + 1)) = metL (laps.take i) ++ lp.1 := by
        unfold metL
        rw [take_succ' hlp, List.flatMap_append]
        simp
      rw [e8, List.map_append]
      exact (hda.same r2).app (hgx.same r2)
    obtain ⟨u3, u4, D, ms, rfl, s7, hD, hda⟩ := p7
    rw [llx, List.take_length] at hda
    generalize hmet : metL laps = met at *
    have lms : ms.length = met.length := by rw [hda.len, List.length_map]
    have hLD7 := s7 _ _ hLD5
    have hmem : ∀ q ∈ met, q.1 ∈ xs ∧ q.2 ∈ xs := fun q hq => by
      rw [← hmet] at hq
      obtain ⟨lp, hlp, hq2⟩ := List.mem_flatMap.mp hq
      exact ⟨((hok lp hlp).2.1 q hq2).1, ((hok lp hlp).2.1 q hq2).2.1⟩
    have hLDH : H LD = none := (r0.trans s5).free hLD
    have nDL : D ≠ LD := ne_of hD hLD7 (by intro z; cases z)
    have hda2 : DaAll [LD] H7 ms (met.map prD) := hda.off hLD7 (fun _ z => by cases z) (fun _ z => by cases z)
    -- lead
    refine ⟨_, rfl, D, rfl, ⟨_, SqL.of hD⟩, ?_⟩
    refine for_it walk_list (fun i σ H' => ∃ (u8 u9 : Option V) (kl : List (Key × V)), σ = [some (.ref l), some (.ref c), some (.ref d), u3, u4, some (.ref D), some (.ref RD), some (.ref LD), u8, u9] ∧ Sx LD H7 H' ∧ H' LD = some (.dK kl) ∧ kl.length ≤ i ∧ ∀ x, (valV kl (Sum.inr x)).getD (.int 0) = .int (fstC (met.take i) x))
      ⟨_, _, [], rfl, Sx.refl _ _, hLD7, Nat.le_refl _, fun x => rfl⟩ (fun i σ H' hi ⟨_, _, _, _, z, _⟩ => SqL.of (z _ _ hD nDL)) (fun i v σ H8 H8' hi p8 y => ?_) (fun σ H8 p8 => ?_)
    · obtain ⟨rfl, y⟩ := y
      obtain ⟨u8, u9, kl, rfl, sx, hk, hkl, hkv⟩ := p8
      obtain ⟨dd, e6, e7⟩ := (hda2.sx sx (by simp)).get y
      rw [List.getElem?_map] at e6
      obtain ⟨pr, hpr, rfl⟩ := Option.map_eq_some_iff.mp e6
      obtain ⟨ap, rfl, hap, nap⟩ := da_pr e7
      have hi45 : i < 1000 := by omega
      refine ⟨ap, _, rfl, SqT.of hap, rfl, _, _, rfl, _, _, rfl, rfl, ?_⟩
      refine ⟨_, rfl, LD, rfl, .inl ⟨_, .inl hk⟩, _, rfl, _, .inl ⟨_, Sum.inr pr.1, .inl hk, rfl, rfl⟩, ?_⟩
      rw [hkv pr.1]
      refine ⟨_, _, rfl, rfl, _, rfl, _, rfl, LD, _, rfl, DPut.k (k := Sum.inr pr.1) hk (by have := szl; omega), ?_⟩
      refine ⟨_, _, _, rfl, sx.trans Sx.set, upd_same, Nat.le_trans (length_putK _ _ _) (by omega), fun x => ?_⟩
      have hf1 : ∀ x, fstC (met.take (i + 1)) x = fstC (met.take i) x + (if pr.1 = x then 1 else 0) := fun x => by
        unfold fstC
        rw [filTake hpr]
        by_cases e : pr.1 = x <;> simp [e]
      rw [valV_put, hf1]
      by_cases e : x = pr.1
      · rw [if_pos (by rw [e]), e]
        simp
      · rw [if_neg (fun z => e (Sum.inr.inj z)), hkv x, if_neg (fun z => e z.symm)]
        simp
    · obtain ⟨u8, u9, kl, rfl, sx, hk, hkl, hkv⟩ := p8
      rw [lms, List.take_length] at hkv
      have lmt : met.length ≤ 45 := by omega
      have s08 : Same H H8 := fun q o hq => sx _ _ (s7 _ _ (s05 _ _ hq)) (ne_of_none hq hLDH)
      have hRDL : RD ≠ LD := ne_of (s7 _ _ e51) hLD7 (by intro z; cases z)
      have lsat : (satL laps).length ≤ 9 := Nat.le_trans (List.length_filterMap_le _ _) ll
      have hL8 := hL.same s08
      refine ⟨_, rfl, _, rfl, _, rfl, _, rfl, _, rfl, by show 5 ≤ sizeLine; have := szl; omega, fun TD hTD => ?_⟩
      have r9 := same_new (o := .lst [.ref c, .ref d, .ref D, .ref RD, .ref LD]) hTD
      have s09 := s08.trans r9
      have hda8 : DaAll [] H8 ms (met.map prD) := (hda2.sx sx (by simp)).mono (by simp)
      refine ⟨TD, c, d, D, RD, LD, xs, f, fstC met, ms, met, satL laps, kl, L, rfl, upd_same, s09 _ _ hc, l1, l2, s09 _ _ hd, hf, r9 _ _ (sx _ _ hD nDL), hda8.same r9, by omega, hmem, r9 _ _ (sx _ _ (s7 _ _ e51) hRDL), by omega, r9 _ _ hk, fun x _ => hkv x, hL8.same r9, (hT.ext s08).ext r9, fun H' v r x' T' hPR hD' => ?_⟩
      exact k H' v r ((ExtN.of s09).trans x') T' hPR hD'
abbrev N_law_told : List Str := ["_law_contest", "_law_score", "_law_caught", "_law_found"]
abbrev ps_law_told : List Str := ["_law_contest", "_law_score"]
theorem sc_law_told : FnScope N_law_told ps_law_told (defScope MH.s_law_told) := ⟨rfl, rfl, rfl, by decide +kernel, rfl, by decide +kernel, by decide +kernel⟩
def sp_told (C Pp Pb : Addr) : Sp := fun vs H Q _ => ∃ (p e l d : Addr) (t : Str) (b : Int) (lx : List V) (laps : List Lap) (xs : List Str) (f : Str → Int) (L : List Addr), vs = [.ref p, .ref d] ∧ CupAt C H p t e b l ∧ H e = some (.lst (xs.map V.str)) ∧
  2 ≤ xs.length ∧ xs.length ≤ 10 ∧ (∀ x ∈ xs, NameOk x) ∧ xs.Nodup ∧ H d = some (.dK (tab xs f)) ∧ (∀ x ∈ xs, 0 ≤ f x ∧ f x ≤ 100) ∧ H l = some (.lst lx) ∧ DaAll [l] H lx (lapsD laps) ∧ laps.length ≤ 9 ∧ (∀ q ∈ laps, LapOk xs q) ∧ Lv L H ∧ Tabs (TT2 Pp Pb) H ∧
  (b ≤ (laps.length : Int) → ∀ H', ExtN H H' → Tabs (TT2 Pp Pb) H' → Q (.int 0) H') ∧
  ((laps.length : Int) < b → ∀ H', ExtN H H' → Tabs (TT2 Pp Pb) H' → PR (scI xs f) (barS xs (metL laps)) (pls xs.length) (spareL xs f (satL laps)) none → Q .non H') ∧
  ((laps.length : Int) < b → ∀ (H' : Hp) (tt g2 : Addr) (ys : List V) (v : V) (r : Option Int × List Ip), PR (scI xs f) (barS xs (metL laps)) (pls xs.length) (spareL xs f (satL laps)) (some r) →
    Fr [l] H H' → Tabs (TT2 Pp Pb) H' → H' l = some (.lst (lx ++ [v])) → Da (g2 :: l :: L) H' v (lapD (lapOf xs (fstC (metL laps)) r)) → H' tt = some (.tup [.ref g2, oV (lapOf xs (fstC (metL laps)) r).2]) → H' g2 = some (.lst ys) → DaAll (g2 :: l :: L) H' ys ((lapOf xs (fstC (metL laps)) r).1.map prD) → New H tt → New H g2 → Q (.ref tt) H')
structure ExM (K : PySem.W.Frag) (CN CO : Addr) : Prop where
  nn : PySem.W.exmOne K (.ref CN) (.ref CN) = some true
  on : PySem.W.exmOne K (.ref CO) (.ref CN) = some false
  oo : PySem.W.exmOne K (.ref CO) (.ref CO) = some true
theorem ok_law_told (T : Txt K mg C) (LT : Lt K mg base cp Pp cb Pb) (XN : Exc1 K mg "NoPairing" CN) (XO : Exc1 K mg "Over" CO) (EX : ExM K CN CO) : Ok P w K mg base CX0 15 "_law_told" ps_law_told (sp_told C Pp Pb) := by
  have OP := ok_pair (P := P) (w := w) T LT XN XO
  refine T.d_law_told.ok sc_law_told (fun vs H Q E h => ?_) (fun _ _ _ _ _ _ us hl => match us, hl with | [_, _], _ => rfl)
    (fun fa cdv A outer s H vs Q E hr h => ?_)
  · obtain ⟨_, _, _, _, _, _, _, _, _, _, _, rfl, _⟩ := h
    rfl
  · obtain ⟨p, e, l, d, t, b, lx, laps, xs, f, L, rfl, ⟨dx, hp⟩, he, l1, l2, hnm, hnd, hd, hf, hl, hlaps, ll, hok, hL, hT, kO, kN, kq⟩ := h
    refine ⟨_, PSs.nox (pss_cons (ps_asg (pe_tup (pa_cons pe_non (pa_cons pe_non pa_nil))) (pg_tup rfl (pgs_cons (pg_name (i := 2) sc_law_told.nd rfl (Or.inl rfl)) (pgs_cons (pg_name (i := 3) sc_law_told.nd rfl (Or.inl rfl)) pgs_nil))))
        (pss_cons (ps_try_many rfl rfl L2.takes0 (fun W pn xe tk _ => (pss_one (ps_set (i := 3) sc_law_told.nd rfl (Or.inl rfl) (pe_methS (pv 0) T.cl OP (hr.mono (by decide)) (fun σ => passAt tk σ) (pa_cons (pv 1) pa_nil))))) (HdsOk.cons ⟨by rfl, by decide, .inl XN.g⟩ (fun a oe cls d pn _ _ => pss_one (ps_set (i := 2) sc_law_told.nd rfl (Or.inl rfl) pe_str)) (HdsOk.cons ⟨by rfl, by decide, .inl XO.g⟩ (fun a oe cls d pn _ _ => pss_one (ps_set (i := 2) sc_law_told.nd rfl (Or.inl rfl) pe_str)) HdsOk.nil)))
        (pss_cons (ps_if (pt_cmpR op_notN (pv 2) pe_non (nomark _)) (pss_one (ps_ret (pe_ifExp (pt_cmpR op_eq (pv 2) pe_str (nomark _)) pe_non pe_int))) pss_nil)
        (pss_one (ps_ret (pv 3))))))
      , ?_⟩
    refine ⟨sl2, fun t0 ht0 => ⟨t0, _, rfl, SqT.of upd_same, rfl, _, _, rfl, _, _, rfl, rfl, ?_⟩⟩
    have s0 := same_new (o := .tup [.non, .non]) ht0
    have back : ∀ {H' : Hp} {q : Addr}, New (upd H t0 (.tup [.non, .non])) q → New H q := fun h o hn hq => h o hn (s0 _ _ hq)
    have hT0 := hT.ext s0
    have hL0 := hL.same s0
    generalize upd H t0 (.tup [.non, .non]) = H0 at *
    refine ⟨_, rfl, p, dx, _, rfl, s0 _ _ hp, cf_no (by decide +kernel), _, rfl, p, e, l, d, t, b, lx, laps, xs, f, L, rfl, ⟨dx, s0 _ _ hp⟩, s0 _ _ he, l1, l2, hnm, hnd, s0 _ _ hd, hf, s0 _ _ hl, hlaps.same s0, ll, hok, hL0, hT0, fun hb H' x' T' => ?_, fun hb H' x' T' hPR => ?_, fun hb H' tt g2 ys v r hPR a1 a2 a3 a4 a5 a6 a7 a8 a9 => ?_⟩
    · refine ⟨false, EX.on, fun z => (by cases z), fun _ => ⟨true, EX.oo, fun _ a ha => ?_, fun z => (by cases z)⟩⟩
      refine ⟨_, rfl, rfl, _, rfl, ?_⟩
      refine ⟨_, rfl, rfl, _, rfl, ?_⟩
      rw [decide_eq_false (by decide +kernel)]
      exact kO hb _ ((ExtN.of s0).trans x') T'
    · refine ⟨true, EX.nn, fun _ a ha => ?_, fun z => (by cases z)⟩
      refine ⟨_, rfl, rfl, _, rfl, ?_⟩
      refine ⟨_, rfl, rfl, _, rfl, ?_⟩
      rw [decide_eq_true rfl]
      exact kN hb _ ((ExtN.of s0).trans x') T' hPR
    · refine ⟨_, rfl, rfl, _, rfl, ?_⟩
      refine ⟨_, rfl, ?_⟩
      exact kq hb H' tt g2 ys v r hPR ((Fr.of s0).trans a1) a2 a3 a4 a5 a6 a7 (back (H' := H') a8) (back (H' := H') a9)
end
end MR
namespace MR
open PySem PySem.Spec PyProof.Rows L2 LamX
/-! a round that is paired is well made -/
def names2 (l : Lap) : List Str := (l.1.flatMap fun g => [g.1, g.2]) ++ l.2.toList
structure LapOk2 (xs : List Str) (l : Lap) : Prop where
  ok : LapOk xs l
  one : 1 ≤ l.1.length
  nd : (names2 l).Nodup
theorem pr_some {s : Int → Int} {bar : Ip → Bool} {ps : List Int} {os : List (Option Int)} {r : Option (Option Int × List Ip)} (h : PR s bar ps os r) : ∀ o m, r = some (o, m) → o ∈ os ∧ m ∈ lots 10 (outF ps o) := by
  induction h with
  | nil => intro o m e; cases e
  | hit b => intro o m e; cases e; exact ⟨by simp, b.1⟩
  | miss b _ ih => intro o m e; exact ⟨List.mem_cons_of_mem _ (ih o m e).1, (ih o m e).2⟩
theorem nm_inj {xs : List Str} {a b : Int} (nd : xs.Nodup) (ha : 0 ≤ a ∧ a < (xs.length : Int)) (hb : 0 ≤ b ∧ b < (xs.length : Int)) (h : nmI xs a = nmI xs b) : a = b := by
  have h1 : a.toNat < xs.length := by omega
  have h2 : b.toNat < xs.length := by omega
  have e1 : nmI xs a = xs[a.toNat] := by simp [nmI, List.getD, List.getElem?_eq_getElem h1]
  have e2 : nmI xs b = xs[b.toNat] := by simp [nmI, List.getD, List.getElem?_eq_getElem h2]
  rw [e1, e2] at h
  have := (List.getElem_inj nd).mp h
  omega
theorem map_nodup {α β : Type _} {f : α → β} : ∀ {xs : List α}, xs.Nodup → (∀ a ∈ xs, ∀ b ∈ xs, f a = f b → a = b) → (xs.map f).Nodup
  | [], _, _ => List.Pairwise.nil
  | x :: xs, nd, h => by
    have nd' := List.nodup_cons.mp nd
    rw [List.map_cons]
    refine List.nodup_cons.mpr ⟨fun hm => ?_, map_nodup nd'.2 fun a ha b hb => h a (List.mem_cons_of_mem _ ha) b (List.mem_cons_of_mem _ hb)⟩
    obtain ⟨y, hy, e⟩ := List.mem_map.mp hm
    have := h y (List.mem_cons_of_mem _ hy) x (List.mem_cons_self ..) e
    exact nd'.1 (this ▸ hy)
theorem ord_flat (g : Str → Int) (xs : List Str) : ∀ m : List Ip, ((m.map fun p => ordP g (nmI xs p.1, nmI xs p.2)).flatMap fun q => [q.1, q.2]).Perm ((flat m).map (nmI xs))
  | [] => .nil
  | p :: m => by
    have ih := ord_flat g xs m
    have e : flat (p :: m) = [p.1, p.2] ++ flat m := rfl
    rw [List.map_cons, List.flatMap_cons, e, List.map_append]
    refine List.Perm.append ?_ ih
    unfold ordP
    split
    · exact .swap _ _ _
    · exact .refl _
theorem lap_ok {xs : List Str} {f g : Str → Int} {bar : Ip → Bool} {sat : List Str} {r : Option Int × List Ip} (nd : xs.Nodup) (l1 : 2 ≤ xs.length) (l2 : xs.length ≤ 10) (h : PR (scI xs f) bar (pls xs.length) (spareL xs f sat) (some r)) : LapOk2 xs (lapOf xs g r) := by
  obtain ⟨o, m⟩ := r
  obtain ⟨ho, hm⟩ := pr_some h o m rfl
  have ndo : (outF (pls xs.length) o).Nodup := (pls_nd _).filter _
  have hp := lots_perm 10 _ ndo m hm
  have hl := lots_len ndo hm
  have hsub : ∀ z ∈ flat m, 0 ≤ z ∧ z < (xs.length : Int) := fun z hz => pls_mem (List.mem_filter.mp (hp.subset hz)).1
  have ndf : (flat m).Nodup := hp.nodup_iff.mpr ndo
  have hlen : (outF (pls xs.length) o).length = xs.length ∨ ((outF (pls xs.length) o).length + 1 = xs.length ∧ xs.length % 2 = 1) := by
    cases o with
    | none =>
      left
      have e : outF (pls xs.length) none = pls xs.length := by
        unfold outF
        refine List.filter_eq_self.mpr fun a _ => ?_
        simp [oI]
      rw [e, pls_len]
    | some z =>
      right
      have hz := spare_mem ho
      have e : outF (pls xs.length) (some z) = (pls xs.length).filter fun p => decide (p ≠ z) := by
        unfold outF
        refine List.filter_congr fun a _ => ?_
        simp [oI]
      have hzm : z ∈ pls xs.length := by
        unfold pls
        exact List.mem_map.mpr ⟨z.toNat, List.mem_range.mpr (by omega), by simp; omega⟩
      have := filter_len (pls_nd xs.length) hzm
      rw [pls_len] at this
      refine ⟨by rw [e]; exact this, ?_⟩
      unfold spareL at ho
      split at ho
      · assumption
      · simp at ho
  have hml : m.length ≤ 5 ∧ 1 ≤ m.length := by
    rcases hlen with h1 | ⟨h1, h2⟩ <;> omega
  have hmem : ∀ q ∈ m, (0 ≤ q.1 ∧ q.1 < (xs.length : Int)) ∧ (0 ≤ q.2 ∧ q.2 < (xs.length : Int)) := fun q hq =>
    ⟨hsub _ (List.mem_flatMap.mpr ⟨q, hq, by simp⟩), hsub _ (List.mem_flatMap.mpr ⟨q, hq, by simp⟩)⟩
  have hnd : (names2 (lapOf xs g (o, m))).Nodup := by
    have hall : ((flat m ++ o.toList).map (nmI xs)).Nodup := by
      refine map_nodup ?_ fun a ha b hb e => ?_
      · rw [List.nodup_append]
        refine ⟨ndf, by cases o <;> simp, fun a ha b hb e => ?_⟩
        cases o with
        | none => simp at hb
        | some z =>
          have hbz : b = z := by simpa using hb
          have h1 := (List.mem_filter.mp (hp.subset ha)).2
          rw [e, hbz] at h1
          simp [oI] at h1
      · have rng : ∀ z ∈ flat m ++ o.toList, 0 ≤ z ∧ z < (xs.length : Int) := fun z hz => by
          rcases List.mem_append.mp hz with hz | hz
          · exact hsub z hz
          · cases o with
            | none => simp at hz
            | some y =>
              have hzy : z = y := by simpa using hz
              rw [hzy]
              exact spare_mem ho
        exact nm_inj nd (rng a ha) (rng b hb) e
    refine (List.Perm.nodup_iff ?_).mpr hall
    unfold names2 lapOf
    rw [List.map_append]
    refine List.Perm.append (ord_flat g xs m) ?_
    cases o <;> exact .refl _
  refine ⟨⟨by unfold lapOf; rw [List.length_map]; exact hml.1, fun q hq => ?_, fun x hx => ?_⟩, by unfold lapOf; rw [List.length_map]; exact hml.2, hnd⟩
  · obtain ⟨p, hp1, rfl⟩ := List.mem_map.mp hq
    obtain ⟨h1, h2⟩ := hmem p hp1
    have hne : nmI xs p.1 ≠ nmI xs p.2 := fun e => by
      have e2 := nm_inj nd h1 h2 e
      have : [p.1, p.2].Sublist (flat m) := by
        obtain ⟨a, b, hab⟩ := List.append_of_mem (show p ∈ m from hp1)
        rw [hab]
        unfold flat
        rw [List.flatMap_append, List.flatMap_cons]
        exact (List.sublist_append_left _ _).trans (List.sublist_append_right _ _)
      have h3 := ndf.sublist this
      rw [e2] at h3
      simp at h3
    unfold ordP
    split
    · exact ⟨nm_mem h2.1 h2.2, nm_mem h1.1 h1.2, hne.symm⟩
    · exact ⟨nm_mem h1.1 h1.2, nm_mem h2.1 h2.2, hne⟩
  · cases o with
    | none => cases hx
    | some z =>
      have hz := spare_mem ho
      have e : nmI xs z = x := Option.some.inj hx
      rw [← e]
      exact nm_mem hz.1 hz.2
/-! points are few -/
theorem sum_one {f : Res → Int} {B : Int} {k : Str} (hB : 0 ≤ B) : ∀ {rs : List Res}, (rs.map (·.game)).Nodup → (∀ r ∈ rs, 0 ≤ f r ∧ f r ≤ B) → (∀ r ∈ rs, r.game ≠ k → f r = 0) → 0 ≤ (rs.map f).sum ∧ (rs.map f).sum ≤ B
  | [], _, _, _ => ⟨Int.le_refl 0, hB⟩
  | r :: rs, nd, h1, h2 => by
    have nd' := List.nodup_cons.mp nd
    rw [List.map_cons, List.sum_cons]
    have hr := h1 r (List.mem_cons_self ..)
    by_cases e : r.game = k
    · rw [sum_zero fun q hq => h2 q (List.mem_cons_of_mem _ hq) fun e2 => nd'.1 (List.mem_map.mpr ⟨q, hq, (e2.trans e.symm : q.game = r.game)⟩)]
      omega
    · have ih := sum_one (k := k) hB nd'.2 (fun q hq => h1 q (List.mem_cons_of_mem _ hq)) (fun q hq => h2 q (List.mem_cons_of_mem _ hq))
      rw [h2 r (List.mem_cons_self ..) e]
      omega
def cnt (y : Str) (g : Pr) : Int := (if y = g.1 then 1 else 0) + (if y = g.2 then 1 else 0)
theorem hit_le {q : Str × Pr} {r : Res} {y : Str} (h : ∀ x ∈ r.pts, 0 ≤ x ∧ x ≤ 4) : 0 ≤ hit1 q r y ∧ hit1 q r y ≤ 4 * cnt y q.2 := by
  have hg : ∀ i, 0 ≤ r.pts.getD i 0 ∧ r.pts.getD i 0 ≤ 4 := fun i => by
    by_cases hi : i < r.pts.length
    · have : r.pts.getD i 0 ∈ r.pts := by
        simp only [List.getD, List.getElem?_eq_getElem hi, Option.getD_some]
        exact List.getElem_mem _
      exact h _ this
    · simp [List.getD, List.getElem?_eq_none (by omega : r.pts.length ≤ i)]
  have h0 := hg 0
  have h1 := hg 1
  unfold hit1 cnt
  split
  · split <;> split <;> omega
  · split <;> split <;> omega
theorem sum_le {α : Type _} {f g : α → Int} : ∀ {xs : List α}, (∀ x ∈ xs, 0 ≤ f x ∧ f x ≤ g x) → 0 ≤ (xs.map f).sum ∧ (xs.map f).sum ≤ (xs.map g).sum
  | [], _ => ⟨Int.le_refl 0, Int.le_refl 0⟩
  | x :: xs, h => by
    have h1 := h x (List.mem_cons_self ..)
    have h2 := sum_le fun y hy => h y (List.mem_cons_of_mem _ hy)
    rw [List.map_cons, List.sum_cons, List.map_cons, List.sum_cons]
    omega
theorem count_nd {y : Str} : ∀ {xs : List Str}, xs.Nodup → (xs.map fun x => if y = x then (1 : Int) else 0).sum ≤ 1
  | [], _ => by simp
  | x :: xs, nd => by
    have nd' := List.nodup_cons.mp nd
    rw [List.map_cons, List.sum_cons]
    by_cases e : y = x
    · subst e
      rw [sum_zero fun z hz => if_neg fun (e2 : y = z) => nd'.1 (by rw [e2]; exact hz)]
      simp
    · rw [if_neg e]
      have := count_nd (y := y) nd'.2
      omega
theorem cnt_flat (y : Str) : ∀ gs : List Pr, ((gs.flatMap fun g => [g.1, g.2]).map fun x => if y = x then (1 : Int) else 0).sum = (gs.map (cnt y)).sum
  | [] => rfl
  | g :: gs => by
    rw [List.flatMap_cons, List.map_append, sum_app, cnt_flat y gs, List.map_cons, List.sum_cons]
    simp [cnt]
theorem lapPts_le {t : Str} {rs : List Res} {y : Str} {z : Lap × Nat} (nd : (rs.map (·.game)).Nodup) (hok : ∀ r ∈ rs, ResOk r) (hl : (names2 z.1).Nodup) : 0 ≤ lapPts t rs y z ∧ lapPts t rs y z ≤ 4 := by
  unfold lapPts
  have h1 : 0 ≤ ((seatsAt t z).map fun q => (rs.map fun r => hit1 q r y).sum).sum ∧ ((seatsAt t z).map fun q => (rs.map fun r => hit1 q r y).sum).sum ≤ ((seatsAt t z).map fun q => 4 * cnt y q.2).sum := by
    refine sum_le fun q hq => ?_
    have hc : 0 ≤ cnt y q.2 := by unfold cnt; split <;> split <;> omega
    refine sum_one (k := q.1) (by omega) nd (fun r hr => hit_le (hok r hr).2.2.2.2.2.2.2.2) fun r hr hne => ?_
    unfold hit1
    rw [if_neg fun e => hne e.1]
  have e1 : ((seatsAt t z).map fun q => 4 * cnt y q.2).sum = 4 * (z.1.1.map (cnt y)).sum := by
    have e2 : ((seatsAt t z).map fun q => 4 * cnt y q.2) = z.1.1.map fun g => 4 * cnt y g := by
      have := congrArg (List.map fun g => 4 * cnt y g) (List.zipIdx_map_fst 0 z.1.1)
      rw [List.map_map] at this
      rw [seatsAt, List.map_map]
      exact this
    rw [e2]
    have : ∀ gs : List Pr, (gs.map fun g => 4 * cnt y g).sum = 4 * (gs.map (cnt y)).sum := by
      intro gs
      induction gs with
      | nil => rfl
      | cons g gs ih => rw [List.map_cons, List.sum_cons, ih, List.map_cons, List.sum_cons]; omega
    exact this _
  have h2 := count_nd (y := y) hl
  unfold names2 at h2
  rw [List.map_append, sum_app, cnt_flat] at h2
  have h3 : restP y z.1 = 2 * ((z.1.2.toList.map fun x => if y = x then (1 : Int) else 0).sum) := by
    unfold restP
    cases z.1.2 with
    | none => simp
    | some x =>
      by_cases e : y = x
      · subst e; simp
      · have : ¬ some x = some y := fun q => e (Option.some.inj q).symm
        simp [e, this]
  have h4 : 0 ≤ (z.1.2.toList.map fun x => if y = x then (1 : Int) else 0).sum := by
    cases z.1.2 with
    | none => simp
    | some x =>
      by_cases e : y = x <;> simp [e]
  omega
theorem pts_le {t : Str} {laps : List Lap} {rs : List Res} {y : Str} (h9 : laps.length ≤ 9) (nd : (rs.map (·.game)).Nodup) (hok : ∀ r ∈ rs, ResOk r) (hl : ∀ l ∈ laps, (names2 l).Nodup) : 0 ≤ ptsBy t laps rs y ∧ ptsBy t laps rs y ≤ 100 := by
  rw [pts_eq]
  unfold ptsLaw
  have h := sum_le (f := lapPts t rs y) (g := fun _ => 4) (xs := laps.zipIdx) fun z hz => by
    have hm : z.1 ∈ laps := by
      have := List.mem_map_of_mem (f := Prod.fst) hz
      rw [List.zipIdx_map_fst] at this
      exact this
    exact lapPts_le nd hok (hl _ hm)
  have e : (laps.zipIdx.map fun _ => (4 : Int)).sum = 4 * (laps.length : Int) := by
    have : ∀ zs : List (Lap × Nat), (zs.map fun _ => (4 : Int)).sum = 4 * (zs.length : Int) := by
      intro zs
      induction zs with
      | nil => rfl
      | cons a zs ih => rw [List.map_cons, List.sum_cons, ih, List.length_cons]; omega
    rw [this, List.length_zipIdx]
  omega
end MR
namespace MR
open PySem PySem.Spec PyProof.Rows L2 LamX
def itemsD (xs : List Str) (f : Str → Int) : List PyData := xs.map fun x => .tuple [.str x, .int (f x)]
theorem items_all {H : Hp} : ∀ {ts : List Addr} {xs : List Str} {f : Str → Int}, Paired (fun (t : Addr) (q : Key × V) => H t = some (.tup [kV q.1, q.2])) ts (tab xs f) → DaAll [] H (ts.map V.ref) (itemsD xs f) := by
  intro ts xs f h
  induction xs generalizing ts with
  | nil =>
    generalize e : tab [] f = kvs at h
    cases h with
    | nil => exact .nil
    | cons a b => cases e
  | cons x xs ih =>
    generalize e : tab (x :: xs) f = kvs at h
    cases h with
    | nil => cases e
    | cons a b =>
      cases e
      exact .cons (.tup a (by simp) (.cons (.str x) (.cons (.int _) .nil))) (ih b)
theorem items_da {H : Hp} {p : Addr} {ts : List Addr} {xs : List Str} {f : Str → Int} (h : H p = some (.lst (ts.map V.ref))) (q : Paired (fun (t : Addr) (q : Key × V) => H t = some (.tup [kV q.1, q.2])) ts (tab xs f)) : Da [] H (.ref p) (.list (itemsD xs f)) := .lst h (by simp) (items_all q)
theorem eqv_self {k : Nat} {d : PyData} (h : Shp k d) : PyData.eqv d d = true := SeqAt.eqv_refl d h.1
theorem shp_lap {xs : List Str} {l : Lap} (h : LapOk xs l) (hnm : ∀ x ∈ xs, NameOk x) : Shp 3 (lapD l) := Shp.tuple fun d hd => by
  rcases List.mem_cons.mp hd with rfl | hd
  · refine Shp.list fun d hd => ?_
    obtain ⟨g, hg, rfl⟩ := List.mem_map.mp hd
    exact shp_pr (hnm _ (h.2.1 g hg).1) (hnm _ (h.2.1 g hg).2.1)
  · rw [List.mem_singleton.mp hd]
    cases e : l.2 with
    | none => exact .none
    | some x => exact shp_str (hnm _ (h.2.2 x e))
theorem shp_laps {xs : List Str} {ls : List Lap} (h : ∀ l ∈ ls, LapOk xs l) (hnm : ∀ x ∈ xs, NameOk x) : Shp 4 (.list (lapsD ls)) := Shp.list fun d hd => by
  obtain ⟨l, hl, rfl⟩ := List.mem_map.mp hd
  exact shp_lap (h l hl) hnm
theorem nt_tup {xs : List V} : NT (.tup xs) := fun _ z => by cases z
mutual
theorem Da.newOff {L : List Addr} {H : Hp} {p : Addr} (hp : New H p) : ∀ {v : V} {d : PyData}, Da L H v d → Da (p :: L) H v d
  | _, _, .non => .non
  | _, _, .bl b => .bl b
  | _, _, .int i => .int i
  | _, _, .str x => .str x
  | _, _, .lst h n a => .lst h (nmem_cons (fun z => hp _ nt_lst (by rw [← z]; exact h)) n) (DaAll.newOff hp a)
  | _, _, .tup h n a => .tup h (nmem_cons (fun z => hp _ nt_tup (by rw [← z]; exact h)) n) (DaAll.newOff hp a)
theorem DaAll.newOff {L : List Addr} {H : Hp} {p : Addr} (hp : New H p) : ∀ {v : List V} {d : List PyData}, DaAll L H v d → DaAll (p :: L) H v d
  | _, _, .nil => .nil
  | _, _, .cons a b => .cons (Da.newOff hp a) (DaAll.newOff hp b)
end
theorem abc9 : ∀ i : Fin 9, atI ("abcdefghi" : Str).cps.toList ((i.val : Nat) : Int) = some (letters.cps.toList.getD i.val 0) := by decide +kernel
theorem abc5 : ∀ i : Fin 5, atI ("abcde" : Str).cps.toList ((i.val : Nat) : Int) = some (letters.cps.toList.getD i.val 0) := by decide +kernel
def rot3 {α : Type} : List α → List α
  | [a, b, c] => [b, a, c]
  | l => l
theorem vals_rot3 {vs : List V} {us : List Value} (h : Vals vs us) : Vals (rot3 vs) (rot3 us) := by
  cases h with
  | nil => exact .nil
  | cons a h =>
  cases h with
  | nil => exact .cons a .nil
  | cons b h =>
  cases h with
  | nil => exact .cons a (.cons b .nil)
  | cons c h =>
  cases h with
  | nil => exact .cons b (.cons a (.cons c .nil))
  | cons d h => exact .cons a (.cons b (.cons c (.cons d h)))
def swap2 {α : Type} : List α → List α
  | [a, b] => [b, a]
  | l => l
theorem vals_swap2 {vs : List V} {us : List Value} (h : Vals vs us) : Vals (swap2 vs) (swap2 us) := by
  cases h with
  | nil => exact .nil
  | cons a h =>
  cases h with
  | nil => exact .cons a .nil
  | cons b h =>
  cases h with
  | nil => exact .cons b (.cons a .nil)
  | cons c h => exact .cons a (.cons b (.cons c h))
section
variable {P : Program} {w : World} {K : PySem.W.Frag} {mg : Str → Option Value} {base : Heap} {C : Addr} {cp Pp cb Pb CN CO : Addr}
abbrev N_law : List Str := ["_law_script", "_law_state", "_law_crew_here", "_law_title", "_law_most", "_law_often", "_law_handed", "_law_contest", "_law_beside", "_law_laps", "_law_turn", "_law_told_here", "_law_score", "_law_due_here", "_law_found", "_law_again", "_law_games", "_law_out", "_law_given_back", "_law_at", "_law_there", "_law_one"]
abbrev ps_law : List Str := ["_law_script"]
theorem sc_law : FnScope N_law ps_law (defScope MH.s_law) := ⟨rfl, rfl, rfl, by decide +kernel, rfl, by decide +kernel, by decide +kernel⟩
def sp_law (K : PySem.W.Frag) (Pp Pb : Addr) : Sp := fun vs H Q _ => ∃ (a : Addr) (ns : List Int), vs = [.ref a] ∧ SqL K H a (ns.map V.int) ∧ Tabs (TT2 Pp Pb) H ∧ ∀ H', Q (.bl true) H'
theorem ok_law (FL : FnS K "law" "law" MH.s_law fL fdL) (T : Txt K mg C) (LT : Lt K mg base cp Pp cb Pb) (XN : Exc1 K mg "NoPairing" CN) (XO : Exc1 K mg "Over" CO) (EX : ExM K CN CO) : FnOk P w K mg base CX0 16 fL fdL ps_law (sp_law K Pp Pb) := by
  obtain ⟨fI, fdI, FSI, MI, FI⟩ := ok_init (P := P) (w := w) (base := base) T
  have hk1 : KBn K fdI ps_C_init__ 3 ["rounds"] (fun us ws => us ++ ws) (fun vs zs => vs ++ zs) := by
    refine kbn_of FSI 3 _ (fun us ws => us ++ ws) (fun r1 r2 => vals_app r1 r2) (fun kV doc pm an cdv ct us ws l1 l2 => ?_)
    match us, ws, l1, l2 with
    | [_, _, _], [_], _, _ => rfl
  have hk2 : KBn K fdI ps_C_init__ 1 ["names", "cup", "rounds"] (fun us ws => us ++ rot3 ws) (fun vs zs => vs ++ rot3 zs) := by
    refine kbn_of FSI 1 _ (fun us ws => us ++ rot3 ws) (fun r1 r2 => vals_app r1 (vals_rot3 r2)) (fun kV doc pm an cdv ct us ws l1 l2 => ?_)
    match us, ws, l1, l2 with
    | [_], [_, _, _], _, _ => rfl
  obtain ⟨fG, fdG, FSG, MG, FG⟩ := ok_gname2 (P := P) (w := w) (base := base) T
  have hk3 : KBn K fdG ps_C_game_name 1 ["k", "lap"] (fun us ws => us ++ swap2 ws) (fun vs zs => vs ++ swap2 zs) := by
    refine kbn_of FSG 1 _ (fun us ws => us ++ swap2 ws) (fun r1 r2 => vals_app r1 (vals_swap2 r2)) (fun kV doc pm an cdv ct us ws l1 l2 => ?_)
    match us, ws, l1, l2 with
    | [_], [_, _], _, _ => rfl
  refine FL.ok sc_law (fun vs H Q E h => ?_)
    (fun cdv A outer s H vs Q E hr h => ?_)
  · obtain ⟨_, _, rfl, _⟩ := h
    rfl
  · obtain ⟨a, ns, rfl, ha, hT, k⟩ := h
    refine ⟨_, PSs.nox (pss_cons (ps_set (i := 1) sc_law.nd rfl (Or.inr rfl) (pe_fn (ok_law_begin T) (hr.mono (by decide)) (by rfl) (pa_cons (pv 0) pa_nil)))
        (pss_cons (ps_par (i := 2) (j := 3) (by rfl) sc_law.nd rfl rfl (by decide) rfl rfl (pa_cons (pe_fn (ok_law_crew T) (hr.mono (by decide)) (by rfl) (pa_cons (pv 1) (pa_cons (pe_op op_add pe_int (pe_fn (ok_law_next T) (hr.mono (by decide)) (by rfl) (pa_cons (pv 1) (pa_cons pe_int pa_nil)))) pa_nil))) (pa_cons (pe_slice sl_str (pe_fn (ok_law_word T) (hr.mono (by decide)) (by rfl) (pa_cons (pv 1) pa_nil)) po_none (po_some pe_int)) pa_nil)) (by rfl))
        (pss_cons (ps_par (i := 4) (j := 5) (by rfl) sc_law.nd rfl rfl (by decide) rfl rfl (pa_cons (pe_op op_add pe_int (pe_fn (ok_law_next T) (hr.mono (by decide)) (by rfl) (pa_cons (pv 1) (pa_cons pe_int pa_nil)))) (pa_cons (pe_fn (ok_law_next T) (hr.mono (by decide)) (by rfl) (pa_cons (pv 1) (pa_cons pe_int pa_nil))) pa_nil)) (by rfl))
        (pss_cons (ps_set (i := 6) sc_law.nd rfl (Or.inl rfl) (pe_callTy call_list_of (by rfl) T.b_list (by decide +kernel) (pa_cons (pv 2) pa_nil)))
        (pss_cons (ps_par (i := 7) (j := 8) (by rfl) sc_law.nd rfl rfl (by decide) rfl rfl (pa_cons (pe_makeN MI FI (hr.mono (by decide)) (by rfl) T.mgC hk1 L2.pass0 (pa_cons (pv 3) (pa_cons (pv 6) pa_nil)) (pk_cons (pv 4) pk_nil)) (pa_cons (pe_makeK0 MI FI (hr.mono (by decide)) (by rfl) T.mgC hk2 L2.pass0 (pk_cons (pe_callTy call_tuple_of (by rfl) T.b_tuple (by decide +kernel) (pa_cons (pe_revL (pv 2)) pa_nil)) (pk_cons pe_str (pk_cons pe_int pk_nil)))) pa_nil)) (by rfl))
        (pss_cons (ps_expr (pe_bm0 PySem.F.plainAttrs_list PySem.F.slot_list_clear PySem.F.type_list_clear mt_clear (pv 6)))
        (pss_cons (ps_set (i := 9) sc_law.nd rfl (Or.inl rfl) (pe_lst pa_nil))
        (pss_cons (ps_for PassesOwn.never rfl (pi_range1 (by rfl) T.b_range (pa_cons (pe_op op_add (pv 4) pe_int) pa_nil)) (pg_name (i := 10) sc_law.nd rfl (Or.inl rfl)) (pss_cons (ps_set (i := 11) sc_law.nd rfl (Or.inl rfl) (pe_fn (ok_law_results T) (hr.mono (by decide)) (by rfl) (pa_cons (pv 1) (pa_cons (pv 3) (pa_cons (pv 9) (pa_cons (pv 2) pa_nil))))))
        (pss_cons (ps_set (i := 12) sc_law.nd rfl (Or.inl rfl) (pe_mt (pv 7) T.cl (ok_C_points_by T) (hr.mono (by decide)) (pa_cons (pv 11) pa_nil)))
        (pss_cons (ps_if (pt_cmpR (op_neD hr.units) (LiI.pe_listItems rfl (pv 12) (by rfl) T.b_list (by decide +kernel)) (LiI.pe_listItems rfl (pe_fn (ok_law_points T) (hr.mono (by decide)) (by rfl) (pa_cons (pv 3) (pa_cons (pv 9) (pa_cons (pv 2) (pa_cons (pv 11) pa_nil))))) (by rfl) T.b_list (by decide +kernel)) (nomark _)) (pss_one (ps_ret pe_bl)) pss_nil)
        (pss_cons (ps_join (ps_if (pt_cmpR op_eq (pv 5) pe_int (nomark _)) (pss_one (ps_set (i := 12) sc_law.nd rfl (Or.inl rfl) (pe_callTy (call_dictP rfl) (by rfl) T.b_dict (by decide +kernel) (pa_cons (pe_lc (own := [("_law_one", 21)]) (g := (gName 21)) (tt := tYes) rfl sc_law.nd (pi_list (pv 2)) (blkOk_by (own := [("_law_one", 21)]) (N := N_law) (sc := defScope MH.s_law) (by decide +kernel)) (fun _ _ _ _ _ => (pg_name (i := 21) sc_law.nd rfl (Or.inl rfl))) (fun _ _ _ _ _ => pts_nil) (fun _ _ _ _ _ => (pe_tup (pa_cons (pv 21) (pa_cons (pe_fn (ok_law_next T) (hr.mono (by decide)) (by rfl) (pa_cons (pv 1) (pa_cons pe_int pa_nil))) pa_nil))))) pa_nil)))) pss_nil))
        (pss_cons (ps_join (ps_set (i := 13) sc_law.nd rfl (Or.inl rfl) (pe_ifExp (pt_cmpR op_eq (pe_callB call_len_seq (by rfl) T.b_len PySem.boot_len (pa_cons (pv 9) pa_nil)) (pv 4) (nomark _)) pe_int (pe_fn (ok_law_due T LT) (hr.mono (by decide)) (by rfl) (pa_cons (pv 9) (pa_cons (pv 2) (pa_cons (pv 12) pa_nil)))))))
        (pss_cons (ps_join (ps_set (i := 14) sc_law.nd rfl (Or.inl rfl) (pe_fn (ok_law_told T LT XN XO EX) (hr.mono (by decide)) (by rfl) (pa_cons (pv 7) (pa_cons (pv 12) pa_nil)))))
        (pss_cons (ps_join (ps_if (PW.pt (pw_or (pt_cmpR (op_neD hr.units) (pv 14) (pv 13) (nomark _)) (pw_or1 (PW.pt (pw_and (pt_val (pe_callB call_isi (by rfl) T.b_isinstance (by decide +kernel) (pa_cons (pv 14) (pa_cons (pe_bltn (v := .ty "tuple") (by rfl) T.b_tuple (by decide +kernel) rfl) pa_nil)))) (pw_and1 (pt_not (pt_val (pe_callB call_isi (by rfl) T.b_isinstance (by decide +kernel) (pa_cons (pe_ix ix_tup (pv 14) pe_int (fun _ _ => rfl)) (pa_cons (pe_bltn (v := .ty "list") (by rfl) T.b_list (by decide +kernel) rfl) pa_nil))))))))))) (pss_one (ps_ret pe_bl)) pss_nil))
        (pss_cons (ps_join (ps_if (pt_val (pe_callB call_isi (by rfl) T.b_isinstance (by decide +kernel) (pa_cons (pv 14) (pa_cons (pe_bltn (v := .ty "tuple") (by rfl) T.b_tuple (by decide +kernel) rfl) pa_nil)))) (pss_cons (ps_expr (pe_bm PySem.F.plainAttrs_list PySem.F.slot_list_append PySem.F.type_list_append mt_append (pv 9) (pa_cons (pe_tup (pa_cons (pe_callTy call_list_of (by rfl) T.b_list (by decide +kernel) (pa_cons (pe_ix ix_tup (pv 14) pe_int (fun _ _ => rfl)) pa_nil)) (pa_cons (pe_ix ix_tup (pv 14) pe_int (fun _ _ => rfl)) pa_nil))) pa_nil)))
        (pss_one (ps_expr (pe_bm0 PySem.F.plainAttrs_list PySem.F.slot_list_clear PySem.F.type_list_clear mt_clear (pe_ix ix_tup (pv 14) pe_int (fun _ _ => rfl)))))) pss_nil))
        (pss_one (ps_for PassesOwn.never rfl (pi_range1 (by rfl) T.b_range (pa_cons pe_int pa_nil)) (pg_name (i := 15) sc_law.nd rfl (Or.inl rfl)) (pss_cons (ps_if (PW.pt (pw_or (pt_cmpR (op_neD hr.units) (pe_mt0 (pv 7) T.cl (ok_C_rounds T) (hr.mono (by decide))) (pv 9) (nomark _)) (pw_or1 (pt_cmpR (op_neD hr.units) (pe_mt0 (pv 8) T.cl (ok_C_rounds T) (hr.mono (by decide))) (pe_lst pa_nil) (nomark _))))) (pss_one (ps_ret pe_bl)) pss_nil)
        (pss_cons (ps_for PassesOwn.never rfl (pi_list (pe_mt0 (pv 7) T.cl (ok_C_rounds T) (hr.mono (by decide)))) (pg_tup rfl (pgs_cons (pg_name (i := 16) sc_law.nd rfl (Or.inl rfl)) (pgs_cons (pg_name (i := 17) sc_law.nd rfl (Or.inl rfl)) pgs_nil))) (pss_one (ps_expr (pe_bm PySem.F.plainAttrs_list PySem.F.slot_list_append PySem.F.type_list_append mt_append (pv 16) (pa_cons pe_str pa_nil)))))
        (pss_cons (ps_set (i := 18) sc_law.nd rfl (Or.inl rfl) (pe_mt0 (pv 7) T.cl (ok_C_rounds T) (hr.mono (by decide))))
        (pss_one (ps_expr (pe_bm0 PySem.F.plainAttrs_list PySem.F.slot_list_clear PySem.F.type_list_clear mt_clear (pv 18))))))))))))))))))
        (pss_cons (ps_par (i := 19) (j := 20) (by rfl) sc_law.nd rfl rfl (by decide) rfl rfl (pa_cons (pe_fn (ok_law_next T) (hr.mono (by decide)) (by rfl) (pa_cons (pv 1) (pa_cons pe_int pa_nil))) (pa_cons (pe_fn (ok_law_next T) (hr.mono (by decide)) (by rfl) (pa_cons (pv 1) (pa_cons pe_int pa_nil))) pa_nil)) (by rfl))
        (pss_one (ps_ret (pe_cmpR op_eq (pe_methK (pv 7) T.cl MG FG (hr.mono (by decide)) hk3 L2.pass0 (pk_cons (pe_op op_add pe_int (pv 20)) (pk_cons (pe_op op_add pe_int (pv 19)) pk_nil))) (pe_op op_add_str (pe_op op_add_str (pv 3) (pe_ix ix_str pe_str (pv 19) (fun _ _ => rfl))) (pe_ix ix_str pe_str (pv 20) (fun _ _ => rfl))) (nomark _)))))))))))))
      , ?_⟩
    have hszl := szl
    refine ⟨_, rfl, a, ns, rfl, ha, fun H1 S cc s1 h1 hSn hcn => ?_⟩
    have T1 := hT.ext s1
    -- crew, title
    refine ⟨_, rfl, _, rfl, S, cc, _, rfl, h1, by decide, by decide, fun H2 r2 s2 h2 r20 r29 => ?_⟩
    refine ⟨_, _, rfl, rfl, S, cc, _, rfl, h2, by omega, by omega, fun H3 c xs s3 h3 hc hcn2 lxs hnm hnd => ?_⟩
    refine ⟨_, rfl, S, cc, rfl, h3, fun H4 w0 s4 h4 hw => ?_⟩
    refine ⟨_, rfl, w0, rfl, by have := hw.2.1; omega, _, _, rfl, ?_⟩
    have ht : NameOk (cutS w0 none (some 6)) ∧ (cutS w0 none (some 6)).length ≤ 6 := by
      have e : (cutS w0 none (some 6)).cps.toList = w0.cps.toList.take 6 := cutS_front w0 6
      obtain ⟨w1, w2, w3⟩ := hw
      rw [str_len] at w1 w2
      refine ⟨⟨?_, ?_, fun c hc => ?_⟩, ?_⟩
      · rw [str_len, e, List.length_take]; omega
      · rw [str_len, e, List.length_take]; omega
      · rw [e] at hc
        exact w3 c (List.mem_of_mem_take hc)
      · rw [str_len, e, List.length_take]; omega
    generalize cutS w0 none (some 6) = t at *
    obtain ⟨htn, ht6⟩ := ht
    have stS : ∀ {H'}, StAt S cc H' → ∃ o, H' S = some (.dK o) := fun h => by
      obtain ⟨⟨_, _, _, e, _⟩, _⟩ := h
      exact ⟨_, e⟩
    have hcS : c ≠ S := by
      obtain ⟨o, ho⟩ := stS h3
      exact ne_of hc ho (by intro z; cases z)
    have l2x : 2 ≤ xs.length := by omega
    have l10 : xs.length ≤ 10 := by omega
    -- most, often
    refine ⟨_, rfl, S, cc, _, rfl, h4, by decide, by decide, fun H5 r5 s5 h5 r50 r59 => ⟨_, _, rfl, rfl, ?_⟩⟩
    refine ⟨_, rfl, S, cc, _, rfl, h5, by decide, by decide, fun H6 r6 s6 h6 r60 r63 => ⟨_, _, rfl, ?_⟩⟩
    have hc6 := s6 _ _ (s5 _ _ (s4 _ _ hc hcS) hcS) hcS
    have T6 : Tabs (TT2 Pp Pb) H6 := by
      obtain ⟨o1, e1⟩ := stS h1
      obtain ⟨o2, e2⟩ := stS h2
      obtain ⟨o3, e3⟩ := stS h3
      obtain ⟨o4, e4⟩ := stS h4
      obtain ⟨o5, e5⟩ := stS h5
      have ne : ∀ {o : List (Key × V)}, ∀ phi, HO.dK o ≠ .ext phi := fun _ z => by cases z
      exact tabs_sx (tabs_sx (tabs_sx (tabs_sx (tabs_sx T1 s2 e1 nt_dK ne) s3 e2 nt_dK ne) s4 e3 nt_dK ne) s5 e4 nt_dK ne) s6 e5 nt_dK ne
    have b1 : 1 ≤ 1 + r5 := by omega
    have b9 : 1 + r5 ≤ 9 := by omega
    -- handed
    refine ⟨_, rfl, c, _, rfl, .inl (SqL.of hc6), fun hd hhd => ?_⟩
    have s7 := same_new (o := .lst (xs.map V.str)) hhd
    have hhd7 : upd H6 hd (.lst (xs.map V.str)) hd = some (.lst (xs.map V.str)) := upd_same
    generalize upd H6 hd (.lst (xs.map V.str)) = H7 at *
    -- the cup
    refine ⟨_, rfl, _, rfl, _, rfl, rfl, rfl, fun p dx np ndx nedx => ?_⟩
    refine ⟨p, dx, hd, t, 1 + r5, xs, rfl, upd_same, htn, ht6, .inl ?_, l2x, l10, hnm, hnd, b1, b9, fun H8 e l1 hcup he hl1 nen nl1n neq keep => ⟨rfl, ?_⟩⟩
    · rw [upd_ne (ne_of_none hhd7 np), upd_ne (ne_of_none hhd7 ndx)]
      exact hhd7
    have s8 : Same H7 H8 := Same.made np ndx keep
    have hp8n : H8 p ≠ none := by obtain ⟨dx', e⟩ := hcup; rw [e]; simp
    -- the cup beside
    refine ⟨_, rfl, c, _, rfl, SqL.of (s8 _ _ (s7 _ _ hc6)), fun rv hrv => ⟨rv, _, rfl, .inl ⟨SqL.of upd_same, fun tp htp => ?_⟩⟩⟩
    have s9 : Same H8 (upd H8 rv (.lst (xs.map V.str).reverse)) := same_new hrv
    have s10 : Same _ (upd (upd H8 rv (.lst (xs.map V.str).reverse)) tp (.tup (xs.map V.str).reverse)) := same_new htp
    have htp10 : upd (upd H8 rv (.lst (xs.map V.str).reverse)) tp (.tup (xs.map V.str).reverse) tp = some (.tup (xs.reverse.map V.str)) := by rw [upd_same, List.map_reverse]
    generalize upd (upd H8 rv (.lst (xs.map V.str).reverse)) tp (.tup (xs.map V.str).reverse) = H10 at *
    refine ⟨rfl, rfl, fun q dq nq ndq nedq => ?_⟩
    refine ⟨q, dq, tp, "beside", 9, xs.reverse, rfl, upd_same, nameB_ok (by decide +kernel), by decide +kernel, .inr ?_, by rw [List.length_reverse]; exact l2x, by rw [List.length_reverse]; exact l10, fun x hx => hnm x (List.mem_reverse.mp hx), (List.reverse_perm xs).nodup_iff.mpr hnd, by decide, by decide, fun H11 e2 l3 hcup2 he2 hl3 nen2 nl3n neq2 keep2 => ⟨rfl, _, _, rfl, ?_⟩⟩
    · rw [upd_ne (ne_of_none htp10 nq), upd_ne (ne_of_none htp10 ndq)]
      exact htp10
    have s11 : Same H10 H11 := Same.made nq ndq keep2
    have s8_11 := (s9.trans s10).trans s11
    have s7_11 := s8.trans s8_11
    -- handed is cleared
    have hhd11 := s7_11 _ _ hhd7
    refine ⟨_, rfl, .inl ⟨rfl, _, SqL.of hhd11⟩, hd, _, rfl, rfl, hhd11, ?_⟩
    have sx12 : Sx hd H11 (upd H11 hd (.lst [])) := Sx.set
    have free2 : ∀ {H H' : Hp} {x dx C z : Addr} {o : HO}, H x = none → H dx = none → upd (upd H dx (.own x)) x (.ins C dx []) z = none → H z = some o → False := fun {H H' x dx C z o} h1 h2 h3 h4 => by
      rw [upd_ne (ne_of_none h4 h1), upd_ne (ne_of_none h4 h2), h4] at h3
      cases h3
    have hhd_e : e ≠ hd := by
      rintro rfl
      exact free2 (H' := H7) np ndx nen hhd7
    have hhd_l1 : l1 ≠ hd := by
      rintro rfl
      exact free2 (H' := H7) np ndx nl1n hhd7
    have hhd10 := (s8.trans (s9.trans s10)) _ _ hhd7
    have hhd_l3 : l3 ≠ hd := by
      rintro rfl
      exact free2 (H' := H7) nq ndq nl3n hhd10
    have hl1_10 := (s9.trans s10) _ _ hl1
    have hl1_l3 : l1 ≠ l3 := by
      rintro rfl
      exact free2 (H' := H7) nq ndq nl3n hl1_10
    have T11 := Tabs.ext T6 (s7.trans s7_11)
    have T12 := tabs_sx T11 sx12 hhd11 nt_lst (fun _ z => by cases z)
    have hhdS : S ≠ hd := by
      obtain ⟨o, ho⟩ := stS h6
      exact ne_of_none ho hhd
    have hhdcc : cc ≠ hd := by
      obtain ⟨_, _, e⟩ := h6
      exact ne_of_none e hhd
    have h12 := (h6.same (s7.trans s7_11)).sx sx12 hhdS hhdcc
    have hcc1 : cc ≠ l1 := by
      rintro rfl
      obtain ⟨_, _, e⟩ := h6
      exact free2 (H' := H7) np ndx nl1n (s7 _ _ e)
    have hc_l1 : c ≠ l1 := by
      rintro rfl
      exact free2 (H' := H7) np ndx nl1n (s7 _ _ hc6)
    have hc12 := sx12 _ _ ((s7.trans s7_11) _ _ hc6) (ne_of_none hc6 hhd)
    have he12 := sx12 _ _ (s8_11 _ _ he) hhd_e
    have hl1_12 := sx12 _ _ (s8_11 _ _ hl1) hhd_l1
    have hl3_12 := sx12 _ _ hl3 hhd_l3
    obtain ⟨dx1, hp0⟩ := hcup
    obtain ⟨dx2, hq0⟩ := hcup2
    have hp12 := sx12 _ _ (s8_11 _ _ hp0) (ne_of (s8_11 _ _ hp0) hhd11 (by intro z; cases z))
    have hq12 := sx12 _ _ hq0 (ne_of hq0 hhd11 (by intro z; cases z))
    generalize upd H11 hd (.lst []) = H12 at *
    -- laps
    refine ⟨sl0, fun l2 hl2 => ?_⟩
    have s13 : Same H12 (upd H12 l2 (.lst [])) := same_new hl2
    have hl2_13 : upd H12 l2 (.lst []) l2 = some (.lst []) := upd_same
    have T13 := T12.ext s13
    have h13 := h12.same s13
    have nl2 : ∀ {q : Addr} {o : HO}, H12 q = some o → q ≠ l2 := fun e => ne_of_none e hl2
    have hccl2 : cc ≠ l2 := by
      obtain ⟨_, _, e⟩ := h12
      exact nl2 e
    have hSl2 : S ≠ l2 := by
      obtain ⟨o, ho⟩ := stS h12
      exact nl2 ho
    have hcl2 := nl2 hc12
    have hel2 := nl2 he12
    have hl1l2 := nl2 hl1_12
    have hl3l2 := nl2 hl3_12
    have hc13 := s13 _ _ hc12
    have he13 := s13 _ _ he12
    have hl1_13 := s13 _ _ hl1_12
    have hl3_13 := s13 _ _ hl3_12
    have hp13 := s13 _ _ hp12
    have hq13 := s13 _ _ hq12
    generalize upd H12 l2 (.lst []) = H13 at *
    have hSl1 : S ≠ l1 := by
      obtain ⟨o, ho⟩ := stS h13
      exact ne_of ho hl1_13 (by intro z; cases z)
    have hSe : e ≠ S := by
      obtain ⟨o, ho⟩ := stS h13
      exact ne_of he13 ho (by intro z; cases z)
    have hSl3 : l3 ≠ S := by
      obtain ⟨o, ho⟩ := stS h13
      exact ne_of hl3_13 ho (by intro z; cases z)
    have hScc : cc ≠ S := by
      obtain ⟨o, ho⟩ := stS h13
      obtain ⟨_, _, e⟩ := h13
      exact ne_of e ho (by intro z; cases z)
    have n3 : ∀ {z : Addr}, z ≠ S → z ≠ l1 → z ≠ l2 → z ∉ [S, l1, l2] := fun h1 h2 h3 => by simp [h1, h2, h3]
    have hcL : c ∉ [S, l1, l2] := n3 hcS hc_l1 hcl2
    have heL : e ∉ [S, l1, l2] := n3 hSe neq hel2
    have hl3L : l3 ∉ [S, l1, l2] := n3 hSl3 hl1_l3.symm hl3l2
    have hccL : cc ∉ [S, l1, l2] := n3 hScc hcc1 hccl2
    have hpL : p ∉ [S, l1, l2] := by
      obtain ⟨o, ho⟩ := stS h13
      exact n3 (ne_of hp13 ho (by intro z; cases z)) (ne_of hp13 hl1_13 (by intro z; cases z)) (ne_of hp13 hl2_13 (by intro z; cases z))
    have hqL : q ∉ [S, l1, l2] := by
      obtain ⟨o, ho⟩ := stS h13
      exact n3 (ne_of hq13 ho (by intro z; cases z)) (ne_of hq13 hl1_13 (by intro z; cases z)) (ne_of hq13 hl2_13 (by intro z; cases z))
    -- the rounds
    refine ⟨_, rfl, _, _, rfl, rfl, _, rfl, by omega, by omega, ?_⟩
    refine for_it walk_range (fun i σ H' => ∃ (u10 u11 u12 u13 u14 u15 u16 u17 u18 : Option V) (laps : List Lap) (lx1 lx2 : List V), σ = [some (.ref a), some (.ref S), some (.ref c), some (.str t), some (.int (1 + r5)), some (.int r6), some (.ref hd), some (.ref p), some (.ref q), some (.ref l2), u10, u11, u12, u13, u14, u15, u16, u17, u18, none, none, none] ∧
      Fr [S, l1, l2] H13 H' ∧ StAt S cc H' ∧ Tabs (TT2 Pp Pb) H' ∧ H' l1 = some (.lst lx1) ∧ H' l2 = some (.lst lx2) ∧ DaAll [S, l1, l2] H' lx1 (lapsD laps) ∧ DaAll [S, l1, l2] H' lx2 (lapsD laps) ∧ (laps.length : Int) ≤ 1 + r5 ∧ ∀ l ∈ laps, LapOk2 xs l)
      ⟨_, _, _, _, _, _, _, _, _, [], [], [], rfl, Fr.refl _ _, h13, T13, hl1_13, hl2_13, .nil, .nil, by simp; omega, by simp⟩ (fun _ _ _ _ _ => trivial) (fun i v σ H14 H14' hi p14 y => ?_) (fun σ H14 p14 => ?_)
    · obtain ⟨u10, u11, u12, u13, u14, u15, u16, u17, u18, laps, lx1, lx2, rfl, fr, h14, T14, hx1, hx2, hd1, hd2, lb, hlok⟩ := p14
      obtain ⟨rfl, rfl⟩ := y
      have hc14 := fr _ _ hc13 hcL nt_lst
      have he14 := fr _ _ he13 heL nt_lst
      have hl314 := fr _ _ hl3_13 hl3L nt_lst
      have hp14 := fr _ _ hp13 hpL nt_ins
      have hq14 := fr _ _ hq13 hqL nt_ins
      have llaps : laps.length ≤ 9 := by omega
      have hLok : ∀ l ∈ laps, LapOk xs l := fun l hl => (hlok l hl).ok
      have hLne : ∀ l ∈ laps, 1 ≤ l.1.length := fun l hl => (hlok l hl).one
      have hLnd : ∀ l ∈ laps, (names2 l).Nodup := fun l hl => (hlok l hl).nd
      have hS14 := stS h14
      obtain ⟨kS, hkS⟩ := hS14
      have hLv : Lv [S, l1, l2] H14' := fun x hx => by
        simp at hx
        rcases hx with rfl | rfl | rfl
        · exact ⟨_, hkS, nt_dK⟩
        · exact ⟨_, hx1, nt_lst⟩
        · exact ⟨_, hx2, nt_lst⟩
      -- told
      refine ⟨_, rfl, _, rfl, _, rfl, _, rfl, S, cc, l2, c, t, lx2, laps, xs, [l1, l2], rfl, h14, htn, ht6, hx2, hd2, llaps, hLok, hLne, hc14, l2x, l10, hnm, hnd, fun x hx => hLv x (by simp at hx ⊢; exact .inr hx), fun H15 F rx rs sx15 h15 hF hFn hrx lrs hrok hrnd => ?_⟩
      have neS : ∀ {z : Addr}, z ∉ [S, l1, l2] → z ≠ S := fun h e => h (by rw [e]; simp)
      have hp15 := sx15 _ _ hp14 (neS hpL)
      have he15 := sx15 _ _ he14 (neS heL)
      have hx1_15 := sx15 _ _ hx1 hSl1.symm
      have hx2_15 := sx15 _ _ hx2 hSl2.symm
      have hc15 := sx15 _ _ hc14 (neS hcL)
      have hd1_15 : DaAll [S, l1, l2] H15 lx1 (lapsD laps) := hd1.sx sx15 (by simp)
      have hd2_15 : DaAll [S, l1, l2] H15 lx2 (lapsD laps) := hd2.sx sx15 (by simp)
      have T15 := tabs_sx T14 sx15 hkS nt_dK (fun _ z => by cases z)
      have hrx0 : DaAll [] H15 rx (rs.map resD) := hrx.mono (by simp)
      have q20 : ∀ q ∈ laps, q.1.length ≤ 20 := fun q hq => by have := (hLok q hq).1; omega
      have qm : ∀ q ∈ laps, ∀ g ∈ q.1, g.1 ∈ xs ∧ g.2 ∈ xs := fun q hq g hg => ⟨((hLok q hq).2.1 g hg).1, ((hLok q hq).2.1 g hg).2.1⟩
      have qo : ∀ q ∈ laps, ∀ x, q.2 = some x → x ∈ xs := fun q hq => (hLok q hq).2.2
      -- score
      refine ⟨_, rfl, p, dx1, _, rfl, hp15, cf_no (by decide +kernel), _, rfl, p, e, l1, F, t, 1 + r5, lx1, rx, laps, xs, rs, rfl, ⟨dx1, hp15⟩, he15, hnd, by omega, hnm, hx1_15, hd1_15.mono (by simp), by omega, q20, qm, qo, by omega, hF, hrx0, by omega, hrok, fun H16 SD s16 hSD hSDn => ?_⟩
      -- the two dicts
      refine ⟨_, rfl, SD, _, rfl, hSD, fun H17 pI ts s17 hpn htsn hpt hpI hpair => ?_⟩
      have s15_17 := s16.trans s17
      refine ⟨_, rfl, _, rfl, _, rfl, _, rfl, l2, c, F, t, lx2, rx, laps, xs, rs, rfl, s15_17 _ _ hc15, hnd, by omega, hnm, s15_17 _ _ hx2_15, (hd2_15.mono (L' := []) (by simp)).same s15_17, by omega, q20, qm, qo, by omega, s15_17 _ _ hF, hrx0.same s15_17, by omega, hrok, fun H18 PD s18 hPD hPDn => ?_⟩
      refine ⟨PD, _, rfl, hPD, fun H19 pI2 ts2 s19 hpn2 htsn2 hpt2 hpI2 hpair2 => ?_⟩
      have s17_19 := s18.trans s19
      have s15_19 := s15_17.trans s17_19
      have D1 := (items_da hpI hpair).same s17_19
      have D2 := items_da hpI2 hpair2
      rw [show tab xs (ptsLaw t laps rs) = tab xs (ptsBy t laps rs) from tab_congr fun x _ => (pts_eq t laps rs x).symm] at *
      have D2' : Da [] H19 (.ref pI2) (.list (itemsD xs (ptsBy t laps rs))) := by
        have e : itemsD xs (ptsLaw t laps rs) = itemsD xs (ptsBy t laps rs) := List.map_congr_left fun x _ => by rw [pts_eq]
        rw [← e]
        exact D2
      have shI : Shp 2 (.list (itemsD xs (ptsBy t laps rs))) := Shp.list fun d hd => by
        obtain ⟨x, hx, rfl⟩ := List.mem_map.mp hd
        refine Shp.tuple fun d hd => ?_
        rcases List.mem_cons.mp hd with rfl | hd
        · exact shp_str (hnm x hx)
        · rw [List.mem_singleton.mp hd]; exact .int _
      refine ⟨_, _, D1.dp, D2'.dp, shI.ok, shI.ok, _, rfl, ?_⟩
      rw [eqv_self shI]
      have hSD19 := s17_19 _ _ (s17 _ _ hSD)
      have hpts : ∀ x ∈ xs, 0 ≤ ptsBy t laps rs x ∧ ptsBy t laps rs x ≤ 100 := fun x _ => pts_le llaps hrnd hrok hLnd
      have h19 := h15.same s15_19
      have hc19 := s15_19 _ _ hc15
      have hl0 : (xs.map V.str).length = xs.length := List.length_map _
      refine ⟨fun σ' H' => ∃ (SD2 : Addr) (f2 : Str → Int), σ' = [some (.ref a), some (.ref S), some (.ref c), some (.str t), some (.int (1 + r5)), some (.int r6), some (.ref hd), some (.ref p), some (.ref q), some (.ref l2), some (.int (0 + (i : Nat))), some (.ref F), some (.ref SD2), u13, u14, u15, u16, u17, u18, none, none, none] ∧ Sx S H19 H' ∧ StAt S cc H' ∧ H' SD2 = some (.dK (tab xs f2)) ∧ ∀ x ∈ xs, 0 ≤ f2 x ∧ f2 x ≤ 100, ?_, ?_⟩
      · refine ⟨_, rfl, rfl, _, rfl, ?_⟩
        by_cases q6 : V.int r6 = V.int 0
        · refine ite_tt q6 ?_
          refine ⟨_, rfl, _, rfl, ⟨_, SqL.of hc19⟩, fun D hD => ?_⟩
          obtain ⟨kS19, hkS19⟩ := stS h19
          have hDS : D ≠ S := (ne_of_none hkS19 hD).symm
          have hDcc : cc ≠ D := by
            obtain ⟨_, _, e⟩ := h19
            exact ne_of_none e hD
          have hcD : c ≠ D := ne_of_none hc19 hD
          refine lc_L walk_list (fun i acc H' => Sx S H19 H' ∧ StAt S cc H' ∧ ∃ (ps : List Addr) (f2 : Str → Int), acc = ps.map V.ref ∧ PK1 H' ps (tab (xs.take i) f2) ∧ ∀ x, 0 ≤ f2 x ∧ f2 x ≤ 100)
            ⟨Sx.of (same_new hD), h19.same (same_new hD), [], fun _ => 0, rfl, .nil, fun _ => ⟨(by decide : (0 : Int) ≤ 0), (by decide : (0 : Int) ≤ 100)⟩⟩ (fun i acc H' _ p => SqL.of (p.1 _ _ hc19 hcS)) (fun i v acc H20 H20' hi hacc hal p20 y => ?_) (fun acc H20 hacc hal p20 => ?_)
          · obtain ⟨rfl, y⟩ := y
            obtain ⟨s20, h20, ps, f2, rfl, hps, hf2⟩ := p20
            obtain ⟨x, hx, rfl⟩ := mapAt y
            refine ⟨rfl, _, rfl, _, rfl, S, cc, _, rfl, h20, by decide, by decide, fun H21 rv s21 h21 rv0 rv7 => ⟨sl2, fun t1 ht1 => ?_⟩⟩
            have m1 := same_new (o := .tup [.str x, .int rv]) ht1
            have hacc2 := m1 _ _ (s21 _ _ hacc hDS)
            have ht1D : t1 ≠ D := fun z => by
              rw [z, s21 _ _ hacc hDS] at ht1
              cases ht1
            have h22 := h21.same m1
            refine putL hacc2 hal (by omega) ⟨fun b o e hb => ?_, h22.sx Sx.set hDS.symm hDcc, ps ++ [t1], bump f2 x rv, by rw [List.map_append]; rfl, ?_, fun z => ?_⟩
            · rw [upd_ne (ne_of_none e hD)]
              exact m1 _ _ (s21 _ _ (s20 _ _ e hb) hb)
            · have hnx : x ∉ xs.take i := fun hm => by
                obtain ⟨m, hm⟩ := List.getElem?_of_mem hm
                have hmi : m < i := by
                  have := (List.getElem?_eq_some_iff.mp hm).1
                  rw [List.length_take] at this
                  omega
                rw [List.getElem?_take, if_pos hmi] at hm
                have := nd_ix hnd hm hx
                omega
              have e1 : tab (xs.take i) (bump f2 x rv) = tab (xs.take i) f2 := tab_congr fun z hz => by
                unfold bump
                rw [if_neg fun e => hnx (by rw [← e]; exact hz)]
              have e2 : tab (xs.take (i + 1)) (bump f2 x rv) = tab (xs.take i) f2 ++ [(Sum.inr x, .int rv)] := by
                rw [← e1]
                unfold tab
                rw [mapTake hx]
                simp [bump]
              rw [e2]
              refine PK1.snoc (hps.mapH fun b ys e => ?_) ?_
              · rw [upd_ne (fun z => by rw [z, hacc] at e; cases e)]
                exact m1 _ _ (s21 _ _ e (ne_of e (stS h20).choose_spec (by intro z; cases z)))
              · rw [upd_ne ht1D]
                exact upd_same
            · unfold bump
              have := hf2 z
              by_cases e : z = x
              · rw [if_pos e]; omega
              · rw [if_neg e]; exact this
          · obtain ⟨s20, h20, ps, f2, rfl, hps, hf2⟩ := p20
            rw [hl0, List.take_length] at hps
            refine ⟨D, ps, _, rfl, SqL.of hacc, dc_pairs hps, fun SD2 hSD2 => ?_⟩
            rw [tab_merge hnd]
            have m2 := same_new (o := .dK (tab xs f2)) hSD2
            exact ⟨SD2, f2, rfl, s20.trans (Sx.of m2), h20.same m2, upd_same, fun x _ => hf2 x⟩
        · exact ite_ff q6 ⟨SD, _, rfl, Sx.refl _ _, h19, hSD19, hpts⟩
      · rintro σ' H20 ⟨SD2, f2, rfl, s20, h20, hSD2, hf2⟩
        obtain ⟨kS19, hkS19⟩ := stS h19
        have fr1320 : Fr [S, l1, l2] H13 H20 := ((fr.trans ((Sx.fr sx15).mono (by simp))).trans (Fr.of s15_19)).trans ((Sx.fr s20).mono (by simp))
        have hx1_20 := s20 _ _ (s15_19 _ _ hx1_15) hSl1.symm
        have hx2_20 := s20 _ _ (s15_19 _ _ hx2_15) hSl2.symm
        have hd1_20 : DaAll [S, l1, l2] H20 lx1 (lapsD laps) := (hd1_15.same s15_19).sx s20 (by simp)
        have hd2_20 : DaAll [S, l1, l2] H20 lx2 (lapsD laps) := (hd2_15.same s15_19).sx s20 (by simp)
        have T20 := tabs_sx (Tabs.ext T15 s15_19) s20 hkS19 nt_dK (fun _ z => by cases z)
        have llx2 : lx2.length = laps.length := by rw [hd2.len, lapsD, List.length_map]
        have hc20 := fr1320 _ _ hc13 hcL nt_lst
        have hLv20 : Lv [S, l1, l2] H20 := fun x hx => by
          simp at hx
          rcases hx with rfl | rfl | rfl
          · exact h20.nt
          · exact ⟨_, hx1_20, nt_lst⟩
          · exact ⟨_, hx2_20, nt_lst⟩
        -- what is due
        refine ⟨fun σ' H' => ∃ dv : V, σ' = [some (.ref a), some (.ref S), some (.ref c), some (.str t), some (.int (1 + r5)), some (.int r6), some (.ref hd), some (.ref p), some (.ref q), some (.ref l2), some (.int (0 + (i : Nat))), some (.ref F), some (.ref SD2), some dv, u14, u15, u16, u17, u18, none, none, none] ∧ ExtN H20 H' ∧ Tabs (TT2 Pp Pb) H' ∧
          (((laps.length : Int) = 1 + r5 ∧ dv = .int 0) ∨ ((laps.length : Int) < 1 + r5 ∧ ∃ r, PR (scI xs f2) (barL xs (metL laps)) (pls xs.length) (spareL xs f2 (satL laps)) r ∧ Da [S, l1, l2] H' dv (rD xs (fstC (metL laps)) r))), ?_, ?_⟩
        · refine ⟨_, rfl, l2, _, rfl, .inl (SqL.of hx2_20), _, rfl, rfl, _, rfl, ?_⟩
          by_cases hfull : V.int ((lx2.length : Nat) : Int) = V.int (1 + r5)
          · refine ite_tt hfull ?_
            have hf := V.int.inj hfull
            exact ⟨_, rfl, ExtN.refl _, T20, .inl ⟨by omega, rfl⟩⟩
          · refine ite_ff hfull ?_
            have hlt : (laps.length : Int) < 1 + r5 := by
              have : ¬ ((lx2.length : Nat) : Int) = 1 + r5 := fun z => hfull (by rw [z])
              omega
            refine ⟨_, rfl, _, rfl, _, rfl, l2, c, SD2, lx2, laps, xs, f2, [S, l1, l2], rfl, hx2_20, hd2_20.mono (by simp), llaps, hLok, hc20, l2x, l10, hSD2, hf2, hLv20, T20, fun H21 dv r x21 T21 hPR hdv => ?_⟩
            exact ⟨dv, rfl, x21, T21, .inr ⟨hlt, r, hPR, hdv⟩⟩
        · rintro σ' H21 ⟨dv, rfl, x21, T21, hdue⟩
          have fr1321 := fr1320.trans (Fr.ofE x21)
          have h21 : StAt S cc H21 := h20.fr (L := []) (Fr.ofE x21) (by simp) (by simp)
          have hx1_21 := x21 _ _ hx1_20 nt_lst
          have hx2_21 := x21 _ _ hx2_20 nt_lst
          have hd1_21 := hd1_20.ext x21
          have hd2_21 := hd2_20.ext x21
          have hLv21 := hLv20.ext x21
          have hp21 := fr1321 _ _ hp13 hpL nt_ins
          have he21 := fr1321 _ _ he13 heL nt_lst
          have hSD21 := x21 _ _ hSD2 nt_dK
          -- what is told
          refine ⟨fun σ' H' => ∃ (fv : V) (d : PyData) (laps' : List Lap) (lx1' : List V), σ' = [some (.ref a), some (.ref S), some (.ref c), some (.str t), some (.int (1 + r5)), some (.int r6), some (.ref hd), some (.ref p), some (.ref q), some (.ref l2), some (.int (0 + (i : Nat))), some (.ref F), some (.ref SD2), some dv, some fv, u15, u16, u17, u18, none, none, none] ∧
            Fr [S, l1, l2] H13 H' ∧ StAt S cc H' ∧ Tabs (TT2 Pp Pb) H' ∧ H' l1 = some (.lst lx1') ∧ H' l2 = some (.lst lx2) ∧ DaAll [S, l1, l2] H' lx1' (lapsD laps') ∧ DaAll [S, l1, l2] H' lx2 (lapsD laps) ∧ (laps'.length : Int) ≤ 1 + r5 ∧ (∀ l ∈ laps', LapOk2 xs l) ∧ Da [] H' fv d ∧ Da [] H' dv d ∧ Shp 3 d ∧
            ((laps' = laps ∧ (fv = .int 0 ∨ fv = .non)) ∨ ∃ (lap : Lap) (tt g2 : Addr) (ys : List V), laps' = laps ++ [lap] ∧ fv = .ref tt ∧ H' tt = some (.tup [.ref g2, oV lap.2]) ∧ H' g2 = some (.lst ys) ∧ DaAll (g2 :: [S, l1, l2]) H' ys (lap.1.map prD) ∧ DaAll (g2 :: [S, l1, l2]) H' lx1' (lapsD laps') ∧ DaAll (g2 :: [S, l1, l2]) H' lx2 (lapsD laps) ∧ g2 ∉ [S, l1, l2] ∧ g2 ≠ cc ∧ ∀ z o, z ∉ [S, l1, l2] → H13 z = some o → NT o → z ≠ g2), ?_, ?_⟩
          · have fin0 : ∀ H', ExtN H21 H' → Tabs (TT2 Pp Pb) H' → Fr [S, l1, l2] H13 H' ∧ StAt S cc H' ∧ Tabs (TT2 Pp Pb) H' ∧ H' l1 = some (.lst lx1) ∧ H' l2 = some (.lst lx2) ∧ DaAll [S, l1, l2] H' lx1 (lapsD laps) ∧ DaAll [S, l1, l2] H' lx2 (lapsD laps) ∧ (laps.length : Int) ≤ 1 + r5 ∧ (∀ l ∈ laps, LapOk2 xs l) := fun H' x' T' =>
              ⟨fr1321.trans (Fr.ofE x'), h21.fr (L := []) (Fr.ofE x') (by simp) (by simp), T', x' _ _ hx1_21 nt_lst, x' _ _ hx2_21 nt_lst, hd1_21.ext x', hd2_21.ext x', lb, hlok⟩
            refine ⟨_, rfl, _, rfl, p, e, l1, SD2, t, 1 + r5, lx1, laps, xs, f2, [S, l2], rfl, ⟨dx1, hp21⟩, he21, l2x, l10, hnm, hnd, hSD21, hf2, hx1_21, hd1_21.mono (by simp), llaps, hLok, fun x hx => hLv21 x (by simp at hx ⊢; rcases hx with h | h <;> simp [h]), T21, fun hb H' x' T' => ?_, fun hb H' x' T' hPR => ?_, fun hb H' tt g2 ys v r hPR fr' T' hl' hv htt hg2 hys hntt hng2 => ?_⟩
            · have hdv : dv = .int 0 := by
                rcases hdue with ⟨_, h⟩ | ⟨h, _⟩
                · exact h
                · omega
              obtain ⟨b1, b2, b3, b4, b5, b6, b7, b8, b9⟩ := fin0 H' x' T'
              exact ⟨.int 0, .int 0, laps, lx1, rfl, b1, b2, b3, b4, b5, b6, b7, b8, b9, .int 0, by rw [hdv]; exact .int 0, .int 0, .inl ⟨rfl, .inl rfl⟩⟩
            · have hdv : dv = .non := by
                rcases hdue with ⟨h, _⟩ | ⟨_, r, hr, hd⟩
                · omega
                · have := hr.uniq (pr_agree hPR)
                  subst this
                  cases hd
                  rfl
              obtain ⟨b1, b2, b3, b4, b5, b6, b7, b8, b9⟩ := fin0 H' x' T'
              exact ⟨.non, .none, laps, lx1, rfl, b1, b2, b3, b4, b5, b6, b7, b8, b9, .non, by rw [hdv]; exact .non, .none, .inl ⟨rfl, .inr rfl⟩⟩
            · have hlk := lap_ok (g := fstC (metL laps)) hnd l2x l10 hPR
              obtain ⟨r', hr', hdd⟩ : ∃ r', PR (scI xs f2) (barL xs (metL laps)) (pls xs.length) (spareL xs f2 (satL laps)) r' ∧ Da [S, l1, l2] H21 dv (rD xs (fstC (metL laps)) r') := by
                rcases hdue with ⟨h, _⟩ | ⟨_, r', hr, hd⟩
                · omega
                · exact ⟨r', hr, hd⟩
              have := hr'.uniq (pr_agree hPR)
              subst this
              have hdd' : Da [S, l1, l2] H21 dv (lapD (lapOf xs (fstC (metL laps)) r)) := hdd
              generalize lapOf xs (fstC (metL laps)) r = lap at *
              have sub : ∀ x ∈ g2 :: [S, l1, l2], x ∈ g2 :: l1 :: [S, l2] := fun x hx => by
                simp at hx ⊢
                rcases hx with h | h | h | h <;> simp [h]
              have frL : Fr [S, l1, l2] H21 H' := fr'.mono (by simp)
              have hn1 : DaAll (g2 :: [S, l1, l2]) H' lx1 (lapsD laps) := (hd1_21.newOff hng2).fr (L' := [l1]) fr' (by simp)
              have hn2 : DaAll (g2 :: [S, l1, l2]) H' lx2 (lapsD laps) := (hd2_21.newOff hng2).fr (L' := [l1]) fr' (by simp)
              have hv' : Da (g2 :: [S, l1, l2]) H' v (lapD lap) := hv.mono sub
              have hcc21 : ∃ o, H21 cc = some o ∧ NT o := by
                obtain ⟨_, _, e⟩ := h21
                exact ⟨_, e, nt_lst⟩
              have hlaps' : DaAll (g2 :: [S, l1, l2]) H' (lx1 ++ [v]) (lapsD (laps ++ [lap])) := by
                unfold lapsD
                rw [List.map_append]
                exact hn1.snoc hv'
              refine ⟨.ref tt, lapD lap, laps ++ [lap], lx1 ++ [v], rfl, fr1321.trans frL, h21.fr fr' (by simpa using hSl1) (by simpa using hcc1), T', hl', ?_, hlaps'.mono (by simp +contextual), hn2.mono (by simp +contextual), by simp; omega, fun l hl => ?_, ?_, ?_, shp_lap hlk.ok hnm, .inr ⟨lap, tt, g2, ys, rfl, rfl, htt, hg2, hys.mono sub, hlaps', hn2, ?_, ?_, fun z o hz ho hno e => ?_⟩⟩
              · exact fr' _ _ hx2_21 (by simpa using hl1l2.symm) nt_lst
              · rcases List.mem_append.mp hl with hl | hl
                · exact hlok l hl
                · rw [List.mem_singleton.mp hl]; exact hlk
              · exact da_lap' (b := g2) (xs := ys) htt (by simp) hg2 (by simp) (hys.mono (by simp))
              · exact (hdd'.fr (L' := [l1]) fr' (by simp)).mono (by simp)
              · intro hm
                obtain ⟨o, ho, hno⟩ := hLv21 g2 hm
                exact hng2 o hno ho
              · rintro rfl
                obtain ⟨o, ho, hno⟩ := hcc21
                exact hng2 o hno ho
              · exact hng2 o hno (by rw [← e]; exact fr1321 _ _ ho hz hno)
          · rintro σ' H22 ⟨fv, d, laps', lx1', rfl, fr22, h22, T22, hx1_22, hx2_22, hd1_22, hd2_22, lb', hlok', hfv, hdv, hsh, hcase⟩
            refine ⟨fun σ' H' => σ' = [some (.ref a), some (.ref S), some (.ref c), some (.str t), some (.int (1 + r5)), some (.int r6), some (.ref hd), some (.ref p), some (.ref q), some (.ref l2), some (.int (0 + (i : Nat))), some (.ref F), some (.ref SD2), some dv, some fv, u15, u16, u17, u18, none, none, none] ∧ H' = H22, ?_, ?_⟩
            · refine ⟨_, rfl, _, rfl, d, d, hfv.dp, hdv.dp, hsh.ok, hsh.ok, _, rfl, ?_⟩
              rw [eqv_self hsh]
              rcases hcase with ⟨_, rfl | rfl⟩ | ⟨lap, tt, g2, ys, _, rfl, htt, hg2, _⟩
              · refine ⟨_, rfl, _, _, _, _, false, rfl, .ty _, .base (.int 0), kit_ty (by decide +kernel), _, rfl, ?_⟩
                exact ⟨rfl, rfl⟩
              · refine ⟨_, rfl, _, _, _, _, false, rfl, .ty _, .base .non, kit_ty (by decide +kernel), _, rfl, ?_⟩
                exact ⟨rfl, rfl⟩
              · refine ⟨_, rfl, _, _, _, _, true, rfl, .ty _, .base (.tup htt), kit_ty (by decide +kernel), _, rfl, ?_⟩
                refine ⟨_, rfl, tt, _, 0, _, rfl, rfl, SqT.of htt, at_of (j := 0) (v := .ref g2) rfl rfl, _, _, _, _, true, rfl, .ty _, .base (.lst hg2), kit_ty (by decide +kernel), _, rfl, ?_⟩
                exact ⟨rfl, rfl⟩
            · rintro σ' H' ⟨rfl, rfl⟩
              -- the law's own rounds
              refine ⟨fun σ' H' => ∃ (lx2' : List V), σ' = [some (.ref a), some (.ref S), some (.ref c), some (.str t), some (.int (1 + r5)), some (.int r6), some (.ref hd), some (.ref p), some (.ref q), some (.ref l2), some (.int (0 + (i : Nat))), some (.ref F), some (.ref SD2), some dv, some fv, u15, u16, u17, u18, none, none, none] ∧
                Fr [S, l1, l2] H13 H' ∧ StAt S cc H' ∧ Tabs (TT2 Pp Pb) H' ∧ H' l1 = some (.lst lx1') ∧ H' l2 = some (.lst lx2') ∧ DaAll [S, l1, l2] H' lx1' (lapsD laps') ∧ DaAll [S, l1, l2] H' lx2' (lapsD laps'), ?_, ?_⟩
              · rcases hcase with ⟨rfl, rfl | rfl⟩ | ⟨lap, tt, g2, ys, rfl, rfl, htt, hg2, hys, hn1, hn2, hgL, hgcc, hgn⟩
                · refine ⟨_, rfl, _, _, _, _, false, rfl, .ty _, .base (.int 0), kit_ty (by decide +kernel), _, rfl, ?_⟩
                  exact ⟨lx2, rfl, fr22, h22, T22, hx1_22, hx2_22, hd1_22, hd2_22⟩
                · refine ⟨_, rfl, _, _, _, _, false, rfl, .ty _, .base .non, kit_ty (by decide +kernel), _, rfl, ?_⟩
                  exact ⟨lx2, rfl, fr22, h22, T22, hx1_22, hx2_22, hd1_22, hd2_22⟩
                · refine ⟨_, rfl, _, _, _, _, true, rfl, .ty _, .base (.tup htt), kit_ty (by decide +kernel), _, rfl, ?_⟩
                  refine ⟨_, rfl, .inl ⟨rfl, _, SqL.of hx2_22⟩, ?_⟩
                  refine ⟨_, rfl, tt, _, 0, _, rfl, rfl, SqT.of htt, at_of (j := 0) (v := .ref g2) rfl rfl, g2, _, rfl, .inl (SqL.of hg2), fun g3 hg3 => ?_⟩
                  have m1 := same_new (o := .lst ys) hg3
                  refine ⟨_, rfl, tt, _, 1, _, rfl, rfl, SqT.of (m1 _ _ htt), at_of (j := 1) (v := oV lap.2) rfl rfl, sl2, fun t3 ht3 => ?_⟩
                  have m2 := same_new (o := .tup [.ref g3, oV lap.2]) ht3
                  have m12 := m1.trans m2
                  refine ⟨l2, lx2, _, rfl, rfl, m12 _ _ hx2_22, by rw [llx2]; omega, ?_⟩
                  have hx2m := m12 _ _ hx2_22
                  have hg2m := m12 _ _ hg2
                  have httm := m12 _ _ htt
                  have t3n : t3 ∉ g2 :: [S, l1, l2] := by
                    have hl : Lv (g2 :: [S, l1, l2]) (upd H' g3 (.lst ys)) := fun x hx => by
                      simp at hx
                      rcases hx with rfl | rfl | rfl | rfl
                      · exact ⟨_, m1 _ _ hg2, nt_lst⟩
                      · exact (h22.same m1).nt
                      · exact ⟨_, m1 _ _ hx1_22, nt_lst⟩
                      · exact ⟨_, m1 _ _ hx2_22, nt_lst⟩
                    exact hl.new ht3
                  have g3n : g3 ∉ g2 :: [S, l1, l2] := by
                    have hl : Lv (g2 :: [S, l1, l2]) H' := fun x hx => by
                      simp at hx
                      rcases hx with rfl | rfl | rfl | rfl
                      · exact ⟨_, hg2, nt_lst⟩
                      · exact h22.nt
                      · exact ⟨_, hx1_22, nt_lst⟩
                      · exact ⟨_, hx2_22, nt_lst⟩
                    exact hl.new hg3
                  have dnew : Da (g2 :: [S, l1, l2]) (upd (upd H' g3 (.lst ys)) t3 (.tup [.ref g3, oV lap.2])) (.ref t3) (lapD lap) := da_lap' (b := g3) (xs := ys) upd_same t3n (m2 _ _ upd_same) g3n (hys.same m12)
                  have d2 : DaAll (g2 :: [S, l1, l2]) (upd (upd H' g3 (.lst ys)) t3 (.tup [.ref g3, oV lap.2])) (lx2 ++ [.ref t3]) (lapsD (laps ++ [lap])) := by
                    unfold lapsD
                    rw [List.map_append]
                    exact (hn2.same m12).snoc dnew
                  have d1 := hn1.same m12
                  have fr24 := fr22.trans (Fr.of m12)
                  have h24 := h22.same m12
                  have T24 := Tabs.ext T22 m12
                  have hx1m := m12 _ _ hx1_22
                  generalize upd (upd H' g3 (.lst ys)) t3 (.tup [.ref g3, oV lap.2]) = H24 at *
                  have hg2l2 : g2 ≠ l2 := fun z => hgL (by rw [z]; simp)
                  have httl2 : tt ≠ l2 := ne_of httm hx2m (by intro z; cases z)
                  have e25 : ∀ {z o}, H24 z = some o → z ≠ l2 → upd H24 l2 (.lst (lx2 ++ [.ref t3])) z = some o := fun h n => by rw [upd_ne n]; exact h
                  have hg225 := e25 hg2m hg2l2
                  refine ⟨_, rfl, tt, _, 0, _, rfl, rfl, SqT.of (e25 httm httl2), at_of (j := 0) (v := .ref g2) rfl rfl, .inl ⟨rfl, _, SqL.of hg225⟩, g2, _, rfl, rfl, hg225, ?_⟩
                  have hg2l1 : l1 ≠ g2 := fun z => hgL (by rw [← z]; simp)
                  have hg2S : S ≠ g2 := fun z => hgL (by rw [← z]; simp)
                  refine ⟨lx2 ++ [.ref t3], rfl, fun b o hb hn hnt => ?_, (h24.sx Sx.set hSl2 hccl2).sx Sx.set hg2S hgcc.symm, ?_, ?_, ?_, ?_, ?_⟩
                  · have n2 : b ≠ g2 := hgn b o hn hb hnt
                    have n1 : b ≠ l2 := fun z => hn (by rw [z]; simp)
                    rw [upd_ne n2, upd_ne n1]
                    exact fr24 _ _ hb hn hnt
                  · exact tabs_sx (tabs_sx T24 Sx.set hx2m nt_lst (fun _ z => by cases z)) Sx.set hg225 nt_lst (fun _ z => by cases z)
                  · rw [upd_ne hg2l1, upd_ne hl1l2]
                    exact hx1m
                  · rw [upd_ne hg2l2.symm]
                    exact upd_same
                  · exact ((d1.upd (p := l2) (by simp)).upd (p := g2) (by simp)).mono (by simp +contextual)
                  · exact ((d2.upd (p := l2) (by simp)).upd (p := g2) (by simp)).mono (by simp +contextual)
              · rintro σ' H23 ⟨lx2', rfl, fr23, h23, T23, hx1_23, hx2_23, hd1_23, hd2_23⟩
                have hp23 := fr23 _ _ hp13 hpL nt_ins
                have hq23 := fr23 _ _ hq13 hqL nt_ins
                have hl323 := fr23 _ _ hl3_13 hl3L nt_lst
                have hok' : ∀ l ∈ laps', LapOk xs l := fun l hl => (hlok' l hl).ok
                have q10 : ∀ l ∈ laps', l.1.length ≤ 10 := fun l hl => by have := (hok' l hl).1; omega
                have hshl := shp_laps hok' hnm
                -- again
                refine ⟨_, rfl, by decide, by decide, ?_⟩
                refine for_it walk_range (fun m σ H' => ∃ (u15 u16 u17 u18 : Option V), σ = [some (.ref a), some (.ref S), some (.ref c), some (.str t), some (.int (1 + r5)), some (.int r6), some (.ref hd), some (.ref p), some (.ref q), some (.ref l2), some (.int (0 + (i : Nat))), some (.ref F), some (.ref SD2), some dv, some fv, u15, u16, u17, u18, none, none, none] ∧ Same H23 H')
                  ⟨_, _, _, _, rfl, Same.refl _⟩ (fun _ _ _ _ _ => trivial) (fun m v σ H25 H25' hm p25 y => ?_) (fun σ H25 p25 => ?_)
                · obtain ⟨v15, v16, v17, v18, rfl, s25⟩ := p25
                  obtain ⟨rfl, rfl⟩ := y
                  -- rounds() != laps
                  refine ⟨_, rfl, p, dx1, _, rfl, s25 _ _ hp23, cf_no (by decide +kernel), p, e, l1, t, 1 + r5, lx1', laps', rfl, ⟨dx1, s25 _ _ hp23⟩, s25 _ _ hx1_23, (hd1_23.mono (L' := []) (by simp)).same s25, by omega, q10, fun H26 R1 ts1 s26 hR1 hR1n hdR1 hf1 => ?_⟩
                  refine ⟨_, rfl, _, _, (Da.lst (L := []) hR1 (by simp) hdR1).dp, (Da.lst (L := []) (s26 _ _ (s25 _ _ hx2_23)) (by simp) ((hd2_23.mono (L' := []) (by simp)).same (s25.trans s26))).dp, hshl.ok, hshl.ok, _, rfl, ?_⟩
                  rw [eqv_self hshl]
                  have s25_26 := s25.trans s26
                  refine ⟨_, rfl, q, dx2, _, rfl, s25_26 _ _ hq23, cf_no (by decide +kernel), q, e2, l3, "beside", 9, [], [], rfl, ⟨dx2, s25_26 _ _ hq23⟩, s25_26 _ _ hl323, .nil, by simp, by simp, fun H27 R2 ts2 s27 hR2 hR2n hdR2 hf2 => ?_⟩
                  refine ⟨sl0, fun e0 he0 => ?_⟩
                  have m0 := same_new (o := .lst []) he0
                  refine ⟨_, _, (Da.lst (L := []) (m0 _ _ hR2) (by simp) (hdR2.same m0)).dp, .lst (SqL.of upd_same) .nil, rfl, rfl, _, rfl, ?_⟩
                  rw [show PyData.eqv (.list (lapsD [])) (.list []) = true from eqv_nil_nil]
                  have s28 := (s25_26.trans s27).trans m0
                  generalize upd H27 e0 (.lst []) = H28 at *
                  -- what it told is changed
                  have hp28 := s28 _ _ hp23
                  have hx28 := s28 _ _ hx1_23
                  have hd28 : DaAll [] H28 lx1' (lapsD laps') := (hd1_23.mono (L' := []) (by simp)).same s28
                  refine ⟨_, rfl, p, dx1, _, rfl, hp28, cf_no (by decide +kernel), p, e, l1, t, 1 + r5, lx1', laps', rfl, ⟨dx1, hp28⟩, hx28, hd28, by omega, q10, fun H29 R ts s29 hR hRn hdR hf => ?_⟩
                  have lts : ts.length = laps'.length := by rw [hdR.len, lapsD, List.length_map]
                  refine ⟨R, rfl, ⟨_, SqL.of hR⟩, ?_⟩
                  refine for_it walk_list (fun z σ H' => ∃ (u16 u17 : Option V), σ = [some (.ref a), some (.ref S), some (.ref c), some (.str t), some (.int (1 + r5)), some (.int r6), some (.ref hd), some (.ref p), some (.ref q), some (.ref l2), some (.int (0 + (i : Nat))), some (.ref F), some (.ref SD2), some dv, some fv, some (.int (0 + (m : Nat))), u16, u17, v18, none, none, none] ∧ Same H28 H' ∧ H' R = some (.lst ts) ∧
                      ∀ v ∈ ts, ∃ a g o, v = .ref a ∧ H' a = some (.tup [.ref g, o]) ∧ H28 g = none ∧ g ≠ R ∧ ∃ ys, H' g = some (.lst ys) ∧ ys.length ≤ 1000 + z)
                    ⟨_, _, rfl, s29, hR, fun v hv => ?_⟩ (fun z σ H' hi ⟨_, _, _, _, w, _⟩ => SqL.of w) (fun z v σ H30 H30' hz p30 y => ?_) (fun σ H30 p30 => ?_)
                  · obtain ⟨a1, g1, o1, e1, e2, e3, e4, e5, e6, ys, e7, e8⟩ := hf v hv
                    exact ⟨a1, g1, o1, e1, e2, e4, e6, ys, e7, by omega⟩
                  · obtain ⟨rfl, y⟩ := y
                    obtain ⟨w16, w17, rfl, s30, hR30, hf30⟩ := p30
                    obtain ⟨a1, g1, o1, rfl, e2, e4, e6, ys, e7, e8⟩ := hf30 v (List.mem_of_getElem? y)
                    refine ⟨a1, _, rfl, SqT.of e2, rfl, _, _, rfl, _, _, rfl, rfl, ?_⟩
                    refine ⟨_, rfl, .inl ⟨rfl, _, SqL.of e7⟩, g1, ys, _, rfl, rfl, e7, by omega, ?_⟩
                    refine ⟨_, _, rfl, same_upd e4 s30, by rw [upd_ne e6.symm]; exact hR30, fun v hv => ?_⟩
                    obtain ⟨a2, g2, o2, f1, f2, f4, f6, zs, f7, f8⟩ := hf30 v hv
                    refine ⟨a2, g2, o2, f1, by rw [upd_ne (ne_of f2 e7 (by intro z; cases z))]; exact f2, f4, f6, ?_⟩
                    by_cases eg : g2 = g1
                    · rw [eg, upd_same]
                      exact ⟨_, rfl, by simp; omega⟩
                    · rw [upd_ne eg]
                      exact ⟨zs, f7, by omega⟩
                  · obtain ⟨w16, w17, rfl, s30, hR30, hf30⟩ := p30
                    refine ⟨_, rfl, p, dx1, _, rfl, s30 _ _ hp28, cf_no (by decide +kernel), p, e, l1, t, 1 + r5, lx1', laps', rfl, ⟨dx1, s30 _ _ hp28⟩, s30 _ _ hx28, hd28.same s30, by omega, q10, fun H31 R3 ts3 s31 hR3 hR3n hdR3 hf3 => ?_⟩
                    refine ⟨_, rfl, .inl ⟨rfl, _, SqL.of hR3⟩, R3, _, rfl, rfl, hR3, ?_⟩
                    refine ⟨_, _, _, _, rfl, ?_⟩
                    have s32 : Same H30 (upd H31 R3 (.lst [])) := same_upd hR3n s31
                    exact s28.trans (s30.trans s32)
                · obtain ⟨v15, v16, v17, v18, rfl, s25⟩ := p25
                  have T25 := Tabs.ext T23 s25
                  exact ⟨_, _, _, _, _, _, _, _, _, laps', lx1', lx2', rfl, fr23.trans (Fr.of s25), h23.same s25, T25, s25 _ _ hx1_23, s25 _ _ hx2_23, hd1_23.same s25, hd2_23.same s25, lb', hlok'⟩
    · obtain ⟨u10, u11, u12, u13, u14, u15, u16, u17, u18, laps, lx1, lx2, rfl, fr, h14, T14, hx1, hx2, hd1, hd2, lb, hlok⟩ := p14
      have hp14 := fr _ _ hp13 hpL nt_ins
      obtain ⟨kS, hkS⟩ := stS h14
      have hpS : p ≠ S := ne_of hp14 hkS (by intro z; cases z)
      refine ⟨_, rfl, S, cc, _, rfl, h14, by decide, by decide, fun H15 r9 s15 h15 r90 r99 => ⟨_, rfl, S, cc, _, rfl, h15, by decide, by decide, fun H16 r10 s16 h16 r100 r105 => ⟨_, _, rfl, ?_⟩⟩⟩
      have hp16 := s16 _ _ (s15 _ _ hp14 hpS) hpS
      have hi : r9.toNat < 9 := by omega
      have hj : r10.toNat < 5 := by omega
      have ei : 1 + r9 = ((r9.toNat : Nat) : Int) + 1 := by omega
      have ej : 1 + r10 = ((r10.toNat : Nat) : Int) + 1 := by omega
      have ei' : r9 = ((r9.toNat : Nat) : Int) := by omega
      have ej' : r10 = ((r10.toNat : Nat) : Int) := by omega
      have a9 : atI ("abcdefghi" : Str).cps.toList r9 = some (letters.cps.toList.getD r9.toNat 0) := by
        rw [ei', Int.toNat_natCast]
        exact abc9 ⟨_, hi⟩
      have a5 : atI ("abcde" : Str).cps.toList r10 = some (letters.cps.toList.getD r10.toNat 0) := by
        rw [ej', Int.toNat_natCast]
        exact abc5 ⟨_, hj⟩
      refine ⟨_, rfl, p, dx1, _, rfl, hp16, cf_no (by decide +kernel), _, rfl, _, _, rfl, rfl, _, rfl, _, _, rfl, rfl, rfl, p, e, l1, t, 1 + r5, r9.toNat, r10.toNat, ?_, ⟨dx1, hp16⟩, by omega, by omega, by omega, ?_⟩
      · show [V.ref p, V.int (1 + r9), V.int (1 + r10)] = _
        rw [ei, ej]
      · have l91 : (letterS r9.toNat).length = 1 := rfl
        have l51 : (letterS r10.toNat).length = 1 := rfl
        refine ⟨_, rfl, _, rfl, _, _, _, rfl, rfl, by rw [sizeLine_eq]; decide +kernel, a9, _, _, rfl, rfl, by show t.length + (letterS r9.toNat).length ≤ sizeLine; omega, _, rfl, _, _, _, rfl, rfl, by rw [sizeLine_eq]; decide +kernel, a5, _, _, rfl, rfl, by show (t ++ letterS r9.toNat).length + (letterS r10.toNat).length ≤ sizeLine; rw [len_app]; omega, rfl, ?_⟩
        have : ∀ (x : Str), Q (.bl (decide (V.str x = V.str x))) H16 := fun x => by
          rw [decide_eq_true rfl]
          exact k _
        exact this (gname t r9.toNat r10.toNat)
end
end MR
namespace MH
open PySem PySem.Spec PyProof.Rows L2
def d_is_name : He.DefD := ⟨("is_name", none), "is_name", "is_name", defArgs s_is_name, defBody s_is_name, defScope s_is_name, [], []⟩
def d_is_number : He.DefD := ⟨("is_number", none), "is_number", "is_number", defArgs s_is_number, defBody s_is_number, defScope s_is_number, [], []⟩
def d_is_row : He.DefD := ⟨("is_row", none), "is_row", "is_row", defArgs s_is_row, defBody s_is_row, defScope s_is_row, [], []⟩
def d_are_names : He.DefD := ⟨("are_names", none), "are_names", "are_names", defArgs s_are_names, defBody s_are_names, defScope s_are_names, [], []⟩
def d_are_points : He.DefD := ⟨("are_points", none), "are_points", "are_points", defArgs s_are_points, defBody s_are_points, defScope s_are_points, [], []⟩
def d_is_result : He.DefD := ⟨("is_result", none), "is_result", "is_result", defArgs s_is_result, defBody s_is_result, defScope s_is_result, [], []⟩
def d_are_entrants : He.DefD := ⟨("are_entrants", none), "are_entrants", "are_entrants", defArgs s_are_entrants, defBody s_are_entrants, defScope s_are_entrants, [], []⟩
def d_is_one_of : He.DefD := ⟨("is_one_of", none), "is_one_of", "is_one_of", defArgs s_is_one_of, defBody s_is_one_of, defScope s_is_one_of, [], []⟩
def d_are_sums : He.DefD := ⟨("are_sums", none), "are_sums", "are_sums", defArgs s_are_sums, defBody s_are_sums, defScope s_are_sums, [], []⟩
def d_is_met : He.DefD := ⟨("is_met", none), "is_met", "is_met", defArgs s_is_met, defBody s_is_met, defScope s_is_met, [], []⟩
def d_need_pairable : He.DefD := ⟨("need_pairable", none), "need_pairable", "need_pairable", defArgs s_need_pairable, defBody s_need_pairable, defScope s_need_pairable, [], []⟩
def d_least_pairs : He.DefD := ⟨("least_pairs", none), "least_pairs", "least_pairs", defArgs s_least_pairs, defBody s_least_pairs, defScope s_least_pairs, [], []⟩
def d_barred_of : He.DefD := ⟨("barred_of", none), "barred_of", "barred_of", defArgs s_barred_of, defBody s_barred_of, defScope s_barred_of, [], []⟩
def d_paired : He.DefD := ⟨("paired", none), "paired", "paired", defArgs s_paired, defBody s_paired, defScope s_paired, [], []⟩
def d_in_order : He.DefD := ⟨("in_order", none), "in_order", "in_order", defArgs s_in_order, defBody s_in_order, defScope s_in_order, [], []⟩
def d_C_init__ : He.DefD := ⟨("Cup", some "__init__"), "__init__", "Cup.__init__", defArgs s_C_init__, defBody s_C_init__, defScope s_C_init__, [], []⟩
def d_C_pair : He.DefD := ⟨("Cup", some "pair"), "pair", "Cup.pair", defArgs s_C_pair, defBody s_C_pair, defScope s_C_pair, [], []⟩
def d_C_rounds : He.DefD := ⟨("Cup", some "rounds"), "rounds", "Cup.rounds", defArgs s_C_rounds, defBody s_C_rounds, defScope s_C_rounds, [], []⟩
def d_C_game_name : He.DefD := ⟨("Cup", some "game_name"), "game_name", "Cup.game_name", defArgs s_C_game_name, defBody s_C_game_name, defScope s_C_game_name, [], []⟩
def d_C_seats_of : He.DefD := ⟨("Cup", some "seats_of"), "seats_of", "Cup.seats_of", defArgs s_C_seats_of, defBody s_C_seats_of, defScope s_C_seats_of, [], []⟩
def d_C_points_by : He.DefD := ⟨("Cup", some "points_by"), "points_by", "Cup.points_by", defArgs s_C_points_by, defBody s_C_points_by, defScope s_C_points_by, [], []⟩
def d_law_begin : He.DefD := ⟨("_law_begin", none), "_law_begin", "_law_begin", defArgs s_law_begin, defBody s_law_begin, defScope s_law_begin, [], []⟩
def d_law_more : He.DefD := ⟨("_law_more", none), "_law_more", "_law_more", defArgs s_law_more, defBody s_law_more, defScope s_law_more, [], []⟩
def d_law_next : He.DefD := ⟨("_law_next", none), "_law_next", "_law_next", defArgs s_law_next, defBody s_law_next, defScope s_law_next, [], []⟩
def d_law_pick : He.DefD := ⟨("_law_pick", none), "_law_pick", "_law_pick", defArgs s_law_pick, defBody s_law_pick, defScope s_law_pick, [], []⟩
def d_law_word : He.DefD := ⟨("_law_word", none), "_law_word", "_law_word", defArgs s_law_word, defBody s_law_word, defScope s_law_word, [], []⟩
def d_law_crew : He.DefD := ⟨("_law_crew", none), "_law_crew", "_law_crew", defArgs s_law_crew, defBody s_law_crew, defScope s_law_crew, [], []⟩
def d_law_lots : He.DefD := ⟨("_law_lots", none), "_law_lots", "_law_lots", defArgs s_law_lots, defBody s_law_lots, defScope s_law_lots, [], []⟩
def d_law_cost : He.DefD := ⟨("_law_cost", none), "_law_cost", "_law_cost", defArgs s_law_cost, defBody s_law_cost, defScope s_law_cost, [], []⟩
def d_law_best : He.DefD := ⟨("_law_best", none), "_law_best", "_law_best", defArgs s_law_best, defBody s_law_best, defScope s_law_best, [], []⟩
def d_law_results : He.DefD := ⟨("_law_results", none), "_law_results", "_law_results", defArgs s_law_results, defBody s_law_results, defScope s_law_results, [], []⟩
def d_law_points : He.DefD := ⟨("_law_points", none), "_law_points", "_law_points", defArgs s_law_points, defBody s_law_points, defScope s_law_points, [], []⟩
def d_law_due : He.DefD := ⟨("_law_due", none), "_law_due", "_law_due", defArgs s_law_due, defBody s_law_due, defScope s_law_due, [], []⟩
def d_law_told : He.DefD := ⟨("_law_told", none), "_law_told", "_law_told", defArgs s_law_told, defBody s_law_told, defScope s_law_told, [], []⟩
def d_law : He.DefD := ⟨("law", none), "law", "law", defArgs s_law, defBody s_law, defScope s_law, [], []⟩
def fnL : List He.DefD := [d_is_name, d_is_number, d_is_row, d_are_names, d_are_points, d_is_result, d_are_entrants, d_is_one_of, d_are_sums, d_is_met, d_need_pairable, d_least_pairs, d_barred_of, d_paired, d_in_order, d_C_init__, d_C_pair, d_C_rounds, d_C_game_name, d_C_seats_of, d_C_points_by, d_law_begin, d_law_more, d_law_next, d_law_pick, d_law_word, d_law_crew, d_law_lots, d_law_cost, d_law_best, d_law_results, d_law_points, d_law_due, d_law_told, d_law]
def fa0 : List He.Fa := [.glo "is_name", .glo "is_number", .glo "is_row", .glo "are_names", .glo "are_points", .glo "is_result", .glo "are_entrants", .glo "is_one_of", .glo "are_sums", .glo "is_met", .glo "need_pairable", .glo "least_pairs", .glo "barred_of", .glo "paired", .glo "in_order", .glo "_law_begin", .glo "_law_more", .glo "_law_next", .glo "_law_pick", .glo "_law_word"]
def fa1 : List He.Fa := [.glo "_law_crew", .glo "_law_lots", .glo "_law_cost", .glo "_law_best", .glo "_law_results", .glo "_law_points", .glo "_law_due", .glo "_law_told", .glo "law", .glo "Cup", .glo "NoPairing", .glo "Over", .free "len", .free "isinstance", .free "all", .free "set", .free "str", .free "int", .free "bool", .free "list"]
def fa2 : List He.Fa := [.free "tuple", .free "dict", .free "sorted", .free "min", .free "sum", .free "range", .free "enumerate", .free "zip", .str "LETTERS" "abcdefghijklmnopqrstuvwxyz", .int "LONGEST" 8, .int "MOST_DAY" 400, .int "MOST_POINTS" 4, .int "LEAST_NAMES" 2, .int "MOST_NAMES" 10, .int "MOST_SUM" 100, .int "LONGEST_CUP" 6, .int "MOST_ROUNDS" 9, .int "SAT_OUT" 2, .cls "Cup", .noat "Cup" "title"]
def fa3 : List He.Fa := [.noat "Cup" "entrants", .noat "Cup" "bound", .noat "Cup" "laps", .meth "Cup" "pair", .meth "Cup" "rounds", .meth "Cup" "game_name", .meth "Cup" "seats_of", .meth "Cup" "points_by", .mkr "Cup", .exc "NoPairing", .exc "Over", .exm "NoPairing" "NoPairing" true, .exm "NoPairing" "Over" false, .exm "Over" "NoPairing" false, .exm "Over" "Over" true]
def faL : List He.Fa := fa0 ++ fa1 ++ fa2 ++ fa3
def lo0 : List PySem.Str := ["_wall", "__name__", "SteadError", "Over", "NoResult", "NoCup", "NoPairing", "LETTERS", "LONGEST", "is_name", "is_number", "is_row", "MOST_DAY", "MOST_POINTS", "are_names", "are_points", "is_result", "LEAST_NAMES", "MOST_NAMES", "MOST_SUM"]
def lo1 : List PySem.Str := ["are_entrants", "is_one_of", "are_sums", "is_met", "need_pairable", "least_pairs", "barred_of", "paired", "in_order", "LONGEST_CUP", "MOST_ROUNDS", "SAT_OUT", "Cup", "_law_begin", "_law_more", "_law_next", "_law_pick", "_law_word", "_law_crew", "_law_lots"]
def lo2 : List PySem.Str := ["_law_cost", "_law_best", "_law_results", "_law_points", "_law_due", "_law_told"]
def looseL : List PySem.Str := lo0 ++ lo1 ++ lo2
def tfL : List He.Defn := [("paired", none), ("_law_best", none)]
abbrev R : PySem.W.OpenRow := PySem.W.OpenLaw.row PySem.Challenge.rw_playstead_k69_whole_cups_round_by_round
abbrev hk : PySem.W.Hook := He.hookX 6 faL fnL [] tfL (fun K => decide ((He.cT K ("paired", none)).2 ≠ (He.cT K ("_law_best", none)).2))
def ob (s : PySem.W.SharedT) : He.AlX := He.obsX 6 faL fnL [] tfL (fun K => decide ((He.cT K ("paired", none)).2 ≠ (He.cT K ("_law_best", none)).2)) (HandSHeadRun.getT s)
theorem ob_eq (s : PySem.W.SharedT) : ob s = hk.obs s.abs := He.obsX_eq (HandSHeadRun.getT_eq s)
theorem run (w : World) : HandSHeadRun.RunEq R (PySem.W.view R.prog [51]) hk ob 4000 looseL w := by
  intro os
  kernel_rfl
end MH
namespace MR
open PySem PySem.Spec PyProof.Rows L2 LamX
/-! the head's facts for the walk -/
section
variable {K : PySem.W.Frag} {h : Heap} {mg : Str → Option Value}
theorem gc_int {x : Str} {i : Int} (e : ∃ t, mg x = some (.int i t)) : Gc mg x (.int i) := by
  obtain ⟨t, e⟩ := e
  exact ⟨_, e, t, rfl⟩
theorem gc_str {x z : Str} (e : ∃ t, mg x = some (.str z t)) : Gc mg x (.str z) := by
  obtain ⟨t, e⟩ := e
  exact ⟨_, e, t, rfl⟩
theorem txt (KX : K.In h) (G : h.Ns mainGlobals mg) (c : He.SaysD MH.faL MH.fnL K) : Txt K mg (He.ga K "Cup") where
  b_len := He.free_ok KX G (c.fact 32 (f := .free "len") rfl)
  b_isinstance := He.free_ok KX G (c.fact 33 (f := .free "isinstance") rfl)
  b_all := He.free_ok KX G (c.fact 34 (f := .free "all") rfl)
  b_set := He.free_ok KX G (c.fact 35 (f := .free "set") rfl)
  b_str := He.free_ok KX G (c.fact 36 (f := .free "str") rfl)
  b_int := He.free_ok KX G (c.fact 37 (f := .free "int") rfl)
  b_bool := He.free_ok KX G (c.fact 38 (f := .free "bool") rfl)
  b_list := He.free_ok KX G (c.fact 39 (f := .free "list") rfl)
  b_tuple := He.free_ok KX G (c.fact 40 (f := .free "tuple") rfl)
  b_dict := He.free_ok KX G (c.fact 41 (f := .free "dict") rfl)
  b_sorted := He.free_ok KX G (c.fact 42 (f := .free "sorted") rfl)
  b_min := He.free_ok KX G (c.fact 43 (f := .free "min") rfl)
  b_sum := He.free_ok KX G (c.fact 44 (f := .free "sum") rfl)
  b_range := He.free_ok KX G (c.fact 45 (f := .free "range") rfl)
  b_enumerate := He.free_ok KX G (c.fact 46 (f := .free "enumerate") rfl)
  b_zip := He.free_ok KX G (c.fact 47 (f := .free "zip") rfl)
  k_LETTERS := gc_str (He.str_ok KX G (c.fact 48 (f := .str "LETTERS" "abcdefghijklmnopqrstuvwxyz") rfl))
  k_LONGEST := gc_int (He.int_ok KX G (c.fact 49 (f := .int "LONGEST" 8) rfl))
  k_MOST_DAY := gc_int (He.int_ok KX G (c.fact 50 (f := .int "MOST_DAY" 400) rfl))
  k_MOST_POINTS := gc_int (He.int_ok KX G (c.fact 51 (f := .int "MOST_POINTS" 4) rfl))
  k_LEAST_NAMES := gc_int (He.int_ok KX G (c.fact 52 (f := .int "LEAST_NAMES" 2) rfl))
  k_MOST_NAMES := gc_int (He.int_ok KX G (c.fact 53 (f := .int "MOST_NAMES" 10) rfl))
  k_MOST_SUM := gc_int (He.int_ok KX G (c.fact 54 (f := .int "MOST_SUM" 100) rfl))
  k_LONGEST_CUP := gc_int (He.int_ok KX G (c.fact 55 (f := .int "LONGEST_CUP" 6) rfl))
  k_MOST_ROUNDS := gc_int (He.int_ok KX G (c.fact 56 (f := .int "MOST_ROUNDS" 9) rfl))
  k_SAT_OUT := gc_int (He.int_ok KX G (c.fact 57 (f := .int "SAT_OUT" 2) rfl))
  d_is_name := by
    obtain ⟨fd, F⟩ := c.def_ 0 (d := MH.d_is_name) rfl
    exact ⟨_, fd, F, He.glo_ok KX G (c.fact 0 (f := .glo "is_name") rfl)⟩
  d_is_number := by
    obtain ⟨fd, F⟩ := c.def_ 1 (d := MH.d_is_number) rfl
    exact ⟨_, fd, F, He.glo_ok KX G (c.fact 1 (f := .glo "is_number") rfl)⟩
  d_is_row := by
    obtain ⟨fd, F⟩ := c.def_ 2 (d := MH.d_is_row) rfl
    exact ⟨_, fd, F, He.glo_ok KX G (c.fact 2 (f := .glo "is_row") rfl)⟩
  d_are_names := by
    obtain ⟨fd, F⟩ := c.def_ 3 (d := MH.d_are_names) rfl
    exact ⟨_, fd, F, He.glo_ok KX G (c.fact 3 (f := .glo "are_names") rfl)⟩
  d_are_points := by
    obtain ⟨fd, F⟩ := c.def_ 4 (d := MH.d_are_points) rfl
    exact ⟨_, fd, F, He.glo_ok KX G (c.fact 4 (f := .glo "are_points") rfl)⟩
  d_is_result := by
    obtain ⟨fd, F⟩ := c.def_ 5 (d := MH.d_is_result) rfl
    exact ⟨_, fd, F, He.glo_ok KX G (c.fact 5 (f := .glo "is_result") rfl)⟩
  d_are_entrants := by
    obtain ⟨fd, F⟩ := c.def_ 6 (d := MH.d_are_entrants) rfl
    exact ⟨_, fd, F, He.glo_ok KX G (c.fact 6 (f := .glo "are_entrants") rfl)⟩
  d_is_one_of := by
    obtain ⟨fd, F⟩ := c.def_ 7 (d := MH.d_is_one_of) rfl
    exact ⟨_, fd, F, He.glo_ok KX G (c.fact 7 (f := .glo "is_one_of") rfl)⟩
  d_are_sums := by
    obtain ⟨fd, F⟩ := c.def_ 8 (d := MH.d_are_sums) rfl
    exact ⟨_, fd, F, He.glo_ok KX G (c.fact 8 (f := .glo "are_sums") rfl)⟩
  d_is_met := by
    obtain ⟨fd, F⟩ := c.def_ 9 (d := MH.d_is_met) rfl
    exact ⟨_, fd, F, He.glo_ok KX G (c.fact 9 (f := .glo "is_met") rfl)⟩
  d_need_pairable := by
    obtain ⟨fd, F⟩ := c.def_ 10 (d := MH.d_need_pairable) rfl
    exact ⟨_, fd, F, He.glo_ok KX G (c.fact 10 (f := .glo "need_pairable") rfl)⟩
  d_least_pairs := by
    obtain ⟨fd, F⟩ := c.def_ 11 (d := MH.d_least_pairs) rfl
    exact ⟨_, fd, F, He.glo_ok KX G (c.fact 11 (f := .glo "least_pairs") rfl)⟩
  d_barred_of := by
    obtain ⟨fd, F⟩ := c.def_ 12 (d := MH.d_barred_of) rfl
    exact ⟨_, fd, F, He.glo_ok KX G (c.fact 12 (f := .glo "barred_of") rfl)⟩
  d_paired := by
    obtain ⟨fd, F⟩ := c.def_ 13 (d := MH.d_paired) rfl
    exact ⟨_, fd, F, He.glo_ok KX G (c.fact 13 (f := .glo "paired") rfl)⟩
  d_in_order := by
    obtain ⟨fd, F⟩ := c.def_ 14 (d := MH.d_in_order) rfl
    exact ⟨_, fd, F, He.glo_ok KX G (c.fact 14 (f := .glo "in_order") rfl)⟩
  d_C_init__ := by
    obtain ⟨fd, F⟩ := c.def_ 15 (d := MH.d_C_init__) rfl
    exact ⟨_, fd, F, He.mkr_ok (c.fact 68 (f := .mkr "Cup") rfl)⟩
  d_C_pair := by
    obtain ⟨fd, F⟩ := c.def_ 16 (d := MH.d_C_pair) rfl
    exact ⟨_, fd, F, He.meth_ok (c.fact 63 (f := .meth "Cup" "pair") rfl)⟩
  d_C_rounds := by
    obtain ⟨fd, F⟩ := c.def_ 17 (d := MH.d_C_rounds) rfl
    exact ⟨_, fd, F, He.meth_ok (c.fact 64 (f := .meth "Cup" "rounds") rfl)⟩
  d_C_game_name := by
    obtain ⟨fd, F⟩ := c.def_ 18 (d := MH.d_C_game_name) rfl
    exact ⟨_, fd, F, He.meth_ok (c.fact 65 (f := .meth "Cup" "game_name") rfl)⟩
  d_C_seats_of := by
    obtain ⟨fd, F⟩ := c.def_ 19 (d := MH.d_C_seats_of) rfl
    exact ⟨_, fd, F, He.meth_ok (c.fact 66 (f := .meth "Cup" "seats_of") rfl)⟩
  d_C_points_by := by
    obtain ⟨fd, F⟩ := c.def_ 20 (d := MH.d_C_points_by) rfl
    exact ⟨_, fd, F, He.meth_ok (c.fact 67 (f := .meth "Cup" "points_by") rfl)⟩
  d_law_begin := by
    obtain ⟨fd, F⟩ := c.def_ 21 (d := MH.d_law_begin) rfl
    exact ⟨_, fd, F, He.glo_ok KX G (c.fact 15 (f := .glo "_law_begin") rfl)⟩
  d_law_more := by
    obtain ⟨fd, F⟩ := c.def_ 22 (d := MH.d_law_more) rfl
    exact ⟨_, fd, F, He.glo_ok KX G (c.fact 16 (f := .glo "_law_more") rfl)⟩
  d_law_next := by
    obtain ⟨fd, F⟩ := c.def_ 23 (d := MH.d_law_next) rfl
    exact ⟨_, fd, F, He.glo_ok KX G (c.fact 17 (f := .glo "_law_next") rfl)⟩
  d_law_pick := by
    obtain ⟨fd, F⟩ := c.def_ 24 (d := MH.d_law_pick) rfl
    exact ⟨_, fd, F, He.glo_ok KX G (c.fact 18 (f := .glo "_law_pick") rfl)⟩
  d_law_word := by
    obtain ⟨fd, F⟩ := c.def_ 25 (d := MH.d_law_word) rfl
    exact ⟨_, fd, F, He.glo_ok KX G (c.fact 19 (f := .glo "_law_word") rfl)⟩
  d_law_crew := by
    obtain ⟨fd, F⟩ := c.def_ 26 (d := MH.d_law_crew) rfl
    exact ⟨_, fd, F, He.glo_ok KX G (c.fact 20 (f := .glo "_law_crew") rfl)⟩
  d_law_lots := by
    obtain ⟨fd, F⟩ := c.def_ 27 (d := MH.d_law_lots) rfl
    exact ⟨_, fd, F, He.glo_ok KX G (c.fact 21 (f := .glo "_law_lots") rfl)⟩
  d_law_cost := by
    obtain ⟨fd, F⟩ := c.def_ 28 (d := MH.d_law_cost) rfl
    exact ⟨_, fd, F, He.glo_ok KX G (c.fact 22 (f := .glo "_law_cost") rfl)⟩
  d_law_best := by
    obtain ⟨fd, F⟩ := c.def_ 29 (d := MH.d_law_best) rfl
    exact ⟨_, fd, F, He.glo_ok KX G (c.fact 23 (f := .glo "_law_best") rfl)⟩
  d_law_results := by
    obtain ⟨fd, F⟩ := c.def_ 30 (d := MH.d_law_results) rfl
    exact ⟨_, fd, F, He.glo_ok KX G (c.fact 24 (f := .glo "_law_results") rfl)⟩
  d_law_points := by
    obtain ⟨fd, F⟩ := c.def_ 31 (d := MH.d_law_points) rfl
    exact ⟨_, fd, F, He.glo_ok KX G (c.fact 25 (f := .glo "_law_points") rfl)⟩
  d_law_due := by
    obtain ⟨fd, F⟩ := c.def_ 32 (d := MH.d_law_due) rfl
    exact ⟨_, fd, F, He.glo_ok KX G (c.fact 26 (f := .glo "_law_due") rfl)⟩
  d_law_told := by
    obtain ⟨fd, F⟩ := c.def_ 33 (d := MH.d_law_told) rfl
    exact ⟨_, fd, F, He.glo_ok KX G (c.fact 27 (f := .glo "_law_told") rfl)⟩
  cl := He.cls_ok (c.fact 58 (f := .cls "Cup") rfl)
  n_title := He.noat_ok (c.fact 59 (f := .noat "Cup" "title") rfl)
  n_entrants := He.noat_ok (c.fact 60 (f := .noat "Cup" "entrants") rfl)
  n_bound := He.noat_ok (c.fact 61 (f := .noat "Cup" "bound") rfl)
  n_laps := He.noat_ok (c.fact 62 (f := .noat "Cup" "laps") rfl)
  mgC := He.glo_ok KX G (c.fact 29 (f := .glo "Cup") rfl)
theorem exc_NoPairing (KX : K.In h) (G : h.Ns mainGlobals mg) (c : He.SaysD MH.faL MH.fnL K) : Exc1 K mg "NoPairing" (He.ga K "NoPairing") := by
  obtain ⟨e1, e2, e3, e4⟩ := He.exc_ok (c.fact 69 (f := .exc "NoPairing") rfl)
  exact ⟨He.glo_ok KX G (c.fact 30 (f := .glo "NoPairing") rfl), e1, e2, e3, e4⟩
theorem exc_Over (KX : K.In h) (G : h.Ns mainGlobals mg) (c : He.SaysD MH.faL MH.fnL K) : Exc1 K mg "Over" (He.ga K "Over") := by
  obtain ⟨e1, e2, e3, e4⟩ := He.exc_ok (c.fact 70 (f := .exc "Over") rfl)
  exact ⟨He.glo_ok KX G (c.fact 31 (f := .glo "Over") rfl), e1, e2, e3, e4⟩
theorem dfc_paired (KX : K.In h) (G : h.Ns mainGlobals mg) (c : He.SaysD MH.faL MH.fnL K) : DfC K mg "paired" MH.s_paired (He.cT K ("paired", none)).1 := by
  obtain ⟨fd, F⟩ := c.def_ 13 (d := MH.d_paired) rfl
  obtain ⟨oc, od, dV, kV, doc, pm, an, cdv, ct, osl, e, lk, hcd, _, _⟩ := F.ex
  obtain ⟨cc, rfl⟩ := He.codeIn_ref hcd
  subst e
  exact ⟨_, _, F, He.glo_ok KX G (c.fact 13 (f := .glo "paired") rfl), (congrArg Value.ref (He.codeOf_eq (p := ("paired", none)) lk rfl)).symm⟩
theorem dfc_law_best (KX : K.In h) (G : h.Ns mainGlobals mg) (c : He.SaysD MH.faL MH.fnL K) : DfC K mg "_law_best" MH.s_law_best (He.cT K ("_law_best", none)).1 := by
  obtain ⟨fd, F⟩ := c.def_ 29 (d := MH.d_law_best) rfl
  obtain ⟨oc, od, dV, kV, doc, pm, an, cdv, ct, osl, e, lk, hcd, _, _⟩ := F.ex
  obtain ⟨cc, rfl⟩ := He.codeIn_ref hcd
  subst e
  exact ⟨_, _, F, He.glo_ok KX G (c.fact 23 (f := .glo "_law_best") rfl), (congrArg Value.ref (He.codeOf_eq (p := ("_law_best", none)) lk rfl)).symm⟩
theorem exm (c : He.SaysD MH.faL MH.fnL K) : ExM K (He.ga K "NoPairing") (He.ga K "Over") := ⟨He.exm_ok (c.fact 71 (f := .exm "NoPairing" "NoPairing" true) rfl), He.exm_ok (c.fact 73 (f := .exm "Over" "NoPairing" false) rfl), He.exm_ok (c.fact 74 (f := .exm "Over" "Over" true) rfl)⟩
abbrev csL (K : PySem.W.Frag) : List (Addr × Addr) := [He.cT K ("paired", none), He.cT K ("_law_best", none)]
theorem facts {P : Program} {w : World} {f : Addr} (KX : K.In h) (G : h.Ns mainGlobals mg) (hfa : mg ("law" : Str) = some (.ref f)) (c : He.SaysD MH.faL MH.fnL K) (ne : (He.cT K ("paired", none)).2 ≠ (He.cT K ("_law_best", none)).2) :
    ∃ fd : FuncData, (∀ (s : Shared) (v : Value), BindsTo s fd ⟨[v], []⟩ [("_law_script", v)]) ∧ ∀ base : Heap, K.In base → base.Ns mainGlobals mg → (∀ p ∈ csL K, TabB base mg p.1 p.2) →
      FnOk P w K mg base CX0 16 f fd ["_law_script"] (sp_law K (He.cT K ("paired", none)).2 (He.cT K ("_law_best", none)).2) := by
  obtain ⟨fd, F⟩ := c.def_ 34 (d := MH.d_law) rfl
  have e := hfa.symm.trans (He.glo_ok KX G (c.fact 28 (f := .glo "law") rfl))
  cases e
  have b := FunD.bindsA (ps := ["_law_script"]) F fun _ _ _ _ _ _ us hl => match us, hl with | [_], _ => rfl
  refine ⟨fd, fun s v => b s [v] rfl, fun base _ _ hT => ?_⟩
  exact ok_law F (txt KX G c) ⟨dfc_paired KX G c, hT _ (by simp [csL]), dfc_law_best KX G c, hT _ (by simp [csL]), ne⟩ (exc_NoPairing KX G c) (exc_Over KX G c) (exm c)
end
end MR
open PySem PySem.W PySem.Calls PyProof.Rows
theorem PySem.Challenge.cw_playstead_k69_whole_cups_round_by_round_holds : PySem.Challenge.rw_playstead_k69_whole_cups_round_by_round.Holds := by
  w_on; o_law
  refine HandSHeadRun.head_any (r := OpenLaw.row PySem.Challenge.rw_playstead_k69_whole_cups_round_by_round) (q := view (OpenLaw.row PySem.Challenge.rw_playstead_k69_whole_cups_round_by_round).prog [51]) (H := MH.hk) (ob := MH.ob) (M := 4000) (loose := MH.looseL) (d := HandSHeadRun.topDef (OpenLaw.row PySem.Challenge.rw_playstead_k69_whole_cups_round_by_round).prog 51) (kwd := []) MH.ob_eq
    (by kernel_rfl) (fun s => by kernel_rfl) MH.run (by kernel_rfl) (by kernel_rfl) (by kernel_rfl) (by rfl) (by first | assumption | decide +kernel) (by decide +kernel) ⟨rfl, rfl, rfl, rfl, rfl, by decide +kernel⟩ ?hw ?hc
  case hw => w_witness2
  case hc =>
    refine LamX.walk_ofTsE (l := PySem.Challenge.rw_playstead_k69_whole_cups_round_by_round) (n := 63) (k := 16) (x := "_law_script") (CX := fun _ => L2.CX0) rfl (by decide) (by kernel_rfl) ⟨rfl, by decide, by decide⟩ ?F (fun _ _ _ _ _ z => z)
    intro w mg fa h Y G hmg0
    obtain ⟨K, KX, c⟩ := Y
    have hmg : mg ("law" : PySem.Str) = some (.ref fa) := by
      have e : (HandSHeadRun.topDef (OpenLaw.row PySem.Challenge.rw_playstead_k69_whole_cups_round_by_round).prog 51).name = ("law" : PySem.Str) := by kernel_rfl
      rw [← e]
      exact hmg0
    obtain ⟨fd, hb, hF⟩ := MR.facts (P := (PySem.Challenge.rw_playstead_k69_whole_cups_round_by_round).prog) (w := w) KX G hmg c.t.d (of_decide_eq_true c.more)
    have hq : ∀ H : L2.Hp, (∀ p ∈ MR.csL K, H p.2 = some (.tbl #[])) → LamX.Tabs (MR.TT2 (He.cT K ("paired", none)).2 (He.cT K ("_law_best", none)).2) H := fun H hH p hp => by
      rcases List.mem_cons.mp hp with rfl | hp
      · exact LamX.TabS.nil (hH _ (by simp [MR.csL]))
      · rcases List.mem_cons.mp hp with rfl | hp
        · exact LamX.TabS.nil (hH _ (by simp [MR.csL]))
        · cases hp
    have hm : ∀ p ∈ MR.csL K, ∃ q ∈ MH.tfL, p = He.cT K q := fun p hp => by
      rcases List.mem_cons.mp hp with rfl | hp
      · exact ⟨_, by simp [MH.tfL], rfl⟩
      · rcases List.mem_cons.mp hp with rfl | hp
        · exact ⟨_, by simp [MH.tfL], rfl⟩
        · cases hp
    exact ⟨K, KX, fd, MR.csL K, _, fun p hp => by
      obtain ⟨q, hq, rfl⟩ := hm p hp
      exact c.empty q hq, fun p hp => by
      obtain ⟨q, hq, rfl⟩ := hm p hp
      exact c.out q hq, fun p hp => by
      obtain ⟨q, hq, rfl⟩ := hm p hp
      exact PySem.W.codeHd_of_K KX (c.hd q hq), hb, fun H a ns _ _ hH hS => ⟨a, ns, rfl, hS, hq H hH, fun _ => rfl⟩, hF⟩
