import PyProof.Rows.All
import Wide.All
import OpenK.AllK
import Wide.FinOn
import HandS.ForMost
import HandS.Star
import HandS.DictComp
import HandS.WideBits
import HandS.Wide
import HandS.WideMore
import KE.KDictWalk
import HandS.Flow
import HandS.Walk
import HandS.Conv
import KE.KDictPairs
import KE.KDictKeyed
import KE.KDictCopyH
import KE.SortData
import KE.DataMinMax
import PyProof.CollectIter
import KE.KDictList
import HandS.OwnEq
import PyProof.InstEq
import HandS.FStr
import HandS.Property
import HandS.ClsMeth
import HandS.IsInst
import HandS.Steps
import HandS.Deep
import HandS.DeepEq
import HandS.SortRule
import HandS.ListItems
import HandS.Defaults
import HandS.HeadHook1
import HandS.HeadHook2
import HandS.HeadNt
import HandS.Head0
import HandS.Head1
import HandS.Head2
import HandS.HeadEnd
import PySem.Challenge.RW_meetrings_k44_whole_rounds_of_led_forms
set_option Elab.async false
set_option linter.all false
set_option maxRecDepth 100000
set_option maxHeartbeats 4000000
/-! New rules of the hand layer: dicts with tuple keys walked by items, made by comprehensions. -/
namespace L2
open PySem PySem.Spec PyProof.Rows
/-! ### d.items(), the keys tuples -/
/-- the pairs of the locked dict at d, each a new tuple of the key's own tuple and the value -/
def Itit (d : Addr) (o : Obj) (kvs : List (List Key × V)) : It :=
  ⟨fun i H => H d = some (.frz o (.dT kvs)) ∧ i < kvs.length,
   fun i H x H' => ∃ (T q : Addr) (k : List Key) (v : V), kvs[i]? = some (k, v) ∧ x = .ref T ∧ H T = none ∧ H q = some (.tup (k.map kV)) ∧ H' = upd H T (.tup [.ref q, v]),
   fun i H => H d = some (.frz o (.dT kvs)) ∧ kvs.length ≤ i⟩
/-- the locked dict, entry by entry -/
theorem frz_entries {X : Cx} {pins : List (Addr × Obj)} {σ : St} {H : Hp} {s : Shared} {d : Addr} {o : Obj} {kvs : List (List Key × V)} (I : Inv X pins σ H s) (h : H d = some (.frz o (.dT kvs))) :
    (d == sysModules) = false ∧ s.heap.get? d = some o ∧ ∃ (es : Array DictEntry) (ep : Nat), o.data = .dict es ep ∧ s.heap.DictRaw d es ep ∧ es.size = kvs.length ∧
      ∀ (i : Nat) (hi : i < es.size), ∃ (k : List Key) (v : V) (q : Addr), kvs[i]? = some (k, v) ∧ es[i].key = .ref q ∧ H q = some (.tup (k.map kV)) ∧ RelV v es[i].val := by
  obtain ⟨hg, _, hs, xs, pr, ob, es, ep, ho, hx, hdt, he, _⟩ := I.hok d _ h
  rw [hg] at ho
  cases ho
  have l1 : es.size = xs.length := size_of_entries he
  have l2 : kvs.length = xs.length := Paired.length pr
  refine ⟨hs, hg, es, ep, hdt, ⟨o, hg, hx, hdt⟩, l1.trans l2.symm, fun i hi => ?_⟩
  obtain ⟨⟨k, v⟩, hkv⟩ : ∃ p, kvs[i]? = some p := ⟨kvs[i]'(by omega), List.getElem?_eq_getElem (by omega)⟩
  obtain ⟨b, hb, e1, e2, e3⟩ := paired_get pr hkv
  have q := entry_at he i
  rw [hb, Array.getElem?_eq_getElem hi] at q
  have q' := Option.some.inj q
  refine ⟨k, v, b.2.1, hkv, by rw [q']; rfl, e2, ?_⟩
  rw [q']
  exact e3
section
variable {P : Program} {w : World} {K : PySem.W.Frag} {d : Addr} {o : Obj} {es : Array DictEntry} {ep : Nat}
theorem turn_itemsT {kvs : List (List Key × V)} {elts : List Expr} {kk : Nat} {tpos : Pos} (it : Addr) (hod : o.data = .dict es ep) :
    Turn P w K (.Tuple elts kk tpos) (Itit d o kvs) [it] it (fun i h => ∃ ok ov, IsItemIter h it d i kvs.length ep ok ov) where
  mem := List.mem_singleton.mpr rfl
  obj := fun i h st b hb => by
    cases List.mem_singleton.mp hb
    obtain ⟨ok, ov, e⟩ := st
    exact ⟨_, e, fun v z => by cases z⟩
  keep := fun i h h' st k => by
    obtain ⟨ok, ov, e⟩ := st
    exact ⟨ok, ov, k it (List.mem_singleton.mpr rfl) _ e⟩
  item := by
    intro X eP eW eK hc i pins s σ H E I hf st hg
    cases eP; cases eW; cases eK
    have hit := hf it (List.mem_singleton.mpr rfl)
    obtain ⟨hd, hi⟩ := hg
    obtain ⟨hs, hgd, es', ep', hdt, hr, hsz, ent⟩ := frz_entries I hd
    obtain ⟨rfl, rfl⟩ := dict_ep hod hdt
    obtain ⟨ok, ov, he⟩ := st
    rw [← hsz] at he
    have hi' : i < es'.size := by omega
    obtain ⟨k, v, q, hkv, ek, hq, rv⟩ := ent i hi'
    have hlt : it < s.heap.objs.size := Heap.lt_size he
    refine wpAny_pyNext_items_item_raw he hr hi' fun h1 ho hT hz hk => ⟨_, rfl, ?_⟩
    refine wpAny_letOwnedTupleGo_items (s := { s with heap := h1 }) ho fun h2 hb sb => ?_
    have ne : s.heap.objs.size ≠ it := Nat.ne_of_gt hlt
    have hT2 := (sb.2 _ ne).trans hT
    have kp : ∀ b ob, b ∉ [it] → s.heap.get? b = some ob → h2.get? b = some ob := fun b ob hb e => by
      have nb : b ≠ it := fun z => hb (List.mem_singleton.mpr z)
      exact (sb.2 b nb).trans (hk b ob nb e)
    have new : ObjOk X.prog X.w (upd H s.heap.objs.size (.tup [.ref q, v])) h2 s.heap.objs.size (.tup [.ref q, v]) := by
      refine ⟨by show 2 ≤ sizeLine; decide, [es'[i].key, es'[i].val], .cons ek (.cons rv .nil), ⟨_, hT2, rfl, _, rfl⟩⟩
    refine ⟨.ref s.heap.objs.size, _, I.turnedNew (t' := s.toks) (ch := [it]) kp hf (Nat.le_refl _) new, rfl, ⟨_, q, k, v, hkv, rfl, I.hok.fresh (Nat.le_refl _), hq, rfl⟩, ⟨es'[i].key, es'[i].val, ?_⟩, fun b hb => ?_⟩
    · rw [← hsz]; exact hb
    · cases List.mem_singleton.mp hb
      rw [upd_ne ne.symm]
      exact hit.1
  done := by
    intro X eP eW eK hc i pins s σ H E I hf st hg
    cases eP; cases eW; cases eK
    have hit := hf it (List.mem_singleton.mpr rfl)
    obtain ⟨hd, hi⟩ := hg
    obtain ⟨hs, hgd, es', ep', hdt, hr, hsz, ent⟩ := frz_entries I hd
    obtain ⟨rfl, rfl⟩ := dict_ep hod hdt
    obtain ⟨ok, ov, he⟩ := st
    rw [← hsz] at he
    refine wpAny_pyNext_items_end_raw (I.ok.hd hc) he hr (by omega) fun h1 eb => ⟨rfl, ?_⟩
    exact I.turned (t' := s.toks) (fun b ob nb e => eb b ob nb e) hit.1 hit.2.1 hit.2.2.2.1 hit.2.2.2.2.1 hit.2.2.2.2.2
  self := fun A i s Q E st h => by
    obtain ⟨ok, ov, e⟩ := st
    exact wpAny_pyIter_itemiter e h
end
def iItemsT (td : TE) : TI := fun σ H R => td σ H fun x H1 => ∃ d o kvs, x = .ref d ∧ H1 d = some (.frz o (.dT kvs)) ∧ R (Itit d o kvs) H1
theorem pi_itemsT {X : Cx} {e : Expr} {td : TE} {apos cpos : Pos} {elts : List Expr} {kk : Nat} {tpos : Pos} (he : PE X e td) (hbase : attributeBase e "items" X.env (eval e X.env) = eval e X.env := by rfl) (hline : (apos.endLine == cpos.line) = true := by rfl) :
    PI X (.Tuple elts kk tpos) (.Call (.Attribute e "items" apos) [] [] cpos) (iItemsT td) := by
  refine ⟨fun pins s σ H R I h => ?_⟩
  refine wpAny_Call_method (T := "dict") (id := "dict.items") hbase rfl hline F.plainAttrs_dict F.slot_dict_items F.type_dict_items (thn (he.run pins s σ H _ I h) ?_)
  rintro u s1 ⟨x, H1, I1, rx, d, o, kvs, rfl, hd, q⟩
  cases (show u = Value.ref d from rx)
  obtain ⟨hs, hgd, es, ep, hdt, hr, hsz, ent⟩ := frz_entries I1 hd
  obtain ⟨ob, hob, hex, hdat⟩ := id hr
  refine ⟨hr.typeIs, fun b e => by cases e; exact ⟨ob, hob, hex.2.1⟩, ?_⟩
  have I2 : Inv X pins σ H1 { s1 with heap := s1.heap.push { cls := .type "dict_items", data := .fields #[.ref d] } } := I1.kept (t' := s1.toks) fun b ob q => Heap.get?_push_of_some _ q
  have hr2 : (s1.heap.push { cls := .type "dict_items", data := .fields #[.ref d] }).DictRaw d es ep := hr.at fun ob q => Heap.get?_push_of_some _ q
  have fin : wpAny (model X.prog X.w) X.A (pyIter (.ref s1.heap.objs.size)) (PIE X pins σ (.Tuple elts kk tpos) R) X.xe { s1 with heap := s1.heap.push { cls := .type "dict_items", data := .fields #[.ref d] } } := by
    refine wpAny_pyIter_items_raw (d := d) ⟨_, Heap.get?_push_size _ rfl, rfl, rfl⟩ hr2 (pi_one (tk := s1.toks) I2 _ (turn_itemsT _ hdt) ⟨.none, .none, ?_⟩ q)
    rw [← hsz]
    exact Heap.get?_push_size _ rfl
  show wpAny _ _ (callWith cpos (.builtin "dict.items") [.ref d] [] []) _ X.xe s1
  exact method_meetsIn F.slot_dict_items F.entry_dict_items rfl (PySem.evalArgs_none ⟨rfl, hr.typeIs, F.args_dict_items_1 _, _, meets_dict_items_raw d hs, ⟨es, ep, hr⟩, fin⟩)
theorem walk_itemsT {d : Addr} {o : Obj} {kvs : List (List Key × V)} (i : Nat) (H : Hp) (x : V) (H' : Hp) (h : (Itit d o kvs).yld i H x H') :
    ∃ (T q : Addr) (k : List Key) (v : V), kvs[i]? = some (k, v) ∧ x = .ref T ∧ H T = none ∧ H q = some (.tup (k.map kV)) ∧ H' = upd H T (.tup [.ref q, v]) := h
/-! ### {k: v for ..}, the keys tuples -/
/-- d[k] = v by a comprehension, k a tracked tuple -/
theorem dictSetT {X : Cx} {pins : List (Addr × Obj)} {σ : St} {H : Hp} {s : Shared} {E : Value → Shared → Prop} {D b : Addr} {kvs : List (List Key × V)} {k : List Key} {v : V} {u r : Value} {Q : Unit → Shared → Prop}
    (hu : X.A.units + 1 < cLine) (I : Inv X pins σ H s) (hD : H D = some (.dT kvs)) (hz : kvs.length < sizeLine) (hb : H b = some (.tup (k.map kV))) (ry : RelV (.ref b) u) (rv : RelV v r)
    (h : ∀ s', Inv X pins σ (upd H D (.dT (putK kvs k v))) s' → Q () s') : wpAny (model X.prog X.w) X.A (dictSet D u r) Q E s := by
  cases (show u = Value.ref b from ry)
  obtain ⟨z, hd, xs, rel, dd⟩ := dt_of I.hok hD
  have lx : xs.length ≤ sizeLine := by
    rw [← Paired.length rel]
    exact z
  have ll : (putK kvs k v).length ≤ sizeLine := Nat.le_trans (length_putK kvs k v) hz
  refine wpAny_dictSet_heap (show X.A.units < cLine by omega) (key_of I.hok hb) dd (fun h1 d1 sb => h _ ?_) lx
  obtain ⟨ob, es, ep, ho, p2, p3, p4, _, p5⟩ := d1
  refine d_write I (by rw [hD]; exact True.intro) sb ⟨ob, ho⟩ ⟨ll, hd, _, ?_, ob, es, ep, ho, p2, p3, p4, p5⟩
  refine (rel.put k hb rv).keeps fun c ys ec => ?_
  rw [upd_ne (ne_of ec hD fun q => by cases q)]
  exact ec
section
variable {X : Cx}
/-- {k: v for target in iter if ..}, the keys tuples: D the new dict -/
def tDcT (wi : TI) (g : TG) (tt : TT) (tk tv : TE) (vs : List Nat) : TE := fun σ H Q =>
  wi σ H fun J H1 => ∀ D, H1 D = none → ∃ W : Nat → Nat → Hp → Prop,
    (∃ m, W 0 m (upd H1 D (.dT []))) ∧ ∀ i m H, W i m H →
      (J.stop i H ∧ Q (.ref D) H) ∨ (J.go i H ∧ ∃ Nx : Hp → Prop, (∀ H', Nx H' → ∃ m', m' < m ∧ W (i + 1) m' H') ∧
        ∀ x H', J.yld i H x H' → g x (wipe σ vs) H' fun σ2 H2 => wipe σ2 vs = wipe σ vs ∧ tt σ2 H2 fun b H3 =>
          if b = true then tk σ2 H3 fun y H4 => tv σ2 H4 fun z H5 =>
            ∃ (q : Addr) (kvs : List (List Key × V)) (k : List Key), y = .ref q ∧ H5 q = some (.tup (k.map kV)) ∧ H5 D = some (.dT kvs) ∧ kvs.length < sizeLine ∧ Nx (upd H5 D (.dT (putK kvs k z)))
          else Nx H3)
/-- a comprehension's parts, in its block -/
structure Blk (X : Cx) (scope : Scope) (own : List (Str × Nat)) (tg : Expr) (ifs : List Expr) (kx vx : Expr) (g : TG) (tt : TT) (tk tv : TE) : Prop where
  ok : BlkOk X.N X.env.scope scope own
  tgt : ∀ (s : Shared) (H : Hp) (C : Addr) (cl : List (Str × Addr)) (fp : List Addr), PG (X.blk s H scope (compEnvC scope cl C X.env) fp) tg g
  tst : ∀ (s : Shared) (H : Hp) (C : Addr) (cl : List (Str × Addr)) (fp : List Addr), PTs (X.blk s H scope (compEnvC scope cl C X.env) fp) ifs tt
  key : ∀ (s : Shared) (H : Hp) (C : Addr) (cl : List (Str × Addr)) (fp : List Addr), PE (X.blk s H scope (compEnvC scope cl C X.env) fp) kx tk
  val : ∀ (s : Shared) (H : Hp) (C : Addr) (cl : List (Str × Addr)) (fp : List Addr), PE (X.blk s H scope (compEnvC scope cl C X.env) fp) vx tv
theorem dcT_core {pins : List (Addr × Obj)} {s : Shared} {σ : St} {H : Hp} {Q : VK} {kx vx tg iter : Expr} {ifs : List Expr} {scope : Scope} {own : List (Str × Nat)} {pos pos' : Pos} {wi : TI} {g : TG} {tt : TT} {tk tv : TE} {use : Option (Value → Sem Unit)} {Qf : Value → Shared → Prop}
    (hu : X.A.units + 1 < cLine) (hc : X.calm = true) (hN : X.N.Nodup) (I : Inv X pins σ H s) (hi : PI X tg iter wi)
    (B : Blk X scope own tg ifs kx vx g tt tk tv) (hs : ∀ x, foldedSetIterable iter X.env x = pure x) (h : tDcT wi g tt tk tv (own.map (·.2)) σ H Q)
    (hRR : ∀ D C s' m H', Inv X pins σ H' s' → Q (.ref D) H' → s'.heap.Ns C m → FpOk X pins H' C → compPost (model X.prog X.w) X.A X.xe use Qf (.ref D) C (.ok .next) s') :
    wpAny (model X.prog X.w) X.A (comprehension (.DictComp kx vx [⟨tg, iter, ifs, 0⟩] scope pos) scope X.env pos' newDict false (eval iter X.env) use) Qf X.xe s := by
  have ok := B.ok
  have hfree : ∀ y ∈ scope.names, y.2 = .free → ∃ c, X.env.cells.lookup y.1 = some c := fun y hy e =>
    (ok.free y hy e).elim (fun k => I.ok.has _ (.inl k)) fun k => I.ok.has _ (.inr k)
  refine wpAny_comprehension_free (use := use) rfl hs (closure_ok hfree) ok.kind (fun y hy e => (ok.uniq y hy).trans (congrArg some e)) (thn (hi.run pins s σ H _ I h) fun xv s1 hx => thn hx ?_)
  rintro itv s2 ⟨it, fp, tn, J, H2, rfl, I2, T, st2, f2, q⟩
  refine wpAny_newObj_type (newEnv_comp ?_)
  generalize hD : s2.heap.objs.size = D
  have freshD : H2 D = none := I2.hok.fresh (Nat.le_of_eq hD)
  obtain ⟨W, ⟨m0, w0⟩, turn⟩ := q D freshD
  generalize hs3 : ({ s2 with heap := s2.heap.push { cls := .type "dict", data := .dict #[] } } : Shared) = s3
  have h3 : s3.heap = s2.heap.push { cls := .type "dict", data := .dict #[] } := by rw [← hs3]
  have I3 : Inv X pins σ (upd H2 D (.dT [])) s3 := by
    rw [← hs3]
    refine I2.laid (t' := s2.toks) (fun b o e => Heap.get?_push_of_some _ e) (Nat.le_of_eq hD) ?_
    rw [← hD]
    exact dt_empty s2.heap I2.big
  have below : ∀ b ∈ fp, b < D := fun b hb => by
    obtain ⟨o, e, _⟩ := T.obj _ _ st2 b hb
    rw [← hD]
    exact Heap.lt_size e
  have f3 : ∀ b ∈ fp, FpOk X pins (upd H2 D (.dT [])) b ∧ b < s3.heap.objs.size := fun b hb => by
    have lt := below b hb
    constructor
    · refine ⟨?_, (f2 b hb).2⟩
      rw [upd_ne (Nat.ne_of_lt lt)]
      exact (f2 b hb).1
    · rw [h3, Heap.size_push, hD]
      exact Nat.lt_succ_of_lt lt
  have st3 : tn 0 s3.heap := T.keep _ _ _ st2 fun b _ o e => by
    rw [h3]
    exact Heap.get?_push_of_some _ e
  generalize hcl : cellsFrom (s3.heap.objs.size + 1) scope.names (cloFrom X.env.cells scope.names []) = cl
  have I4 := block_start I3 ok hN f3
  rw [hcl] at I4
  have pg := B.tgt s3 (upd H2 D (.dT [])) s3.heap.objs.size cl fp
  have pt := B.tst s3 (upd H2 D (.dT [])) s3.heap.objs.size cl fp
  have pk := B.key s3 (upd H2 D (.dT [])) s3.heap.objs.size cl fp
  have pv := B.val s3 (upd H2 D (.dT [])) s3.heap.objs.size cl fp
  show codeAny _ _ (.compStart (.DictComp kx vx [⟨tg, iter, ifs, 0⟩] scope pos) 0 (.ref it) (.ref D) (compEnvC scope cl s3.heap.objs.size X.env)) (compPost (model X.prog X.w) X.A X.xe use Qf (.ref D) s3.heap.objs.size) { s3 with heap := pushCells (s3.heap.push { cls := .type "dict", data := .dict #[] }) scope.names }
  generalize hce : compEnvC scope cl s3.heap.objs.size X.env = ce at I4 pg pt pk pv ⊢
  have cL : ce.locals = s3.heap.objs.size := by
    rw [← hce]
    rfl
  have nfp : ∀ b ∈ fp, (upd H2 D (.dT [])) b = none := fun b hb => (f3 b hb).1.1
  generalize hH3 : upd H2 D (.dT []) = H3 at I3 I4 pg pt pk pv w0 nfp f3
  generalize hs4 : ({ s3 with heap := pushCells (s3.heap.push { cls := .type "dict", data := .dict #[] }) scope.names } : Shared) = s4 at I4 ⊢
  have st4 : tn 0 s4.heap := T.keep _ _ _ st3 fun b _ o e => by
    rw [← hs4]
    exact pushCells_keeps _ _ _ _ (Heap.get?_push_of_some _ e)
  have foot : ∀ {σ' : St} {H' : Hp} {s' : Shared}, Inv (X.blk s3 H3 scope ce fp) [] σ' H' s' → (∀ b ∈ fp, H' b = none) → ∀ b ∈ fp, FpOk (X.blk s3 H3 scope ce fp) [] H' b := fun {σ' H' s'} I' hn b hb =>
    ⟨hn b hb, (I'.ok.exf b hb).1, I'.ok.exfs b hb, .inl hb, (I'.ok.exf b hb).2, fun p hp => nomatch (show p ∈ ([] : List (Addr × Obj)) from hp)⟩
  have wl : ∀ σ8 : St, wipe σ8 (own.map (·.2)) = wipe σ (own.map (·.2)) → (wipe σ (own.map (·.2))).length = σ8.length := fun σ8 e => by
    rw [← e]
    exact wipe_length _ _
  refine codeAny_compStart_dict (?loop : codeAny _ _ (.compLoop (.DictComp kx vx [⟨tg, iter, ifs, 0⟩] scope pos) 0 (.ref it) (.ref D) ce) _ s4) (T.self X.A 0 _ _ _ st4 ?loop)
  refine compLoop_anyD (fun n s' => ∃ i H', Inv (X.blk s3 H3 scope ce fp) [] (wipe σ (own.map (·.2))) H' s' ∧ tn i s'.heap ∧ (∀ b ∈ fp, H' b = none) ∧ W i n H') ?_ m0 ⟨0, H3, I4, st4, nfp, w0⟩
  rintro n s5 ⟨i, H5, I5, st5, n5, w5⟩
  rcases turn i n H5 w5 with ⟨stop, qq⟩ | ⟨go, Nx, hNx, step⟩
  · refine thnF (T.done (X.blk s3 H3 scope ce fp) rfl rfl rfl hc i [] s5 _ H5 (fun _ _ => False) I5 (foot I5 n5) st5 stop) ?_
    rintro r s6 ⟨rfl, I6⟩
    have I7 : Inv X pins σ H5 s6 := I3.call' (ch := fp) I6.os I6.base I6.hok I6.bare fun b hb => by
      obtain ⟨_, a1, _, a3, a4, a5⟩ := (f3 b hb).1
      exact ⟨a3, a1, a4, a5⟩
    have nC : H5 s3.heap.objs.size = none := by
      rw [← cL]
      exact I6.free
    obtain ⟨m, hn, _⟩ := I6.loc
    have hn' : s6.heap.Ns ce.locals m := hn
    rw [cL] at hn'
    exact hRR D _ s6 m H5 I7 qq hn' (I3.fpOk (Nat.le_refl _) nC)
  · refine thnF (T.item (X.blk s3 H3 scope ce fp) rfl rfl rfl hc i [] s5 _ H5 (fun _ _ => False) I5 (foot I5 n5) st5 go) ?_
    rintro r s6 ⟨u, rfl, h6⟩
    refine thnF h6 ?_
    rintro _ s7 ⟨x, H7, I7, r7, y7, st7, n7⟩
    have I7' := I7.pinned (foot I7 n7) (T.obj _ _ st7)
    refine thnF (pg.run _ s7 _ H7 x u _ I7' r7 (step x H7 y7)) ?_
    rintro _ s8 ⟨σ8, H8, I8, hw8, q8⟩
    refine thnF (pt.run _ s8 σ8 H8 _ I8 q8) ?_
    rintro b s9 ⟨H9, I9, q9⟩
    have fin : ∀ {s' : Shared} {H' : Hp}, Inv (X.blk s3 H3 scope ce fp) ([] ++ pinsAt fp s7.heap) σ8 H' s' → Nx H' →
        ∃ m, m < n ∧ ∃ i H', Inv (X.blk s3 H3 scope ce fp) [] (wipe σ (own.map (·.2))) H' s' ∧ tn i s'.heap ∧ (∀ b ∈ fp, H' b = none) ∧ W i m H' := fun {s' H'} I' nx => by
      obtain ⟨m', hm, w'⟩ := hNx H' nx
      have pins' : ∀ b ∈ fp, ∀ o, s7.heap.get? b = some o → s'.heap.get? b = some o ∧ H' b = none := fun b hb o e => by
        have z := I'.pin (b, o) (List.mem_append_right _ (List.mem_append_right _ (mem_pinsAt hb e)))
        exact ⟨z.1, z.2.1⟩
      refine ⟨m', hm, i + 1, H', (I'.unpinned (pins := [])).weak (wl σ8 hw8) (fun j v e => ?_), T.keep _ _ _ st7 fun b hb o e => (pins' b hb o e).1, fun b hb => ?_, w'⟩
      · rw [← hw8] at e
        exact (wipe_some e).1
      · obtain ⟨o, e, _⟩ := T.obj _ _ st7 b hb
        exact (pins' b hb o e).2
    cases b with
    | false =>
      rw [if_neg Bool.false_ne_true] at q9 ⊢
      exact fin I9 q9
    | true =>
      rw [if_pos rfl] at q9 ⊢
      refine thnF (pk.run _ s9 σ8 H9 _ I9 q9) ?_
      rintro z s10 ⟨yk, H10, I10, r10, q10⟩
      refine thnF (pv.run _ s10 σ8 H10 _ I10 q10) ?_
      rintro z2 s11 ⟨yv, H11, I11, r11, qa, kvs, k, rfl, hq11, hD11, hz11, nx⟩
      exact dictSetT (X := X.blk s3 H3 scope ce fp) hu I11 hD11 hz11 hq11 r10 r11 fun s12 I12 => fin I12 nx
theorem pe_dcT {kx vx tg iter : Expr} {ifs : List Expr} {scope : Scope} {own : List (Str × Nat)} {pos : Pos} {wi : TI} {g : TG} {tt : TT} {tk tv : TE} (hu : X.A.units + 1 < cLine) (hc : X.calm = true) (hN : X.N.Nodup) (hi : PI X tg iter wi)
    (B : Blk X scope own tg ifs kx vx g tt tk tv) (hs : ∀ x, foldedSetIterable iter X.env x = pure x := by intro _; rfl) : PE X (.DictComp kx vx [⟨tg, iter, ifs, 0⟩] scope pos) (tDcT wi g tt tk tv (own.map (·.2))) := by
  refine ⟨fun pins s σ H Q I h => ?_⟩
  rw [arm_eval_DictComp]
  refine dcT_core hu hc hN I hi B hs h fun D C s' m H' I' q hn f => ⟨m, hn, fun h'' sb => ?_⟩
  obtain ⟨f0, f1, _, f3, f4, f5⟩ := f
  exact ⟨.ref D, H', I'.turned (t' := s'.toks) (fun b o hb e => (sb.2 b hb).trans e) f0 f1 f3 f4 f5, rfl, q⟩
/-- name = {..} on one line, the name a local -/
theorem swD_true {kx vx : Expr} {gs : List Comprehension} {scope : Scope} {pos py : Pos} {y : Str} {l : Nat} {env : Env} (hk : env.scope.kind = .function) (hy : env.scope.names.lookup y = some .local) (hl : (py.line == pos.line) = true)
    (ha : (scope.names.any fun (n, k) => n == y && (k == .local || k == .cell)) = false) : swapsWith (.DictComp kx vx gs scope pos) (some (.Name y py)) l env = pure true := by
  have ky : env.kindOf y = some .local := hy
  have hb : env.blockKind = .function := by unfold Env.blockKind; rw [hk]; rfl
  unfold swapsWith
  simp only [hb, ky, ha, Expr.pos, hl]
  rfl
/-- the store behind a comprehension -/
theorem comp_store {pins : List (Addr × Obj)} {σ : St} {D : Ends} {i : Nat} {y : Str} {py : Pos} (hN : X.N.Nodup) (hy : X.N[i]? = some y) (hyl : X.env.scope.names.lookup y = some .local)
    {L C : Addr} {s' : Shared} {m : Str → Option Value} {H' : Hp} (I' : Inv X pins σ H' s') (q : gName i (.ref L) σ H' D.nx) (hn : s'.heap.Ns C m) (f : FpOk X pins H' C) :
    compPost (model X.prog X.w) X.A X.xe (some (assign (.Name y py) X.env)) (fun _ s' => SP X pins D .next s') (.ref L) C (.ok .next) s' := by
  show wpAny _ _ (assign (.Name y py) X.env (.ref L)) _ _ _
  refine wpAny_assign_Name (store_ok2 (v := V.ref L) I' hN hy (.inl hyl) rfl (fun s2 I2 ⟨a, sb, ha⟩ => ?_) (.inr hyl))
  obtain ⟨f0, f1, _, f3, f4, f5⟩ := f
  have haC : C ≠ a := by
    rcases ha with z | z
    · rw [z]; exact f1
    · exact fun e => f4 y a z e.symm
  refine ⟨m, hn.sameBut sb haC, fun h3 sb3 => ?_⟩
  exact ⟨_, H', I2.turned (t' := s2.toks) (fun b o hb e => (sb3.2 b hb).trans e) f0 f1 f3 f4 f5, q⟩
theorem ps_setDcT {i : Nat} {y : Str} {py : Pos} {kx vx tg iter : Expr} {ifs : List Expr} {scope : Scope} {own : List (Str × Nat)} {pos spos : Pos} {wi : TI} {g : TG} {tt : TT} {tk tv : TE} (hu : X.A.units + 1 < cLine) (hc : X.calm = true) (hN : X.N.Nodup) (hy : X.N[i]? = some y) (hyl : X.env.scope.names.lookup y = some .local)
    (hsw : swapsWith (.DictComp kx vx [⟨tg, iter, ifs, 0⟩] scope pos) (some (.Name y py)) spos.line X.env = pure true) (hi : PI X tg iter wi) (B : Blk X scope own tg ifs kx vx g tt tk tv) (hs : ∀ x, foldedSetIterable iter X.env x = pure x := by intro _; rfl) :
    PS X (.Assign [.Name y py] (.DictComp kx vx [⟨tg, iter, ifs, 0⟩] scope pos) spos) (tAsg (tDcT wi g tt tk tv (own.map (·.2))) (gName i)) := by
  refine ⟨fun pins s σ H D I h => ?_⟩
  rw [exec_Assign_Name_used _ _ _ _ hsw]
  refine wpAny_bind (wpAny_standAt (wpAny_bind ?_))
  show wpAny _ X.A (do let _ ← comprehension (.DictComp kx vx [⟨tg, iter, ifs, 0⟩] scope pos) scope X.env (firstIterPos [⟨tg, iter, ifs, 0⟩] pos) newDict false (eval iter X.env) (some (assign (.Name y py) X.env))) _ _ s
  refine wpAny_bind (thn (dcT_core (Q := fun x H1 => gName i x σ H1 D.nx) (Qf := fun _ s' => SP X pins D .next s') hu hc hN I hi B hs h fun L C s' m H' I' q hn f => comp_store hN hy hyl I' q hn f) fun _ s' hq => wpAny_pure (wpAny_pure hq))
theorem ps_setDc {i : Nat} {y : Str} {py : Pos} {kx vx tg iter : Expr} {ifs : List Expr} {scope : Scope} {own : List (Str × Nat)} {pos spos : Pos} {wi : TI} {g : TG} {tt : TT} {tk tv : TE} (hc : X.calm = true) (hN : X.N.Nodup) (hy : X.N[i]? = some y) (hyl : X.env.scope.names.lookup y = some .local)
    (hsw : swapsWith (.DictComp kx vx [⟨tg, iter, ifs, 0⟩] scope pos) (some (.Name y py)) spos.line X.env = pure true) (hi : PI X tg iter wi) (B : Blk X scope own tg ifs kx vx g tt tk tv) (hs : ∀ x, foldedSetIterable iter X.env x = pure x := by intro _; rfl) :
    PS X (.Assign [.Name y py] (.DictComp kx vx [⟨tg, iter, ifs, 0⟩] scope pos) spos) (tAsg (tDc wi g tt tk tv (own.map (·.2))) (gName i)) := by
  refine ⟨fun pins s σ H D I h => ?_⟩
  rw [exec_Assign_Name_used _ _ _ _ hsw]
  refine wpAny_bind (wpAny_standAt (wpAny_bind ?_))
  show wpAny _ X.A (do let _ ← comprehension (.DictComp kx vx [⟨tg, iter, ifs, 0⟩] scope pos) scope X.env (firstIterPos [⟨tg, iter, ifs, 0⟩] pos) newDict false (eval iter X.env) (some (assign (.Name y py) X.env))) _ _ s
  refine wpAny_bind (thn (dc_core (Q := fun x H1 => gName i x σ H1 D.nx) (Qf := fun _ s' => SP X pins D .next s') hc hN I hi B.ok B.tgt B.tst B.key B.val hs h fun L C s' m H' I' q hn f => comp_store hN hy hyl I' q hn f) fun _ s' hq => wpAny_pure (wpAny_pure hq))
/-- in the shape of pe_dcT -/
theorem pe_dcK {kx vx tg iter : Expr} {ifs : List Expr} {scope : Scope} {own : List (Str × Nat)} {pos : Pos} {wi : TI} {g : TG} {tt : TT} {tk tv : TE} (hc : X.calm = true) (hN : X.N.Nodup) (hi : PI X tg iter wi) (B : Blk X scope own tg ifs kx vx g tt tk tv) (hs : ∀ x, foldedSetIterable iter X.env x = pure x := by intro _; rfl) :
    PE X (.DictComp kx vx [⟨tg, iter, ifs, 0⟩] scope pos) (tDc wi g tt tk tv (own.map (·.2))) := pe_dc hc hN hi B.ok B.tgt B.tst B.key B.val hs
section
variable {kx vx tg iter : Expr} {ifs : List Expr} {scope : Scope} {own : List (Str × Nat)} {pos : Pos} {wi : TI} {g : TG} {tt : TT} {tk tv : TE}
theorem pe_dcTx (hu : X.A.units + 1 < cLine) (hc : X.calm = true) (hN : X.N.Nodup) (hi : PI X tg iter wi) (ok : BlkOk X.N X.env.scope scope own)
    (hg : ∀ (s : Shared) (H : Hp) (C : Addr) (cl : List (Str × Addr)) (fp : List Addr), PG (X.blk s H scope (compEnvC scope cl C X.env) fp) tg g) (ht : ∀ (s : Shared) (H : Hp) (C : Addr) (cl : List (Str × Addr)) (fp : List Addr), PTs (X.blk s H scope (compEnvC scope cl C X.env) fp) ifs tt)
    (hk : ∀ (s : Shared) (H : Hp) (C : Addr) (cl : List (Str × Addr)) (fp : List Addr), PE (X.blk s H scope (compEnvC scope cl C X.env) fp) kx tk)
    (he : ∀ (s : Shared) (H : Hp) (C : Addr) (cl : List (Str × Addr)) (fp : List Addr), PE (X.blk s H scope (compEnvC scope cl C X.env) fp) vx tv) (hs : ∀ x, foldedSetIterable iter X.env x = pure x := by intro _; rfl) :
    PE X (.DictComp kx vx [⟨tg, iter, ifs, 0⟩] scope pos) (tDcT wi g tt tk tv (own.map (·.2))) := pe_dcT hu hc hN hi ⟨ok, hg, ht, hk, he⟩ hs
theorem ps_setDcTx {i : Nat} {y : Str} {py spos : Pos} (hu : X.A.units + 1 < cLine) (hc : X.calm = true) (hN : X.N.Nodup) (hy : X.N[i]? = some y) (hyl : X.env.scope.names.lookup y = some .local)
    (hsw : swapsWith (.DictComp kx vx [⟨tg, iter, ifs, 0⟩] scope pos) (some (.Name y py)) spos.line X.env = pure true) (hi : PI X tg iter wi) (ok : BlkOk X.N X.env.scope scope own)
    (hg : ∀ (s : Shared) (H : Hp) (C : Addr) (cl : List (Str × Addr)) (fp : List Addr), PG (X.blk s H scope (compEnvC scope cl C X.env) fp) tg g) (ht : ∀ (s : Shared) (H : Hp) (C : Addr) (cl : List (Str × Addr)) (fp : List Addr), PTs (X.blk s H scope (compEnvC scope cl C X.env) fp) ifs tt)
    (hk : ∀ (s : Shared) (H : Hp) (C : Addr) (cl : List (Str × Addr)) (fp : List Addr), PE (X.blk s H scope (compEnvC scope cl C X.env) fp) kx tk)
    (he : ∀ (s : Shared) (H : Hp) (C : Addr) (cl : List (Str × Addr)) (fp : List Addr), PE (X.blk s H scope (compEnvC scope cl C X.env) fp) vx tv) (hs : ∀ x, foldedSetIterable iter X.env x = pure x := by intro _; rfl) :
    PS X (.Assign [.Name y py] (.DictComp kx vx [⟨tg, iter, ifs, 0⟩] scope pos) spos) (tAsg (tDcT wi g tt tk tv (own.map (·.2))) (gName i)) := ps_setDcT hu hc hN hy hyl hsw hi ⟨ok, hg, ht, hk, he⟩ hs
theorem ps_setDcx {i : Nat} {y : Str} {py spos : Pos} (hc : X.calm = true) (hN : X.N.Nodup) (hy : X.N[i]? = some y) (hyl : X.env.scope.names.lookup y = some .local)
    (hsw : swapsWith (.DictComp kx vx [⟨tg, iter, ifs, 0⟩] scope pos) (some (.Name y py)) spos.line X.env = pure true) (hi : PI X tg iter wi) (ok : BlkOk X.N X.env.scope scope own)
    (hg : ∀ (s : Shared) (H : Hp) (C : Addr) (cl : List (Str × Addr)) (fp : List Addr), PG (X.blk s H scope (compEnvC scope cl C X.env) fp) tg g) (ht : ∀ (s : Shared) (H : Hp) (C : Addr) (cl : List (Str × Addr)) (fp : List Addr), PTs (X.blk s H scope (compEnvC scope cl C X.env) fp) ifs tt)
    (hk : ∀ (s : Shared) (H : Hp) (C : Addr) (cl : List (Str × Addr)) (fp : List Addr), PE (X.blk s H scope (compEnvC scope cl C X.env) fp) kx tk)
    (he : ∀ (s : Shared) (H : Hp) (C : Addr) (cl : List (Str × Addr)) (fp : List Addr), PE (X.blk s H scope (compEnvC scope cl C X.env) fp) vx tv) (hs : ∀ x, foldedSetIterable iter X.env x = pure x := by intro _; rfl) :
    PS X (.Assign [.Name y py] (.DictComp kx vx [⟨tg, iter, ifs, 0⟩] scope pos) spos) (tAsg (tDc wi g tt tk tv (own.map (·.2))) (gName i)) := ps_setDc hc hN hy hyl hsw hi ⟨ok, hg, ht, hk, he⟩ hs
end
end
end L2
/-! What is known of the heap, kept while it grows; what an expression evaluates to, as a fact of the heap behind it. -/
namespace MR
open PySem L2
/-! ### the heap grows -/
def DicO : HO → Prop
  | .dK _ => True
  | .dT _ => True
  | _ => False
/-- u stands at a, or it is a dict that a loop walks -/
def Kn (H : Hp) (a : Addr) (u : HO) : Prop := H a = some u ∨ (DicO u ∧ ∃ o, H a = some (.frz o u))
/-- not locked -/
def NoFrz (u : HO) : Prop := ∀ o w, u ≠ .frz o w
theorem NoFrz.dic {u : HO} (h : DicO u) : NoFrz u := fun o w e => by
  rw [e] at h
  exact h
/-- what is known stays known -/
def Up (H H' : Hp) : Prop := ∀ a u, NoFrz u → Kn H a u → Kn H' a u
theorem Kn.of {H : Hp} {a : Addr} {u : HO} (h : H a = some u) : Kn H a u := .inl h
theorem Kn.at_ {H : Hp} {a : Addr} {u : HO} (h : Kn H a u) (nd : ¬ DicO u) : H a = some u := h.elim id fun q => absurd q.1 nd
theorem Kn.rd {H : Hp} {a : Addr} {u : HO} (h : Kn H a u) : Rd H a u := h.elim .inl fun q => .inr q.2
theorem Kn.ne_none {H : Hp} {a : Addr} {u : HO} (h : Kn H a u) : H a ≠ none := by
  rcases h with h | ⟨_, o, h⟩ <;> (rw [h]; exact fun z => by cases z)
theorem Up.rfl' (H : Hp) : Up H H := fun _ _ _ h => h
theorem Up.trans {H H1 H2 : Hp} (a : Up H H1) (b : Up H1 H2) : Up H H2 := fun c u n h => b c u n (a c u n h)
theorem Up.at_ {H H' : Hp} (e : Up H H') {a : Addr} {u : HO} (h : H a = some u) (nf : NoFrz u) (nd : ¬ DicO u) : H' a = some u := (e a u nf (.inl h)).at_ nd
theorem Up.tup {H H' : Hp} (e : Up H H') {a : Addr} {xs : List V} (h : H a = some (.tup xs)) : H' a = some (.tup xs) := e.at_ h (fun _ _ z => by cases z) fun z => z
theorem Up.lst {H H' : Hp} (e : Up H H') {a : Addr} {xs : List V} (h : H a = some (.lst xs)) : H' a = some (.lst xs) := e.at_ h (fun _ _ z => by cases z) fun z => z
theorem Up.ins {H H' : Hp} (e : Up H H') {a C dx : Addr} {fs : List (Str × V)} (h : H a = some (.ins C dx fs)) : H' a = some (.ins C dx fs) := e.at_ h (fun _ _ z => by cases z) fun z => z
theorem Up.dK {H H' : Hp} (e : Up H H') {a : Addr} {kvs : List (Key × V)} (h : Kn H a (.dK kvs)) : Kn H' a (.dK kvs) := e a _ (fun _ _ z => by cases z) h
theorem Up.dT {H H' : Hp} (e : Up H H') {a : Addr} {kvs : List (List Key × V)} (h : Kn H a (.dT kvs)) : Kn H' a (.dT kvs) := e a _ (fun _ _ z => by cases z) h
theorem Up.lock {H : Hp} {d : Addr} {o : Obj} {u : HO} (h : H d = some u) (hd : DicO u) : Up H (upd H d (.frz o u)) := fun a x n k => by
  unfold Kn
  by_cases e : a = d
  · subst e
    rw [upd_same]
    rcases k with k | ⟨kd, oo, k⟩
    · rw [h] at k
      cases k
      exact .inr ⟨hd, o, rfl⟩
    · rw [h] at k
      cases k
      exact absurd hd fun z => z
  · rw [upd_ne e]
    exact k
theorem Up.unlock {H : Hp} {d : Addr} {o : Obj} {u : HO} (h : H d = some (.frz o u)) : Up H (upd H d u) := fun a x n k => by
  unfold Kn
  by_cases e : a = d
  · subst e
    rw [upd_same]
    rcases k with k | ⟨kd, oo, k⟩
    · rw [h] at k
      cases k
      exact absurd rfl (n o u)
    · rw [h] at k
      cases k
      exact .inl rfl
  · rw [upd_ne e]
    exact k
theorem Up.of_same {H H' : Hp} (e : ∀ b o, H b = some o → H' b = some o) : Up H H' := fun a u n k => by
  rcases k with k | ⟨kd, o, k⟩
  · exact .inl (e _ _ k)
  · exact .inr ⟨kd, o, e _ _ k⟩
/-! ### facts that stay -/
class Mo (P : Hp → V → Prop) : Prop where
  up : ∀ {H H' : Hp} {v : V}, Up H H' → P H v → P H' v
def Is (c : V) : Hp → V → Prop := fun _ v => v = c
instance {c : V} : Mo (Is c) := ⟨fun _ h => h⟩
/-- several values, several facts -/
inductive AllP (H : Hp) : List (Hp → V → Prop) → List V → Prop
  | nil : AllP H [] []
  | cons {P : Hp → V → Prop} {Ps : List (Hp → V → Prop)} {v : V} {vs : List V} : P H v → AllP H Ps vs → AllP H (P :: Ps) (v :: vs)
theorem AllP.length {H : Hp} : ∀ {Ps : List (Hp → V → Prop)} {vs : List V}, AllP H Ps vs → vs.length = Ps.length
  | _, _, .nil => rfl
  | _, _, .cons _ t => congrArg Nat.succ t.length
class MoL (Ps : List (Hp → V → Prop)) : Prop where
  up : ∀ {H H' : Hp} {vs : List V}, Up H H' → AllP H Ps vs → AllP H' Ps vs
instance : MoL [] := ⟨fun _ h => by cases h; exact .nil⟩
instance {P : Hp → V → Prop} {Ps : List (Hp → V → Prop)} [Mo P] [MoL Ps] : MoL (P :: Ps) := ⟨fun e h => by
  cases h with
  | cons a b => exact .cons (Mo.up e a) (MoL.up e b)⟩
/-- a tuple of values of these kinds -/
def TupP (Ps : List (Hp → V → Prop)) : Hp → V → Prop := fun H v => ∃ a vs, v = .ref a ∧ H a = some (.tup vs) ∧ AllP H Ps vs
instance {Ps : List (Hp → V → Prop)} [MoL Ps] : Mo (TupP Ps) := ⟨fun e h => by
  obtain ⟨a, vs, rfl, h1, h2⟩ := h
  exact ⟨a, vs, rfl, e.tup h1, MoL.up e h2⟩⟩
def LstP (Ps : List (Hp → V → Prop)) : Hp → V → Prop := fun H v => ∃ a vs, v = .ref a ∧ H a = some (.lst vs) ∧ AllP H Ps vs
instance {Ps : List (Hp → V → Prop)} [MoL Ps] : Mo (LstP Ps) := ⟨fun e h => by
  obtain ⟨a, vs, rfl, h1, h2⟩ := h
  exact ⟨a, vs, rfl, e.lst h1, MoL.up e h2⟩⟩
/-- two lists that go together -/
theorem paired_imp {β γ : Type} {F G : β → γ → Prop} (h : ∀ a b, F a b → G a b) : ∀ {l : List β} {m : List γ}, Paired F l m → Paired G l m
  | _, _, .nil => .nil
  | _, _, .cons a t => .cons (h _ _ a) (paired_imp h t)
theorem paired_at {β γ : Type} {F : β → γ → Prop} : ∀ {l : List β} {m : List γ}, Paired F l m → ∀ {i : Nat} {b : γ}, m[i]? = some b → ∃ a, l[i]? = some a ∧ F a b
  | _, _, .nil, i, b, e => by cases e
  | _, _, .cons a t, 0, b, e => by cases e; exact ⟨_, rfl, a⟩
  | _, _, .cons a t, i + 1, b, e => paired_at t (i := i) e
theorem paired_at' {β γ : Type} {F : β → γ → Prop} : ∀ {l : List β} {m : List γ}, Paired F l m → ∀ {i : Nat} {a : β}, l[i]? = some a → ∃ b, m[i]? = some b ∧ F a b
  | _, _, .nil, i, b, e => by cases e
  | _, _, .cons a t, 0, b, e => by cases e; exact ⟨_, rfl, a⟩
  | _, _, .cons a t, i + 1, b, e => paired_at' t (i := i) e
theorem paired_snoc {β γ : Type} {F : β → γ → Prop} : ∀ {l : List β} {m : List γ} {a : β} {b : γ}, Paired F l m → F a b → Paired F (l ++ [a]) (m ++ [b])
  | _, _, _, _, .nil, h => .cons h .nil
  | _, _, _, _, .cons a t, h => .cons a (paired_snoc t h)
theorem paired_app {β γ : Type} {F : β → γ → Prop} : ∀ {l l' : List β} {m m' : List γ}, Paired F l m → Paired F l' m' → Paired F (l ++ l') (m ++ m')
  | _, _, _, _, .nil, h => h
  | _, _, _, _, .cons a t, h => .cons a (paired_app t h)
theorem paired_len {β γ : Type} {F : β → γ → Prop} : ∀ {l : List β} {m : List γ}, Paired F l m → m.length = l.length
  | _, _, .nil => rfl
  | _, _, .cons _ t => congrArg Nat.succ (paired_len t)
theorem paired_perm {β γ : Type} {F : β → γ → Prop} : ∀ {m m' : List γ}, m.Perm m' → ∀ {l : List β}, Paired F l m → ∃ l', l.Perm l' ∧ Paired F l' m' := by
  intro m m' p
  induction p with
  | nil => intro l h; exact ⟨l, .refl _, h⟩
  | cons x _ ih =>
    intro l h
    cases h with
    | cons a t =>
      obtain ⟨l', p', h'⟩ := ih t
      exact ⟨_, p'.cons _, .cons a h'⟩
  | swap x y _ =>
    intro l h
    cases h with
    | cons a t =>
      cases t with
      | cons b t => exact ⟨_, .swap _ _ _, .cons b (.cons a t)⟩
  | trans _ _ ih1 ih2 =>
    intro l h
    obtain ⟨l1, p1, h1⟩ := ih1 h
    obtain ⟨l2, p2, h2⟩ := ih2 h1
    exact ⟨l2, p1.trans p2, h2⟩
section
variable {β : Type} (R : β → Hp → V → Prop)
/-- a list, a tuple whose items are those of xs -/
def LsA (xs : List β) : Hp → V → Prop := fun H v => ∃ a vs, v = .ref a ∧ H a = some (.lst vs) ∧ Paired (fun x u => R x H u) xs vs
def TuA (xs : List β) : Hp → V → Prop := fun H v => ∃ a vs, v = .ref a ∧ H a = some (.tup vs) ∧ Paired (fun x u => R x H u) xs vs
end
instance {β : Type} {R : β → Hp → V → Prop} [∀ x, Mo (R x)] {xs : List β} : Mo (LsA R xs) := ⟨fun e h => by
  obtain ⟨a, vs, rfl, h1, h2⟩ := h
  exact ⟨a, vs, rfl, e.lst h1, paired_imp (fun x u (q : R x _ u) => Mo.up (P := R x) e q) h2⟩⟩
instance {β : Type} {R : β → Hp → V → Prop} [∀ x, Mo (R x)] {xs : List β} : Mo (TuA R xs) := ⟨fun e h => by
  obtain ⟨a, vs, rfl, h1, h2⟩ := h
  exact ⟨a, vs, rfl, e.tup h1, paired_imp (fun x u (q : R x _ u) => Mo.up (P := R x) e q) h2⟩⟩
/-! ### tables -/
section
variable {κ β : Type} [DecidableEq κ]
def lk (l : List (κ × β)) (k : κ) : Option β := (l.find? fun x => decide (x.1 = k)).map (·.2)
def pt (l : List (κ × β)) (k : κ) (b : β) : List (κ × β) := if (lk l k).isSome = true then l.map (fun x => if x.1 = k then (x.1, b) else x) else l ++ [(k, b)]
def dp (l : List (κ × β)) (k : κ) : List (κ × β) := l.filter fun x => decide (x.1 ≠ k)
theorem lk_nil (k : κ) : lk ([] : List (κ × β)) k = none := rfl
theorem lk_cons (x : κ × β) (l : List (κ × β)) (k : κ) : lk (x :: l) k = if x.1 = k then some x.2 else lk l k := by
  unfold lk
  rw [List.find?_cons]
  by_cases c : x.1 = k
  · simp [c]
  · simp [c]
theorem lk_mem {l : List (κ × β)} {k : κ} {b : β} (h : lk l k = some b) : (k, b) ∈ l := by
  induction l with
  | nil => cases h
  | cons x l ih =>
    rw [lk_cons] at h
    by_cases c : x.1 = k
    · rw [if_pos c] at h
      cases h
      subst c
      exact List.mem_cons_self
    · rw [if_neg c] at h
      exact List.mem_cons_of_mem _ (ih h)
theorem lk_none {l : List (κ × β)} {k : κ} : lk l k = none ↔ k ∉ l.map (·.1) := by
  induction l with
  | nil => exact ⟨fun _ h => (nomatch h), fun _ => rfl⟩
  | cons x l ih =>
    rw [lk_cons, List.map_cons, List.mem_cons]
    by_cases c : x.1 = k
    · rw [if_pos c]
      exact ⟨fun h => (nomatch h), fun h => absurd (.inl c.symm) h⟩
    · rw [if_neg c, ih]
      constructor
      · intro h q
        exact Or.elim q (fun e => c e.symm) h
      · intro h q
        exact h (Or.inr q)
theorem lk_some {l : List (κ × β)} {k : κ} : lk l k ≠ none ↔ k ∈ l.map (·.1) := by
  rw [ne_eq, lk_none, Classical.not_not]
theorem lk_of_mem {l : List (κ × β)} (nd : (l.map (·.1)).Nodup) {k : κ} {b : β} (h : (k, b) ∈ l) : lk l k = some b := by
  induction l with
  | nil => cases h
  | cons x l ih =>
    rw [List.map_cons] at nd
    have nd' := List.nodup_cons.mp nd
    rw [lk_cons]
    rcases List.mem_cons.mp h with e | e
    · rw [← e]
      exact if_pos rfl
    · have ne : ¬ x.1 = k := fun c => nd'.1 (by rw [c]; exact List.mem_map.mpr ⟨_, e, rfl⟩)
      rw [if_neg ne]
      exact ih nd'.2 e
theorem lk_repl (k j : κ) (b : β) : ∀ l : List (κ × β), lk (l.map fun x => if x.1 = k then (x.1, b) else x) j = if j = k then (if (lk l k).isSome = true then some b else none) else lk l j
  | [] => by by_cases e : j = k <;> simp [lk_nil, e]
  | x :: l => by
    have ih := lk_repl k j b l
    rw [List.map_cons, lk_cons, lk_cons, lk_cons, ih]
    by_cases e1 : x.1 = k
    · by_cases e2 : j = k
      · simp [e1, e2]
      · have : ¬ k = j := fun z => e2 z.symm
        simp [e1, e2, this]
    · by_cases e2 : j = k
      · simp [e1, e2]
      · simp [e1, e2]
theorem lk_snoc (k j : κ) (b : β) : ∀ l : List (κ × β), lk l k = none → lk (l ++ [(k, b)]) j = if j = k then some b else lk l j
  | [], _ => by
    rw [List.nil_append, lk_cons, lk_nil]
    by_cases e : j = k
    · rw [if_pos e, if_pos e.symm]
    · rw [if_neg e, if_neg fun z => e z.symm]
  | x :: l, h => by
    rw [lk_cons] at h
    by_cases c : x.1 = k
    · rw [if_pos c] at h; cases h
    · rw [if_neg c] at h
      rw [List.cons_append, lk_cons, lk_cons, lk_snoc k j b l h]
      by_cases e : j = k
      · have : ¬ x.1 = j := fun z => c (z.trans e)
        rw [if_neg this, if_pos e, if_pos e]
      · rw [if_neg e, if_neg e]
theorem lk_pt (l : List (κ × β)) (k j : κ) (b : β) : lk (pt l k b) j = if j = k then some b else lk l j := by
  unfold pt
  cases q : lk l k with
  | none =>
    rw [if_neg (by simp)]
    exact lk_snoc k j b l q
  | some v =>
    rw [if_pos (show (some v).isSome = true from rfl), lk_repl, q]
    rfl
theorem pt_keys_nd {l : List (κ × β)} (nd : (l.map (·.1)).Nodup) (k : κ) (b : β) : ((pt l k b).map (·.1)).Nodup := by
  unfold pt
  split
  · have e : (l.map fun x => if x.1 = k then (x.1, b) else x).map (·.1) = l.map (·.1) := by
      rw [List.map_map]
      refine List.map_congr_left fun x _ => ?_
      show (if x.1 = k then (x.1, b) else x).1 = x.1
      split <;> rfl
    rw [e]
    exact nd
  · rename_i c
    have hn : lk l k = none := by
      cases q : lk l k with
      | none => rfl
      | some v => rw [q] at c; exact absurd rfl c
    rw [List.map_append]
    refine List.nodup_append.mpr ⟨nd, List.nodup_cons.mpr ⟨List.not_mem_nil, List.nodup_nil⟩, ?_⟩
    intro a ha c hc e
    rw [List.map_cons, List.map_nil, List.mem_singleton] at hc
    rw [e, hc] at ha
    exact lk_none.mp hn ha
theorem pt_len (l : List (κ × β)) (k : κ) (b : β) : (pt l k b).length ≤ l.length + 1 := by
  unfold pt
  split
  · rw [List.length_map]
    exact Nat.le_succ _
  · rw [List.length_append]
    exact Nat.le_refl _
theorem pt_new {l : List (κ × β)} {k : κ} (b : β) (h : lk l k = none) : pt l k b = l ++ [(k, b)] := by
  unfold pt
  rw [h, if_neg (by simp)]
theorem mem_pt {l : List (κ × β)} (nd : (l.map (·.1)).Nodup) {k j : κ} {b c : β} : (j, c) ∈ pt l k b ↔ (j = k ∧ c = b) ∨ (j ≠ k ∧ (j, c) ∈ l) := by
  have h1 : (j, c) ∈ pt l k b ↔ lk (pt l k b) j = some c := ⟨fun h => lk_of_mem (pt_keys_nd nd k b) h, fun h => lk_mem h⟩
  have h2 : (j, c) ∈ l ↔ lk l j = some c := ⟨fun h => lk_of_mem nd h, fun h => lk_mem h⟩
  rw [h1, h2, lk_pt]
  by_cases e : j = k
  · rw [if_pos e]
    constructor
    · intro h
      exact .inl ⟨e, (Option.some.inj h).symm⟩
    · rintro (⟨_, h⟩ | ⟨h, _⟩)
      · rw [h]
      · exact absurd e h
  · rw [if_neg e]
    constructor
    · intro h
      exact .inr ⟨e, h⟩
    · rintro (⟨h, _⟩ | ⟨_, h⟩)
      · exact absurd h e
      · exact h
theorem keys_pt {l : List (κ × β)} {k j : κ} {b : β} : j ∈ (pt l k b).map (·.1) ↔ j = k ∨ j ∈ l.map (·.1) := by
  rw [← lk_some, ← lk_some, lk_pt]
  by_cases e : j = k
  · rw [if_pos e]
    exact ⟨fun _ => .inl e, fun _ z => by cases z⟩
  · rw [if_neg e]
    exact ⟨fun h => .inr h, fun h => h.elim (fun q => absurd q e) id⟩
theorem lk_dp (l : List (κ × β)) (k j : κ) : lk (dp l k) j = if j = k then none else lk l j := by
  induction l with
  | nil => by_cases e : j = k <;> simp [dp, lk_nil, e]
  | cons x l ih =>
    unfold dp at ih ⊢
    rw [List.filter_cons]
    by_cases c : x.1 = k
    · rw [if_neg (by simp [c]), ih, lk_cons]
      by_cases e : j = k
      · rw [if_pos e, if_pos e]
      · have : ¬ x.1 = j := fun z => e (z.symm.trans c)
        rw [if_neg e, if_neg e, if_neg this]
    · rw [if_pos (by simp [c]), lk_cons, ih, lk_cons]
      by_cases e : j = k
      · have : ¬ x.1 = j := fun z => c (z.trans e)
        rw [if_pos e, if_neg this, if_pos e]
      · rw [if_neg e, if_neg e]
theorem dp_nd {l : List (κ × β)} (nd : (l.map (·.1)).Nodup) (k : κ) : ((dp l k).map (·.1)).Nodup := List.Nodup.sublist (List.Sublist.map _ List.filter_sublist) nd
end
section
variable {κ K' β : Type} [DecidableEq κ] [DecidableEq K'] {e : κ → K'} {R : β → V → Prop}
/-- a dict's pairs stand for a table -/
abbrev DR (e : κ → K') (R : β → V → Prop) (l : List (κ × β)) (kvs : List (K' × V)) : Prop := Paired (fun (x : κ × β) (q : K' × V) => q.1 = e x.1 ∧ R x.2 q.2) l kvs
theorem DR.none_ (inj : ∀ a b, e a = e b → a = b) {l : List (κ × β)} {kvs : List (K' × V)} (h : DR e R l kvs) {k : κ} (q : lk l k = none) : valV kvs (e k) = none := by
  induction h with
  | nil => rfl
  | cons a t ih =>
    rename_i x y l1 l2
    rw [lk_cons] at q
    by_cases c : x.1 = k
    · rw [if_pos c] at q; cases q
    · rw [if_neg c] at q
      have : ¬ y.1 = e k := fun z => c (inj _ _ (a.1.symm.trans z))
      rw [valV_neg this]
      exact ih q
theorem DR.some_ (inj : ∀ a b, e a = e b → a = b) {l : List (κ × β)} {kvs : List (K' × V)} (h : DR e R l kvs) {k : κ} {b : β} (q : lk l k = some b) : ∃ v, valV kvs (e k) = some v ∧ R b v := by
  induction h with
  | nil => cases q
  | cons a t ih =>
    rename_i x y l1 l2
    rw [lk_cons] at q
    by_cases c : x.1 = k
    · rw [if_pos c] at q
      cases q
      have : y.1 = e k := a.1.trans (congrArg e c)
      exact ⟨y.2, valV_pos this, a.2⟩
    · rw [if_neg c] at q
      have : ¬ y.1 = e k := fun z => c (inj _ _ (a.1.symm.trans z))
      rw [valV_neg this]
      exact ih q
theorem DR.isSome (inj : ∀ a b, e a = e b → a = b) {l : List (κ × β)} {kvs : List (K' × V)} (h : DR e R l kvs) (k : κ) : (valV kvs (e k)).isSome = (lk l k).isSome := by
  cases q : lk l k with
  | none => rw [h.none_ inj q]; rfl
  | some b =>
    obtain ⟨v, hv, _⟩ := h.some_ inj q
    rw [hv]; rfl
theorem DR.put (inj : ∀ a b, e a = e b → a = b) {l : List (κ × β)} {kvs : List (K' × V)} (h : DR e R l kvs) {k : κ} {b : β} {v : V} (r : R b v) : DR e R (pt l k b) (putK kvs (e k) v) := by
  have hs := h.isSome inj k
  unfold pt putK
  rw [valV_any, hs]
  split
  · clear hs
    rename_i hc
    clear hc
    induction h with
    | nil => exact .nil
    | cons a t ih =>
      rename_i x y l1 l2
      rw [List.map_cons, List.map_cons]
      refine .cons ?_ ih
      by_cases c : x.1 = k
      · have : y.1 = e k := a.1.trans (congrArg e c)
        rw [if_pos c, if_pos this]
        exact ⟨a.1, r⟩
      · have : ¬ y.1 = e k := fun z => c (inj _ _ (a.1.symm.trans z))
        rw [if_neg c, if_neg this]
        exact a
  · exact paired_snoc h ⟨rfl, r⟩
theorem DR.drop (inj : ∀ a b, e a = e b → a = b) {l : List (κ × β)} {kvs : List (K' × V)} (h : DR e R l kvs) (k : κ) : DR e R (dp l k) (dropK kvs (e k)) := by
  unfold dp dropK
  induction h with
  | nil => exact .nil
  | cons a t ih =>
    rename_i x y l1 l2
    rw [List.filter_cons, List.filter_cons]
    by_cases c : x.1 = k
    · have : y.1 = e k := a.1.trans (congrArg e c)
      rw [if_neg (by simp [c]), if_neg (by simp [this])]
      exact ih
    · have : ¬ y.1 = e k := fun z => c (inj _ _ (a.1.symm.trans z))
      rw [if_pos (by simp [c]), if_pos (by simp [this])]
      exact .cons a ih
end
end MR
/-! What an expression evaluates to: facts stand in a part G of the heap H (what is known and does not change), which grows. -/
namespace MR
open PySem L2
/-! ### the heap grows exactly -/
theorem sm_new {H : Hp} {p : Addr} {o : HO} (h : H p = none) : Same H (upd H p o) := fun a u k => by
  rw [upd_ne (ne_of_none k h)]
  exact k
theorem sm_mut {H0 H : Hp} {p : Addr} {o : HO} (e : Same H0 H) (h : H0 p = none) : Same H0 (upd H p o) := fun a u k => by
  rw [upd_ne (ne_of_none k h)]
  exact e a u k
theorem sm_add {G H : Hp} {p : Addr} {o : HO} (e : Same G H) (h : H p = some o) : Same (upd G p o) H := fun a u k => by
  by_cases c : a = p
  · subst c
    rw [upd_same] at k
    cases k
    exact h
  · rw [upd_ne c] at k
    exact e a u k
theorem sm_both {G H : Hp} {p : Addr} {o : HO} (e : Same G H) : Same (upd G p o) (upd H p o) := fun a u k => by
  by_cases c : a = p
  · subst c
    rw [upd_same] at k ⊢
    exact k
  · rw [upd_ne c] at k ⊢
    exact e a u k
theorem sm_up {H H' : Hp} (e : Same H H') : Up H H' := Up.of_same e
theorem sm_unlock {H0 H : Hp} {d : Addr} {o : Obj} {u : HO} (e : Same (upd H0 d (.frz o u)) H) (h : H0 d = some u) : Same H0 (upd H d u) := fun a x k => by
  by_cases c : a = d
  · subst c
    rw [h] at k
    rw [upd_same]
    exact k
  · rw [upd_ne c]
    refine e a x ?_
    rw [upd_ne c]
    exact k
theorem mo_same {P : Hp → V → Prop} [Mo P] {H H' : Hp} {v : V} (e : Same H H') (q : P H v) : P H' v := Mo.up (sm_up e) q
theorem al_same {Ps : List (Hp → V → Prop)} [MoL Ps] {H H' : Hp} {vs : List V} (e : Same H H') (q : AllP H Ps vs) : AllP H' Ps vs := MoL.up (sm_up e) q
/-! ### the frame: G is known, H is what is; M is a pot that is drawn from -/
structure Fr (M : Option Addr) (G H : Hp) : Prop where
  sub : Same G H
  pot : ∀ p, M = some p → G p = none ∧ ∃ x y : Int, H p = some (.lst [.int x, .int y])
/-- something other than a tuple stands at a -/
def Hid (H : Hp) (a : Addr) : Prop := ∃ o, H a = some o ∧ ∀ ys, o ≠ .tup ys
structure Ext (M : Option Addr) (G H G' H' : Hp) : Prop where
  same : ∀ a o, M ≠ some a → H a = some o → H' a = some o
  gs : Same G G'
  sub : Same G' H'
  av : ∀ a, Hid H a → G a = none → G' a = none
  nf : ∀ a o u, G' a = some (.frz o u) → G a = some (.frz o u)
  pot : ∀ p, M = some p → ∃ x y : Int, H' p = some (.lst [.int x, .int y])
section
variable {M : Option Addr} {G H G' H' G1 H1 : Hp}
theorem Fr.ext (f : Fr M G H) (e : Ext M G H G' H') : Fr M G' H' := ⟨e.sub, fun p hp => by
  obtain ⟨h1, x, y, h2⟩ := f.pot p hp
  exact ⟨e.av p ⟨_, h2, fun _ z => by cases z⟩ h1, e.pot p hp⟩⟩
theorem Ext.rfl' (f : Fr M G H) : Ext M G H G H := ⟨fun _ _ _ h => h, Same.refl _, f.sub, fun _ _ h => h, fun _ _ _ h => h, fun p hp => (f.pot p hp).2⟩
theorem Ext.alive (e : Ext M G H G' H') {a : Addr} (h : Hid H a) : Hid H' a := by
  by_cases c : M = some a
  · obtain ⟨x, y, q⟩ := e.pot a c
    exact ⟨_, q, fun _ z => by cases z⟩
  · obtain ⟨o, q, n⟩ := h
    exact ⟨o, e.same a o c q, n⟩
theorem Ext.trans (e : Ext M G H G1 H1) (f : Ext M G1 H1 G' H') : Ext M G H G' H' :=
  ⟨fun a o n h => f.same a o n (e.same a o n h), e.gs.trans f.gs, f.sub, fun a h g => f.av a (e.alive h) (e.av a h g), fun a o u h => e.nf a o u (f.nf a o u h), f.pot⟩
/-- a new object, known -/
theorem Ext.new (f : Fr M G H) {p : Addr} {o : HO} (h : H p = none) (nf : NoFrz o) : Ext M G H (upd G p o) (upd H p o) := by
  have gp : G p = none := by
    cases q : G p with
    | none => rfl
    | some u => rw [f.sub _ _ q] at h; cases h
  refine ⟨fun a u _ k => sm_new h a u k, sm_new gp, sm_both f.sub, fun a k g => ?_, fun a q u k => ?_, fun a k => ?_⟩
  · obtain ⟨u, k, _⟩ := k
    rw [upd_ne fun z => by rw [z, h] at k; cases k]
    exact g
  · by_cases c : a = p
    · subst c
      rw [upd_same] at k
      cases k
      exact absurd rfl (nf _ _)
    · rw [upd_ne c] at k
      exact k
  · obtain ⟨_, x, y, q⟩ := f.pot a k
    exact ⟨x, y, sm_new h _ _ q⟩
/-- a new object, not known -/
theorem Ext.new' (f : Fr M G H) {p : Addr} {o : HO} (h : H p = none) : Ext M G H G (upd H p o) :=
  ⟨fun a u _ k => sm_new h a u k, Same.refl _, fun a u k => sm_new h _ _ (f.sub a u k), fun _ _ g => g, fun _ _ _ k => k, fun p hp => by
    obtain ⟨_, x, y, q⟩ := f.pot p hp
    exact ⟨x, y, sm_new h _ _ q⟩⟩
/-- a tuple that stands, known -/
theorem Ext.know (f : Fr M G H) {q : Addr} {ys : List V} (h : H q = some (.tup ys)) : Ext M G H (upd G q (.tup ys)) H := by
  refine ⟨fun a u _ k => k, fun a u k => ?_, sm_add f.sub h, fun a k g => ?_, fun a o u k => ?_, fun p hp => (f.pot p hp).2⟩
  · by_cases c : a = q
    · subst c
      rw [f.sub _ _ k] at h
      cases h
      exact upd_same
    · rw [upd_ne c]
      exact k
  · obtain ⟨o, k, n⟩ := k
    by_cases c : a = q
    · subst c
      rw [h] at k
      cases k
      exact absurd rfl (n _)
    · rw [upd_ne c]
      exact g
  · by_cases c : a = q
    · subst c
      rw [upd_same] at k
      cases k
    · rw [upd_ne c] at k
      exact k
theorem Ext.lift (e : Ext none G H G' H') (f : Fr M G H) : Ext M G H G' H' :=
  ⟨fun a o _ h => e.same a o (fun z => by cases z) h, e.gs, e.sub, e.av, e.nf, fun p hp => by
    obtain ⟨_, x, y, q⟩ := f.pot p hp
    exact ⟨x, y, e.same _ _ (fun z => by cases z) q⟩⟩
theorem Fr.no (f : Fr M G H) : Fr none G H := ⟨f.sub, fun _ z => by cases z⟩
theorem Fr.mk0 (h : Same G H) : Fr none G H := ⟨h, fun _ z => by cases z⟩
/-- less is known -/
theorem Fr.less (f : Fr M G H) (s : Same G1 G) : Fr M G1 H := ⟨s.trans f.sub, fun p hp => by
  obtain ⟨a, b⟩ := f.pot p hp
  exact ⟨s.free a, b⟩⟩
end
/-- what is known grows, nothing gets locked -/
structure Gw (G G' : Hp) : Prop where
  gs : Same G G'
  nf : ∀ a o u, G' a = some (.frz o u) → G a = some (.frz o u)
theorem Gw.rfl' (G : Hp) : Gw G G := ⟨Same.refl _, fun _ _ _ h => h⟩
theorem Gw.trans {G G1 G2 : Hp} (a : Gw G G1) (b : Gw G1 G2) : Gw G G2 := ⟨a.gs.trans b.gs, fun c o u h => a.nf c o u (b.nf c o u h)⟩
theorem Ext.gw {M : Option Addr} {G H G' H' : Hp} (e : Ext M G H G' H') : Gw G G' := ⟨e.gs, e.nf⟩
theorem Fr.free {M : Option Addr} {G H : Hp} (f : Fr M G H) {p : Addr} (h : H p = none) : G p = none := f.sub.free h
/-- no dict is locked -/
def NLk (G : Hp) : Prop := ∀ a o kvs, G a ≠ some (.frz o (.dK kvs))
def NLt (G : Hp) : Prop := ∀ a o kvs, G a ≠ some (.frz o (.dT kvs))
theorem Gw.nlk {G G' : Hp} (e : Gw G G') (h : NLk G) : NLk G' := fun a o kvs k => h a o kvs (e.nf _ _ _ k)
theorem Gw.nlt {G G' : Hp} (e : Gw G G') (h : NLt G) : NLt G' := fun a o kvs k => h a o kvs (e.nf _ _ _ k)
/-- 0: any; 1: no dict of texts or ints is locked; 2: none -/
def NL : Nat → Hp → Prop
  | 0, _ => True
  | 1, G => NLk G
  | _, G => NLk G ∧ NLt G
theorem Gw.nl {G G' : Hp} (e : Gw G G') : ∀ {n : Nat}, NL n G → NL n G'
  | 0, _ => trivial
  | 1, h => e.nlk h
  | _ + 2, h => ⟨e.nlk h.1, e.nlt h.2⟩
theorem nl_le {G : Hp} {n m : Nat} (h : NL m G) (hm : n ≤ m) : NL n G := by
  match n, m, hm, h with
  | 0, _, _, _ => exact trivial
  | 1, 1, _, h => exact h
  | 1, _ + 2, _, h => exact h.1
  | _ + 2, _ + 2, _, h => exact h
theorem Kn.k {G : Hp} {a : Addr} {kvs : List (Key × V)} (h : Kn G a (.dK kvs)) (n : NLk G) : G a = some (.dK kvs) := h.elim id fun ⟨_, o, q⟩ => absurd q (n _ _ _)
theorem Kn.t {G : Hp} {a : Addr} {kvs : List (List Key × V)} (h : Kn G a (.dT kvs)) (n : NLt G) : G a = some (.dT kvs) := h.elim id fun ⟨_, o, q⟩ => absurd q (n _ _ _)
/-! ### what evaluates to what -/
section
variable {K : PySem.W.Frag} {M : Option Addr} {σ : L2.St} {G G' H H' : Hp} {ta tb tc te tk tv td ty : TE} {t u : TT} {x y v : V} {P P' Pa Pb : Hp → V → Prop} {b : Bool}
def Ev (M : Option Addr) (te : TE) (σ : L2.St) (G : Hp) (P : Hp → V → Prop) : Prop := ∀ G1 H1, Gw G G1 → Fr M G1 H1 → ∀ Q : VK, (∀ v G2 H2, Ext M G1 H1 G2 H2 → P G2 v → Q v H2) → te σ H1 Q
def EvT (M : Option Addr) (tt : TT) (σ : L2.St) (G : Hp) (b : Bool) : Prop := ∀ G1 H1, Gw G G1 → Fr M G1 H1 → ∀ Q : Bool → Hp → Prop, (∀ G2 H2, Ext M G1 H1 G2 H2 → Q b H2) → tt σ H1 Q
def EvA (M : Option Addr) (ta : TA) (σ : L2.St) (G : Hp) (Ps : List (Hp → V → Prop)) : Prop := ∀ G1 H1, Gw G G1 → Fr M G1 H1 → ∀ Q : List V → Hp → Prop, (∀ vs G2 H2, Ext M G1 H1 G2 H2 → AllP G2 Ps vs → Q vs H2) → ta σ H1 Q
theorem Ev.mono (e : Gw G G') (h : Ev M te σ G P) : Ev M te σ G' P := fun G1 H1 e1 => h G1 H1 (e.trans e1)
theorem EvT.mono (e : Gw G G') (h : EvT M t σ G b) : EvT M t σ G' b := fun G1 H1 e1 => h G1 H1 (e.trans e1)
theorem ev_imp (h : Ev M te σ G P) (i : ∀ H v, P H v → P' H v) : Ev M te σ G P' := fun G1 H1 e f Q k => h G1 H1 e f Q fun v G2 H2 e2 p => k v G2 H2 e2 (i _ _ p)
theorem ev_var {i : Nat} [Mo P] (h : σ[i]? = some (some v)) (p : P G v) : Ev M (tVar i) σ G P := fun G1 H1 e f Q k => ⟨v, h, k v G1 H1 (Ext.rfl' f) (mo_same e.gs p)⟩
theorem ev_c : Ev M (tC v) σ G (Is v) := fun G1 H1 _ f Q k => k v G1 H1 (Ext.rfl' f) rfl
/-- a field, from what is known of the object -/
def Fd (K : PySem.W.Frag) (f : Str) (P P' : Hp → V → Prop) : Prop := ∀ H v, P H v → ∃ a C dx fs x, v = .ref a ∧ H a = some (.ins C dx fs) ∧ Cls K C ∧ NoAttr K C f ∧ fs.lookup f = some x ∧ P' H x
theorem ev_fld {f : Str} (fd : Fd K f P P') (h : Ev M ta σ G P) : Ev M (tFld K ta f) σ G P' := fun G1 H1 e fr Q k => h G1 H1 e fr _ fun v G2 H2 e2 p => by
  obtain ⟨a, C, dx, fs, x, e1, h1, h2, h3, h4, h5⟩ := fd G2 v p
  exact ⟨a, C, dx, fs, x, e1, e2.sub _ _ h1, h2, h3, h4, k x G2 H2 e2 h5⟩
theorem ev_op {r : R2} [Mo Pa] (ha : Ev M ta σ G Pa) (hb : Ev M tb σ G Pb) (hr : ∀ G1 H1 x y, Gw G G1 → Fr M G1 H1 → Pa G1 x → Pb G1 y → ∀ Q : VK, (∀ v G2 H2, Ext M G1 H1 G2 H2 → P G2 v → Q v H2) → r x y H1 Q) : Ev M (tOp r ta tb) σ G P := fun G1 H1 e f Q k =>
  ha G1 H1 e f _ fun x G2 H2 e2 px => hb G2 H2 (e.trans e2.gw) (f.ext e2) _ fun y G3 H3 e3 py => hr G3 H3 x y ((e.trans e2.gw).trans e3.gw) ((f.ext e2).ext e3) (mo_same e3.gs px) py Q fun v G4 H4 e4 p => k v G4 H4 ((e2.trans e3).trans e4) p
theorem ev_i {C : Int → Int → Prop} {g : Int → Int → V} {i j : Int} (ha : Ev M ta σ G (Is (.int i))) (hb : Ev M tb σ G (Is (.int j))) (hc : C i j) : Ev M (tOp (rI C g) ta tb) σ G (Is (g i j)) :=
  ev_op ha hb fun G1 H1 x y _ f hx hy Q k => ⟨i, j, hx, hy, hc, k _ G1 H1 (Ext.rfl' f) rfl⟩
theorem ev_i0 {g : Int → Int → V} {i j : Int} (ha : Ev M ta σ G (Is (.int i))) (hb : Ev M tb σ G (Is (.int j))) : Ev M (tOp (rI0 g) ta tb) σ G (Is (g i j)) :=
  ev_op ha hb fun G1 H1 x y _ f hx hy Q k => ⟨i, j, hx, hy, k _ G1 H1 (Ext.rfl' f) rfl⟩
theorem ev_u {g : Int → V} {i : Int} (ha : Ev M ta σ G (Is (.int i))) : Ev M (tUn (rU g) ta) σ G (Is (g i)) := fun G1 H1 e f Q k => ha G1 H1 e f _ fun x G2 H2 e2 hx => ⟨i, hx, k _ G2 H2 e2 rfl⟩
/-- == of scalars -/
theorem ev_eq (ha : Ev M ta σ G (Is x)) (hb : Ev M tb σ G (Is y)) (hs : scal x y = true) : Ev M (tOp rEq ta tb) σ G (Is (.bl (decide (x = y)))) :=
  ev_op ha hb fun G1 H1 x' y' _ f hx hy Q k => by cases hx; cases hy; exact ⟨hs, k _ G1 H1 (Ext.rfl' f) rfl⟩
theorem ev_ne (ha : Ev M ta σ G (Is x)) (hb : Ev M tb σ G (Is y)) (hs : scal x y = true) : Ev M (tOp rNe ta tb) σ G (Is (.bl (!decide (x = y)))) :=
  ev_op ha hb fun G1 H1 x' y' _ f hx hy Q k => by cases hx; cases hy; exact ⟨hs, k _ G1 H1 (Ext.rfl' f) rfl⟩
theorem et_test (h : Ev M te σ G (Is (.bl b))) : EvT M (tTest te) σ G b := fun G1 H1 e f Q k => h G1 H1 e f _ fun v G2 H2 e2 p => ⟨b, p, k G2 H2 e2⟩
theorem et_B (h : Ev M te σ G (Is (.bl b))) : EvT M (tB te) σ G b := fun G1 H1 e f Q k => h G1 H1 e f _ fun v G2 H2 e2 p => ⟨b, p, k G2 H2 e2⟩
theorem et_yes : EvT M tYes σ G true := fun G1 H1 e f Q k => k G1 H1 (Ext.rfl' f)
theorem et_is {c : Bool} (h : EvT M t σ G b) (e : b = c) : EvT M t σ G c := by
  subst e
  exact h
theorem ev_is {w : V} (h : Ev M te σ G (Is v)) (e : v = w) : Ev M te σ G (Is w) := by
  subst e
  exact h
theorem et_and {c : Bool} (h1 : EvT M t σ G b) (h2 : b = true → EvT M u σ G c) : EvT M (tAnd t u) σ G (b && c) := fun G1 H1 e f Q k => h1 G1 H1 e f _ fun G2 H2 e2 => by
  cases b with
  | true =>
    rw [if_pos rfl]
    exact h2 rfl G2 H2 (e.trans e2.gw) (f.ext e2) Q fun G3 H3 e3 => k G3 H3 (e2.trans e3)
  | false =>
    rw [if_neg Bool.false_ne_true]
    exact k G2 H2 e2
theorem et_or {c : Bool} (h1 : EvT M t σ G b) (h2 : b = false → EvT M u σ G c) : EvT M (tOr t u) σ G (b || c) := fun G1 H1 e f Q k => h1 G1 H1 e f _ fun G2 H2 e2 => by
  cases b with
  | true =>
    rw [if_pos rfl]
    exact k G2 H2 e2
  | false =>
    rw [if_neg Bool.false_ne_true]
    exact h2 rfl G2 H2 (e.trans e2.gw) (f.ext e2) Q fun G3 H3 e3 => k G3 H3 (e2.trans e3)
theorem et_not (h : EvT M t σ G b) : EvT M (tNot t) σ G (!b) := fun G1 H1 e f Q k => h G1 H1 e f _ fun G2 H2 e2 => k G2 H2 e2
theorem ev_andV {c : Bool} (h1 : Ev M ta σ G (Is (.bl b))) (h2 : b = true → Ev M tb σ G (Is (.bl c))) : Ev M (tAndV ta tb) σ G (Is (.bl (b && c))) := fun G1 H1 e f Q k => h1 G1 H1 e f _ fun v G2 H2 e2 p => by
  refine ⟨b, p, ?_⟩
  cases b with
  | true =>
    rw [if_pos rfl]
    exact h2 rfl G2 H2 (e.trans e2.gw) (f.ext e2) Q fun v G3 H3 e3 p3 => k v G3 H3 (e2.trans e3) p3
  | false =>
    rw [if_neg Bool.false_ne_true]
    exact k _ G2 H2 e2 rfl
theorem ev_orV {c : Bool} (h1 : Ev M ta σ G (Is (.bl b))) (h2 : b = false → Ev M tb σ G (Is (.bl c))) : Ev M (tOrV ta tb) σ G (Is (.bl (b || c))) := fun G1 H1 e f Q k => h1 G1 H1 e f _ fun v G2 H2 e2 p => by
  refine ⟨b, p, ?_⟩
  cases b with
  | true =>
    rw [if_pos rfl]
    exact k _ G2 H2 e2 rfl
  | false =>
    rw [if_neg Bool.false_ne_true]
    exact h2 rfl G2 H2 (e.trans e2.gw) (f.ext e2) Q fun v G3 H3 e3 p3 => k v G3 H3 (e2.trans e3) p3
theorem ev_notV (h : Ev M ta σ G (Is (.bl b))) : Ev M (tNotV ta) σ G (Is (.bl (!b))) := fun G1 H1 e f Q k => h G1 H1 e f _ fun v G2 H2 e2 p => ⟨b, p, k _ G2 H2 e2 rfl⟩
theorem ev_if (h : EvT M t σ G b) (h1 : b = true → Ev M ta σ G P) (h2 : b = false → Ev M tb σ G P) : Ev M (tIf t ta tb) σ G P := fun G1 H1 e f Q k => h G1 H1 e f _ fun G2 H2 e2 => by
  cases b with
  | true =>
    rw [if_pos rfl]
    exact h1 rfl G2 H2 (e.trans e2.gw) (f.ext e2) Q fun v G3 H3 e3 p => k v G3 H3 (e2.trans e3) p
  | false =>
    rw [if_neg Bool.false_ne_true]
    exact h2 rfl G2 H2 (e.trans e2.gw) (f.ext e2) Q fun v G3 H3 e3 p => k v G3 H3 (e2.trans e3) p
/-- a chained comparison of ints -/
theorem ev_chain {g g' : Int → Int → V} {i j l : Int} {b c : Bool} (ha : Ev M ta σ G (Is (.int i))) (hb : Ev M tb σ G (Is (.int j))) (hc : b = true → Ev M tc σ G (Is (.int l))) (e1 : g i j = .bl b) (e2 : b = true → g' j l = .bl c) :
    Ev M (tChain (rI0 g) (rI0 g') ta tb tc) σ G (Is (.bl (b && c))) := fun G1 H1 e f Q k => ha G1 H1 e f _ fun x G2 H2 s2 hx => hb G2 H2 (e.trans s2.gw) (f.ext s2) _ fun y G3 H3 s3 hy => by
  refine ⟨i, j, hx, hy, b, e1, ?_⟩
  cases b with
  | true =>
    rw [if_pos rfl]
    refine hc rfl G3 H3 ((e.trans s2.gw).trans s3.gw) ((f.ext s2).ext s3) _ fun z G4 H4 s4 hz => ⟨j, l, hy, hz, ?_⟩
    rw [e2 rfl]
    exact k _ G4 H4 ((s2.trans s3).trans s4) rfl
  | false =>
    rw [if_neg Bool.false_ne_true]
    exact k _ G3 H3 (s2.trans s3) rfl
/-! ### several -/
theorem ea_nil : EvA M tNil σ G [] := fun G1 H1 _ f Q k => k [] G1 H1 (Ext.rfl' f) .nil
theorem ea_cons {tr : TA} {Ps : List (Hp → V → Prop)} [Mo P] (h : Ev M te σ G P) (hr : EvA M tr σ G Ps) : EvA M (tCons te tr) σ G (P :: Ps) := fun G1 H1 e f Q k =>
  h G1 H1 e f _ fun x G2 H2 e2 p => hr G2 H2 (e.trans e2.gw) (f.ext e2) _ fun vs G3 H3 e3 a => k _ G3 H3 (e2.trans e3) (.cons (mo_same e3.gs p) a)
theorem sz_small {n : Nat} (h : n ≤ 100000) : n ≤ sizeLine := Nat.le_trans h (by decide)
theorem sz_lt {n : Nat} (h : n < 100000) : n < sizeLine := Nat.lt_of_lt_of_le h (by decide)
theorem up_new {G : Hp} {p : Addr} {o : HO} (h : G p = none) : Up G (upd G p o) := sm_up (sm_new h)
theorem ev_tup {t : TA} {Ps : List (Hp → V → Prop)} [MoL Ps] (h : EvA M t σ G Ps) (hl : Ps.length ≤ 100000 := by simp) : Ev M (tTup t) σ G (TupP Ps) := fun G1 H1 e f Q k =>
  h G1 H1 e f _ fun vs G2 H2 e2 a => ⟨by rw [a.length]; exact sz_small hl, fun p hp => k _ _ _ (e2.trans (Ext.new (f.ext e2) hp fun _ _ z => by cases z)) ⟨p, vs, rfl, upd_same, MoL.up (up_new ((f.ext e2).free hp)) a⟩⟩
theorem ev_lst {t : TA} {Ps : List (Hp → V → Prop)} [MoL Ps] (h : EvA M t σ G Ps) (hl : Ps.length ≤ 100000 := by simp) : Ev M (tLst t) σ G (LstP Ps) := fun G1 H1 e f Q k =>
  h G1 H1 e f _ fun vs G2 H2 e2 a => ⟨by rw [a.length]; exact sz_small hl, fun p hp => k _ _ _ (e2.trans (Ext.new (f.ext e2) hp fun _ _ z => by cases z)) ⟨p, vs, rfl, upd_same, MoL.up (up_new ((f.ext e2).free hp)) a⟩⟩
/-- a built-in called, by values -/
theorem ev_cb {r : List V → Hp → VK → Prop} {t : TA} {Ps : List (Hp → V → Prop)} (h : EvA M t σ G Ps) (hr : ∀ G1 H1 vs, Gw G G1 → Fr M G1 H1 → AllP G1 Ps vs → ∀ Q : VK, (∀ v G2 H2, Ext M G1 H1 G2 H2 → P G2 v → Q v H2) → r vs H1 Q) : Ev M (tCB r t) σ G P := fun G1 H1 e f Q k =>
  h G1 H1 e f _ fun vs G2 H2 e2 a => hr G2 H2 vs (e.trans e2.gw) (f.ext e2) a Q fun v G3 H3 e3 p => k v G3 H3 (e2.trans e3) p
/-! ### promises -/
/-- arguments of these kinds in, a value of that kind out, all that stood stands -/
def spOf (n : Nat) {ι : Type} (C : ι → Prop) (Ps : ι → List (Hp → V → Prop)) (R : ι → Hp → V → Prop) : Sp := fun vs H Q _ => ∃ i G, C i ∧ NL n G ∧ Same G H ∧ AllP G (Ps i) vs ∧ ∀ v G' H', Ext none G H G' H' → R i G' v → Q v H'
/-- __init__ of an instance of the class at D -/
def spIni (n : Nat) (D : Addr) {ι : Type} (C : ι → Prop) (Ps : ι → List (Hp → V → Prop)) (R : ι → Hp → V → Prop) : Sp := fun vs H Q _ =>
  ∃ i G x dx rest, vs = .ref x :: rest ∧ H x = some (.ins D dx []) ∧ G x = none ∧ C i ∧ NL n G ∧ Same G H ∧ AllP G (Ps i) rest ∧
    ∀ G' H', (∀ a o, a ≠ x → H a = some o → H' a = some o) → Gw G G' → Same G' H' → (∀ a, a ≠ x → Hid H a → G a = none → G' a = none) → R i G' (.ref x) → Q .non H'
/-- arguments with the pot ahead -/
def spPot {ι : Type} (C : ι → Prop) (Ps : ι → List (Hp → V → Prop)) (R : ι → Hp → V → Prop) : Sp := fun vs H Q _ =>
  ∃ i p rest G, vs = .ref p :: rest ∧ C i ∧ NL 2 G ∧ Fr (some p) G H ∧ AllP G (Ps i) rest ∧ ∀ v G' H', Ext (some p) G H G' H' → R i G' v → Q v H'
theorem ev_call {n : Nat} {ι : Type} {C : ι → Prop} {Ps : ι → List (Hp → V → Prop)} {R : ι → Hp → V → Prop} {E : XK} {t : TA} (i : ι) (c : C i) (hn : NL n G) (h : EvA M t σ G (Ps i)) : Ev M (tCall (spOf n C Ps R) [] E t) σ G (R i) := fun G1 H1 e f Q k =>
  h G1 H1 e f _ fun vs G2 H2 e2 a => ⟨i, G2, c, (e.trans e2.gw).nl hn, e2.sub, by rw [List.append_nil]; exact a, fun v G3 H3 e3 p => k v G3 H3 (e2.trans (e3.lift (f.ext e2))) p⟩
/-- f(pot, ..) -/
theorem ev_callP {p : Addr} {j : Nat} {ι : Type} {C : ι → Prop} {Ps : ι → List (Hp → V → Prop)} {R : ι → Hp → V → Prop} {E : XK} {t : TA} (i : ι) (c : C i) (hn : NL 2 G) (hj : σ[j]? = some (some (.ref p))) (h : EvA (some p) t σ G (Ps i)) :
    Ev (some p) (tCall (spPot C Ps R) [] E (tCons (tVar j) t)) σ G (R i) := fun G1 H1 e f Q k =>
  ⟨_, hj, h G1 H1 e f _ fun vs G2 H2 e2 a => ⟨i, p, vs, G2, by rw [List.append_nil], c, (e.trans e2.gw).nl hn, f.ext e2, a, fun v G3 H3 e3 q => k v G3 H3 (e2.trans e3) q⟩⟩
/-- an instance of the class at C that has no attribute of that name -/
def IsI (C : Addr) (m : Str) (H : Hp) (v : V) : Prop := ∃ a dx fs, v = .ref a ∧ H a = some (.ins C dx fs) ∧ fs.lookup m = none
theorem ev_meth {n : Nat} {ι : Type} {D : Addr} {m : Str} {C : ι → Prop} {Ps : ι → List (Hp → V → Prop)} {R : ι → Hp → V → Prop} {E : XK} {t : TA} {P0 : Hp → V → Prop} {Pr : List (Hp → V → Prop)} [Mo P0] (i : ι) (c : C i) (hn : NL n G) (e0 : Ps i = P0 :: Pr)
    (hi : ∀ H v, P0 H v → IsI D m H v) (ha : Ev M ta σ G P0) (h : EvA M t σ G Pr) : Ev M (tMeth D m (spOf n C Ps R) [] E ta t) σ G (R i) := fun G1 H1 e f Q k =>
  ha G1 H1 e f _ fun x G2 H2 e2 p => by
    obtain ⟨a, dx, fs, h1, h2, h3⟩ := hi G2 x p
    refine ⟨a, dx, fs, h1, e2.sub _ _ h2, h3, h G2 H2 (e.trans e2.gw) (f.ext e2) _ fun vs G3 H3 e3 b => ⟨i, G3, c, ((e.trans e2.gw).trans e3.gw).nl hn, e3.sub, ?_, fun v G4 H4 e4 q => k v G4 H4 ((e2.trans e3).trans (e4.lift ((f.ext e2).ext e3))) q⟩⟩
    rw [e0, List.append_nil]
    exact .cons (mo_same e3.gs p) b
theorem ev_make {n : Nat} {ι : Type} {D : Addr} {C : ι → Prop} {Ps : ι → List (Hp → V → Prop)} {R : ι → Hp → V → Prop} {E : XK} {t : TA} (i : ι) (c : C i) (hn : NL n G) (h : EvA M t σ G (Ps i)) : Ev M (tMake D (spIni n D C Ps R) [] E t) σ G (R i) := fun G1 H1 e f Q k =>
  h G1 H1 e f _ fun vs G2 H2 e2 a x dx nx ndx ne => by
    have f2 := f.ext e2
    have s1 : Same H2 (upd (upd H2 dx (.own x)) x (.ins D dx [])) := sm_mut (sm_new ndx) nx
    refine ⟨i, G2, x, dx, vs, by rw [List.append_nil], upd_same, f2.free nx, c, (e.trans e2.gw).nl hn, f2.sub.trans s1, a, fun G3 H3 b1 b2 b3 b4 q => ⟨rfl, k _ G3 H3 (e2.trans ⟨?_, b2.gs, b3, ?_, b2.nf, ?_⟩) q⟩⟩
    · exact fun a o _ h => b1 a o (ne_of_none h nx) (s1 a o h)
    · rintro a ⟨u, ha, hn⟩ hg
      exact b4 a (ne_of_none ha nx) ⟨u, s1 _ _ ha, hn⟩ hg
    · intro p hp
      obtain ⟨_, x', y', q⟩ := f2.pot p hp
      exact ⟨x', y', b1 p _ (ne_of_none q nx) (s1 _ _ q)⟩
/-! ### statements -/
variable {D : Ends} {tu tw tz : TS} {g : TG}
theorem s_ret (f : Fr M G H) (h : Ev M te σ G P) (k : ∀ v G1 H1, Ext M G H G1 H1 → P G1 v → D.rt v H1) : tRet te D σ H := h G H (Gw.rfl' _) f _ k
theorem q_ret (f : Fr M G H) (h : Ev M te σ G P) (k : ∀ v G1 H1, Ext M G H G1 H1 → P G1 v → D.rt v H1) : tSeq (tRet te) tz D σ H := h G H (Gw.rfl' _) f _ k
theorem q_asg {i : Nat} (f : Fr M G H) (h : Ev M te σ G P) (k : ∀ v G1 H1, Ext M G H G1 H1 → P G1 v → tz D (σ.set i (some v)) H1) : tSeq (tAsg te (gName i)) tz D σ H := h G H (Gw.rfl' _) f _ k
theorem s_asg {i : Nat} (f : Fr M G H) (h : Ev M te σ G P) (k : ∀ v G1 H1, Ext M G H G1 H1 → P G1 v → D.nx (σ.set i (some v)) H1) : tAsg te (gName i) D σ H := h G H (Gw.rfl' _) f _ k
theorem q_asgG (f : Fr M G H) (h : Ev M te σ G P) (k : ∀ v G1 H1, Ext M G H G1 H1 → P G1 v → g v σ H1 (tz D)) : tSeq (tAsg te g) tz D σ H := h G H (Gw.rfl' _) f _ k
theorem s_asgG (f : Fr M G H) (h : Ev M te σ G P) (k : ∀ v G1 H1, Ext M G H G1 H1 → P G1 v → g v σ H1 D.nx) : tAsg te g D σ H := h G H (Gw.rfl' _) f _ k
theorem q_drop (f : Fr M G H) (h : Ev M te σ G P) (k : ∀ v G1 H1, Ext M G H G1 H1 → P G1 v → tz D σ H1) : tSeq (tDrop te) tz D σ H := h G H (Gw.rfl' _) f _ k
theorem s_drop (f : Fr M G H) (h : Ev M te σ G P) (k : ∀ v G1 H1, Ext M G H G1 H1 → P G1 v → D.nx σ H1) : tDrop te D σ H := h G H (Gw.rfl' _) f _ k
theorem s_if (f : Fr M G H) (h : EvT M t σ G b) (h1 : b = true → ∀ G1 H1, Ext M G H G1 H1 → tu D σ H1) (h2 : b = false → ∀ G1 H1, Ext M G H G1 H1 → tw D σ H1) : tIfS t tu tw D σ H := h G H (Gw.rfl' _) f _ fun G1 H1 e => by
  cases b with
  | true => rw [if_pos rfl]; exact h1 rfl G1 H1 e
  | false => rw [if_neg Bool.false_ne_true]; exact h2 rfl G1 H1 e
theorem q_if (f : Fr M G H) (h : EvT M t σ G b) (h1 : b = true → ∀ G1 H1, Ext M G H G1 H1 → tu { D with nx := tz D } σ H1) (h2 : b = false → ∀ G1 H1, Ext M G H G1 H1 → tw { D with nx := tz D } σ H1) : tSeq (tIfS t tu tw) tz D σ H := h G H (Gw.rfl' _) f _ fun G1 H1 e => by
  cases b with
  | true => rw [if_pos rfl]; exact h1 rfl G1 H1 e
  | false => rw [if_neg Bool.false_ne_true]; exact h2 rfl G1 H1 e
theorem q_when (f : Fr M G H) (h : EvT M t σ G b) (h1 : b = true → ∀ G1 H1, Ext M G H G1 H1 → tu { D with nx := tz D } σ H1) (h2 : b = false → ∀ G1 H1, Ext M G H G1 H1 → tz D σ H1) : tSeq (tIfS t tu tNext) tz D σ H := q_if f h h1 h2
theorem s_when (f : Fr M G H) (h : EvT M t σ G b) (h1 : b = true → ∀ G1 H1, Ext M G H G1 H1 → tu D σ H1) (h2 : b = false → ∀ G1 H1, Ext M G H G1 H1 → D.nx σ H1) : tIfS t tu tNext D σ H := s_if f h h1 h2
theorem q_aug {i : Nat} {φ : Int → Int → Int} {m n : Int} (f : Fr M G H) (hx : σ[i]? = some (some (.int m))) (h : Ev M te σ G (Is (.int n))) (k : ∀ G1 H1, Ext M G H G1 H1 → tz D (σ.set i (some (.int (φ m n)))) H1) : tSeq (tAug i te (ipI φ)) tz D σ H :=
  ⟨_, hx, h G H (Gw.rfl' _) f _ fun v G1 H1 e p => ⟨m, n, rfl, p, k G1 H1 e⟩⟩
theorem s_aug {i : Nat} {φ : Int → Int → Int} {m n : Int} (f : Fr M G H) (hx : σ[i]? = some (some (.int m))) (h : Ev M te σ G (Is (.int n))) (k : ∀ G1 H1, Ext M G H G1 H1 → D.nx (σ.set i (some (.int (φ m n)))) H1) : tAug i te (ipI φ) D σ H :=
  ⟨_, hx, h G H (Gw.rfl' _) f _ fun v G1 H1 e p => ⟨m, n, rfl, p, k G1 H1 e⟩⟩
/-! ### targets -/
variable {P1 P2 P3 P4 : Hp → V → Prop} {Q : L2.St → Hp → Prop} {i1 i2 i3 i4 : Nat}
theorem tg2 (p : TupP [P1, P2] G v) (s : Same G H) (k : ∀ v1 v2, P1 G v1 → P2 G v2 → Q ((σ.set i1 (some v1)).set i2 (some v2)) H) : gTup K 2 (gCons (gName i1) (gCons (gName i2) gNil)) v σ H Q := by
  obtain ⟨a, vs, e, h, al⟩ := p
  cases al with
  | cons h1 al =>
    cases al with
    | cons h2 al =>
      cases al
      exact ⟨a, _, e, SqT.of (s _ _ h), rfl, _, _, rfl, _, _, rfl, rfl, k _ _ h1 h2⟩
theorem tg3 (p : TupP [P1, P2, P3] G v) (s : Same G H) (k : ∀ v1 v2 v3, P1 G v1 → P2 G v2 → P3 G v3 → Q (((σ.set i1 (some v1)).set i2 (some v2)).set i3 (some v3)) H) : gTup K 3 (gCons (gName i1) (gCons (gName i2) (gCons (gName i3) gNil))) v σ H Q := by
  obtain ⟨a, vs, e, h, al⟩ := p
  cases al with
  | cons h1 al =>
    cases al with
    | cons h2 al =>
      cases al with
      | cons h3 al =>
        cases al
        exact ⟨a, _, e, SqT.of (s _ _ h), rfl, _, _, rfl, _, _, rfl, _, _, rfl, rfl, k _ _ _ h1 h2 h3⟩
theorem tg4 (p : TupP [P1, P2, P3, P4] G v) (s : Same G H) (k : ∀ v1 v2 v3 v4, P1 G v1 → P2 G v2 → P3 G v3 → P4 G v4 → Q ((((σ.set i1 (some v1)).set i2 (some v2)).set i3 (some v3)).set i4 (some v4)) H) : gTup K 4 (gCons (gName i1) (gCons (gName i2) (gCons (gName i3) (gCons (gName i4) gNil)))) v σ H Q := by
  obtain ⟨a, vs, e, h, al⟩ := p
  cases al with
  | cons h1 al =>
    cases al with
    | cons h2 al =>
      cases al with
      | cons h3 al =>
        cases al with
        | cons h4 al =>
          cases al
          exact ⟨a, _, e, SqT.of (s _ _ h), rfl, _, _, rfl, _, _, rfl, _, _, rfl, _, _, rfl, rfl, k _ _ _ _ h1 h2 h3 h4⟩
end
end MR
/-! Dicts, places; what is walked; comprehensions. -/
namespace MR
open PySem L2
/-! ### dicts -/
section
variable {K : PySem.W.Frag} {M : Option Addr} {σ : L2.St} {G G' H H' : Hp} {ta tb te tk tv td ty : TE} {t u : TT} {x y v : V} {P P' : Hp → V → Prop} {b : Bool}
abbrev Nm := Str
abbrev Pl := Nm × Int
def pk (p : Pl) : List Key := [Sum.inr p.1, Sum.inl p.2]
theorem pk_inj (p q : Pl) (h : pk p = pk q) : p = q := by
  unfold pk at h
  injection h with h1 h2
  injection h2 with h2 _
  exact Prod.ext (Sum.inr.inj h1) (Sum.inl.inj h2)
abbrev kN (a : Nm) : Key := Sum.inr a
abbrev kI (a : Int) : Key := Sum.inl a
theorem kN_inj (a b : Nm) (h : kN a = kN b) : a = b := Sum.inr.inj h
theorem kI_inj (a b : Int) (h : kI a = kI b) : a = b := Sum.inl.inj h
/-- a place, as a tuple -/
def PlA (p : Pl) : Hp → V → Prop := fun H v => ∃ a, v = .ref a ∧ H a = some (.tup [.str p.1, .int p.2])
instance {p : Pl} : Mo (PlA p) := ⟨fun e h => by
  obtain ⟨a, rfl, h⟩ := h
  exact ⟨a, rfl, e.tup h⟩⟩
theorem plA_of {H : Hp} {v : V} {n : Nm} {i : Int} (h : TupP [Is (.str n), Is (.int i)] H v) : PlA (n, i) H v := by
  obtain ⟨a, vs, rfl, h, al⟩ := h
  cases al with
  | cons h1 t =>
    cases t with
    | cons h2 t =>
      cases t
      cases h1
      cases h2
      exact ⟨a, rfl, h⟩
theorem plA_tup {H : Hp} {v : V} {p : Pl} (h : PlA p H v) : TupP [Is (.str p.1), Is (.int p.2)] H v := by
  obtain ⟨a, rfl, h⟩ := h
  exact ⟨a, _, rfl, h, .cons rfl (.cons rfl .nil)⟩
section
variable {κ β : Type} [DecidableEq κ] {e : κ → Key} {R : β → Hp → V → Prop}
/-- a dict of texts or ints; of places -/
def DcK (e : κ → Key) (R : β → Hp → V → Prop) (l : List (κ × β)) : Hp → V → Prop := fun H v => ∃ d kvs, v = .ref d ∧ Kn H d (.dK kvs) ∧ DR e (fun b u => R b H u) l kvs
def DcT (R : β → Hp → V → Prop) (l : List (Pl × β)) : Hp → V → Prop := fun H v => ∃ d kvs, v = .ref d ∧ Kn H d (.dT kvs) ∧ DR pk (fun b u => R b H u) l kvs
instance [∀ b, Mo (R b)] {l : List (κ × β)} : Mo (DcK e R l) := ⟨fun u h => by
  obtain ⟨d, kvs, rfl, h1, h2⟩ := h
  exact ⟨d, kvs, rfl, u.dK h1, paired_imp (fun x q (z : q.1 = e x.1 ∧ R x.2 _ q.2) => ⟨z.1, Mo.up (P := R x.2) u z.2⟩) h2⟩⟩
instance [∀ b, Mo (R b)] {l : List (Pl × β)} : Mo (DcT R l) := ⟨fun u h => by
  obtain ⟨d, kvs, rfl, h1, h2⟩ := h
  exact ⟨d, kvs, rfl, u.dT h1, paired_imp (fun x q (z : q.1 = pk x.1 ∧ R x.2 _ q.2) => ⟨z.1, Mo.up (P := R x.2) u z.2⟩) h2⟩⟩
theorem DR.mo [∀ b, Mo (R b)] {K' : Type} {f : κ → K'} {l : List (κ × β)} {kvs : List (K' × V)} (u : Up H H') (h : DR f (fun b w => R b H w) l kvs) : DR f (fun b w => R b H' w) l kvs :=
  paired_imp (fun x q (z : q.1 = f x.1 ∧ R x.2 _ q.2) => ⟨z.1, Mo.up (P := R x.2) u z.2⟩) h
theorem Kn.sub {a : Addr} {o : HO} (s : Same G H) (h : Kn G a o) : Kn H a o := by
  rcases h with h | ⟨k, oo, h⟩
  · exact .inl (s _ _ h)
  · exact .inr ⟨k, oo, s _ _ h⟩
variable [∀ b, Mo (R b)]
/-- k in d -/
theorem ev_inK (inj : ∀ a b, e a = e b → a = b) {l : List (κ × β)} (k : κ) (hk : Ev M ty σ G (Is (kV (e k)))) (hd : Ev M td σ G (DcK e R l)) : Ev M (tDIn ty td) σ G (Is (.bl (lk l k).isSome)) := fun G1 H1 e1 f Q q =>
  hk G1 H1 e1 f _ fun y G2 H2 e2 py => hd G2 H2 (e1.trans e2.gw) (f.ext e2) _ fun x G3 H3 e3 px => by
    obtain ⟨d, kvs, rfl, h1, h2⟩ := px
    refine ⟨d, _, rfl, .inl ⟨kvs, e k, (h1.sub e3.sub).rd, py, rfl⟩, ?_⟩
    rw [h2.isSome inj k]
    exact q _ G3 H3 (e2.trans e3) rfl
theorem ev_ninK (inj : ∀ a b, e a = e b → a = b) {l : List (κ × β)} (k : κ) (hk : Ev M ty σ G (Is (kV (e k)))) (hd : Ev M td σ G (DcK e R l)) : Ev M (tDNotIn ty td) σ G (Is (.bl (!(lk l k).isSome))) := fun G1 H1 e1 f Q q =>
  hk G1 H1 e1 f _ fun y G2 H2 e2 py => hd G2 H2 (e1.trans e2.gw) (f.ext e2) _ fun x G3 H3 e3 px => by
    obtain ⟨d, kvs, rfl, h1, h2⟩ := px
    refine ⟨d, _, rfl, .inl ⟨kvs, e k, (h1.sub e3.sub).rd, py, rfl⟩, ?_⟩
    rw [h2.isSome inj k]
    exact q _ G3 H3 (e2.trans e3) rfl
/-- d[k] -/
theorem ev_getK (inj : ∀ a b, e a = e b → a = b) {l : List (κ × β)} (k : κ) {c : β} (hl : lk l k = some c) (hd : Ev M td σ G (DcK e R l)) (hk : Ev M ty σ G (Is (kV (e k)))) : Ev M (tDGet td ty) σ G (R c) := fun G1 H1 e1 f Q q =>
  hd G1 H1 e1 f _ fun x G2 H2 e2 px => hk G2 H2 (e1.trans e2.gw) (f.ext e2) _ fun y G3 H3 e3 py => by
    obtain ⟨d, kvs, rfl, h1, h2⟩ := Mo.up (P := DcK e R l) (sm_up e3.gs) px
    obtain ⟨v, hv, rv⟩ := h2.some_ inj hl
    exact ⟨d, v, rfl, .inl ⟨kvs, e k, (h1.sub e3.sub).rd, py, hv.symm⟩, q v G3 H3 (e2.trans e3) rv⟩
/-- d.get(k, x) -/
theorem ev_get2K (inj : ∀ a b, e a = e b → a = b) {l : List (κ × β)} (k : κ) {tx : TE} [Mo P] (hd : Ev M td σ G (DcK e R l)) (hk : Ev M ty σ G (Is (kV (e k)))) (hx : Ev M tx σ G P) (h1 : ∀ c, lk l k = some c → ∀ H v, R c H v → P' H v) (h2 : lk l k = none → ∀ H v, P H v → P' H v) :
    Ev M (tDGet2 td ty tx) σ G P' := fun G1 H1 e1 f Q q => hd G1 H1 e1 f _ fun x G2 H2 e2 px => by
  obtain ⟨d, kvs, rfl, k1, k2⟩ := id px
  refine ⟨d, rfl, .inl ⟨kvs, (k1.sub e2.sub).rd⟩, hk G2 H2 (e1.trans e2.gw) (f.ext e2) _ fun y G3 H3 e3 py => hx G3 H3 ((e1.trans e2.gw).trans e3.gw) ((f.ext e2).ext e3) _ fun z G4 H4 e4 pz => ?_⟩
  have kn4 := (sm_up (e3.trans e4).gs).dK k1
  have k4 := DR.mo (sm_up (e3.trans e4).gs) k2
  refine ⟨_, .inl ⟨kvs, e k, (kn4.sub e4.sub).rd, py, rfl⟩, ?_⟩
  have s4 := (e2.trans e3).trans e4
  cases hl : lk l k with
  | none =>
    rw [k4.none_ inj hl]
    exact q _ G4 H4 s4 (h2 hl _ _ pz)
  | some c =>
    obtain ⟨v, hv, rv⟩ := k4.some_ inj hl
    rw [hv]
    exact q _ G4 H4 s4 (h1 c hl _ _ rv)
end
section
variable {β : Type} {R : β → Hp → V → Prop} [∀ b, Mo (R b)] {l : List (Pl × β)}
theorem ev_inT (p : Pl) (hk : Ev M ty σ G (PlA p)) (hd : Ev M td σ G (DcT R l)) : Ev M (tDIn ty td) σ G (Is (.bl (lk l p).isSome)) := fun G1 H1 e1 f Q q =>
  hk G1 H1 e1 f _ fun y G2 H2 e2 py => hd G2 H2 (e1.trans e2.gw) (f.ext e2) _ fun x G3 H3 e3 px => by
    obtain ⟨d, kvs, rfl, h1, h2⟩ := px
    obtain ⟨a, rfl, ha⟩ := Mo.up (P := PlA p) (sm_up e3.gs) py
    refine ⟨d, _, rfl, .inr ⟨kvs, pk p, a, (h1.sub e3.sub).rd, rfl, e3.sub _ _ ha, rfl⟩, ?_⟩
    rw [h2.isSome pk_inj p]
    exact q _ G3 H3 (e2.trans e3) rfl
theorem ev_ninT (p : Pl) (hk : Ev M ty σ G (PlA p)) (hd : Ev M td σ G (DcT R l)) : Ev M (tDNotIn ty td) σ G (Is (.bl (!(lk l p).isSome))) := fun G1 H1 e1 f Q q =>
  hk G1 H1 e1 f _ fun y G2 H2 e2 py => hd G2 H2 (e1.trans e2.gw) (f.ext e2) _ fun x G3 H3 e3 px => by
    obtain ⟨d, kvs, rfl, h1, h2⟩ := px
    obtain ⟨a, rfl, ha⟩ := Mo.up (P := PlA p) (sm_up e3.gs) py
    refine ⟨d, _, rfl, .inr ⟨kvs, pk p, a, (h1.sub e3.sub).rd, rfl, e3.sub _ _ ha, rfl⟩, ?_⟩
    rw [h2.isSome pk_inj p]
    exact q _ G3 H3 (e2.trans e3) rfl
theorem ev_getT (p : Pl) {c : β} (hl : lk l p = some c) (hd : Ev M td σ G (DcT R l)) (hk : Ev M ty σ G (PlA p)) : Ev M (tDGet td ty) σ G (R c) := fun G1 H1 e1 f Q q =>
  hd G1 H1 e1 f _ fun x G2 H2 e2 px => hk G2 H2 (e1.trans e2.gw) (f.ext e2) _ fun y G3 H3 e3 py => by
    obtain ⟨d, kvs, rfl, h1, h2⟩ := Mo.up (P := DcT R l) (sm_up e3.gs) px
    obtain ⟨v, hv, rv⟩ := h2.some_ pk_inj hl
    obtain ⟨a, rfl, ha⟩ := py
    exact ⟨d, v, rfl, .inr ⟨kvs, pk p, a, (h1.sub e3.sub).rd, rfl, e3.sub _ _ ha, hv.symm⟩, q v G3 H3 (e2.trans e3) rv⟩
end
/-! ### items of lists, tuples -/
section
variable {β : Type} {R : β → Hp → V → Prop} [∀ b, Mo (R b)] {l : List β}
theorem atI_some {vs : List V} {i : Nat} {v : V} (h : vs[i]? = some v) : atI vs (i : Int) = some v := atI_nat h
end
/-! ### what is walked -/
section
variable {β γ : Type} {R : β → Hp → V → Prop}
/-- J gives what stands for the items of l -/
def SrcW (M : Option Addr) (J : It) (l : List β) (R : β → Hp → V → Prop) (G : Hp) : Prop := ∃ (Gp : Hp → Prop) (Y : Nat → Hp → V → Hp → Prop), Walk J l.length Gp Y ∧ (∀ H3, Same G H3 → Gp H3) ∧
  ∀ i H3 x H4 G3, Gw G G3 → Fr M G3 H3 → Y i H3 x H4 → ∃ b G4, l[i]? = some b ∧ Ext M G3 H3 G4 H4 ∧ R b G4 x
def Src (M : Option Addr) (wi : TI) (σ : L2.St) (G : Hp) (l : List β) (R : β → Hp → V → Prop) : Prop := ∀ G1 H1, Gw G G1 → Fr M G1 H1 → ∀ Rk : It → Hp → Prop, (∀ J G2 H2, Ext M G1 H1 G2 H2 → SrcW M J l R G2 → Rk J H2) → wi σ H1 Rk
theorem paired_ix {F : β → γ → Prop} {l : List β} {m : List γ} (h : Paired F l m) {i : Nat} {b : γ} (e : m[i]? = some b) : ∃ a, l[i]? = some a ∧ F a b := paired_at h e
theorem src_lst [∀ b, Mo (R b)] {l : List β} (h : Ev M te σ G (LsA R l)) : Src M (iList K te) σ G l R := fun G1 H1 e f Rk k => h G1 H1 e f _ fun v G2 H2 e2 p => by
  obtain ⟨a, vs, rfl, h1, h2⟩ := p
  refine ⟨a, rfl, ⟨_, SqL.of (e2.sub _ _ h1)⟩, k _ G2 H2 e2 ⟨fun H => SqL K H a vs, YAt vs, by rw [← paired_len h2]; exact walk_list (xs := vs), fun H3 s => SqL.of (s _ _ h1), fun i H3 x H4 G3 s3 f3 y => ?_⟩⟩
  obtain ⟨rfl, y⟩ := y
  obtain ⟨b, hb, rb⟩ := paired_at h2 y
  exact ⟨b, G3, hb, Ext.rfl' f3, mo_same s3.gs rb⟩
theorem src_tup [∀ b, Mo (R b)] {l : List β} (h : Ev M te σ G (TuA R l)) : Src M (iTup K te) σ G l R := fun G1 H1 e f Rk k => h G1 H1 e f _ fun v G2 H2 e2 p => by
  obtain ⟨a, vs, rfl, h1, h2⟩ := p
  refine ⟨a, rfl, ⟨_, SqT.of (e2.sub _ _ h1)⟩, k _ G2 H2 e2 ⟨fun H => SqT K H a vs, YAt vs, by rw [← paired_len h2]; exact walk_tup (xs := vs), fun H3 s => SqT.of (s _ _ h1), fun i H3 x H4 G3 s3 f3 y => ?_⟩⟩
  obtain ⟨rfl, y⟩ := y
  obtain ⟨b, hb, rb⟩ := paired_at h2 y
  exact ⟨b, G3, hb, Ext.rfl' f3, mo_same s3.gs rb⟩
theorem src_rng {n : Nat} (h : Ev M te σ G (Is (.int n))) (hn : n < 100000) : Src M (iRng1 (tCons te tNil)) σ G (List.range n) (fun i => Is (.int (i : Nat))) := fun G1 H1 e f Rk k => h G1 H1 e f _ fun v G2 H2 e2 p => by
  cases p
  have k' := k (Itr 0 (n : Int).toNat) G2 H2 e2 ⟨fun _ => True, fun i H x H' => H' = H ∧ x = .int (0 + (i : Nat)) ∧ i < n, ?_, fun _ _ => trivial, fun i H3 x H4 G3 s3 f3 y => ?_⟩
  · exact ⟨(n : Int), rfl, by omega, by omega, k'⟩
  · rw [List.length_range, Int.toNat_natCast]
    exact (walk_range (lo := 0) (n := n)).mono (fun _ _ => trivial) fun i H x H' hi _ y => ⟨y.1, y.2, hi⟩
  · obtain ⟨rfl, rfl, hi⟩ := y
    refine ⟨i, G3, by rw [List.getElem?_range hi], Ext.rfl' f3, ?_⟩
    show V.int _ = V.int _
    rw [Int.zero_add]
theorem src_enum [∀ b, Mo (R b)] {l : List β} (h : Ev M te σ G (LsA R l)) : Src M (iEnum K (tCons te tNil)) σ G l.zipIdx (fun b => TupP [Is (.int (b.2 : Nat)), R b.1]) := fun G1 H1 e f Rk k => h G1 H1 e f _ fun v G2 H2 e2 p => by
  obtain ⟨a, vs, rfl, h1, h2⟩ := p
  refine ⟨a, vs, rfl, SqL.of (e2.sub _ _ h1), k _ G2 H2 e2 ⟨fun H => SqL K H a vs, YPair (fun i => some (.int (i : Nat))) (fun i => vs[i]?), ?_, fun H3 s => SqL.of (s _ _ h1), fun i H3 x H4 G3 s3 f3 y => ?_⟩⟩
  · rw [List.length_zipIdx, ← paired_len h2]
    exact walk_enum (xs := vs)
  obtain ⟨T, x1, x2, rfl, nT, rfl, y1, y2⟩ := y
  obtain ⟨b, hb, rb⟩ := paired_at h2 y2
  refine ⟨(b, i), _, ?_, Ext.new f3 nT (fun _ _ z => by cases z), T, _, rfl, upd_same, .cons (Option.some.inj y1).symm (.cons ?_ .nil)⟩
  · rw [List.getElem?_zipIdx, hb]
    simp
  · exact Mo.up (P := R b) (up_new (f3.free nT)) (mo_same s3.gs rb)
/-- the items of a locked dict: texts, ints; places -/
theorem src_itK {κ : Type} [DecidableEq κ] {e : κ → Key} {d : Addr} {o : Obj} [∀ b, Mo (R b)] {l : List (κ × β)} {kvs : List (Key × V)} (hd : Ev M td σ G (Is (.ref d))) (hG : G d = some (.frz o (.dK kvs))) (hr : DR e (fun b u => R b G u) l kvs) : Src M (iItems td) σ G l (fun b => TupP [Is (kV (e b.1)), R b.2]) := fun G1 H1 e1 f Rk k =>
  hd G1 H1 e1 f _ fun v G2 H2 e2 p => by
    cases p
    have hG2 := (e1.trans e2.gw).gs _ _ hG
    have r2 := DR.mo (sm_up (e1.trans e2.gw).gs) hr
    refine ⟨d, o, kvs, rfl, e2.sub _ _ hG2, k _ G2 H2 e2 ⟨fun H => H d = some (.frz o (.dK kvs)), YPair (fun i => kvs[i]?.map fun kv => kV kv.1) (fun i => kvs[i]?.map Prod.snd), by rw [← paired_len hr]; exact walk_items, fun H3 s => s _ _ hG2, fun i H3 x H4 G3 s3 f3 y => ?_⟩⟩
    obtain ⟨T, x1, x2, rfl, nT, rfl, y1, y2⟩ := y
    cases hi : kvs[i]? with
    | none =>
      have y1' : Option.map (fun kv => kV kv.1) kvs[i]? = some x1 := y1
      rw [hi] at y1'
      cases y1'
    | some q =>
      have y1' : Option.map (fun kv => kV kv.1) kvs[i]? = some x1 := y1
      have y2' : Option.map Prod.snd kvs[i]? = some x2 := y2
      clear y1 y2
      have y1 := y1'
      have y2 := y2'
      clear y1' y2'
      rw [hi] at y1 y2
      obtain ⟨b, hb, rb⟩ := paired_at r2 hi
      refine ⟨b, _, hb, Ext.new f3 nT (fun _ _ z => by cases z), T, _, rfl, upd_same, .cons ?_ (.cons ?_ .nil)⟩
      · cases y1
        show kV q.1 = kV (e b.1)
        rw [rb.1]
      · cases y2
        exact Mo.up (P := R b.2) (up_new (f3.free nT)) (mo_same s3.gs rb.2)
theorem walk_itT {d : Addr} {o : Obj} {kvs : List (List Key × V)} : Walk (Itit d o kvs) kvs.length (fun H => H d = some (.frz o (.dT kvs))) (fun i H x H' => ∃ (T q : Addr) (k : List Key) (v : V), kvs[i]? = some (k, v) ∧ x = .ref T ∧ H T = none ∧ H q = some (.tup (k.map kV)) ∧ H' = upd H T (.tup [.ref q, v])) :=
  ⟨fun i H hi h => ⟨h, hi⟩, fun H h => ⟨h, Nat.le_refl _⟩, fun i H x H' _ _ y => y⟩
theorem src_itT {d : Addr} {o : Obj} [∀ b, Mo (R b)] {l : List (Pl × β)} {kvs : List (List Key × V)} (hd : Ev M td σ G (Is (.ref d))) (hG : G d = some (.frz o (.dT kvs))) (hr : DR pk (fun b u => R b G u) l kvs) : Src M (iItemsT td) σ G l (fun b => TupP [PlA b.1, R b.2]) := fun G1 H1 e1 f Rk k =>
  hd G1 H1 e1 f _ fun v G2 H2 e2 p => by
    cases p
    have hG2 := (e1.trans e2.gw).gs _ _ hG
    have r2 := DR.mo (sm_up (e1.trans e2.gw).gs) hr
    refine ⟨d, o, kvs, rfl, e2.sub _ _ hG2, k _ G2 H2 e2 ⟨_, _, by rw [← paired_len hr]; exact walk_itT, fun H3 s => s _ _ hG2, fun i H3 x H4 G3 s3 f3 y => ?_⟩⟩
    obtain ⟨T, q, kk, vv, hi, rfl, nT, hq, rfl⟩ := y
    obtain ⟨b, hb, rb⟩ := paired_at r2 hi
    have x1 := Ext.know f3 hq
    have x2 := Ext.new (f3.ext x1) nT (o := .tup [.ref q, vv]) (fun _ _ z => by cases z)
    have nq : q ≠ T := ne_of_none hq nT
    refine ⟨b, _, hb, x1.trans x2, T, _, rfl, upd_same, .cons ⟨q, rfl, ?_⟩ (.cons ?_ .nil)⟩
    · rw [upd_ne nq, upd_same]
      have : kk = pk b.1 := rb.1
      rw [this]
      rfl
    · exact mo_same (x1.trans x2).gs (mo_same s3.gs rb.2)
/-- the keys of a locked dict of places -/
theorem src_keT {d : Addr} {o : Obj} {l : List (Pl × β)} {kvs : List (List Key × V)} {Rv : β → V → Prop} (hd : Ev M td σ G (Is (.ref d))) (hG : G d = some (.frz o (.dT kvs))) (hr : DR pk Rv l kvs) : Src M (iKeys td) σ G l (fun b => PlA b.1) := fun G1 H1 e1 f Rk k =>
  hd G1 H1 e1 f _ fun v G2 H2 e2 p => by
    cases p
    have hG2 := (e1.trans e2.gw).gs _ _ hG
    refine ⟨d, o, rfl, .inr ⟨kvs, e2.sub _ _ hG2, k _ G2 H2 e2 ⟨_, _, by rw [← paired_len hr]; exact walk_keysT, fun H3 s => s _ _ hG2, fun i H3 x H4 G3 s3 f3 y => ?_⟩⟩⟩
    obtain ⟨rfl, kk, vv, q, hi, rfl, hq⟩ := y
    obtain ⟨b, hb, rb⟩ := paired_at hr hi
    refine ⟨b, _, hb, Ext.know f3 hq, q, rfl, ?_⟩
    have : kk = pk b.1 := rb.1
    rw [upd_same, this]
    rfl
/-! ### locks -/
theorem ev_lock {te : TE} {d : Addr} {u : HO} [Mo P] (hd : G d = some u) (hu : DicO u) (h : ∀ od, Ev M te σ (upd G d (.frz od u)) P) : Ev M (tLockE te) σ G P := fun G1 H1 e f Q k => by
  have g1 := e.gs _ _ hd
  have hm : Mut (some u) := by
    cases u <;> first | exact trivial | exact absurd hu (fun z => z)
  refine ⟨d, u, f.sub _ _ g1, hm, fun od => ?_⟩
  have ew : Gw (upd G d (.frz od u)) (upd G1 d (.frz od u)) := ⟨sm_both e.gs, fun a o w q => by
    by_cases c : a = d
    · subst c
      rw [upd_same] at q ⊢
      exact q
    · rw [upd_ne c] at q ⊢
      exact e.nf _ _ _ q⟩
  have nd : ∀ p, M = some p → p ≠ d := fun p hp z => by
    have := (f.pot p hp).1
    rw [z, g1] at this
    cases this
  have f1 : Fr M (upd G1 d (.frz od u)) (upd H1 d (.frz od u)) := ⟨sm_both f.sub, fun p hp => by
    obtain ⟨a, b⟩ := f.pot p hp
    rw [upd_ne (nd p hp), upd_ne (nd p hp)]
    exact ⟨a, b⟩⟩
  refine h od _ _ ew f1 _ fun v G2 H2 e2 p => ?_
  have gd : G2 d = some (.frz od u) := e2.gs _ _ upd_same
  refine ⟨e2.sub _ _ gd, k v (upd G2 d u) _ ⟨fun a o n q => ?_, sm_unlock e2.gs g1, sm_both e2.sub, fun a q g => ?_, fun a o w q => ?_, fun p hp => ?_⟩ (Mo.up (Up.unlock gd) p)⟩
  · by_cases c : a = d
    · subst c
      rw [f.sub _ _ g1] at q
      cases q
      exact upd_same
    · rw [upd_ne c]
      refine e2.same a o n ?_
      rw [upd_ne c]
      exact q
  · have c : a ≠ d := fun z => by rw [z, g1] at g; cases g
    rw [upd_ne c]
    refine e2.av a ?_ ?_
    · obtain ⟨o, q, n⟩ := q
      exact ⟨o, by rw [upd_ne c]; exact q, n⟩
    · rw [upd_ne c]
      exact g
  · by_cases c : a = d
    · subst c
      rw [upd_same] at q
      cases q
      exact absurd hu fun z => z
    · rw [upd_ne c] at q
      have := e2.nf a o w q
      rw [upd_ne c] at this
      exact this
  · obtain ⟨x, y, q⟩ := e2.pot p hp
    exact ⟨x, y, by rw [upd_ne (nd p hp)]; exact q⟩
/-! ### comprehensions -/
theorem szl {n m : Nat} (h : n ≤ m) (hm : m ≤ 100000) : n ≤ sizeLine := sz_small (Nat.le_trans h hm)
/-- an object of one's own changes -/
theorem Ext.mutD (e : Ext M G H G' H') {D : Addr} {o : HO} (hD : H D = none) (g : G' D = none) (nM : M ≠ some D) : Ext M G H G' (upd H' D o) :=
  ⟨fun a u n z => by
    rw [upd_ne (ne_of_none z hD)]
    exact e.same a u n z, e.gs, sm_mut e.sub g, e.av, e.nf, fun p hp => by
    have : p ≠ D := fun z => nM (by rw [hp, z])
    obtain ⟨x, y, z⟩ := e.pot p hp
    exact ⟨x, y, by rw [upd_ne this]; exact z⟩⟩
/-- .. and is known from here on -/
theorem Ext.learn (e : Ext M G H G' H') {D : Addr} {o : HO} (hD : H D = none) (g : G' D = none) (h : H' D = some o) (nf : NoFrz o) : Ext M G H (upd G' D o) H' :=
  ⟨e.same, fun a u z => by
    have z' := e.gs _ _ z
    rw [upd_ne (ne_of_none z' g)]
    exact z', sm_add e.sub h, fun a q z => by
    obtain ⟨u, q', n⟩ := q
    rw [upd_ne (ne_of_none q' hD)]
    exact e.av a ⟨u, q', n⟩ z, fun a q u z => by
    by_cases c : a = D
    · subst c
      rw [upd_same] at z
      cases z
      exact absurd rfl (nf _ _)
    · rw [upd_ne c] at z
      exact e.nf _ _ _ z, e.pot⟩
theorem Fr.notM (f : Fr M G H) {D : Addr} (h : H D = none) : M ≠ some D := fun z => by
  obtain ⟨x', y', q⟩ := (f.pot D z).2
  rw [q] at h
  cases h
/-- a turn of a comprehension -/
def TurnC (M : Option Addr) (G : Hp) (l : List β) (R : β → Hp → V → Prop) (g : TG) (σ : L2.St) (vs : List Nat) (S : β → L2.St → Hp → Prop) : Prop :=
  ∀ b, b ∈ l → ∀ x G' H', Gw G G' → Fr M G' H' → R b G' x → ∀ Q : L2.St → Hp → Prop, (∀ σ2, wipe σ2 vs = wipe σ vs → S b σ2 G' → Q σ2 H') → g x (wipe σ vs) H' Q
/-- [e for x in l if ..] -/
theorem ev_lc {wi : TI} {g : TG} {tt : TT} {te : TE} {vs : List Nat} {l : List β} {R' : γ → Hp → V → Prop} [∀ c, Mo (R' c)] (F : β → Option γ) (hs : Src M wi σ G l R) (hl : l.length < 100000)
    (hb : TurnC M G l R g σ vs fun b σ2 G' => EvT M tt σ2 G' (F b).isSome ∧ ∀ c, F b = some c → Ev M te σ2 G' (R' c)) :
    Ev M (tLc wi g tt te vs) σ G (LsA R' (l.filterMap F)) := fun G1 H1 e f Q k => hs G1 H1 e f _ fun J G2 H2 e2 hw D nD => by
  obtain ⟨Gp, Y, w, hG, hy⟩ := hw
  have f2 := f.ext e2
  have gD : G2 D = none := f2.free nD
  have nM := f2.notM nD
  refine lc_it w (fun i H => ∃ G3 acc, G3 D = none ∧ Ext M G2 H2 G3 H ∧ H D = some (.lst acc) ∧ Paired (fun c u => R' c G3 u) ((l.take i).filterMap F) acc) ?_ (fun i H _ hP => ?_) ?_ ?_
  · exact ⟨G2, [], gD, Ext.mutD (Ext.rfl' f2) nD gD nM, upd_same, .nil⟩
  · obtain ⟨G3, acc, _, x3, _, _⟩ := hP
    exact hG _ (x3.gs.trans x3.sub)
  · rintro i x H H' hi ⟨G3, acc, d3, x3, hD, pr⟩ hY
    have f3 : Fr M G3 H := f2.ext x3
    obtain ⟨b, G4, hbi, x4, rb⟩ := hy i H x H' G3 x3.gw f3 hY
    have hmem : b ∈ l := List.mem_of_getElem? hbi
    have f4 := f3.ext x4
    have tk : (l.take (i + 1)).filterMap F = (l.take i).filterMap F ++ (F b).toList := by
      rw [List.take_add_one, hbi]
      show List.filterMap F (l.take i ++ [b]) = _
      rw [List.filterMap_append]
      cases q : F b <;> simp [q]
    refine hb b hmem x G4 H' ((e.trans e2.gw).trans (x3.gw.trans x4.gw)) f4 rb _ fun σ2 hσ hh => ⟨hσ, hh.1 G4 H' (Gw.rfl' _) f4 _ fun G5 H5 x5 => ?_⟩
    have he := hh.2
    have f5 := f4.ext x5
    cases q : F b with
    | none =>
      show (if (none : Option γ).isSome = true then _ else _)
      rw [if_neg (by simp)]
      have x35 := x4.trans x5
      refine ⟨G5, acc, ?_, x3.trans x35, x35.same _ _ nM hD, ?_⟩
      · exact x35.av D ⟨_, hD, fun _ z => by cases z⟩ d3
      · rw [tk, q]
        show Paired _ ((l.take i).filterMap F ++ []) acc
        rw [List.append_nil]
        exact paired_imp (fun c u z => mo_same (P := R' c) x35.gs z) pr
    | some c =>
      show (if (some c).isSome = true then _ else _)
      rw [if_pos (by simp)]
      refine he c q G5 H5 x5.gw f5 _ fun y G6 H6 x6 ry => ?_
      have x36 := (x4.trans x5).trans x6
      have hD6 := x36.same _ _ nM hD
      have d6 := x36.av D ⟨_, hD, fun _ z => by cases z⟩ d3
      have pl := paired_len pr
      refine ⟨acc, hD6, ?_, G6, acc ++ [y], d6, Ext.mutD (x3.trans x36) nD d6 nM, upd_same, ?_⟩
      · rw [pl]
        refine sz_lt (Nat.lt_of_le_of_lt (Nat.le_trans (List.length_filterMap_le _ _) ?_) hl)
        rw [List.length_take]
        exact Nat.min_le_right _ _
      · rw [tk, q]
        exact paired_snoc (paired_imp (fun c u z => mo_same (P := R' c) x36.gs z) pr) ry
  · rintro H ⟨G3, acc, d3, x3, hD, pr⟩
    rw [List.take_length] at pr
    refine k _ (upd G3 D (.lst acc)) H (e2.trans (Ext.learn x3 nD d3 hD fun _ _ z => by cases z)) ⟨D, acc, rfl, upd_same, ?_⟩
    exact paired_imp (fun c u z => Mo.up (P := R' c) (up_new d3) z) pr
theorem fm_map {δ ε : Type} (φ : δ → ε) (l : List δ) : l.filterMap (fun b => some (φ b)) = l.map φ := by
  rw [← List.filterMap_eq_map]
  rfl
/-- no test -/
theorem ev_lcM {wi : TI} {g : TG} {te : TE} {vs : List Nat} {l : List β} {R' : γ → Hp → V → Prop} [∀ c, Mo (R' c)] (φ : β → γ) (hs : Src M wi σ G l R) (hl : l.length < 100000)
    (hb : TurnC M G l R g σ vs fun b σ2 G' => Ev M te σ2 G' (R' (φ b))) :
    Ev M (tLc wi g tYes te vs) σ G (LsA R' (l.map φ)) := by
  have := ev_lc (te := te) (tt := tYes) (R' := R') (fun b => some (φ b)) hs hl (fun b hm x G' H' e f r Q k => hb b hm x G' H' e f r Q fun σ2 h1 h2 => k σ2 h1 ⟨et_yes, fun c hc => by cases hc; exact h2⟩)
  rw [fm_map] at this
  exact this
/-- a table from pairs -/
def mkT {κ : Type} [DecidableEq κ] (l : List (κ × γ)) : List (κ × γ) := l.foldl (fun t q => pt t q.1 q.2) []
theorem mkT_snoc {κ : Type} [DecidableEq κ] (l : List (κ × γ)) (q : κ × γ) : mkT (l ++ [q]) = pt (mkT l) q.1 q.2 := by
  unfold mkT
  rw [List.foldl_append]
  rfl
theorem mkT_len {κ : Type} [DecidableEq κ] (l : List (κ × γ)) : (mkT l).length ≤ l.length := by
  unfold mkT
  have : ∀ (l acc : List (κ × γ)), (l.foldl (fun t q => pt t q.1 q.2) acc).length ≤ acc.length + l.length := by
    intro l
    induction l with
    | nil => intro acc; exact Nat.le_refl _
    | cons x l ih =>
      intro acc
      have := ih (pt acc x.1 x.2)
      have h2 := pt_len acc x.1 x.2
      rw [List.foldl_cons, List.length_cons]
      omega
  have h := this l []
  rw [List.length_nil, Nat.zero_add] at h
  exact h
theorem mkT_nd {κ : Type} [DecidableEq κ] : ∀ (l : List (κ × γ)), (l.map (·.1)).Nodup → mkT l = l := by
  have : ∀ (l acc : List (κ × γ)), ((acc ++ l).map (·.1)).Nodup → l.foldl (fun t q => pt t q.1 q.2) acc = acc ++ l := by
    intro l
    induction l with
    | nil => intro acc _; simp
    | cons x l ih =>
      intro acc h
      rw [List.foldl_cons]
      have hn : lk acc x.1 = none := by
        rw [lk_none]
        intro hm
        rw [List.map_append] at h
        exact (List.nodup_append.mp h).2.2 _ hm _ (List.mem_map.mpr ⟨x, List.mem_cons_self, rfl⟩) rfl
      rw [pt_new _ hn, ih]
      · simp
      · simpa using h
  intro l h
  exact this l [] h
/-- {k: v for x in l if ..} -/
theorem ev_dcK {κ : Type} [DecidableEq κ] {ek : κ → Key} {wi : TI} {g : TG} {tt : TT} {tk tv : TE} {vs : List Nat} {l : List β} {R' : γ → Hp → V → Prop} [∀ c, Mo (R' c)] (inj : ∀ a b, ek a = ek b → a = b) (F : β → Option (κ × γ)) (hs : Src M wi σ G l R) (hl : l.length < 100000)
    (hb : TurnC M G l R g σ vs fun b σ2 G' => EvT M tt σ2 G' (F b).isSome ∧ ∀ c, F b = some c → Ev M tk σ2 G' (Is (kV (ek c.1))) ∧ Ev M tv σ2 G' (R' c.2)) :
    Ev M (tDc wi g tt tk tv vs) σ G (DcK ek R' (mkT (l.filterMap F))) := fun G1 H1 e f Q k => hs G1 H1 e f _ fun J G2 H2 e2 hw D nD => by
  obtain ⟨Gp, Y, w, hG, hy⟩ := hw
  have f2 := f.ext e2
  have gD : G2 D = none := f2.free nD
  have nM := f2.notM nD
  refine ⟨fun i m H => ∃ G3 kvs, i + m = l.length ∧ G3 D = none ∧ Ext M G2 H2 G3 H ∧ H D = some (.dK kvs) ∧ DR ek (fun c u => R' c G3 u) (mkT ((l.take i).filterMap F)) kvs, ⟨l.length, G2, [], by omega, gD, Ext.mutD (Ext.rfl' f2) nD gD nM, upd_same, .nil⟩, fun i m H hP => ?_⟩
  obtain ⟨G3, kvs, him, d3, x3, hD, pr⟩ := hP
  have sG := hG _ (x3.gs.trans x3.sub)
  by_cases hi : i < l.length
  · refine .inr ⟨w.goes i H hi sG, fun H' => ∃ G3 kvs, G3 D = none ∧ Ext M G2 H2 G3 H' ∧ H' D = some (.dK kvs) ∧ DR ek (fun c u => R' c G3 u) (mkT ((l.take (i + 1)).filterMap F)) kvs, fun H' ⟨a, b, c⟩ => ⟨m - 1, by omega, a, b, by omega, c⟩, fun x H' hyy => ?_⟩
    have hY := w.yields i H x H' hi sG hyy
    have f3 : Fr M G3 H := f2.ext x3
    obtain ⟨b, G4, hbi, x4, rb⟩ := hy i H x H' G3 x3.gw f3 hY
    have hmem : b ∈ l := List.mem_of_getElem? hbi
    have f4 := f3.ext x4
    have tkk : (l.take (i + 1)).filterMap F = (l.take i).filterMap F ++ (F b).toList := by
      rw [List.take_add_one, hbi]
      show List.filterMap F (l.take i ++ [b]) = _
      rw [List.filterMap_append]
      cases q : F b <;> simp [q]
    refine hb b hmem x G4 H' ((e.trans e2.gw).trans (x3.gw.trans x4.gw)) f4 rb _ fun σ2 hσ hh => ⟨hσ, hh.1 G4 H' (Gw.rfl' _) f4 _ fun G5 H5 x5 => ?_⟩
    have he := hh.2
    have f5 := f4.ext x5
    cases q : F b with
    | none =>
      show (if (none : Option (κ × γ)).isSome = true then _ else _)
      rw [if_neg (by simp)]
      have x35 := x4.trans x5
      refine ⟨G5, kvs, ?_, x3.trans x35, x35.same _ _ nM hD, ?_⟩
      · exact x35.av D ⟨_, hD, fun _ z => by cases z⟩ d3
      · rw [tkk, q]
        show DR ek _ (mkT ((l.take i).filterMap F ++ [])) kvs
        rw [List.append_nil]
        exact DR.mo (sm_up x35.gs) pr
    | some c =>
      show (if (some c).isSome = true then _ else _)
      rw [if_pos (by simp)]
      refine (he c q).1 G5 H5 x5.gw f5 _ fun y G6 H6 x6 ry => ?_
      refine (he c q).2 G6 H6 (x5.gw.trans x6.gw) (f5.ext x6) _ fun z G7 H7 x7 rz => ?_
      have x37 := ((x4.trans x5).trans x6).trans x7
      have hD7 := x37.same _ _ nM hD
      have d7 := x37.av D ⟨_, hD, fun _ z => by cases z⟩ d3
      have pl := paired_len pr
      refine ⟨kvs, ek c.1, ry, hD7, ?_, G7, _, d7, Ext.mutD (x3.trans x37) nD d7 nM, upd_same, ?_⟩
      · rw [pl]
        refine sz_lt (Nat.lt_of_le_of_lt (Nat.le_trans (mkT_len _) (Nat.le_trans (List.length_filterMap_le _ _) ?_)) hl)
        rw [List.length_take]
        exact Nat.min_le_right _ _
      · rw [tkk, q]
        show DR ek _ (mkT ((l.take i).filterMap F ++ [c])) _
        rw [mkT_snoc]
        exact DR.put inj (DR.mo (sm_up x37.gs) pr) rz
  · have hi' : i = l.length := by omega
    subst hi'
    refine .inl ⟨w.stops H sG, ?_⟩
    rw [List.take_length] at pr
    refine k _ (upd G3 D (.dK kvs)) H (e2.trans (Ext.learn x3 nD d3 hD fun _ _ z => by cases z)) ⟨D, kvs, rfl, .inl upd_same, ?_⟩
    exact DR.mo (up_new d3) pr
theorem ev_dcT {wi : TI} {g : TG} {tt : TT} {tk tv : TE} {vs : List Nat} {l : List β} {R' : γ → Hp → V → Prop} [∀ c, Mo (R' c)] (F : β → Option (Pl × γ)) (hs : Src M wi σ G l R) (hl : l.length < 100000)
    (hb : TurnC M G l R g σ vs fun b σ2 G' => EvT M tt σ2 G' (F b).isSome ∧ ∀ c, F b = some c → Ev M tk σ2 G' (PlA c.1) ∧ Ev M tv σ2 G' (R' c.2)) :
    Ev M (tDcT wi g tt tk tv vs) σ G (DcT R' (mkT (l.filterMap F))) := fun G1 H1 e f Q k => hs G1 H1 e f _ fun J G2 H2 e2 hw D nD => by
  obtain ⟨Gp, Y, w, hG, hy⟩ := hw
  have f2 := f.ext e2
  have gD : G2 D = none := f2.free nD
  have nM := f2.notM nD
  refine ⟨fun i m H => ∃ G3 kvs, i + m = l.length ∧ G3 D = none ∧ Ext M G2 H2 G3 H ∧ H D = some (.dT kvs) ∧ DR pk (fun c u => R' c G3 u) (mkT ((l.take i).filterMap F)) kvs, ⟨l.length, G2, [], by omega, gD, Ext.mutD (Ext.rfl' f2) nD gD nM, upd_same, .nil⟩, fun i m H hP => ?_⟩
  obtain ⟨G3, kvs, him, d3, x3, hD, pr⟩ := hP
  have sG := hG _ (x3.gs.trans x3.sub)
  by_cases hi : i < l.length
  · refine .inr ⟨w.goes i H hi sG, fun H' => ∃ G3 kvs, G3 D = none ∧ Ext M G2 H2 G3 H' ∧ H' D = some (.dT kvs) ∧ DR pk (fun c u => R' c G3 u) (mkT ((l.take (i + 1)).filterMap F)) kvs, fun H' ⟨a, b, c⟩ => ⟨m - 1, by omega, a, b, by omega, c⟩, fun x H' hyy => ?_⟩
    have hY := w.yields i H x H' hi sG hyy
    have f3 : Fr M G3 H := f2.ext x3
    obtain ⟨b, G4, hbi, x4, rb⟩ := hy i H x H' G3 x3.gw f3 hY
    have hmem : b ∈ l := List.mem_of_getElem? hbi
    have f4 := f3.ext x4
    have tkk : (l.take (i + 1)).filterMap F = (l.take i).filterMap F ++ (F b).toList := by
      rw [List.take_add_one, hbi]
      show List.filterMap F (l.take i ++ [b]) = _
      rw [List.filterMap_append]
      cases q : F b <;> simp [q]
    refine hb b hmem x G4 H' ((e.trans e2.gw).trans (x3.gw.trans x4.gw)) f4 rb _ fun σ2 hσ hh => ⟨hσ, hh.1 G4 H' (Gw.rfl' _) f4 _ fun G5 H5 x5 => ?_⟩
    have he := hh.2
    have f5 := f4.ext x5
    cases q : F b with
    | none =>
      show (if (none : Option (Pl × γ)).isSome = true then _ else _)
      rw [if_neg (by simp)]
      have x35 := x4.trans x5
      refine ⟨G5, kvs, ?_, x3.trans x35, x35.same _ _ nM hD, ?_⟩
      · exact x35.av D ⟨_, hD, fun _ z => by cases z⟩ d3
      · rw [tkk, q]
        show DR pk _ (mkT ((l.take i).filterMap F ++ [])) kvs
        rw [List.append_nil]
        exact DR.mo (sm_up x35.gs) pr
    | some c =>
      show (if (some c).isSome = true then _ else _)
      rw [if_pos (by simp)]
      refine (he c q).1 G5 H5 x5.gw f5 _ fun y G6 H6 x6 ry => ?_
      refine (he c q).2 G6 H6 (x5.gw.trans x6.gw) (f5.ext x6) _ fun z G7 H7 x7 rz => ?_
      have x37 := ((x4.trans x5).trans x6).trans x7
      have hD7 := x37.same _ _ nM hD
      have d7 := x37.av D ⟨_, hD, fun _ z => by cases z⟩ d3
      have pl := paired_len pr
      obtain ⟨q', rfl, hq'⟩ := ry
      refine ⟨q', kvs, pk c.1, rfl, x7.sub _ _ (x7.gs _ _ hq'), hD7, ?_, G7, _, d7, Ext.mutD (x3.trans x37) nD d7 nM, upd_same, ?_⟩
      · rw [pl]
        refine sz_lt (Nat.lt_of_le_of_lt (Nat.le_trans (mkT_len _) (Nat.le_trans (List.length_filterMap_le _ _) ?_)) hl)
        rw [List.length_take]
        exact Nat.min_le_right _ _
      · rw [tkk, q]
        show DR pk _ (mkT ((l.take i).filterMap F ++ [c])) _
        rw [mkT_snoc]
        exact DR.put pk_inj (DR.mo (sm_up x37.gs) pr) rz
  · have hi' : i = l.length := by omega
    subst hi'
    refine .inl ⟨w.stops H sG, ?_⟩
    rw [List.take_length] at pr
    refine k _ (upd G3 D (.dT kvs)) H (e2.trans (Ext.learn x3 nD d3 hD fun _ _ z => by cases z)) ⟨D, kvs, rfl, .inl upd_same, ?_⟩
    exact DR.mo (up_new d3) pr
/-! ### for -/
/-- a for over it: Pv by the turn, the slots, the heap; G2 stands in each of them -/
theorem q_for {wi : TI} {g : TG} {tb tz : TS} {D : Ends} {l : List β} (f : Fr M G H) (hs : Src M wi σ G l R)
    (k : ∀ G2 H2, Ext M G H G2 H2 → ∃ Pv : Nat → L2.St → Hp → Prop, Pv 0 σ H2 ∧ (∀ i σ' H', Pv i σ' H' → Same G2 H') ∧
      (∀ i b σ1 H1, l[i]? = some b → Pv i σ1 H1 → ∀ x H', (∀ G3, Gw G2 G3 → Fr M G3 H1 → ∃ G4, Ext M G3 H1 G4 H' ∧ R b G4 x) → g x σ1 H' fun σ2 H3 => tb { D with nx := Pv (i + 1), ct := Pv (i + 1), bk := tz D } σ2 H3) ∧
      ∀ σ' H', Pv l.length σ' H' → tz D σ' H') : tSeq (tFor wi g tb) tz D σ H := hs G H (Gw.rfl' _) f _ fun J G2 H2 e2 hw => by
  obtain ⟨Gp, Y, w, hG, hy⟩ := hw
  obtain ⟨Pv, p0, p1, p2, p3⟩ := k G2 H2 e2
  refine for_it w Pv p0 (fun i σ' H' _ hP => hG _ (p1 i σ' H' hP)) (fun i x σ1 H1 H' hi hP hY => ?_) p3
  obtain ⟨b, hb⟩ : ∃ b, l[i]? = some b := ⟨_, List.getElem?_eq_getElem hi⟩
  refine p2 i b σ1 H1 hb hP x H' fun G3 e3 f3 => ?_
  obtain ⟨b', G4, hb', x4, r4⟩ := hy i H1 x H' G3 e3 f3 hY
  rw [hb] at hb'
  cases hb'
  exact ⟨G4, x4, r4⟩
end
end
end MR
/-! New rules of the hand layer: dict(pairs) with tuple keys, *d, sorted and min of data. -/
namespace L2
open PySem PySem.Spec PyProof.Rows
section
variable {X : Cx}
/-! ### dict(xs) of a list of pairs whose keys are tuples -/
def mergeT (kvs more : List (List Key × V)) : List (List Key × V) := more.foldl (fun acc kv => putK acc kv.1 kv.2) kvs
theorem mergeT_len : ∀ (more kvs : List (List Key × V)), (mergeT kvs more).length ≤ kvs.length + more.length
  | [], kvs => Nat.le_refl _
  | p :: r, kvs => by
    have h1 := mergeT_len r (putK kvs p.1 p.2)
    have h2 := length_putK kvs p.1 p.2
    show (mergeT (putK kvs p.1 p.2) r).length ≤ _
    rw [List.length_cons]
    omega
theorem KT.mergeT {H : Hp} : ∀ {more : List (List Key × V)} {ps : List (List Key × Addr × Value)} {kvs : List (List Key × V)} {xs : List (List Key × Addr × Value)}, KT H more ps → KT H kvs xs → KT H (L2.mergeT kvs more) (storedAllH xs ps)
  | _, _, _, _, .nil, r => r
  | _, _, kvs, xs, .cons (a := p) (b := q) (l₁ := l1) (l₂ := l2) h t, r => by
    have e := r.put (H := H) p.1 (b := q.2.1) h.2.1 h.2.2
    have e2 : storedH xs p.1 q.2.1 q.2.2 = storedH xs q.1 q.2.1 q.2.2 := by rw [h.1]
    rw [e2] at e
    show KT H (L2.mergeT (putK kvs p.1 p.2) l1) (storedAllH (storedH xs q.1 q.2.1 q.2.2) l2)
    exact KT.mergeT t e
/-- a pair (key, value) at p, the key a tracked tuple -/
def PairT (K : PySem.W.Frag) (H : Hp) (p : Addr) (kv : List Key × V) : Prop := ∃ b, SqT K H p [.ref b, kv.2] ∧ H b = some (.tup (kv.1.map kV))
theorem pairsT_of {pins : List (Addr × Obj)} {σ : St} {H : Hp} {s : Shared} (I : Inv X pins σ H s) : ∀ {ps : List Addr} {kvs : List (List Key × V)}, Paired (PairT X.K H) ps kvs →
    ∃ prs : List (List Key × Addr × Value), KT H kvs prs ∧ prs.length = ps.length ∧ ∀ (j : Nat) (q : List Key × Addr × Value), prs[j]? = some q → ∃ b : Addr, ps[j]? = some b ∧ IsTup s.heap b #[.ref q.2.1, q.2.2] ∧ (tupleKind (mixKind X.prog X.w)).is s.heap q.1 q.2.1
  | _, _, .nil => ⟨[], .nil, rfl, fun j q e => by cases e⟩
  | _, _, .cons (a := p) (b := kv) h t => by
    obtain ⟨prs, r, hl, hp⟩ := pairsT_of I t
    obtain ⟨b, hs, hb⟩ := h
    obtain ⟨its, rv, ht, _⟩ := I.tuple hs
    obtain ⟨u, y, rfl, ru, ry⟩ := vals2 rv
    cases (show u = Value.ref b from ru)
    refine ⟨(kv.1, b, y) :: prs, .cons ⟨rfl, hb, ry⟩ r, by rw [List.length_cons, List.length_cons, hl], fun j q e => ?_⟩
    cases j with
    | zero =>
      cases (Option.some.inj e)
      exact ⟨p, rfl, ht, key_of I.hok hb⟩
    | succ j => exact hp j q e
def rDictPT (K : PySem.W.Frag) : List V → Hp → VK → Prop := fun xs H Q => ∃ (a : Addr) (ps : List Addr) (kvs : List (List Key × V)), xs = [.ref a] ∧ SqL K H a (ps.map V.ref) ∧ Paired (PairT K H) ps kvs ∧
  ∀ p, H p = none → Q (.ref p) (upd H p (.dT (mergeT [] kvs)))
theorem call_dictPT (hc : X.calm = true) (hu : X.A.units + 64 < cLine) : CallR X (.type "dict") (rDictPT X.K) := by
  intro pins s σ H xs us Q I r q
  obtain ⟨a, ps, kvs, rfl, hq, hp, q⟩ := q
  obtain ⟨u, rfl, rx⟩ := vals1 r
  cases rx
  obtain ⟨its, rv, pl, hz⟩ := I.list hq
  have ei := refs_at rv
  rw [List.length_map] at hz
  obtain ⟨prs, rel, hl, hpr⟩ := pairsT_of I hp
  obtain ⟨o, n, ho, hcl, hd, hdat⟩ := pl
  have items : PairItems s.heap its.toArray (fun j => ps.getD j 0) (prs.map fun q => (Value.ref q.2.1, q.2.2)) := by
    refine ⟨?_, fun j k v e => ?_⟩
    · rw [ei, List.length_map, hl, List.size_toArray, List.length_map]
    · rw [List.getElem?_map] at e
      cases hj : prs[j]? with
      | none =>
        rw [hj] at e
        cases e
      | some q =>
        rw [hj] at e
        cases e
        obtain ⟨b, e1, e2, _⟩ := hpr j q hj
        have eb : ps.getD j 0 = b := by
          rw [List.getD_eq_getElem?_getD, e1]
          rfl
        show _ = some (Value.ref (ps.getD j 0)) ∧ PairAt s.heap (ps.getD j 0) _ _
        rw [eb]
        obtain ⟨ob, h1, h2, n2, h3⟩ := e2
        refine ⟨?_, .inl ⟨ob, h1, h2, n2, h3⟩⟩
        rw [ei]
        show (ps.map Value.ref).toArray[j]? = _
        rw [List.getElem?_toArray, List.getElem?_map, e1]
        rfl
  have P := PairArg.list (prog := X.prog) (w := X.w) a its.toArray (fun j => ps.getD j 0) (prs.map fun q => (Value.ref q.2.1, q.2.2))
  refine call_dict_pairsH (knd := tupleKind (mixKind X.prog X.w)) (ps := prs) P (I.ok.hd hc) (show X.A.in1.in1.units < cLine by show X.A.units + 1 + 1 < cLine; omega) ⟨⟨o, n, ho, hcl, hd, hdat⟩, items⟩ ⟨(List.length_map _).symm, fun i key v e => ?_⟩ (fun h' kp x hx => ?_) (by rw [List.length_map, hl]; exact hz) fun h' tk hd' kp => ?_
  · have e' : (prs.map fun q => (Value.ref q.2.1, q.2.2))[i]? = some (key, v) := e
    rw [List.getElem?_map] at e'
    cases hj : prs[i]? with
    | none =>
      rw [hj] at e'
      cases e'
    | some q =>
      rw [hj] at e'
      cases e'
      exact ⟨q.1, q.2.1, rfl, rfl⟩
  · obtain ⟨j, hj⟩ := List.getElem?_of_mem hx
    obtain ⟨b, _, _, e3⟩ := hpr j x hj
    refine tupleKind_stays.stays (fun c oc vs nc hc2 hdc => kp c oc ?_ (fun z => nomatch z) hc2) e3
    exact Nat.ne_of_lt (Heap.lt_size hc2)
  · have hm : (s.heap.objs.size == sysModules) = false := beq_eq_false_iff_ne.mpr (Nat.ne_of_gt I.big)
    have hlen : (mergeT [] kvs).length ≤ sizeLine := by
      refine Nat.le_trans (mergeT_len kvs []) ?_
      rw [List.length_nil, Nat.zero_add, Paired.length rel, hl]
      exact hz
    obtain ⟨ob, es, ep, h1, h2, h3, h4, _, h5⟩ := hd'
    have fresh := I.hok.fresh (Nat.le_refl s.heap.objs.size)
    have kt : KT H (mergeT [] kvs) (storedAllH [] prs) := KT.mergeT rel .nil
    have kt' : KT (upd H s.heap.objs.size (.dT (mergeT [] kvs))) (mergeT [] kvs) (storedAllH [] prs) := kt.keeps fun c ys ec => by
      rw [upd_ne (ne_of_none ec fresh)]
      exact ec
    refine ⟨.ref s.heap.objs.size, _, I.laid (t' := tk) (fun c oc e => kp c oc (fun z => nomatch z) e) (Nat.le_refl _) ?_, rfl, q _ fresh⟩
    exact ⟨hlen, hm, storedAllH [] prs, kt', ob, es, ep, h1, h2, h3, h4, h5⟩
/-! ### sorted of data, some arrangement -/
theorem each_of {vs : List V} {us : List Value} : ∀ {ds : List PyData}, Vals vs us → vs.length = ds.length → PySem.W.EachIs (fun (u : Value) (b : V × PyData) => RelV b.1 u) us (vs.zip ds) := by
  intro ds r
  induction r generalizing ds with
  | nil => intro _; exact .nil
  | cons h t ih =>
    intro hl
    cases ds with
    | nil => cases hl
    | cons d ds => exact .cons h (ih (Nat.succ.inj hl))
/-- sorted(xs) of data of one shape: a new list, the items in some order -/
def rSortD (K : PySem.W.Frag) : List V → Hp → VK → Prop := fun vs H Q => ∃ (a : Addr) (xs : List V) (ds : List PyData), vs = [.ref a] ∧ SqL K H a xs ∧ DpAll K H xs ds ∧ PySem.W.AllAlike ds ∧ PySem.W.Sortable ds ∧ (∀ d ∈ ds, d.depth ≤ 60) ∧
  ∀ ys p, ys.Perm xs → H p = none → Q (.ref p) (upd H p (.lst ys))
theorem DpAll.length {K : PySem.W.Frag} {H : Hp} : ∀ {vs : List V} {ds : List PyData}, DpAll K H vs ds → vs.length = ds.length
  | _, _, .nil => rfl
  | _, _, .cons _ t => congrArg Nat.succ (DpAll.length t)
theorem zip_fst {β γ : Type} : ∀ {l : List β} {m : List γ}, l.length = m.length → (l.zip m).map (·.1) = l
  | [], [], _ => rfl
  | a :: l, b :: m, h => by rw [List.zip_cons_cons, List.map_cons, zip_fst (Nat.succ.inj h)]
theorem zip_snd {β γ : Type} : ∀ {l : List β} {m : List γ}, l.length = m.length → (l.zip m).map (·.2) = m
  | [], [], _ => rfl
  | a :: l, b :: m, h => by rw [List.zip_cons_cons, List.map_cons, zip_snd (Nat.succ.inj h)]
theorem vals_of_each {us : List Value} : ∀ {bs : List (V × PyData)}, PySem.W.EachIs (fun (u : Value) (b : V × PyData) => RelV b.1 u) us bs → Vals (bs.map (·.1)) us := by
  intro bs h
  induction h with
  | nil => exact .nil
  | cons h t ih => exact .cons h ih
theorem reads_each {h : Heap} : ∀ {us : List Value} {xs : List V} {ds : List PyData} {as : List Addr}, xs.length = ds.length → ReadsAll h us ds as → PySem.W.EachIs (fun (u : Value) (b : V × PyData) => ∃ as, Reads h u b.2 as) us (xs.zip ds)
  | _, [], [], _, _, .nil => .nil
  | _, x :: xs, d :: ds, _, hl, .cons a b => .cons ⟨_, a⟩ (reads_each (Nat.succ.inj hl) b)
theorem cr_sortD (hu : X.A.units + 64 < cLine) : CallR X (.builtin "sorted") (rSortD X.K) := by
  intro pins s σ H vs us Q I r h
  obtain ⟨a, xs, ds, rfl, hs, hd, hal, hso, hdep, q⟩ := h
  obtain ⟨u, rfl, rx⟩ := vals1 r
  cases rx
  obtain ⟨its, rv, pl, hz⟩ := I.list hs
  obtain ⟨o, n, ho, hcl, hdc, hdat⟩ := pl
  have hl := DpAll.length hd
  obtain ⟨as, ra⟩ := Dp.readsAll I ds xs its hd rv
  have il : s.heap.IsList a its.toArray := ⟨o, ho, hcl, n, hdat⟩
  have emap : (xs.zip ds).map (·.2) = ds := zip_snd hl
  have zl : (xs.zip ds).length = xs.length := by rw [List.length_zip, hl, Nat.min_self]
  refine PySem.W.sorted_data (enc := fun b : V × PyData => b.2) il (each_of rv hl) (reads_each hl ra) (by rw [emap]; exact hal) (by rw [emap]; exact hso) (by rw [zl]; exact hz) (fun b hb => ?_) fun out ho2 eo => ?_
  · have hm : b.2 ∈ ds := by
      rw [← emap]
      exact List.mem_map.mpr ⟨b, hb, rfl⟩
    have := hdep _ hm
    omega
  · obtain ⟨c, hcat⟩ := PyProof.Rows.sortedAll_at s.heap its out.toArray
    have pm : (((xs.zip ds).mergeSort (PySem.W.dataLe false fun b : V × PyData => b.2)).map (·.1)).Perm xs := by
      have h1 := (List.mergeSort_perm (xs.zip ds) (PySem.W.dataLe false fun b : V × PyData => b.2)).map (·.1)
      rw [zip_fst hl] at h1
      exact h1
    have kp : ∀ b ob, s.heap.get? b = some ob → (PyProof.Rows.sortedAll s.heap its out.toArray).get? b = some ob := fun b ob e => PyProof.Rows.sortedAll_old e
    refine ⟨.ref (s.heap.objs.size + 1), _, I.laid (t' := s.toks) kp (Nat.le_succ _) ?_, rfl, q _ _ pm (I.hok.fresh (Nat.le_succ _))⟩
    exact ⟨by rw [pm.length_eq]; exact hz, out, c, vals_of_each eo, hcat⟩
/-! ### min of a list of data; min of two data -/
theorem readsAll_get {h : Heap} : ∀ {us : List Value} {ds : List PyData} {as : List Addr}, ReadsAll h us ds as → ∀ {i : Nat} {u : Value}, us[i]? = some u → ∃ d bs, ds[i]? = some d ∧ Reads h u d bs
  | _, _, _, .nil, i, u, e => by cases e
  | _, _, _, .cons a b, 0, u, e => by cases e; exact ⟨_, _, rfl, a⟩
  | _, _, _, .cons a b, i + 1, u, e => readsAll_get b (i := i) e
def rMinD (K : PySem.W.Frag) : List V → Hp → VK → Prop := fun vs H Q => ∃ (a : Addr) (xs : List V) (d : PyData) (ds : List PyData), vs = [.ref a] ∧ SqL K H a xs ∧ DpAll K H xs (d :: ds) ∧ PySem.W.AlikeAll (d :: ds) ∧ PyData.depthAll (d :: ds) ≤ 60 ∧
  ∀ (i : Nat) (v : V), xs[i]? = some v → (d :: ds)[i]? = some (PySem.W.minD d ds) → Q v H
theorem cr_minD (hc : X.calm = true) (hu : X.A.units + 64 < cLine) : CallR X (.builtin "min") (rMinD X.K) := by
  intro pins s σ H vs us Q I r h
  obtain ⟨a, xs, d, ds, rfl, hs, hd, hal, hdep, q⟩ := h
  obtain ⟨u, rfl, rx⟩ := vals1 r
  cases rx
  obtain ⟨its, rv, pl, hz⟩ := I.list hs
  obtain ⟨o, n, ho, hcl, hdc, hdat⟩ := pl
  obtain ⟨as, ra⟩ := Dp.readsAll I (d :: ds) xs its hd rv
  have il : s.heap.IsList a its.toArray := ⟨o, ho, hcl, n, hdat⟩
  refine PySem.W.min_list_data (I.ok.hd hc) il ra hal (by omega) fun i v h' tk bs hv hr kp => ?_
  have hv' : its[i]? = some v := by
    rw [← hv]
    simp
  obtain ⟨d', bs', hd', hr'⟩ := readsAll_get ra hv'
  have hm : d' ∈ d :: ds := List.mem_of_getElem? hd'
  have e : PySem.W.minD d ds = d' := by
    refine PySem.W.alike_unique _ _ v bs bs' ?_ hr (PyProof.Rows.Reads.keeps kp hr')
    have hmm : PySem.W.minD d ds ∈ d :: ds := by
      unfold PySem.W.minD
      have gen : ∀ (l : List PyData) (x : PyData), l.foldl (fun a y => if PySem.W.dataLt y a then y else a) x ∈ x :: l := by
        intro l
        induction l with
        | nil => intro x; exact List.mem_cons_self
        | cons y l ih =>
          intro x
          rw [List.foldl_cons]
          split
          · exact List.mem_cons_of_mem _ (ih y)
          · rcases List.mem_cons.mp (ih x) with e | e
            · rw [e]; exact List.mem_cons_self
            · exact List.mem_cons_of_mem _ (List.mem_cons_of_mem _ e)
      exact gen ds d
    exact hal.1 _ hmm _ hm
  cases hx : xs[i]? with
  | none =>
    rw [rv.none_of hx] at hv'
    cases hv'
  | some w =>
    obtain ⟨u2, h2, rw2⟩ := rv.get hx
    rw [hv'] at h2
    cases h2
    exact ⟨w, H, I.kept kp, rw2, q i w hx (by rw [e]; exact hd')⟩
end
end L2
/-! New rules of the hand layer: *d in a display, min of two data. -/
namespace L2
open PySem PySem.Spec PyProof.Rows
section
variable {prog : Program} {w : World} {A : Around} {E : Value → Shared → Prop} {s : Shared} {T : String} {r d : Addr} {n : Nat} {P : Nat → Value → Prop} {OK : Heap → Prop}
/-- the items of a dict's walk, collected -/
theorem collectK {Q : List Value → Shared → Prop} (K : PySem.W.KdlSrc prog w T r d n P OK) (hh : A.handled = none) (hok : OK s.heap) (hn : n ≤ sizeLine)
    (h : ∀ (h' : Heap) (tk : Nat) (acc : Array Value), (∀ b o, s.heap.get? b = some o → h'.get? b = some o) → ItemsOf P acc n → Q acc.toList { s with heap := h', toks := tk }) : wpAny (model prog w) A (collect (.ref r)) Q E s := by
  have hlt := K.there _ hok
  unfold collect
  refine wpAny_bind (wpAny_runValue (codeAny_builtin PySem.F.entry_proto_collect ?_))
  rw [Around.under_plainId PySem.F.plain_proto_collect _]
  show wpAny _ A.in1 (newList [] >>= fun l => again (.builtin "list.__iadd__" ⟨[l, .ref r], []⟩)) _ _ s
  refine wpAny_bind (wpAny_newObj_type (wpAny_pure ⟨plainId_quiet PySem.F.plain_list_iadd _, codeAny_builtin PySem.F.entry_list_iadd ?_⟩))
  rw [Around.under_plainId PySem.F.plain_list_iadd _]
  have hS : (s.heap.push { cls := .type "list", data := .seq ([] : List Value).toArray }).get? s.heap.objs.size = some { cls := .type "list", data := .seq #[] } := Heap.get?_push_size _ rfl
  show wpAny _ A.in1 (Builtin.List.listExtendWith (.ref s.heap.objs.size) (.ref r) (.ref s.heap.objs.size)) _ _ _
  have key := PySem.W.kdl_extend (A := A) (s := { s with heap := s.heap.push { cls := .type "list", data := .seq ([] : List Value).toArray } })
    (R := fun (q : Result) (s' : Shared) => ∃ (h' : Heap) (tk : Nat) (acc : Array Value) (c : Nat), q = .ok (.ret (.ref s.heap.objs.size)) ∧ s' = { s with heap := h', toks := tk } ∧ (∀ b o, s.heap.get? b = some o → h'.get? b = some o) ∧
      h'.get? s.heap.objs.size = some { cls := .type "list", dict := none, data := .seq acc c, slots := #[] } ∧ ItemsOf P acc n)
    K hh (K.keep _ _ hok fun b _ o e => Heap.get?_push_of_some _ e) s.heap.objs.size (Nat.ne_of_gt hlt.1) (Nat.ne_of_gt hlt.2) (.ref s.heap.objs.size) 0 hS
    (fun h' tk acc c hk hS' hi => ⟨h', tk, acc, c, rfl, rfl, fun b o e => hk b o (Nat.ne_of_lt (Heap.lt_size e)) (Heap.get?_push_of_some _ e), hS', hi⟩) hn
  refine wpAny_mono key (fun fin s' x => ?_) fun e s' x => ?_
  · cases fin with
    | done f =>
      obtain ⟨h1, tk, acc, c, e, rfl, hk, hS1, hi⟩ := x
      cases e
      show wpAny _ A (load s.heap.objs.size >>= _) _ _ _
      exact wpAny_bind (wpAny_load hS1 (wpAny_pure (h h1 tk acc hk hi)))
    | again c1 =>
      refine ⟨x.1, codeAny_mono x.2 ?_⟩
      rintro q s2 ⟨h1, tk, acc, c, rfl, rfl, hk, hS1, hi⟩
      show wpAny _ A (load s.heap.objs.size >>= _) _ _ _
      exact wpAny_bind (wpAny_load hS1 (wpAny_pure (h h1 tk acc hk hi)))
  · obtain ⟨_, _, _, _, e, _⟩ := x
    cases e
end
section
variable {X : Cx} {pins : List (Addr × Obj)} {σ : St} {H : Hp} {s : Shared}
/-- the keys of a dict with tuple keys: its own tuples -/
theorem star_dictT {d : Addr} {kvs : List (List Key × V)} {E : Value → Shared → Prop} {Q : List Value → Shared → Prop} (hc : X.calm = true) (I : Inv X pins σ H s) (h : Rd H d (.dT kvs))
    (hQ : ∀ (bs : List Addr) s', Inv X pins σ H s' → IsKeys H kvs bs → Q (bs.map Value.ref) s') : PySem.W.StarOf (model X.prog X.w) X.A E (.ref d) Q s := by
  obtain ⟨z, hs, ks, pr, o, es, ep, ho, hx, hdt, he, hn⟩ := (show ObjOk X.prog X.w H s.heap d (.dT kvs) from h.ok I.hok)
  have l1 : es.size = ks.length := size_of_entries he
  have l2 : kvs.length = ks.length := Paired.length pr
  have hT : s.TypeIs (.ref d) "dict" := ⟨o, ho, hx.1⟩
  unfold PySem.W.StarOf notIterableAtAll
  refine wpAny_bind (wpAny_specialOf hT PySem.F.slot_dict_iter.lookup (wpAny_pure ⟨rfl, ?_⟩))
  refine collectK (kdl_raw hs hx hdt) (I.ok.hd hc) ho (by omega) fun h' tk acc kp it => ?_
  have ea : acc.toList = (ks.map fun x => x.2.1).map Value.ref := by
    refine List.ext_getElem? fun j => ?_
    rw [List.getElem?_map, List.getElem?_map]
    cases hj : acc.toList[j]? with
    | none =>
      have h1 := List.getElem?_eq_none_iff.mp hj
      have h2 : acc.toList.length = ks.length := by
        rw [Array.length_toList, it.1]
        exact l1
      rw [List.getElem?_eq_none (by omega)]
      rfl
    | some v =>
      obtain ⟨en, hen, hv⟩ := it.2 j v (by rw [← Array.getElem?_toList]; exact hj)
      have qe := entry_at he j
      rw [hen] at qe
      cases hk : ks[j]? with
      | none =>
        rw [hk] at qe
        cases qe
      | some x =>
        rw [hk] at qe
        have qe' := Option.some.inj qe
        rw [hv, qe']
        rfl
  rw [ea]
  exact hQ _ _ (I.kept kp) (isKeys_of pr)
end
/-- *e in a display, e a dict with tuple keys: its keys' tuples -/
def tStarT (te : TE) (t : TA) : TA := fun σ H Q => te σ H fun x H1 => ∃ d kvs, x = V.ref d ∧ Rd H1 d (.dT kvs) ∧ ∀ bs, IsKeys H1 kvs bs → t σ H1 fun ys H2 => Q (bs.map V.ref ++ ys) H2
theorem pa_starT {X : Cx} {e : Expr} {es : List Expr} {te : TE} {t : TA} {p : Pos} (hc : X.calm = true) (he : PE X e te) (hr : PA X es t) (hs : starEach (.Starred e p :: es) X.env = (true, eval e X.env) :: starEach es X.env := by rfl) : PA X (.Starred e p :: es) (tStarT te t) := by
  refine ⟨fun pos pins s σ H Q I h => ?_⟩
  refine PySem.W.items_star (thn (he.run pins s σ H _ I h) ?_) hs
  rintro v s1 ⟨y, H1, I1, ry, d, kvs, rfl, hd, q⟩
  cases (show v = Value.ref d from ry)
  refine star_dictT hc I1 hd fun bs s2 I2 hb => ?_
  refine thn (hr.run pos pins s2 σ H1 _ I2 (q bs hb)) ?_
  rintro ws s3 ⟨vs, H3, I3, r3, q3⟩
  exact ⟨_, H3, I3, (vals_refs bs).append r3, q3⟩
/-! ### min(a, b) of two data of one shape -/
section
variable {prog : Program} {w : World} {A : Around} {E : Value → Shared → Prop} {s : Shared}
theorem call_min2H {a b : Value} {da db : PyData} {as bs : List Addr} {Q : Value → Shared → Prop} (hh : A.handled = none) (ra : Reads s.heap a da as) (rb : Reads s.heap b db bs) (hal : PySem.W.AlikeAll [da, db]) (hu : A.units + 1 + PyData.depthAll [da, db] < cLine)
    (h : ∀ h' tk, (∀ c o, s.heap.get? c = some o → h'.get? c = some o) → Q (if PySem.W.dataLt db da = true then b else a) { s with heap := h', toks := tk }) :
    wpAny (model prog w) A (call (.builtin "min") [a, b]) Q E s := by
  have hname : (toString "min" ++ toString ".loop" : String) = "min.loop" := by decide
  refine call_function_tree F.kind_min F.plain_min F.entry_min (F.args_min2 _ _) ?_
  show wpAny _ A.in1 (Builtin.Builtins.bindParams "min" ["key", "default"] 0 ⟨[], []⟩ >>= _) _ _ s
  refine wpAny_bind (wpAny_of_eq (show Builtin.Builtins.bindParams "min" ["key", "default"] 0 ⟨[], []⟩ = pure [none, none] from rfl) ?_)
  show wpAny _ A.in1 (newTuple [a, b] >>= _) _ _ s
  refine wpAny_bind (wpAny_newObj_type ?_)
  have kp0 : ∀ c o, s.heap.get? c = some o → (s.heap.push { cls := .type "tuple", data := .seq #[a, b] }).get? c = some o := fun c o e => Heap.get?_push_of_some _ e
  have hT : (s.heap.push { cls := .type "tuple", data := .seq #[a, b] }).IsTuple s.heap.objs.size #[a, b] := ⟨_, Heap.get?_push_size _ rfl, rfl, 0, rfl⟩
  refine wpAny_bind (PySem.W.iter_tupleW (A := A.in1) (s := { s with heap := s.heap.push { cls := .type "tuple", data := .seq #[a, b] } }) hh hT fun s2 e2 W st hfp hw hk => ?_)
  refine wpAny_bind (wpAny_newObj_type ?_)
  have hr : ReadsAll (s.heap.push { cls := .type "tuple", data := .seq #[a, b] }) #[a, b].toList [da, db] (as ++ (bs ++ [])) := .cons (PyProof.Rows.Reads.keeps kp0 ra) (.cons (PyProof.Rows.Reads.keeps kp0 rb) .nil)
  have cmp := PySem.W.cmpIn_lt (prog := prog) (w := w) (A := A.in1) (s := { s with heap := s.heap.push { cls := .type "tuple", data := .seq #[a, b] } }) (vs := #[a, b]) hr hal hu
  have hSf : s2.heap.objs.size ∉ [(s.heap.push { cls := .type "tuple", data := .seq #[a, b] }).objs.size, s.heap.objs.size] := fun hm => Nat.lt_irrefl _ (hfp _ hm)
  rw [hname]
  refine wpAny_pure ⟨plainId_quiet F.plain_min_loop _, ?_⟩
  refine codeAny_min_loop_firstH W (s.heap.push { cls := .type "tuple", data := .seq #[a, b] }) hw _ cmp s2.heap.objs.size hSf (fresh_in hk) _ (Nat.succ_pos 1) (fun c o e => Heap.get?_push_of_some _ (hk c o e)) (W.frame 0 s2 _ s2.toks st (Nat.le_refl _) fun c _ o e => Heap.get?_push_of_some _ e) (Heap.get?_push_size _ rfl) fun v s' hP hm => ?_
  have m2 := Moved.drop_new (tk := s2.toks) hm (Nat.le_refl _)
  obtain ⟨h', tk, rfl, hk'⟩ := PySem.W.moved_old e2 rfl m2
  have q := h h' tk fun c o e => hk' c o (kp0 c o e)
  have ev : v = if PySem.W.dataLt db da = true then b else a := by
    have hP' : #[a, b][argBest (fun i j => PySem.W.dataLt ([da, db].getD i .none) ([da, db].getD j .none)) 1]? = some v := hP
    have eb : argBest (fun i j => PySem.W.dataLt ([da, db].getD i .none) ([da, db].getD j .none)) 1 = if PySem.W.dataLt db da = true then 1 else 0 := rfl
    rw [eb] at hP'
    split at hP'
    · rename_i c
      rw [if_pos c]
      exact (Option.some.inj hP').symm
    · rename_i c
      rw [if_neg c]
      exact (Option.some.inj hP').symm
  rw [ev]
  exact q
end
def rMin2D (K : PySem.W.Frag) : List V → Hp → VK → Prop := fun vs H Q => ∃ (x y : V) (d e : PyData), vs = [x, y] ∧ Dp K H x d ∧ Dp K H y e ∧ PySem.W.AlikeAll [d, e] ∧ PyData.depthAll [d, e] ≤ 60 ∧ Q (if PySem.W.dataLt e d = true then y else x) H
theorem cr_min2D {X : Cx} (hc : X.calm = true) (hu : X.A.units + 64 < cLine) : CallR X (.builtin "min") (rMin2D X.K) := by
  intro pins s σ H vs us Q I r h
  obtain ⟨x, y, d, e, rfl, hd, he, hal, hdep, q⟩ := h
  obtain ⟨u, v, rfl, ru, rv⟩ := vals2 r
  obtain ⟨as, r1⟩ := Dp.reads I d x u hd ru
  obtain ⟨bs, r2⟩ := Dp.reads I e y v he rv
  refine call_min2H (I.ok.hd hc) r1 r2 hal (by omega) fun h' tk kp => ⟨_, H, I.kept kp, ?_, q⟩
  by_cases c : PySem.W.dataLt e d = true
  · rw [if_pos c, if_pos c]
    exact rv
  · rw [if_neg c, if_neg c]
    exact ru
end L2
/-! New rules of the hand layer: a * b and a != b of instances of the text's own class. -/
namespace L2
open PySem PySem.Spec PyProof.Rows
section
variable {X : Cx} {CX : CXT} {k : Nat} {C f : Addr} {fd : FuncData} {ps : List Str} {sp : Sp} {E : XK}
/-- an operator that the class of both defines -/
def rOpO (C : Addr) (sp : Sp) (E : XK) : R2 := fun x y H Q => ∃ a b dx dy fs gs, x = .ref a ∧ y = .ref b ∧ H a = some (.ins C dx fs) ∧ H b = some (.ins C dy gs) ∧ sp [.ref a, .ref b] H Q E
theorem back_rel {Q : Value → Shared → Prop} {z : V} {v : Value} {s : Shared} (r : RelV z v) (q : Q v s) : PySem.W.CmpBack Q v s := by
  cases z with
  | non => cases r; exact q
  | bl b => cases r; exact q
  | int i => obtain ⟨t, rfl⟩ := r; exact q
  | str x => obtain ⟨t, rfl⟩ := r; exact q
  | byt x => obtain ⟨t, rfl⟩ := r; exact q
  | flt x => obtain ⟨t, rfl⟩ := r; exact q
  | ref a => cases r; exact q
  | ty n => cases r; exact q
theorem op_own {op : Operator} (F : FnOk X.prog X.w X.K X.mg X.base CX k f fd ps sp) (hr : Room k X.A) (hb : Binds X.K fd ps []) (hx : Passes CX X E) (hc : PySem.W.selfFirst X.K C = true)
    (hs : PySem.W.findIn X.K (.ref C) (PySem.dunder op.info.2) = some (some (.ref f))) (hf : PySem.W.isFn X.K (.ref f) = true) : OpR X (binaryOp op) (rOpO C sp E) := by
  intro pins s σ H x y v u Q I rx ry h
  obtain ⟨a, b, dx, dy, fs, gs, rfl, rfl, ha, hb', h⟩ := h
  cases rx
  cases ry
  obtain ⟨mA, J, _⟩ := ins_get I.hok ha
  obtain ⟨mB, J', _⟩ := ins_get I.hok hb'
  obtain ⟨od, J, _⟩ := J.look
  obtain ⟨od', J', _⟩ := J'.look
  obtain ⟨m, hF⟩ := I.fr
  refine PySem.W.binop_K hF I.ok.mod.kin J J'.type hc hs hf ?_
  have r2 : Vals [V.ref a, V.ref b] [Value.ref a, Value.ref b] := .cons rfl (.cons rfl .nil)
  refine thn (run_fn F hr hb .nil hx I r2 h) ?_
  rintro v s' ⟨z, H', I', rz, q⟩
  exact back_rel rz ⟨z, H', I', rz, q⟩
end
/-! ### a != b where the class has its own == and no !=: object's != asks == and turns the answer round -/
section
variable {prog : Program} {w : World} {A : Around} {E : Value → Shared → Prop} {s : Shared} {K : PySem.W.Frag} {x C f : Addr} {ox : Obj} {od : Option Obj} {b : Value}
theorem ne_bind (self : Value) : bindSpecial (.builtin "object.__ne__") self = pure (.builtin "object.__ne__", [self]) := by kernel_rfl
theorem ne_plain : plainId "object.__ne__" = true := by decide +kernel
theorem objNe_own {Qf : Fin → Shared → Prop} (X : K.In s.heap) (I : PySem.W.InstAt s.heap x ox C od) (hs : PySem.W.findIn K (.ref C) "__eq__" = some (some (.ref f))) (hf : PySem.W.isFn K (.ref f) = true) (hu : A.units < cLine)
    (h : wpAny (model prog w) A (call (.ref f) [.ref x, b]) (fun v s' => ∃ c, v = .bool c ∧ Qf (.done (.ret (.bool (!c)))) s') E s) : wpAny (model prog w) A (Builtin.«object.__ne__» ⟨[.ref x, b], []⟩) Qf E s := by
  have eqs : wpAny (model prog w) A (callSpecialIfBound? (.ref x) (Str.ofString "__eq__") [b]) (fun r s' => ∃ c, r = some (.bool c) ∧ Qf (.done (.ret (.bool (!c)))) s') E s := by
    refine PySem.W.ifBound_K X I hs hf (wpAny_mono h ?_ fun _ _ e => e)
    rintro v s' ⟨c, rfl, q⟩
    exact ⟨c, rfl, q⟩
  unfold Builtin.«object.__ne__»
  repeat (first
    | (with_reducible refine wpAny_cRoomFor hu ?_)
    | (with_reducible refine wpAny_bind (m := callSpecialIfBound? (.ref x) (Str.ofString "__eq__") [b]) (wpAny_mono eqs ?_ fun _ _ e => e); rintro r s' ⟨c, rfl, q⟩; exact wpAny_bind (wpAny_bind (wpAny_truthy_bool (wpAny_pure q))))
    | (with_reducible refine wpAny_bind (m := callSpecialIfBound? (.ref x) (Str.ofString "__eq__") [b]) (wpAny_mono eqs ?_ fun _ _ e => e); rintro r s' ⟨c, rfl, q⟩; exact wpAny_bind (wpAny_truthy_bool (wpAny_pure q)))
    | wp_step)
theorem ifBound_ne {Q : Option Value → Shared → Prop} (X : K.In s.heap) (I : PySem.W.InstAt s.heap x ox C od) (hn : PySem.W.findIn K (.ref C) "__ne__" = some (some (.builtin "object.__ne__")))
    (h : wpAny (model prog w) A (call (.builtin "object.__ne__") [.ref x, b]) (fun v => Q (some v)) E s) : wpAny (model prog w) A (callSpecialIfBound? (.ref x) "__ne__" [b]) Q E s := by
  simp only [callSpecialIfBound?, bindSpecialIfBound?]
  refine wpAny_holding (wpAny_bind (wpAny_bind (wpAny_bind (I.type.here ((PySem.W.looks_findIn X hn).here ?_)))))
  refine wpAny_bind (wpAny_askSetting (wpAny_ite ?_))
  have fin : wpAny (model prog w) A (call (.builtin "object.__ne__") ([.ref x] ++ [b]) >>= fun v => pure (some v)) Q E s := wpAny_bind (wpAny_mono h (fun v s' q => wpAny_pure q) fun _ _ q => q)
  rw [ne_bind]
  split
  · exact wpAny_bind (wpAny_pure (wpAny_pure fin))
  · exact wpAny_tryCatch (wpAny_bind (wpAny_pure (wpAny_pure fin)))
theorem ne_K {Q : Value → Shared → Prop} (hu : A.units + 1 < cLine) (X : K.In s.heap) (I : PySem.W.InstAt s.heap x ox C od) (hb : PySem.W.Looks (model prog w) s.heap (typeOf b) (.ref C)) (hm : PySem.W.mroIn K C (.type "object") = some true)
    (hn : PySem.W.findIn K (.ref C) "__ne__" = some (some (.builtin "object.__ne__"))) (hs : PySem.W.findIn K (.ref C) "__eq__" = some (some (.ref f))) (hf : PySem.W.isFn K (.ref f) = true)
    (h : wpAny (model prog w) A.in1 (call (.ref f) [.ref x, b]) (fun v s' => ∃ c, v = .bool c ∧ Q (.bool (!c)) s') E s) : wpAny (model prog w) A (richCompare .NotEq (.ref x) b) Q E s := by
  have sub : PySem.W.Looks (model prog w) s.heap (isInstance (.ref x) (.type "object")) true := I.type.andThen (PySem.W.looks_mroIn X hm)
  have one : wpAny (model prog w) A (tryCompare (.ref x) "__ne__" b) (fun r s' => ∃ v, r = some v ∧ Q v s') E s := by
    unfold tryCompare
    refine wpAny_bind (ifBound_ne X I hn (wpAny_call ?_))
    refine codeAny_call_builtin ne_plain PySem.F.cmpEntry_ne ?_
    refine PySem.W.check_slot PySem.F.cmpKind_ne PySem.F.cmpSplit_ne sub (PySem.F.cmpArgs_ne _ _) ?_
    refine objNe_own (A := A.in1) X I hs hf hu ?_
    refine wpAny_mono h ?_ fun _ _ e => e
    rintro v s' ⟨c, rfl, q⟩
    exact ⟨c, rfl, wpAny_pure ⟨_, rfl, q⟩⟩
  unfold richCompare
  simp only [oneThing_ref]
  refine wpAny_holding (wpAny_bind (wpAny_cRoomFor (Nat.lt_of_succ_lt hu) ?_))
  rw [cmpInfo_NotEq]
  refine wpAny_bind (I.type.here (wpAny_bind (hb.here ?_)))
  have same : ((Value.ref C != Value.ref C) = true) = False := by simp
  simp only [same, if_false]
  refine wpAny_bind (wpAny_pure ?_)
  simp only [Bool.false_eq_true, if_false]
  refine wpAny_bind (wpAny_mono one ?_ fun _ _ e => e)
  rintro r s' ⟨v, rfl, q⟩
  exact wpAny_pure q
end
section
variable {X : Cx} {CX : CXT} {k : Nat} {C f : Addr} {fd : FuncData} {ps : List Str} {sp : Sp} {E : XK}
def rNeO (C : Addr) (sp : Sp) (E : XK) : R2 := fun x y H Q => ∃ a b dx dy fs gs, x = .ref a ∧ y = .ref b ∧ H a = some (.ins C dx fs) ∧ H b = some (.ins C dy gs) ∧ sp [.ref a, .ref b] H (fun v H' => ∃ c, v = .bl c ∧ Q (.bl (!c)) H') E
theorem op_neO (F : FnOk X.prog X.w X.K X.mg X.base CX k f fd ps sp) (hr : Room (k + 1) X.A) (hb : Binds X.K fd ps []) (hx : Passes CX X E) (hm : PySem.W.mroIn X.K C (.type "object") = some true)
    (hn : PySem.W.findIn X.K (.ref C) "__ne__" = some (some (.builtin "object.__ne__"))) (hs : PySem.W.findIn X.K (.ref C) "__eq__" = some (some (.ref f))) (hf : PySem.W.isFn X.K (.ref f) = true) : OpR X (compareOp .NotEq) (rNeO C sp E) := by
  intro pins s σ H x y v u Q I rx ry h
  obtain ⟨a, b, dx, dy, fs, gs, rfl, rfl, ha, hb', hsp⟩ := h
  cases rx
  cases ry
  obtain ⟨mA, J, _⟩ := ins_get I.hok ha
  obtain ⟨mB, J', _⟩ := ins_get I.hok hb'
  obtain ⟨od, J, _⟩ := J.look
  obtain ⟨od', J', _⟩ := J'.look
  have hr1 : Room k X.A.in1 := hr.in1
  have hu := hr.units
  refine PySem.W.cmp_ofNotEq (ne_K (by omega) I.kIn J J'.type hm hn hs hf ?_)
  have e0 : Env0 X.prog X.w X.K X.mg X.base X.A.in1 X.stack s H := I.env0.in1
  have hl := F.len _ _ _ _ hsp
  have r2 : Vals [V.ref a, V.ref b] [Value.ref a, Value.ref b] := .cons rfl (.cons rfl .nil)
  have bt := hb s [.ref a, .ref b] I.kIn (by simpa using hl)
  rw [List.append_nil] at bt
  refine wpAny_call (codeAny_mono (F.run X.A.in1 X.stack s H ⟨[.ref a, .ref b], []⟩ [.ref a, .ref b] [.ref a, .ref b] _ E hr1 e0 bt r2 hsp) ?_)
  intro r s' hq
  cases r with
  | error e => exact hx pins σ H s e s' I hq
  | ok fl =>
    cases fl with
    | ret w =>
      obtain ⟨z, H', I', rz, c, rfl, q⟩ := I.after hq
      cases rz
      exact ⟨c, rfl, .bl (!c), H', I', rfl, q⟩
    | next => exact hq.elim
    | brk => exact hq.elim
    | cont => exact hq.elim
end
end L2
/-! Statements; objects of one's own; built-ins. -/
namespace MR
open PySem PySem.Spec PyProof.Rows L2
/-! ### data: facts that lean on no instance -/
def NotIns (u : HO) : Prop := ∀ C dx fs, u ≠ .ins C dx fs
def UpD (H H' : Hp) : Prop := ∀ a u, NoFrz u → NotIns u → Kn H a u → Kn H' a u
theorem Up.d {H H' : Hp} (e : Up H H') : UpD H H' := fun a u n _ k => e a u n k
class MoD (P : Hp → V → Prop) : Prop where
  up : ∀ {H H' : Hp} {v : V}, UpD H H' → P H v → P H' v
class MoDL (Ps : List (Hp → V → Prop)) : Prop where
  up : ∀ {H H' : Hp} {vs : List V}, UpD H H' → AllP H Ps vs → AllP H' Ps vs
theorem UpD.tup {H H' : Hp} (e : UpD H H') {a : Addr} {xs : List V} (h : H a = some (.tup xs)) : H' a = some (.tup xs) := (e a _ (fun _ _ z => by cases z) (fun _ _ _ z => by cases z) (.inl h)).at_ fun z => z
theorem UpD.lst {H H' : Hp} (e : UpD H H') {a : Addr} {xs : List V} (h : H a = some (.lst xs)) : H' a = some (.lst xs) := (e a _ (fun _ _ z => by cases z) (fun _ _ _ z => by cases z) (.inl h)).at_ fun z => z
theorem UpD.dK {H H' : Hp} (e : UpD H H') {a : Addr} {kvs : List (Key × V)} (h : Kn H a (.dK kvs)) : Kn H' a (.dK kvs) := e a _ (fun _ _ z => by cases z) (fun _ _ _ z => by cases z) h
theorem UpD.dT {H H' : Hp} (e : UpD H H') {a : Addr} {kvs : List (List Key × V)} (h : Kn H a (.dT kvs)) : Kn H' a (.dT kvs) := e a _ (fun _ _ z => by cases z) (fun _ _ _ z => by cases z) h
instance {c : V} : MoD (Is c) := ⟨fun _ h => h⟩
instance : MoDL [] := ⟨fun _ h => by cases h; exact .nil⟩
instance {P : Hp → V → Prop} {Ps : List (Hp → V → Prop)} [MoD P] [MoDL Ps] : MoDL (P :: Ps) := ⟨fun e h => by
  cases h with
  | cons a b => exact .cons (MoD.up e a) (MoDL.up e b)⟩
instance {Ps : List (Hp → V → Prop)} [MoDL Ps] : MoD (TupP Ps) := ⟨fun e h => by
  obtain ⟨a, vs, rfl, h1, h2⟩ := h
  exact ⟨a, vs, rfl, e.tup h1, MoDL.up e h2⟩⟩
instance {p : Pl} : MoD (PlA p) := ⟨fun e h => by
  obtain ⟨a, rfl, h⟩ := h
  exact ⟨a, rfl, e.tup h⟩⟩
instance {β : Type} {R : β → Hp → V → Prop} [∀ x, MoD (R x)] {xs : List β} : MoD (LsA R xs) := ⟨fun e h => by
  obtain ⟨a, vs, rfl, h1, h2⟩ := h
  exact ⟨a, vs, rfl, e.lst h1, paired_imp (fun x u (q : R x _ u) => MoD.up (P := R x) e q) h2⟩⟩
instance {β : Type} {R : β → Hp → V → Prop} [∀ x, MoD (R x)] {xs : List β} : MoD (TuA R xs) := ⟨fun e h => by
  obtain ⟨a, vs, rfl, h1, h2⟩ := h
  exact ⟨a, vs, rfl, e.tup h1, paired_imp (fun x u (q : R x _ u) => MoD.up (P := R x) e q) h2⟩⟩
instance {κ β : Type} [DecidableEq κ] {e : κ → Key} {R : β → Hp → V → Prop} [∀ b, MoD (R b)] {l : List (κ × β)} : MoD (DcK e R l) := ⟨fun u h => by
  obtain ⟨d, kvs, rfl, h1, h2⟩ := h
  exact ⟨d, kvs, rfl, u.dK h1, paired_imp (fun x q (z : q.1 = e x.1 ∧ R x.2 _ q.2) => ⟨z.1, MoD.up (P := R x.2) u z.2⟩) h2⟩⟩
instance {β : Type} {R : β → Hp → V → Prop} [∀ b, MoD (R b)] {l : List (Pl × β)} : MoD (DcT R l) := ⟨fun u h => by
  obtain ⟨d, kvs, rfl, h1, h2⟩ := h
  exact ⟨d, kvs, rfl, u.dT h1, paired_imp (fun x q (z : q.1 = pk x.1 ∧ R x.2 _ q.2) => ⟨z.1, MoD.up (P := R x.2) u z.2⟩) h2⟩⟩
/-- without what stands at x -/
def del (H : Hp) (x : Addr) : Hp := fun a => if a = x then none else H a
theorem del_same {H : Hp} {x : Addr} : del H x x = none := if_pos rfl
theorem del_ne {H : Hp} {x a : Addr} (h : a ≠ x) : del H x a = H a := if_neg h
theorem updD_del {H : Hp} {x C dx : Addr} {fs : List (Str × V)} (h : H x = some (.ins C dx fs)) : UpD H (del H x) := fun a u n m k => by
  have ne : a ≠ x := fun z => by
    subst z
    rcases k with k | ⟨_, o, k⟩
    · rw [h] at k
      cases k
      exact m _ _ _ rfl
    · rw [h] at k
      cases k
  unfold Kn
  rw [del_ne ne]
  exact k
section
variable {K : PySem.W.Frag} {M : Option Addr} {σ : L2.St} {G G' H H' : Hp} {ta tb te tk tv td ty : TE} {t : TT} {x y v : V} {P P' : Hp → V → Prop} {b : Bool} {D : Ends} {tz tb' : TS} {β γ : Type} {R : β → Hp → V → Prop}
theorem Fr.put (f : Fr M G H) {p : Addr} {o : HO} (h : G p = none) (nM : M ≠ some p) : Fr M G (upd H p o) := ⟨sm_mut f.sub h, fun q hq => by
  have ne : q ≠ p := fun z => nM (by rw [hq, z])
  rw [upd_ne ne]
  exact f.pot q hq⟩
theorem Fr.add (f : Fr M G H) {p : Addr} {o : HO} (h : H p = some o) (nM : M ≠ some p) : Fr M (upd G p o) H := ⟨sm_add f.sub h, fun q hq => by
  have ne : q ≠ p := fun z => nM (by rw [hq, z])
  rw [upd_ne ne]
  exact f.pot q hq⟩
/-- what is known of x for a while is forgotten -/
theorem Ext.hide {x : Addr} {o : HO} {G2 H2 : Hp} (e : Ext M (upd G x o) H G2 H2) (g : G x = none) : Ext M G H (del G2 x) H2 :=
  ⟨e.same, fun a u k => by
    have ne := ne_of_none k g
    rw [del_ne ne]
    refine e.gs a u ?_
    rw [upd_ne ne]
    exact k, fun a u k => by
    by_cases c : a = x
    · subst c
      rw [del_same] at k
      cases k
    · rw [del_ne c] at k
      exact e.sub _ _ k, fun a h k => by
    by_cases c : a = x
    · subst c
      exact del_same
    · rw [del_ne c]
      refine e.av a h ?_
      rw [upd_ne c]
      exact k, fun a q u k => by
    by_cases c : a = x
    · subst c
      rw [del_same] at k
      cases k
    · rw [del_ne c] at k
      have := e.nf _ _ _ k
      rw [upd_ne c] at this
      exact this, e.pot⟩
/-! ### statements -/
theorem seq_ {t u : TS} (h : t { D with nx := u D } σ H) : tSeq t u D σ H := h
theorem p_while {c : TT} (Pv : Nat → L2.St → Hp → Prop) (h0 : ∃ m, Pv m σ H)
    (hs : ∀ m σ H, Pv m σ H → ∃ G b, Fr M G H ∧ EvT M c σ G b ∧ ∀ G1 H1, Ext M G H G1 H1 → (b = true → tb' { D with nx := fun σ' H' => ∃ m', m' < m ∧ Pv m' σ' H', ct := fun σ' H' => ∃ m', m' < m ∧ Pv m' σ' H', bk := D.nx } σ H1) ∧ (b = false → D.nx σ H1)) :
    tWhile c tb' D σ H := ⟨Pv, h0, fun m σ H hP => by
  obtain ⟨G, b, f, he, hk⟩ := hs m σ H hP
  refine he G H (Gw.rfl' _) f _ fun G1 H1 e => ?_
  have := hk G1 H1 e
  cases b with
  | true =>
    rw [if_pos rfl]
    exact ⟨_, fun _ _ h => h, this.1 rfl⟩
  | false =>
    rw [if_neg Bool.false_ne_true]
    exact this.2 rfl⟩
/-- a for over it: Pv by the turn, the slots, the heap; G2 stands in each of them -/
theorem p_for {wi : TI} {g : TG} {l : List β} (f : Fr M G H) (hs : Src M wi σ G l R)
    (k : ∀ G2 H2, Ext M G H G2 H2 → ∃ Pv : Nat → L2.St → Hp → Prop, Pv 0 σ H2 ∧ (∀ i σ' H', Pv i σ' H' → Same G2 H') ∧
      (∀ i b σ1 H1, l[i]? = some b → Pv i σ1 H1 → ∀ x H', (∀ G3, Gw G2 G3 → Fr M G3 H1 → ∃ G4, Ext M G3 H1 G4 H' ∧ R b G4 x) → g x σ1 H' fun σ2 H3 => tb' { D with nx := Pv (i + 1), ct := Pv (i + 1), bk := D.nx } σ2 H3) ∧
      ∀ σ' H', Pv l.length σ' H' → D.nx σ' H') : tFor wi g tb' D σ H := hs G H (Gw.rfl' _) f _ fun J G2 H2 e2 hw => by
  obtain ⟨Gp, Y, w, hG, hy⟩ := hw
  obtain ⟨Pv, p0, p1, p2, p3⟩ := k G2 H2 e2
  refine for_it w Pv p0 (fun i σ' H' _ hP => hG _ (p1 i σ' H' hP)) (fun i x σ1 H1 H' hi hP hY => ?_) p3
  obtain ⟨b, hb⟩ : ∃ b, l[i]? = some b := ⟨_, List.getElem?_eq_getElem hi⟩
  refine p2 i b σ1 H1 hb hP x H' fun G3 e3 f3 => ?_
  obtain ⟨b', G4, hb', x4, r4⟩ := hy i H1 x H' G3 e3 f3 hY
  rw [hb] at hb'
  cases hb'
  exact ⟨G4, x4, r4⟩
/-- xs.append(e) -/
theorem p_app {l : Addr} {acc : List V} {i : Nat} (f : Fr M G H) (hi : σ[i]? = some (some (.ref l))) (hl : H l = some (.lst acc)) (nM : M ≠ some l) (hz : acc.length < 100000) (h : Ev M te σ G P)
    (k : ∀ v G1 H1, Ext M G H G1 H1 → P G1 v → H1 l = some (.lst acc) → D.nx σ (upd H1 l (.lst (acc ++ [v])))) : tDrop (tBM K "list" rAppend (tVar i) (tCons te tNil)) D σ H :=
  ⟨_, hi, .inl ⟨rfl, _, SqL.of hl⟩, h G H (Gw.rfl' _) f _ fun v G1 H1 e p => ⟨l, acc, v, rfl, rfl, e.same _ _ nM hl, sz_lt hz, k v G1 H1 e p (e.same _ _ nM hl)⟩⟩
/-- d[k] = e, d of one's own -/
theorem p_putK {d : Addr} {kvs : List (Key × V)} {k : Key} (f : Fr M G H) (hd : H d = some (.dK kvs)) (nM : M ≠ some d) (hz : kvs.length < 100000) (hv : Ev M tv σ G P) (htd : ∀ G1 H1, Ext M G H G1 H1 → ∀ Q : VK, Q (.ref d) H1 → td σ H1 Q) (hk : Ev M ty σ G (Is (kV k)))
    (q : ∀ v G1 H1, Ext M G H G1 H1 → P G1 v → H1 d = some (.dK kvs) → D.nx σ (upd H1 d (.dK (putK kvs k v)))) [Mo P] : sDPut td ty tv D σ H := hv G H (Gw.rfl' _) f _ fun v G1 H1 e p => htd G1 H1 e _ (hk G1 H1 e.gw (f.ext e) _ fun y G2 H2 e2 hy => by
  cases hy
  have hd2 := (e.trans e2).same _ _ nM hd
  exact ⟨d, _, rfl, .inl ⟨kvs, k, hd2, rfl, sz_lt hz, rfl⟩, q v G2 H2 (e.trans e2) (mo_same e2.gs p) hd2⟩)
theorem p_putT {d : Addr} {kvs : List (List Key × V)} {k : Pl} (f : Fr M G H) (hd : H d = some (.dT kvs)) (nM : M ≠ some d) (hz : kvs.length < 100000) (hv : Ev M tv σ G P) (htd : ∀ G1 H1, Ext M G H G1 H1 → ∀ Q : VK, Q (.ref d) H1 → td σ H1 Q) (hk : Ev M ty σ G (PlA k))
    (q : ∀ v G1 H1, Ext M G H G1 H1 → P G1 v → H1 d = some (.dT kvs) → D.nx σ (upd H1 d (.dT (putK kvs (pk k) v)))) [Mo P] : sDPut td ty tv D σ H := hv G H (Gw.rfl' _) f _ fun v G1 H1 e p => htd G1 H1 e _ (hk G1 H1 e.gw (f.ext e) _ fun y G2 H2 e2 hy => by
  obtain ⟨a, rfl, ha⟩ := hy
  have hd2 := (e.trans e2).same _ _ nM hd
  exact ⟨d, _, rfl, .inr ⟨kvs, pk k, a, hd2, rfl, e2.sub _ _ ha, sz_lt hz, rfl⟩, q v G2 H2 (e.trans e2) (mo_same e2.gs p) hd2⟩)
/-- self.f = e in an __init__: self is known while e is asked, and changes -/
theorem p_fld {x C dx : Addr} {fs : List (Str × V)} {m : Str} [MoD P] (f : Fr M G H) (h0 : σ[0]? = some (some (.ref x))) (hx : H x = some (.ins C dx fs)) (g : G x = none) (nM : M ≠ some x) (c : Cls K C) (n : NoAttr K C m) (hf : fs.length < 1000) (hv : Ev M tv σ (upd G x (.ins C dx fs)) P)
    (k : ∀ v G1 H1, Ext M G H G1 H1 → P G1 v → G1 x = none → H1 x = some (.ins C dx fs) → D.nx σ (upd H1 x (.ins C dx (putF m v fs)))) : sFld K (tVar 0) tv m D σ H := hv _ H (Gw.rfl' _) (f.add hx nM) _ fun v G1 H1 e p =>
  ⟨_, h0, x, C, dx, fs, rfl, e.same _ _ nM hx, c, n, hf, k v (del G1 x) H1 (e.hide g) (MoD.up (updD_del (e.gs _ _ upd_same)) p) del_same (e.same _ _ nM hx)⟩
/-- a, b = e1, e2 -/
theorem p_par {i j : Nat} {P1 P2 : Hp → V → Prop} [Mo P1] [Mo P2] (f : Fr M G H) (h1 : Ev M ta σ G P1) (h2 : Ev M tb σ G P2) (k : ∀ v w G1 H1, Ext M G H G1 H1 → P1 G1 v → P2 G1 w → D.nx ((σ.set i (some v)).set j (some w)) H1) : tPar i j (tCons ta (tCons tb tNil)) D σ H :=
  (ea_cons h1 (ea_cons h2 ea_nil)) G H (Gw.rfl' _) f _ fun vs G1 H1 e a => by
    cases a with
    | cons a1 a =>
      cases a with
      | cons a2 a =>
        cases a
        exact ⟨_, _, rfl, k _ _ G1 H1 e a1 a2⟩
/-- a statement under a lock -/
theorem p_lock {t : TS} {d : Addr} {u : HO} (f : Fr M G H) (hd : G d = some u) (hu : DicO u)
    (k : ∀ od, Fr M (upd G d (.frz od u)) (upd H d (.frz od u)) → Up G (upd G d (.frz od u)) → ∀ D', D'.nx = (fun σ' H' => H' d = some (.frz od u) ∧ D.nx σ' (upd H' d u)) → D'.rt = (fun v H' => H' d = some (.frz od u) ∧ D.rt v (upd H' d u)) → t D' σ (upd H d (.frz od u))) : tLock t D σ H := by
  have hm : Mut (some u) := by
    cases u <;> first | exact trivial | exact absurd hu (fun z => z)
  have nd : ∀ p, M = some p → p ≠ d := fun p hp z => by
    have := (f.pot p hp).1
    rw [z, hd] at this
    cases this
  refine ⟨d, u, f.sub _ _ hd, hm, fun od => k od ⟨sm_both f.sub, fun p hp => ?_⟩ (Up.lock hd hu) _ rfl rfl⟩
  obtain ⟨a, b⟩ := f.pot p hp
  rw [upd_ne (nd p hp), upd_ne (nd p hp)]
  exact ⟨a, b⟩
/-- behind it -/
theorem Ext.unlock {G0 H0 G2 H2 : Hp} {d : Addr} {od : Obj} {u : HO} (f : Fr M G H) (hd : G d = some u) (hu : DicO u) (e2 : Ext M (upd G d (.frz od u)) (upd H d (.frz od u)) G2 H2) : Ext M G H (upd G2 d u) (upd H2 d u) ∧ H2 d = some (.frz od u) ∧ Up G2 (upd G2 d u) := by
  have gd : G2 d = some (.frz od u) := e2.gs _ _ upd_same
  have nd : ∀ p, M = some p → p ≠ d := fun p hp z => by
    have := (f.pot p hp).1
    rw [z, hd] at this
    cases this
  refine ⟨⟨fun a o n q => ?_, sm_unlock e2.gs hd, sm_both e2.sub, fun a q g => ?_, fun a o w q => ?_, fun p hp => ?_⟩, e2.sub _ _ gd, Up.unlock gd⟩
  · by_cases c : a = d
    · subst c
      rw [f.sub _ _ hd] at q
      cases q
      exact upd_same
    · rw [upd_ne c]
      refine e2.same a o n ?_
      rw [upd_ne c]
      exact q
  · have c : a ≠ d := fun z => by rw [z, hd] at g; cases g
    rw [upd_ne c]
    refine e2.av a ?_ ?_
    · obtain ⟨o, q, n⟩ := q
      exact ⟨o, by rw [upd_ne c]; exact q, n⟩
    · rw [upd_ne c]
      exact g
  · by_cases c : a = d
    · subst c
      rw [upd_same] at q
      cases q
      exact absurd hu fun z => z
    · rw [upd_ne c] at q
      have := e2.nf a o w q
      rw [upd_ne c] at this
      exact this
  · obtain ⟨x, y, q⟩ := e2.pot p hp
    exact ⟨x, y, by rw [upd_ne (nd p hp)]; exact q⟩
/-- name = {..} under a lock -/
theorem q_asgL {i : Nat} {d : Addr} {u : HO} [Mo P] (f : Fr M G H) (hd : G d = some u) (hu : DicO u) (h : ∀ od, Ev M te σ (upd G d (.frz od u)) P) (k : ∀ v G1 H1, Ext M G H G1 H1 → P G1 v → tz D (σ.set i (some v)) H1) : tSeq (tLock (tAsg te (gName i))) tz D σ H := by
  refine p_lock f hd hu fun od f1 up D' hn hr => ?_
  refine h od _ _ (Gw.rfl' _) f1 _ fun v G2 H2 e2 p => ?_
  obtain ⟨x1, x2, x3⟩ := Ext.unlock (G0 := G) (H0 := H) f hd hu e2
  show D'.nx _ _
  rw [hn]
  exact ⟨x2, k v _ _ x1 (Mo.up x3 p)⟩
/-! ### built-ins -/
/-- the length of a list, a tuple -/
def SeqN (n : Nat) : Hp → V → Prop := fun H v => ∃ p ys, v = .ref p ∧ (H p = some (.lst ys) ∨ H p = some (.tup ys)) ∧ ys.length = n
theorem seqN_ls {l : List β} : ∀ H v, LsA R l H v → SeqN l.length H v := fun H v ⟨a, vs, e, h1, h2⟩ => ⟨a, vs, e, .inl h1, paired_len h2⟩
theorem seqN_tu {l : List β} : ∀ H v, TuA R l H v → SeqN l.length H v := fun H v ⟨a, vs, e, h1, h2⟩ => ⟨a, vs, e, .inr h1, paired_len h2⟩
theorem ev_len {n : Nat} (h : Ev M te σ G (SeqN n)) : Ev M (tCB (fun xs H Q => ∃ p ys, xs = [.ref p] ∧ (SqL K H p ys ∨ SqT K H p ys) ∧ Q (.int ys.length) H) (tCons te tNil)) σ G (Is (.int (n : Nat))) := fun G1 H1 e f Q k =>
  h G1 H1 e f _ fun v G2 H2 e2 p => by
    obtain ⟨a, ys, rfl, h1, rfl⟩ := p
    refine ⟨a, ys, rfl, ?_, k _ G2 H2 e2 rfl⟩
    exact h1.elim (fun z => .inl (SqL.of (e2.sub _ _ z))) fun z => .inr (SqT.of (e2.sub _ _ z))
theorem ints_of {φ : β → Int} : ∀ {l : List β} {vs : List V}, Paired (fun b u => Is (.int (φ b)) H u) l vs → vs = (l.map φ).map V.int
  | _, _, .nil => rfl
  | _, _, .cons a t => by
    rw [List.map_cons, List.map_cons, ← ints_of t, show _ = V.int _ from a]
theorem ev_sum {φ : β → Int} {l : List β} (h : Ev M te σ G (LsA (fun b => Is (.int (φ b))) l)) : Ev M (tCB (rSum K) (tCons te tNil)) σ G (Is (.int (l.map φ).sum)) := fun G1 H1 e f Q k =>
  h G1 H1 e f _ fun v G2 H2 e2 p => by
    obtain ⟨a, vs, rfl, h1, h2⟩ := p
    have := ints_of h2
    subst this
    exact ⟨a, l.map φ, rfl, SqL.of (e2.sub _ _ h1), k _ G2 H2 e2 rfl⟩
theorem ev_sumI {l : List Int} (h : Ev M te σ G (LsA (fun i => Is (.int i)) l)) : Ev M (tCB (rSum K) (tCons te tNil)) σ G (Is (.int l.sum)) := by
  have := ev_sum (K := K) (φ := fun i : Int => i) h
  rw [List.map_id'] at this
  exact this
theorem bls_of {φ : β → Bool} : ∀ {l : List β} {vs : List V}, Paired (fun b u => Is (.bl (φ b)) H u) l vs → vs = (l.map φ).map V.bl
  | _, _, .nil => rfl
  | _, _, .cons a t => by
    rw [List.map_cons, List.map_cons, ← bls_of t, show _ = V.bl _ from a]
theorem ev_all {φ : β → Bool} {l : List β} (h : Ev M te σ G (LsA (fun b => Is (.bl (φ b))) l)) : Ev M (tCB (rAll K) (tCons te tNil)) σ G (Is (.bl (l.all φ))) := fun G1 H1 e f Q k =>
  h G1 H1 e f _ fun v G2 H2 e2 p => by
    obtain ⟨a, vs, rfl, h1, h2⟩ := p
    have := bls_of h2
    subst this
    refine ⟨a, l.map φ, rfl, SqL.of (e2.sub _ _ h1), k _ G2 H2 e2 ?_⟩
    show V.bl _ = V.bl _
    rw [List.all_map]
    rfl
/-- xs[i] -/
def ItemP (i : Int) (P : Hp → V → Prop) : Hp → V → Prop := fun H v => ∃ p ys w, v = .ref p ∧ H p = some (.lst ys) ∧ atI ys i = some w ∧ P H w
def ItemT (i : Int) (P : Hp → V → Prop) : Hp → V → Prop := fun H v => ∃ p ys w, v = .ref p ∧ H p = some (.tup ys) ∧ atI ys i = some w ∧ P H w
instance {i : Int} [Mo P] : Mo (ItemP i P) := ⟨fun e h => by
  obtain ⟨p, ys, w, rfl, h1, h2, h3⟩ := h
  exact ⟨p, ys, w, rfl, e.lst h1, h2, Mo.up e h3⟩⟩
instance {i : Int} [Mo P] : Mo (ItemT i P) := ⟨fun e h => by
  obtain ⟨p, ys, w, rfl, h1, h2, h3⟩ := h
  exact ⟨p, ys, w, rfl, e.tup h1, h2, Mo.up e h3⟩⟩
theorem ev_ix [Mo P] {i : Int} (h : Ev M ta σ G (ItemP i P)) (hi : Ev M tb σ G (Is (.int i))) : Ev M (tOp (rIxL K) ta tb) σ G P :=
  ev_op h hi fun G1 H1 x y _ f hx hy Q k => by
    obtain ⟨p, ys, w, rfl, h1, h2, h3⟩ := hx
    cases hy
    exact ⟨p, ys, i, w, rfl, rfl, SqL.of (f.sub _ _ h1), h2, k _ G1 H1 (Ext.rfl' f) h3⟩
theorem ev_ixT [Mo P] {i : Int} (h : Ev M ta σ G (ItemT i P)) (hi : Ev M tb σ G (Is (.int i))) : Ev M (tOp (rIxT K) ta tb) σ G P :=
  ev_op h hi fun G1 H1 x y _ f hx hy Q k => by
    obtain ⟨p, ys, w, rfl, h1, h2, h3⟩ := hx
    cases hy
    exact ⟨p, ys, i, w, rfl, rfl, SqT.of (f.sub _ _ h1), h2, k _ G1 H1 (Ext.rfl' f) h3⟩
theorem item_ls {l : List β} {i : Nat} {b : β} (h : l[i]? = some b) : ∀ H v, LsA R l H v → ItemP (i : Nat) (R b) H v := fun H v ⟨a, vs, e, h1, h2⟩ => by
  obtain ⟨w, hw, rw_⟩ := paired_at' h2 h
  exact ⟨a, vs, w, e, h1, atI_nat hw, rw_⟩
theorem item_pl0 {p : Pl} : ∀ H v, PlA p H v → ItemT 0 (Is (.str p.1)) H v := fun H v ⟨a, e, h⟩ => ⟨a, _, _, e, h, atI_nat (j := 0) rfl, rfl⟩
theorem item_pl1 {p : Pl} : ∀ H v, PlA p H v → ItemT 1 (Is (.int p.2)) H v := fun H v ⟨a, e, h⟩ => ⟨a, _, _, e, h, atI_nat (j := 1) rfl, rfl⟩
theorem item_t0 {P1 : Hp → V → Prop} {Ps : List (Hp → V → Prop)} : ∀ H v, TupP (P1 :: Ps) H v → ItemT 0 P1 H v := fun H v ⟨a, vs, e, h, al⟩ => by
  cases al with
  | cons h1 t => exact ⟨a, _, _, e, h, atI_nat (j := 0) rfl, h1⟩
theorem item_t1 {P1 P2 : Hp → V → Prop} {Ps : List (Hp → V → Prop)} : ∀ H v, TupP (P1 :: P2 :: Ps) H v → ItemT 1 P2 H v := fun H v ⟨a, vs, e, h, al⟩ => by
  cases al with
  | cons h1 t =>
    cases t with
    | cons h2 t => exact ⟨a, _, _, e, h, atI_nat (j := 1) rfl, h2⟩
theorem item_t2 {P1 P2 P3 : Hp → V → Prop} {Ps : List (Hp → V → Prop)} : ∀ H v, TupP (P1 :: P2 :: P3 :: Ps) H v → ItemT 2 P3 H v := fun H v ⟨a, vs, e, h, al⟩ => by
  cases al with
  | cons h1 t =>
    cases t with
    | cons h2 t =>
      cases t with
      | cons h3 t => exact ⟨a, _, _, e, h, atI_nat (j := 2) rfl, h3⟩
/-- truth of an int -/
theorem et_int {i : Int} (h : Ev M ta σ G (Is (.int i))) : EvT M (fun σ H Q => ta σ H fun x H' => ∃ k, TruV K x H' k ∧ Q k H') σ G (i != 0) := fun G1 H1 e f Q k => h G1 H1 e f _ fun v G2 H2 e2 p => by
  cases p
  exact ⟨i != 0, rfl, k G2 H2 e2⟩
theorem ev_isN (h : Ev M ta σ G (Is x)) : Ev M (tOp rIsN ta (tC .non)) σ G (Is (.bl (decide (x = .non)))) := fun G1 H1 e f Q k => h G1 H1 e f _ fun v G2 H2 e2 p => by
  cases p
  exact ⟨rfl, k _ G2 H2 e2 rfl⟩
/-- a value that is None or not -/
def OptP (P : Hp → V → Prop) (b : Bool) : Hp → V → Prop := fun H v => decide (v = .non) = b ∧ P H v
theorem ev_isN' (h : Ev M ta σ G P) (hb : ∀ H v, P H v → decide (v = .non) = b) : Ev M (tOp rIsN ta (tC .non)) σ G (Is (.bl b)) := fun G1 H1 e f Q k => h G1 H1 e f _ fun v G2 H2 e2 p => by
  have := hb _ _ p
  refine ⟨rfl, ?_⟩
  rw [this]
  exact k _ G2 H2 e2 rfl
theorem ev_notN' (h : Ev M ta σ G P) (hb : ∀ H v, P H v → decide (v = .non) = b) : Ev M (tOp rNotN ta (tC .non)) σ G (Is (.bl (!b))) := fun G1 H1 e f Q k => h G1 H1 e f _ fun v G2 H2 e2 p => by
  have := hb _ _ p
  refine ⟨rfl, ?_⟩
  rw [this]
  exact k _ G2 H2 e2 rfl
theorem ref_non {a : Addr} : decide (V.ref a = .non) = false := by simp
/-! ### data compared -/
/-- a value that stands for a datum -/
def DaP (K : PySem.W.Frag) (d : PyData) : Hp → V → Prop := fun H v => Dp K H v d
theorem ev_eqD {d e : PyData} [Mo P] (h1 : Ev M ta σ G P) (h2 : Ev M tb σ G P') (p1 : ∀ H H' v, Same H H' → P H v → Dp K H' v d) (p2 : ∀ H H' v, Same H H' → P' H v → Dp K H' v e) (s1 : SeqAt.shaped d = true) (s2 : SeqAt.shaped e = true) : Ev M (tOp (rEqD K) ta tb) σ G (Is (.bl (PyData.eqv d e))) :=
  ev_op h1 h2 fun G1 H1 x y _ f hx hy Q k => ⟨d, e, p1 _ _ _ f.sub hx, p2 _ _ _ f.sub hy, s1, s2, k _ G1 H1 (Ext.rfl' f) rfl⟩
theorem ev_neD {d e : PyData} [Mo P] (h1 : Ev M ta σ G P) (h2 : Ev M tb σ G P') (p1 : ∀ H H' v, Same H H' → P H v → Dp K H' v d) (p2 : ∀ H H' v, Same H H' → P' H v → Dp K H' v e) (s1 : SeqAt.shaped d = true) (s2 : SeqAt.shaped e = true) : Ev M (tOp (rNeD K) ta tb) σ G (Is (.bl (!PyData.eqv d e))) :=
  ev_op h1 h2 fun G1 H1 x y _ f hx hy Q k => ⟨d, e, p1 _ _ _ f.sub hx, p2 _ _ _ f.sub hy, s1, s2, k _ G1 H1 (Ext.rfl' f) rfl⟩
/-- a place's datum -/
def plD (p : Pl) : PyData := .tuple [.str p.1, .int p.2]
theorem pl_dp {p : Pl} {H H' : Hp} {v : V} (s : Same H H') (h : PlA p H v) : Dp K H' v (plD p) := by
  obtain ⟨a, rfl, h⟩ := h
  exact .tup (SqT.of (s _ _ h)) (.cons (.str _) (.cons (.int _) .nil))
theorem str_beq (a b : Str) : (a == b) = decide (a = b) := by
  by_cases c : a = b
  · rw [c]; simp
  · simp [c]
theorem int_beq (a b : Int) : (a == b) = decide (a = b) := by
  by_cases c : a = b
  · rw [c]; simp
  · simp [c]
theorem pl_eqv (p q : Pl) : PyData.eqv (plD p) (plD q) = decide (p = q) := by
  unfold plD
  rw [PyData.eqv, PyData.eqvAll, PyData.eqvAll, PyData.eqvAll, PyData.eqv, PyData.eqv, str_beq, int_beq]
  obtain ⟨a, i⟩ := p
  obtain ⟨b, j⟩ := q
  by_cases c1 : a = b
  · by_cases c2 : i = j <;> simp [c1, c2]
  · simp [c1]
theorem pl_shaped {p : Pl} (h : PyData.strOk p.1 = true) : SeqAt.shaped (plD p) = true := by
  unfold SeqAt.shaped plD
  simp [PyData.canLay0, PyData.canLayAll0, PyData.depth, PyData.depthAll, h]
theorem ev_eqPl {p q : Pl} (o1 : PyData.strOk p.1 = true) (o2 : PyData.strOk q.1 = true) (h1 : Ev M ta σ G (PlA p)) (h2 : Ev M tb σ G (PlA q)) : Ev M (tOp (rEqD K) ta tb) σ G (Is (.bl (decide (p = q)))) := by
  have := ev_eqD (K := K) h1 h2 (fun _ _ _ s h => pl_dp s h) (fun _ _ _ s h => pl_dp s h) (pl_shaped o1) (pl_shaped o2)
  rw [pl_eqv] at this
  exact this
theorem ev_nePl {p q : Pl} (o1 : PyData.strOk p.1 = true) (o2 : PyData.strOk q.1 = true) (h1 : Ev M ta σ G (PlA p)) (h2 : Ev M tb σ G (PlA q)) : Ev M (tOp (rNeD K) ta tb) σ G (Is (.bl (!decide (p = q)))) := by
  have := ev_neD (K := K) h1 h2 (fun _ _ _ s h => pl_dp s h) (fun _ _ _ s h => pl_dp s h) (pl_shaped o1) (pl_shaped o2)
  rw [pl_eqv] at this
  exact this
/-- min of two places -/
def minPl (p q : Pl) : Pl := if PySem.W.dataLt (plD q) (plD p) = true then q else p
theorem ev_min2 {p q : Pl} (h1 : Ev M ta σ G (PlA p)) (h2 : Ev M tb σ G (PlA q)) : Ev M (tCB (rMin2D K) (tCons ta (tCons tb tNil))) σ G (PlA (minPl p q)) :=
  ev_cb (ea_cons h1 (ea_cons h2 ea_nil)) fun G1 H1 vs _ f al Q k => by
    cases al with
    | cons a1 al =>
      cases al with
      | cons a2 al =>
        cases al
        refine ⟨_, _, plD p, plD q, rfl, pl_dp f.sub a1, pl_dp f.sub a2, ?_, ?_, k _ G1 H1 (Ext.rfl' f) ?_⟩
        · constructor
          · intro x hx y hy
            have hx' : x = plD p ∨ x = plD q := by simpa using hx
            have hy' : y = plD p ∨ y = plD q := by simpa using hy
            rcases hx' with rfl | rfl <;> rcases hy' with rfl | rfl <;> rfl
          · intro x hx
            have hx' : x = plD p ∨ x = plD q := by simpa using hx
            rcases hx' with rfl | rfl <;> (intro z; cases z)
        · show PyData.depthAll [plD p, plD q] ≤ 60
          have : PyData.depthAll [plD p, plD q] = 1 ∨ PyData.depthAll [plD p, plD q] ≤ 60 := .inr (by
            first | decide | (unfold plD; simp [PyData.depthAll, PyData.depth]))
          omega
        · unfold minPl
          split
          · exact a2
          · exact a1
/-- a ** b -/
def CPowW (i j : Int) : Prop := 0 ≤ j ∧ (Builtin.Int.intBits i : Int) * j ≤ 2 ^ 27
theorem op_powW {X : Cx} : OpR X (binaryOp .Pow) (rI CPowW fun i j => .int (i ^ j.toNat)) := opI fun _ _ _ _ _ _ _ hc q => pow_int hc.1 hc.2 q
end
/-! ### rules whose reading names the written part, for a comprehension's block -/
section
variable {X : Cx} {K : PySem.W.Frag}
theorem pe_fldK {e : Expr} {ta : TE} {f : Str} {pos : Pos} (he : PE X e ta) (hK : X.K = K) (hb : attributeBase e f X.env (eval e X.env) = eval e X.env) : PE X (.Attribute e f pos) (tFld K ta f) := by
  subst hK
  exact pe_fld he hb
theorem op_neDK (hK : X.K = K) (hu : X.A.units + 64 < cLine) : OpR X (compareOp .NotEq) (rNeD K) := by
  subst hK
  exact op_neD hu
theorem op_inDK (hK : X.K = K) (hu : X.A.units + 65 < cLine) : OpR X (compareOp .In) (rInD K) := by
  subst hK
  exact op_inD hu
theorem ix_tupK (hK : X.K = K) : IxR X (rIxT K) := by
  subst hK
  exact ix_tup
end
end MR
/-! Statements with what follows them; an __init__. -/
namespace MR
open PySem PySem.Spec PyProof.Rows L2
section
variable {K : PySem.W.Frag} {M : Option Addr} {σ : L2.St} {G G' G1 H H' H1 : Hp} {ta tb te tk tv td ty : TE} {t : TT} {x y v : V} {P P' : Hp → V → Prop} {b : Bool} {D : Ends} {tz tb' : TS} {β γ : Type} {R : β → Hp → V → Prop}
/-- self.f = e, where e does not look at self -/
theorem p_fld0 {x C dx : Addr} {fs : List (Str × V)} {m : Str} (f : Fr M G H) (h0 : σ[0]? = some (some (.ref x))) (hx : H x = some (.ins C dx fs)) (g : G x = none) (nM : M ≠ some x) (c : Cls K C) (n : NoAttr K C m) (hf : fs.length < 1000) (hv : Ev M tv σ G P)
    (k : ∀ v G1 H1, Ext M G H G1 H1 → P G1 v → G1 x = none → H1 x = some (.ins C dx fs) → D.nx σ (upd H1 x (.ins C dx (putF m v fs)))) : sFld K (tVar 0) tv m D σ H := hv _ H (Gw.rfl' _) f _ fun v G1 H1 e p =>
  ⟨_, h0, x, C, dx, fs, rfl, e.same _ _ nM hx, c, n, hf, k v G1 H1 e p (e.av x ⟨_, hx, fun _ z => by cases z⟩ g) (e.same _ _ nM hx)⟩
theorem q_fld0 {x C dx : Addr} {fs : List (Str × V)} {m : Str} (f : Fr M G H) (h0 : σ[0]? = some (some (.ref x))) (hx : H x = some (.ins C dx fs)) (g : G x = none) (nM : M ≠ some x) (c : Cls K C) (n : NoAttr K C m) (hf : fs.length < 1000) (hv : Ev M tv σ G P)
    (k : ∀ v G1 H1, Ext M G H G1 H1 → P G1 v → G1 x = none → H1 x = some (.ins C dx fs) → tz D σ (upd H1 x (.ins C dx (putF m v fs)))) : tSeq (sFld K (tVar 0) tv m) tz D σ H := p_fld0 (D := { D with nx := tz D }) f h0 hx g nM c n hf hv k
theorem q_fld {x C dx : Addr} {fs : List (Str × V)} {m : Str} [MoD P] (f : Fr M G H) (h0 : σ[0]? = some (some (.ref x))) (hx : H x = some (.ins C dx fs)) (g : G x = none) (nM : M ≠ some x) (c : Cls K C) (n : NoAttr K C m) (hf : fs.length < 1000) (hv : Ev M tv σ (upd G x (.ins C dx fs)) P)
    (k : ∀ v G1 H1, Ext M G H G1 H1 → P G1 v → G1 x = none → H1 x = some (.ins C dx fs) → tz D σ (upd H1 x (.ins C dx (putF m v fs)))) : tSeq (sFld K (tVar 0) tv m) tz D σ H := p_fld (D := { D with nx := tz D }) f h0 hx g nM c n hf hv k
theorem q_while {c : TT} (Pv : Nat → L2.St → Hp → Prop) (h0 : ∃ m, Pv m σ H)
    (hs : ∀ m σ H, Pv m σ H → ∃ G b, Fr M G H ∧ EvT M c σ G b ∧ ∀ G1 H1, Ext M G H G1 H1 → (b = true → tb' { D with nx := fun σ' H' => ∃ m', m' < m ∧ Pv m' σ' H', ct := fun σ' H' => ∃ m', m' < m ∧ Pv m' σ' H', bk := tz D } σ H1) ∧ (b = false → tz D σ H1)) :
    tSeq (tWhile c tb') tz D σ H := p_while (D := { D with nx := tz D }) Pv h0 hs
theorem q_for' {wi : TI} {g : TG} {l : List β} (f : Fr M G H) (hs : Src M wi σ G l R)
    (k : ∀ G2 H2, Ext M G H G2 H2 → ∃ Pv : Nat → L2.St → Hp → Prop, Pv 0 σ H2 ∧ (∀ i σ' H', Pv i σ' H' → Same G2 H') ∧
      (∀ i b σ1 H1, l[i]? = some b → Pv i σ1 H1 → ∀ x H', (∀ G3, Gw G2 G3 → Fr M G3 H1 → ∃ G4, Ext M G3 H1 G4 H' ∧ R b G4 x) → g x σ1 H' fun σ2 H3 => tb' { D with nx := Pv (i + 1), ct := Pv (i + 1), bk := tz D } σ2 H3) ∧
      ∀ σ' H', Pv l.length σ' H' → tz D σ' H') : tSeq (tFor wi g tb') tz D σ H := p_for (D := { D with nx := tz D }) f hs k
theorem q_app {l : Addr} {acc : List V} {i : Nat} (f : Fr M G H) (hi : σ[i]? = some (some (.ref l))) (hl : H l = some (.lst acc)) (nM : M ≠ some l) (hz : acc.length < 100000) (h : Ev M te σ G P)
    (k : ∀ v G1 H1, Ext M G H G1 H1 → P G1 v → H1 l = some (.lst acc) → tz D σ (upd H1 l (.lst (acc ++ [v])))) : tSeq (tDrop (tBM K "list" rAppend (tVar i) (tCons te tNil))) tz D σ H := p_app (D := { D with nx := tz D }) f hi hl nM hz h k
theorem q_putK {d : Addr} {kvs : List (Key × V)} {k : Key} (f : Fr M G H) (hd : H d = some (.dK kvs)) (nM : M ≠ some d) (hz : kvs.length < 100000) (hv : Ev M tv σ G P) (htd : ∀ G1 H1, Ext M G H G1 H1 → ∀ Q : VK, Q (.ref d) H1 → td σ H1 Q) (hk : Ev M ty σ G (Is (kV k)))
    (q : ∀ v G1 H1, Ext M G H G1 H1 → P G1 v → H1 d = some (.dK kvs) → tz D σ (upd H1 d (.dK (putK kvs k v)))) [Mo P] : tSeq (sDPut td ty tv) tz D σ H := p_putK (D := { D with nx := tz D }) f hd nM hz hv htd hk q
theorem q_putT {d : Addr} {kvs : List (List Key × V)} {k : Pl} (f : Fr M G H) (hd : H d = some (.dT kvs)) (nM : M ≠ some d) (hz : kvs.length < 100000) (hv : Ev M tv σ G P) (htd : ∀ G1 H1, Ext M G H G1 H1 → ∀ Q : VK, Q (.ref d) H1 → td σ H1 Q) (hk : Ev M ty σ G (PlA k))
    (q : ∀ v G1 H1, Ext M G H G1 H1 → P G1 v → H1 d = some (.dT kvs) → tz D σ (upd H1 d (.dT (putK kvs (pk k) v)))) [Mo P] : tSeq (sDPut td ty tv) tz D σ H := p_putT (D := { D with nx := tz D }) f hd nM hz hv htd hk q
theorem q_par {i j : Nat} {P1 P2 : Hp → V → Prop} [Mo P1] [Mo P2] (f : Fr M G H) (h1 : Ev M ta σ G P1) (h2 : Ev M tb σ G P2) (k : ∀ v w G1 H1, Ext M G H G1 H1 → P1 G1 v → P2 G1 w → tz D ((σ.set i (some v)).set j (some w)) H1) : tSeq (tPar i j (tCons ta (tCons tb tNil))) tz D σ H := p_par (D := { D with nx := tz D }) f h1 h2 k
theorem q_lock {t : TS} {d : Addr} {u : HO} (f : Fr M G H) (hd : G d = some u) (hu : DicO u)
    (k : ∀ od, Fr M (upd G d (.frz od u)) (upd H d (.frz od u)) → Up G (upd G d (.frz od u)) → ∀ D', D'.nx = (fun σ' H' => H' d = some (.frz od u) ∧ tz D σ' (upd H' d u)) → D'.rt = (fun v H' => H' d = some (.frz od u) ∧ D.rt v (upd H' d u)) → t D' σ (upd H d (.frz od u))) : tSeq (tLock t) tz D σ H := p_lock (D := { D with nx := tz D }) f hd hu k
/-- a new dict, a new list of one's own -/
theorem q_newT {i : Nat} (f : Fr M G H) (k : ∀ d, H d = none → tz D (σ.set i (some (.ref d))) (upd H d (.dT []))) : tSeq (tAsg tDNewT (gName i)) tz D σ H := fun d hd => k d hd
theorem q_newK {i : Nat} (f : Fr M G H) (k : ∀ d, H d = none → tz D (σ.set i (some (.ref d))) (upd H d (.dK []))) : tSeq (tAsg tDNewK (gName i)) tz D σ H := fun d hd => k d hd
theorem q_newL {i : Nat} (f : Fr M G H) (k : ∀ d, H d = none → tz D (σ.set i (some (.ref d))) (upd H d (.lst []))) : tSeq (tAsg (tLst tNil) (gName i)) tz D σ H := ⟨Nat.zero_le _, fun d hd => k d hd⟩
theorem ini_start {x : Addr} (s : Same G H) (g : G x = none) : Ext none G (del H x) G H :=
  ⟨fun a o _ h => by
    by_cases c : a = x
    · subst c
      rw [del_same] at h
      cases h
    · rw [del_ne c] at h
      exact h, Same.refl _, s, fun _ _ h => h, fun _ _ _ h => h, fun _ z => by cases z⟩
theorem ini_end {x C dx : Addr} {fs : List (Str × V)} (X : Ext none G (del H x) G1 H1) (g : G1 x = none) (h : H1 x = some (.ins C dx fs)) :
    (∀ a o, a ≠ x → H a = some o → H1 a = some o) ∧ Gw G (upd G1 x (.ins C dx fs)) ∧ Same (upd G1 x (.ins C dx fs)) H1 ∧ (∀ a, a ≠ x → Hid H a → G a = none → upd G1 x (.ins C dx fs) a = none) ∧ ∀ a o u, upd G1 x (.ins C dx fs) a = some (.frz o u) → G a = some (.frz o u) := by
  have L := Ext.learn (o := .ins C dx fs) X del_same g h fun _ _ z => by cases z
  refine ⟨fun a o n q => X.same a o (fun z => by cases z) (by rw [del_ne n]; exact q), L.gw, L.sub, fun a n q z => L.av a ?_ z, L.nf⟩
  obtain ⟨o, q, m⟩ := q
  exact ⟨o, by rw [del_ne n]; exact q, m⟩
theorem putF_lt {f : Str} {v : V} {fs : List (Str × V)} {n : Nat} (h : fs.length < n) : (putF f v fs).length < n + 1 := by
  have : ∀ fs : List (Str × V), (putF f v fs).length ≤ fs.length + 1 := by
    intro fs
    induction fs with
    | nil => exact Nat.le_refl _
    | cons q r ih =>
      obtain ⟨a, b⟩ := q
      show (if a = f then (a, v) :: r else (a, b) :: putF f v r).length ≤ r.length + 1 + 1
      split
      · rw [List.length_cons]
        omega
      · rw [List.length_cons]
        omega
  have := this fs
  omega
theorem few1 {f : Str} {v : V} : (putF f v []).length < 1000 := Nat.lt_of_lt_of_le (putF_lt (n := 1) (by decide)) (by decide)
theorem few2 {f g : Str} {v w : V} : (putF f v (putF g w [])).length < 1000 := Nat.lt_of_lt_of_le (putF_lt (putF_lt (n := 1) (by decide))) (by decide)
theorem few3 {f g h : Str} {v w x : V} : (putF f v (putF g w (putF h x []))).length < 1000 := Nat.lt_of_lt_of_le (putF_lt (putF_lt (putF_lt (n := 1) (by decide)))) (by decide)
theorem few4 {f g h i : Str} {v w x y : V} : (putF f v (putF g w (putF h x (putF i y [])))).length < 1000 := Nat.lt_of_lt_of_le (putF_lt (putF_lt (putF_lt (putF_lt (n := 1) (by decide))))) (by decide)
theorem ev_cast {te : TE} (h : Ev M te σ G P) (e : P = P') : Ev M te σ G P' := by
  subst e
  exact h
end
theorem lk_map {κ β γ : Type} [DecidableEq κ] (φ : κ → β → γ) (l : List (κ × β)) (k : κ) : lk (l.map fun x => (x.1, φ x.1 x.2)) k = (lk l k).map (φ k) := by
  induction l with
  | nil => rfl
  | cons x l ih =>
    rw [List.map_cons, lk_cons, lk_cons, ih]
    by_cases c : x.1 = k
    · rw [if_pos c, if_pos c, c]
      rfl
    · rw [if_neg c, if_neg c]
theorem lk_tab {κ β : Type} [DecidableEq κ] (φ : κ → β) (l : List κ) {k : κ} (h : k ∈ l) : lk (l.map fun x => (x, φ x)) k = some (φ k) := by
  induction l with
  | nil => cases h
  | cons x l ih =>
    rw [List.map_cons, lk_cons]
    by_cases c : x = k
    · rw [if_pos c, c]
    · rw [if_neg c]
      rcases List.mem_cons.mp h with e | e
      · exact absurd e.symm c
      · exact ih e
theorem map_fst_tab {κ β : Type} (φ : κ → β) (l : List κ) : (l.map fun x => (x, φ x)).map (·.1) = l := by
  rw [List.map_map]
  exact List.map_id' l
theorem fm_filter {β : Type} (q : β → Bool) (l : List β) : l.filterMap (fun b => if q b = true then some b else none) = l.filter q := by
  induction l with
  | nil => rfl
  | cons x l ih =>
    rw [List.filterMap_cons, List.filter_cons, ih]
    by_cases c : q x = true
    · rw [if_pos c, if_pos c]
    · rw [if_neg c, if_neg c]
end MR
/-! Dicts of one's own, by comprehensions. -/
namespace MR
open PySem L2
section
variable {K : PySem.W.Frag} {M : Option Addr} {σ : L2.St} {G G' H H' : Hp} {ta tb te tk tv td ty : TE} {t u : TT} {x y v : V} {P P' : Hp → V → Prop} {b : Bool}
variable {β γ : Type} {R : β → Hp → V → Prop}
/-- {k: v for x in l if ..} -/
theorem dcK_own {κ : Type} [DecidableEq κ] {ek : κ → Key} {wi : TI} {g : TG} {tt : TT} {tk tv : TE} {vs : List Nat} {l : List β} {R' : γ → Hp → V → Prop} [∀ c, Mo (R' c)] (inj : ∀ a b, ek a = ek b → a = b) (F : β → Option (κ × γ)) (hs : Src M wi σ G l R) (hl : l.length < 100000)
    (hb : TurnC M G l R g σ vs fun b σ2 G' => EvT M tt σ2 G' (F b).isSome ∧ ∀ c, F b = some c → Ev M tk σ2 G' (Is (kV (ek c.1))) ∧ Ev M tv σ2 G' (R' c.2)) :
    ∀ G1 H1, Gw G G1 → Fr M G1 H1 → ∀ Q : VK, (∀ D G3 H3 kvs, H1 D = none → G3 D = none → Ext M G1 H1 G3 H3 → H3 D = some (.dK kvs) → DR ek (fun c u => R' c G3 u) (mkT (l.filterMap F)) kvs → Q (.ref D) H3) → tDc wi g tt tk tv vs σ H1 Q := fun G1 H1 e f Q k => hs G1 H1 e f _ fun J G2 H2 e2 hw D nD => by
  obtain ⟨Gp, Y, w, hG, hy⟩ := hw
  have f2 := f.ext e2
  have gD : G2 D = none := f2.free nD
  have nM := f2.notM nD
  refine ⟨fun i m H => ∃ G3 kvs, i + m = l.length ∧ G3 D = none ∧ Ext M G2 H2 G3 H ∧ H D = some (.dK kvs) ∧ DR ek (fun c u => R' c G3 u) (mkT ((l.take i).filterMap F)) kvs, ⟨l.length, G2, [], by omega, gD, Ext.mutD (Ext.rfl' f2) nD gD nM, upd_same, .nil⟩, fun i m H hP => ?_⟩
  obtain ⟨G3, kvs, him, d3, x3, hD, pr⟩ := hP
  have sG := hG _ (x3.gs.trans x3.sub)
  by_cases hi : i < l.length
  · refine .inr ⟨w.goes i H hi sG, fun H' => ∃ G3 kvs, G3 D = none ∧ Ext M G2 H2 G3 H' ∧ H' D = some (.dK kvs) ∧ DR ek (fun c u => R' c G3 u) (mkT ((l.take (i + 1)).filterMap F)) kvs, fun H' ⟨a, b, c⟩ => ⟨m - 1, by omega, a, b, by omega, c⟩, fun x H' hyy => ?_⟩
    have hY := w.yields i H x H' hi sG hyy
    have f3 : Fr M G3 H := f2.ext x3
    obtain ⟨b, G4, hbi, x4, rb⟩ := hy i H x H' G3 x3.gw f3 hY
    have hmem : b ∈ l := List.mem_of_getElem? hbi
    have f4 := f3.ext x4
    have tkk : (l.take (i + 1)).filterMap F = (l.take i).filterMap F ++ (F b).toList := by
      rw [List.take_add_one, hbi]
      show List.filterMap F (l.take i ++ [b]) = _
      rw [List.filterMap_append]
      cases q : F b <;> simp [q]
    refine hb b hmem x G4 H' ((e.trans e2.gw).trans (x3.gw.trans x4.gw)) f4 rb _ fun σ2 hσ hh => ⟨hσ, hh.1 G4 H' (Gw.rfl' _) f4 _ fun G5 H5 x5 => ?_⟩
    have he := hh.2
    have f5 := f4.ext x5
    cases q : F b with
    | none =>
      show (if (none : Option (κ × γ)).isSome = true then _ else _)
      rw [if_neg (by simp)]
      have x35 := x4.trans x5
      refine ⟨G5, kvs, ?_, x3.trans x35, x35.same _ _ nM hD, ?_⟩
      · exact x35.av D ⟨_, hD, fun _ z => by cases z⟩ d3
      · rw [tkk, q]
        show DR ek _ (mkT ((l.take i).filterMap F ++ [])) kvs
        rw [List.append_nil]
        exact DR.mo (sm_up x35.gs) pr
    | some c =>
      show (if (some c).isSome = true then _ else _)
      rw [if_pos (by simp)]
      refine (he c q).1 G5 H5 x5.gw f5 _ fun y G6 H6 x6 ry => ?_
      refine (he c q).2 G6 H6 (x5.gw.trans x6.gw) (f5.ext x6) _ fun z G7 H7 x7 rz => ?_
      have x37 := ((x4.trans x5).trans x6).trans x7
      have hD7 := x37.same _ _ nM hD
      have d7 := x37.av D ⟨_, hD, fun _ z => by cases z⟩ d3
      have pl := paired_len pr
      refine ⟨kvs, ek c.1, ry, hD7, ?_, G7, _, d7, Ext.mutD (x3.trans x37) nD d7 nM, upd_same, ?_⟩
      · rw [pl]
        refine sz_lt (Nat.lt_of_le_of_lt (Nat.le_trans (mkT_len _) (Nat.le_trans (List.length_filterMap_le _ _) ?_)) hl)
        rw [List.length_take]
        exact Nat.min_le_right _ _
      · rw [tkk, q]
        show DR ek _ (mkT ((l.take i).filterMap F ++ [c])) _
        rw [mkT_snoc]
        exact DR.put inj (DR.mo (sm_up x37.gs) pr) rz
  · have hi' : i = l.length := by omega
    subst hi'
    refine .inl ⟨w.stops H sG, ?_⟩
    rw [List.take_length] at pr
    refine k D G3 H kvs ?_ d3 (e2.trans x3) hD pr
    cases q : H1 D with
    | none => rfl
    | some o =>
      rw [e2.same _ _ (fun z => by rw [z] at nM; exact nM rfl) q] at nD
      cases nD
theorem dcT_own {wi : TI} {g : TG} {tt : TT} {tk tv : TE} {vs : List Nat} {l : List β} {R' : γ → Hp → V → Prop} [∀ c, Mo (R' c)] (F : β → Option (Pl × γ)) (hs : Src M wi σ G l R) (hl : l.length < 100000)
    (hb : TurnC M G l R g σ vs fun b σ2 G' => EvT M tt σ2 G' (F b).isSome ∧ ∀ c, F b = some c → Ev M tk σ2 G' (PlA c.1) ∧ Ev M tv σ2 G' (R' c.2)) :
    ∀ G1 H1, Gw G G1 → Fr M G1 H1 → ∀ Q : VK, (∀ D G3 H3 kvs, H1 D = none → G3 D = none → Ext M G1 H1 G3 H3 → H3 D = some (.dT kvs) → DR pk (fun c u => R' c G3 u) (mkT (l.filterMap F)) kvs → Q (.ref D) H3) → tDcT wi g tt tk tv vs σ H1 Q := fun G1 H1 e f Q k => hs G1 H1 e f _ fun J G2 H2 e2 hw D nD => by
  obtain ⟨Gp, Y, w, hG, hy⟩ := hw
  have f2 := f.ext e2
  have gD : G2 D = none := f2.free nD
  have nM := f2.notM nD
  refine ⟨fun i m H => ∃ G3 kvs, i + m = l.length ∧ G3 D = none ∧ Ext M G2 H2 G3 H ∧ H D = some (.dT kvs) ∧ DR pk (fun c u => R' c G3 u) (mkT ((l.take i).filterMap F)) kvs, ⟨l.length, G2, [], by omega, gD, Ext.mutD (Ext.rfl' f2) nD gD nM, upd_same, .nil⟩, fun i m H hP => ?_⟩
  obtain ⟨G3, kvs, him, d3, x3, hD, pr⟩ := hP
  have sG := hG _ (x3.gs.trans x3.sub)
  by_cases hi : i < l.length
  · refine .inr ⟨w.goes i H hi sG, fun H' => ∃ G3 kvs, G3 D = none ∧ Ext M G2 H2 G3 H' ∧ H' D = some (.dT kvs) ∧ DR pk (fun c u => R' c G3 u) (mkT ((l.take (i + 1)).filterMap F)) kvs, fun H' ⟨a, b, c⟩ => ⟨m - 1, by omega, a, b, by omega, c⟩, fun x H' hyy => ?_⟩
    have hY := w.yields i H x H' hi sG hyy
    have f3 : Fr M G3 H := f2.ext x3
    obtain ⟨b, G4, hbi, x4, rb⟩ := hy i H x H' G3 x3.gw f3 hY
    have hmem : b ∈ l := List.mem_of_getElem? hbi
    have f4 := f3.ext x4
    have tkk : (l.take (i + 1)).filterMap F = (l.take i).filterMap F ++ (F b).toList := by
      rw [List.take_add_one, hbi]
      show List.filterMap F (l.take i ++ [b]) = _
      rw [List.filterMap_append]
      cases q : F b <;> simp [q]
    refine hb b hmem x G4 H' ((e.trans e2.gw).trans (x3.gw.trans x4.gw)) f4 rb _ fun σ2 hσ hh => ⟨hσ, hh.1 G4 H' (Gw.rfl' _) f4 _ fun G5 H5 x5 => ?_⟩
    have he := hh.2
    have f5 := f4.ext x5
    cases q : F b with
    | none =>
      show (if (none : Option (Pl × γ)).isSome = true then _ else _)
      rw [if_neg (by simp)]
      have x35 := x4.trans x5
      refine ⟨G5, kvs, ?_, x3.trans x35, x35.same _ _ nM hD, ?_⟩
      · exact x35.av D ⟨_, hD, fun _ z => by cases z⟩ d3
      · rw [tkk, q]
        show DR pk _ (mkT ((l.take i).filterMap F ++ [])) kvs
        rw [List.append_nil]
        exact DR.mo (sm_up x35.gs) pr
    | some c =>
      show (if (some c).isSome = true then _ else _)
      rw [if_pos (by simp)]
      refine (he c q).1 G5 H5 x5.gw f5 _ fun y G6 H6 x6 ry => ?_
      refine (he c q).2 G6 H6 (x5.gw.trans x6.gw) (f5.ext x6) _ fun z G7 H7 x7 rz => ?_
      have x37 := ((x4.trans x5).trans x6).trans x7
      have hD7 := x37.same _ _ nM hD
      have d7 := x37.av D ⟨_, hD, fun _ z => by cases z⟩ d3
      have pl := paired_len pr
      obtain ⟨q', rfl, hq'⟩ := ry
      refine ⟨q', kvs, pk c.1, rfl, x7.sub _ _ (x7.gs _ _ hq'), hD7, ?_, G7, _, d7, Ext.mutD (x3.trans x37) nD d7 nM, upd_same, ?_⟩
      · rw [pl]
        refine sz_lt (Nat.lt_of_le_of_lt (Nat.le_trans (mkT_len _) (Nat.le_trans (List.length_filterMap_le _ _) ?_)) hl)
        rw [List.length_take]
        exact Nat.min_le_right _ _
      · rw [tkk, q]
        show DR pk _ (mkT ((l.take i).filterMap F ++ [c])) _
        rw [mkT_snoc]
        exact DR.put pk_inj (DR.mo (sm_up x37.gs) pr) rz
  · have hi' : i = l.length := by omega
    subst hi'
    refine .inl ⟨w.stops H sG, ?_⟩
    rw [List.take_length] at pr
    refine k D G3 H kvs ?_ d3 (e2.trans x3) hD pr
    cases q : H1 D with
    | none => rfl
    | some o =>
      rw [e2.same _ _ (fun z => by rw [z] at nM; exact nM rfl) q] at nD
      cases nD
end
end MR
/-! The text by places; what the walks lean on. -/
namespace MR
open PySem PySem.Spec PyProof.Rows L2 He
def top (i : Nat) : Stmt := PySem.Challenge.pw_meetrings_k44_whole_rounds_of_led_forms.main.body.getD i (.Pass ⟨0, 0, 0, 0⟩)
abbrev s_common_divisor : Stmt := (top 2)
abbrev N_common_divisor : List Str := ["first", "second"]
theorem sc_common_divisor : FnScope N_common_divisor ["first", "second"] (defScope s_common_divisor) := ⟨rfl, rfl, rfl, by decide +kernel, rfl, by decide +kernel, by decide +kernel⟩
abbrev s_solution : Stmt := (top 3)
abbrev N_solution : List Str := ["factor", "wanted", "modulus", "divisor", "small", "first", "second", "one", "other", "share"]
theorem sc_solution : FnScope N_solution ["factor", "wanted", "modulus"] (defScope s_solution) := ⟨rfl, rfl, rfl, by decide +kernel, rfl, by decide +kernel, by decide +kernel⟩
abbrev s_RunsU_initU : Stmt := (inClass (top 5) 0)
abbrev N_RunsU_initU : List Str := ["self", "form", "name", "length", "divisor", "spot", "place", "lane", "at"]
theorem sc_RunsU_initU : FnScope N_RunsU_initU ["self", "form"] (defScope s_RunsU_initU) := ⟨rfl, rfl, rfl, by decide +kernel, rfl, by decide +kernel, by decide +kernel⟩
abbrev s_Runs_stand : Stmt := (inClass (top 5) 1)
abbrev N_Runs_stand : List Str := ["self", "place", "name", "i", "divisor", "size", "back"]
theorem sc_Runs_stand : FnScope N_Runs_stand ["self", "place"] (defScope s_Runs_stand) := ⟨rfl, rfl, rfl, by decide +kernel, rfl, by decide +kernel, by decide +kernel⟩
abbrev s_Runs_ahead : Stmt := (inClass (top 5) 2)
abbrev N_Runs_ahead : List Str := ["self", "spot", "lane", "at", "size", "mark", "found"]
theorem sc_Runs_ahead : FnScope N_Runs_ahead ["self", "spot"] (defScope s_Runs_ahead) := ⟨rfl, rfl, rfl, by decide +kernel, rfl, by decide +kernel, by decide +kernel⟩
abbrev s_Runs_round_from : Stmt := (inClass (top 5) 3)
abbrev N_Runs_round_from : List Str := ["self", "start", "found", "spot", "times", "following"]
theorem sc_Runs_round_from : FnScope N_Runs_round_from ["self", "start"] (defScope s_Runs_round_from) := ⟨rfl, rfl, rfl, by decide +kernel, rfl, by decide +kernel, by decide +kernel⟩
abbrev s_Runs_lone_length : Stmt := (inClass (top 5) 4)
abbrev N_Runs_lone_length : List Str := ["self", "name"]
theorem sc_Runs_lone_length : FnScope N_Runs_lone_length ["self", "name"] (defScope s_Runs_lone_length) := ⟨rfl, rfl, rfl, by decide +kernel, rfl, by decide +kernel, by decide +kernel⟩
abbrev s_Runs_lone_count : Stmt := (inClass (top 5) 5)
abbrev N_Runs_lone_count : List Str := ["self", "name", "lane"]
theorem sc_Runs_lone_count : FnScope N_Runs_lone_count ["self", "name"] (defScope s_Runs_lone_count) := ⟨rfl, rfl, rfl, by decide +kernel, rfl, by decide +kernel, by decide +kernel⟩
abbrev s_Runs_strange_lengths : Stmt := (inClass (top 5) 6)
abbrev N_Runs_strange_lengths : List Str := ["self", "lengths", "met", "start", "steps", "spot", "times"]
theorem sc_Runs_strange_lengths : FnScope N_Runs_strange_lengths ["self"] (defScope s_Runs_strange_lengths) := ⟨rfl, rfl, rfl, by decide +kernel, rfl, by decide +kernel, by decide +kernel⟩
abbrev s_after : Stmt := (top 6)
abbrev N_after : List Str := ["form", "spot", "times", "told", "runs", "first", "steps", "left", "station", "count"]
theorem sc_after : FnScope N_after ["form", "spot", "times"] (defScope s_after) := ⟨rfl, rfl, rfl, by decide +kernel, rfl, by decide +kernel, by decide +kernel⟩
abbrev s_back : Stmt := (top 7)
abbrev N_back : List Str := ["form", "spot", "told", "runs", "first", "station", "count"]
theorem sc_back : FnScope N_back ["form", "spot"] (defScope s_back) := ⟨rfl, rfl, rfl, by decide +kernel, rfl, by decide +kernel, by decide +kernel⟩
abbrev s_rounds : Stmt := (top 8)
abbrev N_rounds : List Str := ["form", "runs", "counts", "length", "name", "lone"]
theorem sc_rounds : FnScope N_rounds ["form"] (defScope s_rounds) := ⟨rfl, rfl, rfl, by decide +kernel, rfl, by decide +kernel, by decide +kernel⟩
abbrev s_period : Stmt := (top 9)
abbrev N_period : List Str := ["form", "result", "length", "count"]
theorem sc_period : FnScope N_period ["form"] (defScope s_period) := ⟨rfl, rfl, rfl, by decide +kernel, rfl, by decide +kernel, by decide +kernel⟩
abbrev s_FormU_initU : Stmt := (inClass (top 21) 0)
abbrev N_FormU_initU : List Str := ["self", "web", "shifts", "goes", "name", "a", "b", "spot", "goal"]
theorem sc_FormU_initU : FnScope N_FormU_initU ["self", "web", "shifts", "goes"] (defScope s_FormU_initU) := ⟨rfl, rfl, rfl, by decide +kernel, rfl, by decide +kernel, by decide +kernel⟩
abbrev s_Form_plain : Stmt := (inClass (top 21) 1)
abbrev N_Form_plain : List Str := ["self", "spot", "times", "name", "i"]
theorem sc_Form_plain : FnScope N_Form_plain ["self", "spot", "times"] (defScope s_Form_plain) := ⟨rfl, rfl, rfl, by decide +kernel, rfl, by decide +kernel, by decide +kernel⟩
abbrev s_Form_goal : Stmt := (inClass (top 21) 2)
abbrev N_Form_goal : List Str := ["self", "spot"]
theorem sc_Form_goal : FnScope N_Form_goal ["self", "spot"] (defScope s_Form_goal) := ⟨rfl, rfl, rfl, by decide +kernel, rfl, by decide +kernel, by decide +kernel⟩
abbrev s_Form_origin : Stmt := (inClass (top 21) 3)
abbrev N_Form_origin : List Str := ["self", "spot", "found", "name", "i", "place"]
theorem sc_Form_origin : FnScope N_Form_origin ["self", "spot"] (defScope s_Form_origin) := ⟨rfl, rfl, rfl, by decide +kernel, rfl, by decide +kernel, by decide +kernel⟩
abbrev s_FormU_callU : Stmt := (inClass (top 21) 4)
abbrev N_FormU_callU : List Str := ["self", "spot"]
theorem sc_FormU_callU : FnScope N_FormU_callU ["self", "spot"] (defScope s_FormU_callU) := ⟨rfl, rfl, rfl, by decide +kernel, rfl, by decide +kernel, by decide +kernel⟩
abbrev s_FormU_mulU : Stmt := (inClass (top 21) 5)
abbrev N_FormU_mulU : List Str := ["self", "other", "shifts", "name", "goes", "spot", "goal"]
theorem sc_FormU_mulU : FnScope N_FormU_mulU ["self", "other"] (defScope s_FormU_mulU) := ⟨rfl, rfl, rfl, by decide +kernel, rfl, by decide +kernel, by decide +kernel⟩
abbrev s_Form_inverse : Stmt := (inClass (top 21) 6)
abbrev N_Form_inverse : List Str := ["self", "goes", "spot", "goal", "told", "name", "push"]
theorem sc_Form_inverse : FnScope N_Form_inverse ["self"] (defScope s_Form_inverse) := ⟨rfl, rfl, rfl, by decide +kernel, rfl, by decide +kernel, by decide +kernel⟩
abbrev s_told_goals : Stmt := (top 22)
abbrev N_told_goals : List Str := ["web", "offsets", "cells", "shared", "goes", "spot", "origin", "name", "held", "place"]
theorem sc_told_goals : FnScope N_told_goals ["web", "offsets", "cells", "shared"] (defScope s_told_goals) := ⟨rfl, rfl, rfl, by decide +kernel, rfl, by decide +kernel, by decide +kernel⟩
abbrev s_form_of : Stmt := (top 23)
abbrev N_form_of : List Str := ["script", "web", "offsets", "name", "cells", "shared", "place", "doors", "ring", "i", "k", "length", "held"]
theorem sc_form_of : FnScope N_form_of ["script"] (defScope s_form_of) := ⟨rfl, rfl, rfl, by decide +kernel, rfl, by decide +kernel, by decide +kernel⟩
abbrev s_parting_spot : Stmt := (top 25)
abbrev N_parting_spot : List Str := ["one", "other", "spot", "name", "place"]
theorem sc_parting_spot : FnScope N_parting_spot ["one", "other"] (defScope s_parting_spot) := ⟨rfl, rfl, rfl, by decide +kernel, rfl, by decide +kernel, by decide +kernel⟩
abbrev s_alike : Stmt := (top 26)
abbrev N_alike : List Str := ["one", "other"]
theorem sc_alike : FnScope N_alike ["one", "other"] (defScope s_alike) := ⟨rfl, rfl, rfl, by decide +kernel, rfl, by decide +kernel, by decide +kernel⟩
abbrev s_ScriptU_initU : Stmt := (inClass (top 28) 0)
abbrev N_ScriptU_initU : List Str := ["self", "web", "turns", "name", "k"]
theorem sc_ScriptU_initU : FnScope N_ScriptU_initU ["self", "web", "turns"] (defScope s_ScriptU_initU) := ⟨rfl, rfl, rfl, by decide +kernel, rfl, by decide +kernel, by decide +kernel⟩
abbrev s_is_name : Stmt := (top 34)
abbrev N_is_name : List Str := ["name", "sign"]
theorem sc_is_name : FnScope N_is_name ["name"] (defScope s_is_name) := ⟨rfl, rfl, rfl, by decide +kernel, rfl, by decide +kernel, by decide +kernel⟩
abbrev s_ring_fault : Stmt := (top 35)
abbrev N_ring_fault : List Str := ["rings", "names", "name", "length", "step", "index", "ring"]
theorem sc_ring_fault : FnScope N_ring_fault ["rings"] (defScope s_ring_fault) := ⟨rfl, rfl, rfl, by decide +kernel, rfl, by decide +kernel, by decide +kernel⟩
abbrev s_meeting_fault : Stmt := (top 36)
abbrev N_meeting_fault : List Str := ["lengths", "meetings", "places", "pairs", "index", "meeting", "name", "i", "other", "j"]
theorem sc_meeting_fault : FnScope N_meeting_fault ["lengths", "meetings"] (defScope s_meeting_fault) := ⟨rfl, rfl, rfl, by decide +kernel, rfl, by decide +kernel, by decide +kernel⟩
abbrev s_in_order : Stmt := (top 37)
abbrev N_in_order : List Str := ["meeting", "name", "i", "other", "j"]
theorem sc_in_order : FnScope N_in_order ["meeting"] (defScope s_in_order) := ⟨rfl, rfl, rfl, by decide +kernel, rfl, by decide +kernel, by decide +kernel⟩
abbrev s_WebU_initU : Stmt := (inClass (top 38) 0)
abbrev N_WebU_initU : List Str := ["self", "rings", "meetings", "fault", "lengths", "name", "length", "step", "meeting", "ends", "i", "other", "j", "first", "second"]
theorem sc_WebU_initU : FnScope N_WebU_initU ["self", "rings", "meetings"] (defScope s_WebU_initU) := ⟨rfl, rfl, rfl, by decide +kernel, rfl, by decide +kernel, by decide +kernel⟩
abbrev s_WebU_eqU : Stmt := (inClass (top 38) 1)
abbrev N_WebU_eqU : List Str := ["self", "other"]
theorem sc_WebU_eqU : FnScope N_WebU_eqU ["self", "other"] (defScope s_WebU_eqU) := ⟨rfl, rfl, rfl, by decide +kernel, rfl, by decide +kernel, by decide +kernel⟩
abbrev s_Web_names : Stmt := (inClass (top 38) 4)
abbrev N_Web_names : List Str := ["self", "name", "length", "step"]
theorem sc_Web_names : FnScope N_Web_names ["self"] (defScope s_Web_names) := ⟨rfl, rfl, rfl, by decide +kernel, rfl, by decide +kernel, by decide +kernel⟩
abbrev s_Web_check_name : Stmt := (inClass (top 38) 5)
abbrev N_Web_check_name : List Str := ["self", "name"]
theorem sc_Web_check_name : FnScope N_Web_check_name ["self", "name"] (defScope s_Web_check_name) := ⟨rfl, rfl, rfl, by decide +kernel, rfl, by decide +kernel, by decide +kernel⟩
abbrev s_Web_length : Stmt := (inClass (top 38) 6)
abbrev N_Web_length : List Str := ["self", "name"]
theorem sc_Web_length : FnScope N_Web_length ["self", "name"] (defScope s_Web_length) := ⟨rfl, rfl, rfl, by decide +kernel, rfl, by decide +kernel, by decide +kernel⟩
abbrev s_Web_spots : Stmt := (inClass (top 38) 9)
abbrev N_Web_spots : List Str := ["self", "name", "length", "step"]
theorem sc_Web_spots : FnScope N_Web_spots ["self"] (defScope s_Web_spots) := ⟨rfl, rfl, rfl, by decide +kernel, rfl, by decide +kernel, by decide +kernel⟩
abbrev s_Web_has_place : Stmt := (inClass (top 38) 10)
abbrev N_Web_has_place : List Str := ["self", "place", "name", "i"]
theorem sc_Web_has_place : FnScope N_Web_has_place ["self", "place"] (defScope s_Web_has_place) := ⟨rfl, rfl, rfl, by decide +kernel, rfl, by decide +kernel, by decide +kernel⟩
abbrev s_Web_told : Stmt := (inClass (top 38) 11)
abbrev N_Web_told : List Str := ["self", "place"]
theorem sc_Web_told : FnScope N_Web_told ["self", "place"] (defScope s_Web_told) := ⟨rfl, rfl, rfl, by decide +kernel, rfl, by decide +kernel, by decide +kernel⟩
abbrev s_Web_spot_of : Stmt := (inClass (top 38) 12)
abbrev N_Web_spot_of : List Str := ["self", "name", "i"]
theorem sc_Web_spot_of : FnScope N_Web_spot_of ["self", "name", "i"] (defScope s_Web_spot_of) := ⟨rfl, rfl, rfl, by decide +kernel, rfl, by decide +kernel, by decide +kernel⟩
abbrev s_Web_checked : Stmt := (inClass (top 38) 13)
abbrev N_Web_checked : List Str := ["self", "spot"]
theorem sc_Web_checked : FnScope N_Web_checked ["self", "spot"] (defScope s_Web_checked) := ⟨rfl, rfl, rfl, by decide +kernel, rfl, by decide +kernel, by decide +kernel⟩
abbrev s_Web_places : Stmt := (inClass (top 38) 14)
abbrev N_Web_places : List Str := ["self", "spot", "place"]
theorem sc_Web_places : FnScope N_Web_places ["self", "spot"] (defScope s_Web_places) := ⟨rfl, rfl, rfl, by decide +kernel, rfl, by decide +kernel, by decide +kernel⟩
abbrev s_Web_board : Stmt := (inClass (top 38) 22)
abbrev N_Web_board : List Str := ["cls", "rows", "columns", "number", "rings", "i", "j"]
theorem sc_Web_board : FnScope N_Web_board ["cls", "rows", "columns"] (defScope s_Web_board) := ⟨rfl, rfl, rfl, by decide +kernel, rfl, by decide +kernel, by decide +kernel⟩
abbrev s__law_source : Stmt := (top 40)
abbrev N__law_source : List Str := ["_law_script", "_law_place", "_law_cell"]
theorem sc__law_source : FnScope N__law_source ["_law_script", "_law_place"] (defScope s__law_source) := ⟨rfl, rfl, rfl, by decide +kernel, rfl, by decide +kernel, by decide +kernel⟩
abbrev s__law_take : Stmt := (top 41)
abbrev N__law_take : List Str := ["_law_pot", "_law_size", "_law_digit", "_law_first", "_law_second"]
theorem sc__law_take : FnScope N__law_take ["_law_pot", "_law_size"] (defScope s__law_take) := ⟨rfl, rfl, rfl, by decide +kernel, rfl, by decide +kernel, by decide +kernel⟩
abbrev s__law_number : Stmt := (top 42)
abbrev N__law_number : List Str := ["_law_pot", "_law_size", "_law_number_here", "_law_k"]
theorem sc__law_number : FnScope N__law_number ["_law_pot", "_law_size"] (defScope s__law_number) := ⟨rfl, rfl, rfl, by decide +kernel, rfl, by decide +kernel, by decide +kernel⟩
abbrev s__law_drawn_rings : Stmt := (top 43)
abbrev N__law_drawn_rings : List Str := ["_law_pot", "_law_most", "_law_tops", "_law_rings", "_law_start", "_law_names", "_law_k", "_law_top", "_law_length", "_law_step"]
theorem sc__law_drawn_rings : FnScope N__law_drawn_rings ["_law_pot", "_law_most", "_law_tops"] (defScope s__law_drawn_rings) := ⟨rfl, rfl, rfl, by decide +kernel, rfl, by decide +kernel, by decide +kernel⟩
abbrev s__law_drawn_meetings : Stmt := (top 44)
abbrev N__law_drawn_meetings : List Str := ["_law_pot", "_law_rings", "_law_tries", "_law_meetings", "_law_taken", "_law_k", "_law_one", "_law_two", "_law_i", "_law_j", "_law_marks", "_law_mark"]
theorem sc__law_drawn_meetings : FnScope N__law_drawn_meetings ["_law_pot", "_law_rings", "_law_tries"] (defScope s__law_drawn_meetings) := ⟨rfl, rfl, rfl, by decide +kernel, rfl, by decide +kernel, by decide +kernel⟩
abbrev s__law_drawn_moves : Stmt := (top 45)
abbrev N__law_drawn_moves : List Str := ["_law_pot", "_law_rings", "_law_most", "_law_moves", "_law_k", "_law_ring", "_law_far"]
theorem sc__law_drawn_moves : FnScope N__law_drawn_moves ["_law_pot", "_law_rings", "_law_most"] (defScope s__law_drawn_moves) := ⟨rfl, rfl, rfl, by decide +kernel, rfl, by decide +kernel, by decide +kernel⟩
abbrev s__law_times_right : Stmt := (top 47)
abbrev N__law_times_right : List Str := ["_law_pot", "_law_told", "_law_lead", "_law_led", "_law_place", "_law_start", "_law_times", "_law_more", "_law_here"]
theorem sc__law_times_right : FnScope N__law_times_right ["_law_pot", "_law_told", "_law_lead", "_law_led", "_law_place", "_law_start"] (defScope s__law_times_right) := ⟨rfl, rfl, rfl, by decide +kernel, rfl, by decide +kernel, by decide +kernel⟩
abbrev s__law_back_right : Stmt := (top 48)
abbrev N__law_back_right : List Str := ["_law_told", "_law_lead", "_law_led", "_law_place", "_law_start", "_law_size", "_law_prime"]
theorem sc__law_back_right : FnScope N__law_back_right ["_law_told", "_law_lead", "_law_led", "_law_place", "_law_start"] (defScope s__law_back_right) := ⟨rfl, rfl, rfl, by decide +kernel, rfl, by decide +kernel, by decide +kernel⟩
abbrev s_law : Stmt := (top 49)
abbrev N_law : List Str := ["_law_script", "_law_pot", "_law_rings", "_law_web", "_law_name", "_law_told", "_law_lead", "_law_led", "_law_due", "_law_length", "_law_count", "_law_step", "_law_i", "_law_start"]
theorem sc_law : FnScope N_law ["_law_script"] (defScope s_law) := ⟨rfl, rfl, rfl, by decide +kernel, rfl, by decide +kernel, by decide +kernel⟩
/-- what the program's top has made -/
structure Tx (K : PySem.W.Frag) (mg : Str → Option Value) : Prop where
  d_common_divisor : ∃ fd, FunD K "common_divisor" "common_divisor" (defArgs s_common_divisor) (defBody s_common_divisor) (defScope s_common_divisor) [] [] (ga K "common_divisor") fd
  g_common_divisor : mg "common_divisor" = some (.ref (ga K "common_divisor"))
  d_solution : ∃ fd, FunD K "solution" "solution" (defArgs s_solution) (defBody s_solution) (defScope s_solution) [] [] (ga K "solution") fd
  g_solution : mg "solution" = some (.ref (ga K "solution"))
  d_RunsU_initU : ∃ fd, FunD K "__init__" "Runs.__init__" (defArgs s_RunsU_initU) (defBody s_RunsU_initU) (defScope s_RunsU_initU) [] [] (ma K (ga K "Runs") "__init__") fd
  d_Runs_stand : ∃ fd, FunD K "stand" "Runs.stand" (defArgs s_Runs_stand) (defBody s_Runs_stand) (defScope s_Runs_stand) [] [] (ma K (ga K "Runs") "stand") fd
  m_Runs_stand : Meth K (ga K "Runs") "stand" (ma K (ga K "Runs") "stand")
  d_Runs_ahead : ∃ fd, FunD K "ahead" "Runs.ahead" (defArgs s_Runs_ahead) (defBody s_Runs_ahead) (defScope s_Runs_ahead) [] [] (ma K (ga K "Runs") "ahead") fd
  m_Runs_ahead : Meth K (ga K "Runs") "ahead" (ma K (ga K "Runs") "ahead")
  d_Runs_round_from : ∃ fd, FunD K "round_from" "Runs.round_from" (defArgs s_Runs_round_from) (defBody s_Runs_round_from) (defScope s_Runs_round_from) [] [] (ma K (ga K "Runs") "round_from") fd
  m_Runs_round_from : Meth K (ga K "Runs") "round_from" (ma K (ga K "Runs") "round_from")
  d_Runs_lone_length : ∃ fd, FunD K "lone_length" "Runs.lone_length" (defArgs s_Runs_lone_length) (defBody s_Runs_lone_length) (defScope s_Runs_lone_length) [] [] (ma K (ga K "Runs") "lone_length") fd
  m_Runs_lone_length : Meth K (ga K "Runs") "lone_length" (ma K (ga K "Runs") "lone_length")
  d_Runs_lone_count : ∃ fd, FunD K "lone_count" "Runs.lone_count" (defArgs s_Runs_lone_count) (defBody s_Runs_lone_count) (defScope s_Runs_lone_count) [] [] (ma K (ga K "Runs") "lone_count") fd
  m_Runs_lone_count : Meth K (ga K "Runs") "lone_count" (ma K (ga K "Runs") "lone_count")
  d_Runs_strange_lengths : ∃ fd, FunD K "strange_lengths" "Runs.strange_lengths" (defArgs s_Runs_strange_lengths) (defBody s_Runs_strange_lengths) (defScope s_Runs_strange_lengths) [] [] (ma K (ga K "Runs") "strange_lengths") fd
  m_Runs_strange_lengths : Meth K (ga K "Runs") "strange_lengths" (ma K (ga K "Runs") "strange_lengths")
  d_after : ∃ fd, FunD K "after" "after" (defArgs s_after) (defBody s_after) (defScope s_after) [] [] (ga K "after") fd
  g_after : mg "after" = some (.ref (ga K "after"))
  d_back : ∃ fd, FunD K "back" "back" (defArgs s_back) (defBody s_back) (defScope s_back) [] [] (ga K "back") fd
  g_back : mg "back" = some (.ref (ga K "back"))
  d_rounds : ∃ fd, FunD K "rounds" "rounds" (defArgs s_rounds) (defBody s_rounds) (defScope s_rounds) [] [] (ga K "rounds") fd
  g_rounds : mg "rounds" = some (.ref (ga K "rounds"))
  d_period : ∃ fd, FunD K "period" "period" (defArgs s_period) (defBody s_period) (defScope s_period) [] [] (ga K "period") fd
  g_period : mg "period" = some (.ref (ga K "period"))
  d_FormU_initU : ∃ fd, FunD K "__init__" "Form.__init__" (defArgs s_FormU_initU) (defBody s_FormU_initU) (defScope s_FormU_initU) [] [] (ma K (ga K "Form") "__init__") fd
  d_Form_plain : ∃ fd, FunD K "plain" "Form.plain" (defArgs s_Form_plain) (defBody s_Form_plain) (defScope s_Form_plain) [] [] (ma K (ga K "Form") "plain") fd
  m_Form_plain : Meth K (ga K "Form") "plain" (ma K (ga K "Form") "plain")
  d_Form_goal : ∃ fd, FunD K "goal" "Form.goal" (defArgs s_Form_goal) (defBody s_Form_goal) (defScope s_Form_goal) [] [] (ma K (ga K "Form") "goal") fd
  m_Form_goal : Meth K (ga K "Form") "goal" (ma K (ga K "Form") "goal")
  d_Form_origin : ∃ fd, FunD K "origin" "Form.origin" (defArgs s_Form_origin) (defBody s_Form_origin) (defScope s_Form_origin) [] [] (ma K (ga K "Form") "origin") fd
  m_Form_origin : Meth K (ga K "Form") "origin" (ma K (ga K "Form") "origin")
  d_FormU_callU : ∃ fd, FunD K "__call__" "Form.__call__" (defArgs s_FormU_callU) (defBody s_FormU_callU) (defScope s_FormU_callU) [] [] (ma K (ga K "Form") "__call__") fd
  d_FormU_mulU : ∃ fd, FunD K "__mul__" "Form.__mul__" (defArgs s_FormU_mulU) (defBody s_FormU_mulU) (defScope s_FormU_mulU) [] [] (ma K (ga K "Form") "__mul__") fd
  d_Form_inverse : ∃ fd, FunD K "inverse" "Form.inverse" (defArgs s_Form_inverse) (defBody s_Form_inverse) (defScope s_Form_inverse) [] [] (He5.wf K (ga K "Form") "property" "inverse") fd
  d_told_goals : ∃ fd, FunD K "told_goals" "told_goals" (defArgs s_told_goals) (defBody s_told_goals) (defScope s_told_goals) [] [] (ga K "told_goals") fd
  g_told_goals : mg "told_goals" = some (.ref (ga K "told_goals"))
  d_form_of : ∃ fd, FunD K "form_of" "form_of" (defArgs s_form_of) (defBody s_form_of) (defScope s_form_of) [] [] (ga K "form_of") fd
  g_form_of : mg "form_of" = some (.ref (ga K "form_of"))
  d_parting_spot : ∃ fd, FunD K "parting_spot" "parting_spot" (defArgs s_parting_spot) (defBody s_parting_spot) (defScope s_parting_spot) [] [] (ga K "parting_spot") fd
  g_parting_spot : mg "parting_spot" = some (.ref (ga K "parting_spot"))
  d_alike : ∃ fd, FunD K "alike" "alike" (defArgs s_alike) (defBody s_alike) (defScope s_alike) [] [] (ga K "alike") fd
  g_alike : mg "alike" = some (.ref (ga K "alike"))
  d_ScriptU_initU : ∃ fd, FunD K "__init__" "Script.__init__" (defArgs s_ScriptU_initU) (defBody s_ScriptU_initU) (defScope s_ScriptU_initU) [.ref (dflAt ("Script", some "__init__") 0 K)] [] (ma K (ga K "Script") "__init__") fd
  d_is_name : ∃ fd, FunD K "is_name" "is_name" (defArgs s_is_name) (defBody s_is_name) (defScope s_is_name) [] [] (ga K "is_name") fd
  g_is_name : mg "is_name" = some (.ref (ga K "is_name"))
  d_ring_fault : ∃ fd, FunD K "ring_fault" "ring_fault" (defArgs s_ring_fault) (defBody s_ring_fault) (defScope s_ring_fault) [] [] (ga K "ring_fault") fd
  g_ring_fault : mg "ring_fault" = some (.ref (ga K "ring_fault"))
  d_meeting_fault : ∃ fd, FunD K "meeting_fault" "meeting_fault" (defArgs s_meeting_fault) (defBody s_meeting_fault) (defScope s_meeting_fault) [] [] (ga K "meeting_fault") fd
  g_meeting_fault : mg "meeting_fault" = some (.ref (ga K "meeting_fault"))
  d_in_order : ∃ fd, FunD K "in_order" "in_order" (defArgs s_in_order) (defBody s_in_order) (defScope s_in_order) [] [] (ga K "in_order") fd
  g_in_order : mg "in_order" = some (.ref (ga K "in_order"))
  d_WebU_initU : ∃ fd, FunD K "__init__" "Web.__init__" (defArgs s_WebU_initU) (defBody s_WebU_initU) (defScope s_WebU_initU) [.ref (dflAt ("Web", some "__init__") 0 K)] [] (ma K (ga K "Web") "__init__") fd
  d_WebU_eqU : ∃ fd, FunD K "__eq__" "Web.__eq__" (defArgs s_WebU_eqU) (defBody s_WebU_eqU) (defScope s_WebU_eqU) [] [] (ma K (ga K "Web") "__eq__") fd
  d_Web_names : ∃ fd, FunD K "names" "Web.names" (defArgs s_Web_names) (defBody s_Web_names) (defScope s_Web_names) [] [] (ma K (ga K "Web") "names") fd
  m_Web_names : Meth K (ga K "Web") "names" (ma K (ga K "Web") "names")
  d_Web_check_name : ∃ fd, FunD K "check_name" "Web.check_name" (defArgs s_Web_check_name) (defBody s_Web_check_name) (defScope s_Web_check_name) [] [] (ma K (ga K "Web") "check_name") fd
  m_Web_check_name : Meth K (ga K "Web") "check_name" (ma K (ga K "Web") "check_name")
  d_Web_length : ∃ fd, FunD K "length" "Web.length" (defArgs s_Web_length) (defBody s_Web_length) (defScope s_Web_length) [] [] (ma K (ga K "Web") "length") fd
  m_Web_length : Meth K (ga K "Web") "length" (ma K (ga K "Web") "length")
  d_Web_spots : ∃ fd, FunD K "spots" "Web.spots" (defArgs s_Web_spots) (defBody s_Web_spots) (defScope s_Web_spots) [] [] (He5.wf K (ga K "Web") "property" "spots") fd
  d_Web_has_place : ∃ fd, FunD K "has_place" "Web.has_place" (defArgs s_Web_has_place) (defBody s_Web_has_place) (defScope s_Web_has_place) [] [] (ma K (ga K "Web") "has_place") fd
  m_Web_has_place : Meth K (ga K "Web") "has_place" (ma K (ga K "Web") "has_place")
  d_Web_told : ∃ fd, FunD K "told" "Web.told" (defArgs s_Web_told) (defBody s_Web_told) (defScope s_Web_told) [] [] (ma K (ga K "Web") "told") fd
  m_Web_told : Meth K (ga K "Web") "told" (ma K (ga K "Web") "told")
  d_Web_spot_of : ∃ fd, FunD K "spot_of" "Web.spot_of" (defArgs s_Web_spot_of) (defBody s_Web_spot_of) (defScope s_Web_spot_of) [] [] (ma K (ga K "Web") "spot_of") fd
  m_Web_spot_of : Meth K (ga K "Web") "spot_of" (ma K (ga K "Web") "spot_of")
  d_Web_checked : ∃ fd, FunD K "checked" "Web.checked" (defArgs s_Web_checked) (defBody s_Web_checked) (defScope s_Web_checked) [] [] (ma K (ga K "Web") "checked") fd
  m_Web_checked : Meth K (ga K "Web") "checked" (ma K (ga K "Web") "checked")
  d_Web_places : ∃ fd, FunD K "places" "Web.places" (defArgs s_Web_places) (defBody s_Web_places) (defScope s_Web_places) [] [] (ma K (ga K "Web") "places") fd
  m_Web_places : Meth K (ga K "Web") "places" (ma K (ga K "Web") "places")
  d_Web_board : ∃ fd, FunD K "board" "Web.board" (defArgs s_Web_board) (defBody s_Web_board) (defScope s_Web_board) [] [] (He5.wf K (ga K "Web") "classmethod" "board") fd
  d__law_source : ∃ fd, FunD K "_law_source" "_law_source" (defArgs s__law_source) (defBody s__law_source) (defScope s__law_source) [] [] (ga K "_law_source") fd
  g__law_source : mg "_law_source" = some (.ref (ga K "_law_source"))
  d__law_take : ∃ fd, FunD K "_law_take" "_law_take" (defArgs s__law_take) (defBody s__law_take) (defScope s__law_take) [] [] (ga K "_law_take") fd
  g__law_take : mg "_law_take" = some (.ref (ga K "_law_take"))
  d__law_number : ∃ fd, FunD K "_law_number" "_law_number" (defArgs s__law_number) (defBody s__law_number) (defScope s__law_number) [] [] (ga K "_law_number") fd
  g__law_number : mg "_law_number" = some (.ref (ga K "_law_number"))
  d__law_drawn_rings : ∃ fd, FunD K "_law_drawn_rings" "_law_drawn_rings" (defArgs s__law_drawn_rings) (defBody s__law_drawn_rings) (defScope s__law_drawn_rings) [] [] (ga K "_law_drawn_rings") fd
  g__law_drawn_rings : mg "_law_drawn_rings" = some (.ref (ga K "_law_drawn_rings"))
  d__law_drawn_meetings : ∃ fd, FunD K "_law_drawn_meetings" "_law_drawn_meetings" (defArgs s__law_drawn_meetings) (defBody s__law_drawn_meetings) (defScope s__law_drawn_meetings) [] [] (ga K "_law_drawn_meetings") fd
  g__law_drawn_meetings : mg "_law_drawn_meetings" = some (.ref (ga K "_law_drawn_meetings"))
  d__law_drawn_moves : ∃ fd, FunD K "_law_drawn_moves" "_law_drawn_moves" (defArgs s__law_drawn_moves) (defBody s__law_drawn_moves) (defScope s__law_drawn_moves) [] [] (ga K "_law_drawn_moves") fd
  g__law_drawn_moves : mg "_law_drawn_moves" = some (.ref (ga K "_law_drawn_moves"))
  d__law_times_right : ∃ fd, FunD K "_law_times_right" "_law_times_right" (defArgs s__law_times_right) (defBody s__law_times_right) (defScope s__law_times_right) [] [] (ga K "_law_times_right") fd
  g__law_times_right : mg "_law_times_right" = some (.ref (ga K "_law_times_right"))
  d__law_back_right : ∃ fd, FunD K "_law_back_right" "_law_back_right" (defArgs s__law_back_right) (defBody s__law_back_right) (defScope s__law_back_right) [] [] (ga K "_law_back_right") fd
  g__law_back_right : mg "_law_back_right" = some (.ref (ga K "_law_back_right"))
  d_law : ∃ fd, FunD K "law" "law" (defArgs s_law) (defBody s_law) (defScope s_law) [] [] (ga K "law") fd
  g_law : mg "law" = some (.ref (ga K "law"))
  g_Web : mg "Web" = some (.ref (ga K "Web"))
  c_Web : Cls K (ga K "Web")
  k_Web : Mk K (ga K "Web") (ma K (ga K "Web") "__init__")
  n_Web_rings : NoAttr K (ga K "Web") "rings"
  n_Web_joints : NoAttr K (ga K "Web") "joints"
  n_Web_lengths : NoAttr K (ga K "Web") "lengths"
  n_Web_steps : NoAttr K (ga K "Web") "steps"
  n_Web_mates : NoAttr K (ga K "Web") "mates"
  g_Form : mg "Form" = some (.ref (ga K "Form"))
  c_Form : Cls K (ga K "Form")
  k_Form : Mk K (ga K "Form") (ma K (ga K "Form") "__init__")
  n_Form_web : NoAttr K (ga K "Form") "web"
  n_Form_pushes : NoAttr K (ga K "Form") "pushes"
  n_Form_goals : NoAttr K (ga K "Form") "goals"
  n_Form_origins : NoAttr K (ga K "Form") "origins"
  g_Runs : mg "Runs" = some (.ref (ga K "Runs"))
  c_Runs : Cls K (ga K "Runs")
  k_Runs : Mk K (ga K "Runs") (ma K (ga K "Runs") "__init__")
  n_Runs_form : NoAttr K (ga K "Runs") "form"
  n_Runs_lanes : NoAttr K (ga K "Runs") "lanes"
  n_Runs_marks : NoAttr K (ga K "Runs") "marks"
  g_Script : mg "Script" = some (.ref (ga K "Script"))
  c_Script : Cls K (ga K "Script")
  k_Script : Mk K (ga K "Script") (ma K (ga K "Script") "__init__")
  n_Script_web : NoAttr K (ga K "Script") "web"
  n_Script_turns : NoAttr K (ga K "Script") "turns"
  f_len : mg "len" = none
  f_sum : mg "sum" = none
  f_abs : mg "abs" = none
  f_min : mg "min" = none
  f_all : mg "all" = none
  f_isinstance : mg "isinstance" = none
  f_sorted : mg "sorted" = none
  f_int : mg "int" = none
  f_tuple : mg "tuple" = none
  f_dict : mg "dict" = none
  f_list : mg "list" = none
  f_range : mg "range" = none
  f_enumerate : mg "enumerate" = none
  v_MOST_RINGS : ∃ t, mg "MOST_RINGS" = some (.int 12 t)
  v_LONGEST_NAME : ∃ t, mg "LONGEST_NAME" = some (.int 8 t)
  v_SMALL : ∃ t, mg "SMALL" = some (.str "abcdefghijklmnopqrstuvwxyz" t)
  v_FIGURES : ∃ t, mg "FIGURES" = some (.str "0123456789" t)
  p_inverse : PropOf K (ga K "Form") "inverse" (ma K (ga K "Form") "inverse") (He5.wf K (ga K "Form") "property" "inverse")
  p_spots : PropOf K (ga K "Web") "spots" (ma K (ga K "Web") "spots") (He5.wf K (ga K "Web") "property" "spots")
  o_Form : StX.CallO K (ga K "Form") (ma K (ga K "Form") "__call__")
  r_Web : ClX.CRead K (ga K "Web") (.type "type")
  m_board : ClX.CMet K (ga K "Web") (.type "type") "board" (ma K (ga K "Web") "board") (He5.wf K (ga K "Web") "classmethod" "board")
  q_mul1 : PySem.W.selfFirst K (ga K "Form") = true
  q_mul2 : PySem.W.findIn K (.ref (ga K "Form")) "__mul__" = some (some (.ref (ma K (ga K "Form") "__mul__")))
  q_mul3 : PySem.W.isFn K (.ref (ma K (ga K "Form") "__mul__")) = true
  q_obj : PySem.W.mroIn K (ga K "Web") (.type "object") = some true
  q_eq : PySem.W.findIn K (.ref (ga K "Web")) "__eq__" = some (some (.ref (ma K (ga K "Web") "__eq__")))
  q_ne : PySem.W.findIn K (.ref (ga K "Web")) "__ne__" = some (some (.builtin "object.__ne__"))
  q_isfn : PySem.W.isFn K (.ref (ma K (ga K "Web") "__eq__")) = true
  q_cls1 : PySem.W.findIn K (.ref (ga K "Web")) "__class__" = some (some (.builtin "object.__class__"))
  q_cls2 : PySem.W.specialIn K (.builtin "object.__class__") "__get__" = some (some (.builtin "getset_descriptor.__get__"))
  q_cls3 : PySem.W.takesIn K (.builtin "object.__class__") = some true
  q_kit : PySem.W.kitOne K (.ref (ga K "Web")) (.ref (ga K "Web")) = some true
/-- the def at f keeps the promise -/
structure Good (P : Program) (w : World) (K : PySem.W.Frag) (mg : Str → Option Value) (base : Heap) (k : Nat) (f : Addr) (ps : List Str) (sp : Sp) : Prop where
  ex : ∃ fd, FnOk P w K mg base CX0 k f fd ps sp ∧ Binds K fd ps []
  kp : PySem.W.keepIn K (.ref f) = true
section
variable {P : Program} {w : World} {K : PySem.W.Frag} {mg : Str → Option Value} {base : Heap}
theorem binds_dfl {x qual : Str} {params : Arguments} {body : List Stmt} {scope : Scope} {d : V} {kws : List (Str × V)} {f : Addr} {fd : FuncData} {ps : List Str} (F : FunD K x qual params body scope [d] kws f fd)
    (h : ∀ (T : Addr) (kV doc pm : Value) (an : Option Addr) (cdv ct : Value) (us its : List Value), us.length = ps.length → its.length = 1 →
      ∃ k, bindArgs (PySem.W.fnOf x qual params body scope (.ref T) kV doc pm an cdv ct) ⟨us, []⟩ = seqItems? (.ref T) >>= k ∧ k (some its.toArray) = pure (ps.zip us)) : Binds K fd ps [] := by
  obtain ⟨ds, h1, h2⟩ := FunD.binds1 (ps := ps) F ps.length 1 (by simp) (by simp) (fun T kV doc pm an cdv ct us its hu hi => by
    obtain ⟨k, e1, e2⟩ := h T kV doc pm an cdv ct us its hu hi
    refine ⟨k, e1, ?_⟩
    rw [List.drop_of_length_le (by rw [hi]; exact Nat.le_refl 1), List.append_nil]
    exact e2)
  have : ds = [] := by
    cases h1
    rfl
  rw [this] at h2
  exact h2
/-- from a def's place and a derivation of its body to its promise -/
theorem good_of {x qual : Str} {params : Arguments} {body : List Stmt} {scope : Scope} {dvs : List V} {kws : List (Str × V)} {f : Addr} {N ps : List Str} {k : Nat} {sp : Sp} (F : ∃ fd, FunD K x qual params body scope dvs kws f fd) (S : FnScope N ps scope)
    (hb : ∀ fd, FunD K x qual params body scope dvs kws f fd → Binds K fd ps [])
    (len : ∀ vs H Q E, sp vs H Q E → vs.length = ps.length)
    (hbody : ∀ (cdv : Value) (A : Around) (outer : List Env) (s : Shared) (H : Hp) (vs : List V) (Q : VK) (E : XK), Room k (A.deeper (envOfC qual scope s.heap.objs.size f cdv)) → sp vs H Q E →
      ∃ t, PSs (cxOf CX0 P w K mg base N qual scope f cdv A outer s H E).nox body t ∧ t { nx := fun _ H' => Q .non H', rt := Q } (start N vs) H) : Good P w K mg base (k + 1) f ps sp := by
  obtain ⟨fd, F⟩ := F
  exact ⟨⟨fd, F.ok S len fun cdv A outer s H vs Q E hr h => by
    obtain ⟨t, h1, h2⟩ := hbody cdv A outer s H vs Q E hr h
    exact ⟨t, PSs.nox h1, h2⟩, hb fd F⟩, F.kp⟩
theorem al1 {H : Hp} {P1 : Hp → V → Prop} {vs : List V} (h : AllP H [P1] vs) : ∃ v1, vs = [v1] ∧ P1 H v1 := by
  cases h with | cons h1 h => cases h; exact ⟨_, rfl, h1⟩
theorem al2 {H : Hp} {P1 P2 : Hp → V → Prop} {vs : List V} (h : AllP H [P1, P2] vs) : ∃ v1 v2, vs = [v1, v2] ∧ P1 H v1 ∧ P2 H v2 := by
  cases h with | cons h1 h => obtain ⟨_, rfl, h2⟩ := al1 h; exact ⟨_, _, rfl, h1, h2⟩
theorem al3 {H : Hp} {P1 P2 P3 : Hp → V → Prop} {vs : List V} (h : AllP H [P1, P2, P3] vs) : ∃ v1 v2 v3, vs = [v1, v2, v3] ∧ P1 H v1 ∧ P2 H v2 ∧ P3 H v3 := by
  cases h with | cons h1 h => obtain ⟨_, _, rfl, h2⟩ := al2 h; exact ⟨_, _, _, rfl, h1, h2⟩
theorem al4 {H : Hp} {P1 P2 P3 P4 : Hp → V → Prop} {vs : List V} (h : AllP H [P1, P2, P3, P4] vs) : ∃ v1 v2 v3 v4, vs = [v1, v2, v3, v4] ∧ P1 H v1 ∧ P2 H v2 ∧ P3 H v3 ∧ P4 H v4 := by
  cases h with | cons h1 h => obtain ⟨_, _, _, rfl, h2⟩ := al3 h; exact ⟨_, _, _, _, rfl, h1, h2⟩
theorem al5 {H : Hp} {P1 P2 P3 P4 P5 : Hp → V → Prop} {vs : List V} (h : AllP H [P1, P2, P3, P4, P5] vs) : ∃ v1 v2 v3 v4 v5, vs = [v1, v2, v3, v4, v5] ∧ P1 H v1 ∧ P2 H v2 ∧ P3 H v3 ∧ P4 H v4 ∧ P5 H v5 := by
  cases h with | cons h1 h => obtain ⟨_, _, _, _, rfl, h2⟩ := al4 h; exact ⟨_, _, _, _, _, rfl, h1, h2⟩
theorem al6 {H : Hp} {P1 P2 P3 P4 P5 P6 : Hp → V → Prop} {vs : List V} (h : AllP H [P1, P2, P3, P4, P5, P6] vs) : ∃ v1 v2 v3 v4 v5 v6, vs = [v1, v2, v3, v4, v5, v6] ∧ P1 H v1 ∧ P2 H v2 ∧ P3 H v3 ∧ P4 H v4 ∧ P5 H v5 ∧ P6 H v6 := by
  cases h with | cons h1 h => obtain ⟨_, _, _, _, _, rfl, h2⟩ := al5 h; exact ⟨_, _, _, _, _, _, rfl, h1, h2⟩
theorem al_len {H : Hp} {Ps : List (Hp → V → Prop)} {vs : List V} (h : AllP H Ps vs) {n : Nat} (e : Ps.length = n) : vs.length = n := h.length.trans e
end
end MR
/-! Iteration and least periods of a map on a finite list of things. -/
namespace MR
section
variable {β : Type}
def itn (f : β → β) : Nat → β → β
  | 0, s => s
  | n + 1, s => itn f n (f s)
theorem itn_zero (f : β → β) (s : β) : itn f 0 s = s := rfl
theorem itn_one (f : β → β) (s : β) : itn f 1 s = f s := rfl
theorem itn_add (f : β → β) : ∀ (m n : Nat) (s : β), itn f (m + n) s = itn f n (itn f m s)
  | 0, n, s => by rw [Nat.zero_add]; rfl
  | m + 1, n, s => by
    rw [Nat.add_right_comm]
    exact itn_add f m n (f s)
theorem itn_succ (f : β → β) (n : Nat) (s : β) : itn f (n + 1) s = f (itn f n s) := by
  rw [itn_add]; rfl
/-- f is a bijection of the things that S says, g takes it back -/
structure Bij (S : β → Prop) (f g : β → β) : Prop where
  to : ∀ s, S s → S (f s)
  fro : ∀ s, S s → S (g s)
  gf : ∀ s, S s → g (f s) = s
  fg : ∀ s, S s → f (g s) = s
variable {S : β → Prop} {f g f' g' : β → β}
theorem Bij.symm (b : Bij S f g) : Bij S g f := ⟨b.fro, b.to, b.fg, b.gf⟩
theorem Bij.inj (b : Bij S f g) {s t : β} (hs : S s) (ht : S t) (e : f s = f t) : s = t := by
  rw [← b.gf s hs, ← b.gf t ht, e]
theorem Bij.comp (b : Bij S f g) (b' : Bij S f' g') : Bij S (fun s => f' (f s)) (fun s => g (g' s)) where
  to := fun s h => b'.to _ (b.to s h)
  fro := fun s h => b.fro _ (b'.fro s h)
  gf := fun s h => by rw [b'.gf _ (b.to s h), b.gf s h]
  fg := fun s h => by rw [b.fg _ (b'.fro s h), b'.fg s h]
theorem Bij.id : Bij S (fun s => s) (fun s => s) := ⟨fun _ h => h, fun _ h => h, fun _ _ => rfl, fun _ _ => rfl⟩
theorem Bij.itn_to (b : Bij S f g) : ∀ (n : Nat) (s : β), S s → S (itn f n s)
  | 0, _, h => h
  | n + 1, s, h => b.itn_to n (f s) (b.to s h)
theorem Bij.itn_back (b : Bij S f g) : ∀ (n : Nat) (s : β), S s → itn g n (itn f n s) = s
  | 0, _, _ => rfl
  | n + 1, s, h => by
    rw [itn_succ f]
    show itn g n (g (f (itn f n s))) = s
    rw [b.gf _ (b.itn_to n s h)]
    exact b.itn_back n s h
theorem Bij.itn_inj (b : Bij S f g) {n : Nat} {s t : β} (hs : S s) (ht : S t) (e : itn f n s = itn f n t) : s = t := by
  rw [← b.itn_back n s hs, ← b.itn_back n t ht, e]
/-- n is the least number of times, from 1 on, after which s is there again -/
structure Per (f : β → β) (s : β) (n : Nat) : Prop where
  pos : 0 < n
  back : itn f n s = s
  least : ∀ k, 0 < k → k < n → itn f k s ≠ s
theorem Per.uniq {s : β} {m n : Nat} (a : Per f s m) (b : Per f s n) : m = n := by
  rcases Nat.lt_trichotomy m n with h | h | h
  · exact absurd a.back (b.least m a.pos h)
  · exact h
  · exact absurd b.back (a.least n b.pos h)
theorem itn_mul {s : β} {n : Nat} (h : itn f n s = s) : ∀ k, itn f (n * k) s = s
  | 0 => rfl
  | k + 1 => by rw [Nat.mul_succ, itn_add, itn_mul h k, h]
theorem itn_mod {s : β} {n : Nat} (h : itn f n s = s) (k : Nat) : itn f (k % n) s = itn f k s := by
  have e := Nat.div_add_mod k n
  rw [← e, itn_add f (n * (k / n)), itn_mul h, e]
theorem Per.dvd {s : β} {n k : Nat} (p : Per f s n) (h : itn f k s = s) : n ∣ k := by
  have e : itn f (k % n) s = s := by rw [itn_mod p.back, h]
  have l := Nat.mod_lt k p.pos
  by_cases z : k % n = 0
  · exact Nat.dvd_of_mod_eq_zero z
  · exact absurd e (p.least _ (Nat.pos_of_ne_zero z) l)
theorem Per.eq_iff {s : β} {n i j : Nat} (b : Bij S f g) (hs : S s) (p : Per f s n) (hi : i < n) (hj : j < n) (e : itn f i s = itn f j s) : i = j := by
  rcases Nat.lt_trichotomy i j with h | h | h
  · have q : itn f (j - i) s = s := by
      refine (b.itn_inj (n := i) (b.itn_to _ s hs) hs ?_)
      rw [← itn_add, Nat.sub_add_cancel (Nat.le_of_lt h), e]
    exact absurd q (p.least _ (by omega) (by omega))
  · exact h
  · have q : itn f (i - j) s = s := by
      refine (b.itn_inj (n := j) (b.itn_to _ s hs) hs ?_)
      rw [← itn_add, Nat.sub_add_cancel (Nat.le_of_lt h), e]
    exact absurd q (p.least _ (by omega) (by omega))
theorem least_of {P : Nat → Prop} : ∀ n, P n → ∃ m, P m ∧ ∀ k, k < m → ¬ P k := fun n => by
  induction n using Nat.strongRecOn with
  | ind n ih =>
    intro h
    by_cases c : ∃ k, k < n ∧ P k
    · obtain ⟨k, hk, pk⟩ := c
      exact ih k hk pk
    · exact ⟨n, h, fun k hk pk => c ⟨k, hk, pk⟩⟩
theorem map_nodup {α γ : Type} {h : α → γ} : ∀ {l : List α}, (∀ a ∈ l, ∀ b ∈ l, h a = h b → a = b) → l.Nodup → (l.map h).Nodup
  | [], _, _ => List.nodup_nil
  | a :: l, inj, nd => by
    have nd' := List.nodup_cons.mp nd
    rw [List.map_cons]
    refine List.nodup_cons.mpr ⟨?_, map_nodup (fun x hx y hy => inj x (List.mem_cons_of_mem _ hx) y (List.mem_cons_of_mem _ hy)) nd'.2⟩
    intro m
    obtain ⟨b, hb, e⟩ := List.mem_map.mp m
    have := inj b (List.mem_cons_of_mem _ hb) a List.mem_cons_self e
    subst this
    exact nd'.1 hb
/-- a bijection of finitely many things has periods -/
theorem Bij.per (b : Bij S f g) {l : List β} (hl : ∀ s, S s → s ∈ l) {s : β} (hs : S s) : ∃ n, Per f s n := by
  have key : ∃ n, 0 < n ∧ itn f n s = s := by
    refine Classical.byContradiction fun no => ?_
    have nd : ((List.range (l.length + 1)).map fun k => itn f k s).Nodup := by
      refine map_nodup ?_ List.nodup_range
      intro i hi j hj e
      rcases Nat.lt_trichotomy i j with h | h | h
      · refine absurd ⟨j - i, by omega, b.itn_inj (n := i) (b.itn_to _ s hs) hs ?_⟩ no
        rw [← itn_add, Nat.sub_add_cancel (Nat.le_of_lt h)]; exact e.symm
      · exact h
      · refine absurd ⟨i - j, by omega, b.itn_inj (n := j) (b.itn_to _ s hs) hs ?_⟩ no
        rw [← itn_add, Nat.sub_add_cancel (Nat.le_of_lt h)]; exact e
    have sub : ((List.range (l.length + 1)).map fun k => itn f k s) ⊆ l := by
      intro x hx
      obtain ⟨k, _, rfl⟩ := List.mem_map.mp hx
      exact hl _ (b.itn_to k s hs)
    have := List.Nodup.length_le_of_subset nd sub
    rw [List.length_map, List.length_range] at this
    omega
  obtain ⟨n, hn⟩ := key
  obtain ⟨m, hm, low⟩ := least_of (P := fun n => 0 < n ∧ itn f n s = s) n hn
  exact ⟨m, hm.1, hm.2, fun k hk hkm e => low k hkm ⟨hk, e⟩⟩
theorem Per.step {s : β} {n : Nat} (b : Bij S f g) (hs : S s) (p : Per f s n) (k : Nat) : Per f (itn f k s) n := by
  refine ⟨p.pos, ?_, fun j h0 hj e => ?_⟩
  · rw [← itn_add, Nat.add_comm, itn_add, p.back]
  · refine p.least j h0 hj (b.itn_inj (n := k) (b.itn_to _ s hs) hs ?_)
    rw [← itn_add, Nat.add_comm, itn_add]; exact e
theorem Per.inverse {s : β} {n : Nat} (b : Bij S f g) (hs : S s) (p : Per f s n) : Per g s n := by
  have flip : ∀ k, itn g k s = s ↔ itn f k s = s := fun k => by
    constructor
    · intro e
      have := b.symm.itn_back k s hs
      rw [e] at this; exact this
    · intro e
      have := b.itn_back k s hs
      rw [e] at this; exact this
  exact ⟨p.pos, (flip n).mpr p.back, fun k h0 hk e => p.least k h0 hk ((flip k).mp e)⟩
/-- conjugated: h leads s to h s -/
theorem itn_conj {h : β → β} {f1 : β → β} (hS : ∀ s, S s → S (f s)) (e : ∀ s, S s → f1 (h s) = h (f s)) : ∀ (n : Nat) (s : β), S s → itn f1 n (h s) = h (itn f n s)
  | 0, _, _ => rfl
  | n + 1, s, hs => by
    show itn f1 n (f1 (h s)) = h (itn f n (f s))
    rw [e s hs]
    exact itn_conj hS e n (f s) (hS s hs)
theorem Per.conj {h h' f1 : β → β} (bf : Bij S f g) (bh : Bij S h h') (e : ∀ s, S s → f1 (h s) = h (f s)) {s : β} (hs : S s) {n : Nat} (p : Per f s n) : Per f1 (h s) n := by
  refine ⟨p.pos, ?_, fun k h0 hk q => ?_⟩
  · rw [itn_conj bf.to e n s hs, p.back]
  · rw [itn_conj bf.to e k s hs] at q
    exact p.least k h0 hk (bh.inj (bf.itn_to k s hs) hs q)
/-- so many times, for any whole number -/
def itz (f g : β → β) (z : Int) (s : β) : β := if 0 ≤ z then itn f z.toNat s else itn g (-z).toNat s
theorem itz_nat (n : Nat) (s : β) : itz f g (n : Int) s = itn f n s := by
  unfold itz
  rw [if_pos (Int.natCast_nonneg n)]
  rfl
theorem Bij.itz_to (b : Bij S f g) (z : Int) {s : β} (hs : S s) : S (itz f g z s) := by
  unfold itz; split
  · exact b.itn_to _ s hs
  · exact b.symm.itn_to _ s hs
theorem Bij.itz_succ (b : Bij S f g) (z : Int) {s : β} (hs : S s) : itz f g (z + 1) s = f (itz f g z s) := by
  unfold itz
  by_cases h : 0 ≤ z
  · rw [if_pos h, if_pos (by omega), ← itn_succ f]
    congr 1; omega
  · rw [if_neg h]
    have e : (-z).toNat = (-(z + 1)).toNat + 1 := by omega
    rw [e, itn_succ g, b.fg _ (b.symm.itn_to _ s hs)]
    by_cases h2 : 0 ≤ z + 1
    · rw [if_pos h2]
      have e1 : (z + 1).toNat = 0 := by omega
      have e2 : (-(z + 1)).toNat = 0 := by omega
      rw [e1, e2]; rfl
    · rw [if_neg h2]
theorem Bij.itz_add_nat (b : Bij S f g) (z : Int) {s : β} (hs : S s) : ∀ n : Nat, itz f g (z + n) s = itn f n (itz f g z s)
  | 0 => by rw [Int.natCast_zero, Int.add_zero]; rfl
  | n + 1 => by
    have e : z + ((n + 1 : Nat) : Int) = (z + (n : Int)) + 1 := by omega
    rw [e, b.itz_succ _ hs, b.itz_add_nat z hs n, ← itn_succ f]
theorem Bij.itz_add (b : Bij S f g) (z u : Int) {s : β} (hs : S s) : itz f g (z + u) s = itz f g u (itz f g z s) := by
  by_cases h : 0 ≤ u
  · obtain ⟨n, rfl⟩ := Int.eq_ofNat_of_zero_le h
    rw [b.itz_add_nat z hs n, itz_nat]
  · obtain ⟨n, hn⟩ := Int.eq_ofNat_of_zero_le (show 0 ≤ -u by omega)
    have e : itz f g z s = itn f n (itz f g (z + u) s) := by
      rw [← b.itz_add_nat (z + u) hs n]
      congr 1; omega
    have e2 : itz f g u (itz f g z s) = itn g n (itz f g z s) := by
      unfold itz
      rw [if_neg h]
      congr 1; omega
    rw [e2, e, b.itn_back n _ (b.itz_to _ hs)]
theorem Bij.itz_neg (b : Bij S f g) (z : Int) {s : β} (hs : S s) : itz f g (-z) (itz f g z s) = s := by
  rw [← b.itz_add z (-z) hs, Int.add_right_neg]
  rfl
theorem itz_conj {h f1 g1 : β → β} (bf : Bij S f g) (e : ∀ s, S s → f1 (h s) = h (f s)) (e' : ∀ s, S s → g1 (h s) = h (g s)) (z : Int) {s : β} (hs : S s) : itz f1 g1 z (h s) = h (itz f g z s) := by
  unfold itz; split
  · exact itn_conj bf.to e _ s hs
  · exact itn_conj bf.fro e' _ s hs
end
end MR
/-! Webs, spots, forms: what a form is, and that products and inverses are forms. -/
namespace MR
variable {α : Type} [DecidableEq α]
abbrev Place (α : Type) := α × Int
structure WebM (α : Type) where
  names : List α
  len : α → Int
  mate : Place α → Option (Place α)
  told : Place α → Place α
def WebM.Val (W : WebM α) (p : Place α) : Prop := p.1 ∈ W.names ∧ 0 ≤ p.2 ∧ p.2 < W.len p.1
def WebM.Spot (W : WebM α) (p : Place α) : Prop := W.Val p ∧ W.told p = p
structure WebOk (W : WebM α) : Prop where
  nd : W.names.Nodup
  pos : ∀ n ∈ W.names, 0 < W.len n
  mate_val : ∀ p q, W.mate p = some q → W.Val p ∧ W.Val q
  mate_symm : ∀ p q, W.mate p = some q → W.mate q = some p
  mate_ne : ∀ p q, W.mate p = some q → p.1 ≠ q.1
  told_none : ∀ p, W.mate p = none → W.told p = p
  told_some : ∀ p q, W.mate p = some q → W.told p = p ∨ W.told p = q
  told_eq : ∀ p q, W.mate p = some q → W.told p = W.told q
section
variable {W : WebM α}
theorem WebOk.told_cases (o : WebOk W) (p : Place α) : W.told p = p ∨ W.mate p = some (W.told p) := by
  cases h : W.mate p with
  | none => exact .inl (o.told_none p h)
  | some q =>
    rcases o.told_some p q h with e | e
    · exact .inl e
    · exact .inr (by rw [e])
theorem WebOk.told_told (o : WebOk W) (p : Place α) : W.told (W.told p) = W.told p := by
  rcases o.told_cases p with e | e
  · rw [e, e]
  · exact (o.told_eq p _ e).symm
theorem WebOk.told_val (o : WebOk W) {p : Place α} (h : W.Val p) : W.Val (W.told p) := by
  rcases o.told_cases p with e | e
  · rw [e]; exact h
  · exact (o.mate_val p _ e).2
theorem WebOk.spot (o : WebOk W) {p : Place α} (h : W.Val p) : W.Spot (W.told p) := ⟨o.told_val h, o.told_told p⟩
theorem WebOk.mate_told (o : WebOk W) (p : Place α) : W.mate (W.told p) = none ↔ W.mate p = none := by
  rcases o.told_cases p with e | e
  · rw [e]
  · constructor
    · intro h
      rw [o.mate_symm p _ e] at h; cases h
    · intro h
      rw [h] at e; cases e
/-- two places of one spot -/
theorem WebOk.same_spot (o : WebOk W) {p q : Place α} (h : W.told p = W.told q) : p = q ∨ W.mate p = some q := by
  rcases o.told_cases p with e | e
  · rcases o.told_cases q with e' | e'
    · left; rw [← e, ← e', h]
    · right
      rw [e] at h
      rw [h]; exact o.mate_symm q _ e'
  · rcases o.told_cases q with e' | e'
    · right
      rw [h, e'] at e; exact e
    · left
      have a := o.mate_symm p _ e
      have b := o.mate_symm q _ e'
      rw [h, b] at a
      exact (Option.some.inj a).symm
/-- the places of one ring are spots apart -/
theorem WebOk.ring_inj (o : WebOk W) {n : α} {i j : Int} (h : W.told (n, i) = W.told (n, j)) : i = j := by
  rcases o.same_spot h with e | e
  · exact (Prod.mk.inj e).2
  · exact absurd rfl (o.mate_ne (n, i) (n, j) e)
theorem WebOk.told_eq_self (o : WebOk W) {p q : Place α} (h : W.told p = q) (hq : W.mate q = none) : p = q := by
  have : W.told p = W.told q := by
    rw [← h, o.told_told]
  rcases o.same_spot this with e | e
  · exact e
  · rw [o.mate_symm p q e] at hq; cases hq
end
/-- where a thing is that goes on by the shift of its ring so many times -/
def WebM.plain (W : WebM α) (push : α → Int) (s : Place α) (t : Int) : Place α := W.told (s.1, (s.2 + t * push s.1) % W.len s.1)
theorem mod_range {a b : Int} (h : 0 < b) : 0 ≤ a % b ∧ a % b < b := ⟨Int.emod_nonneg a (by omega), Int.emod_lt_of_pos a h⟩
theorem WebOk.plain_val {W : WebM α} (o : WebOk W) (push : α → Int) {s : Place α} (h : s.1 ∈ W.names) (t : Int) : W.Val (s.1, (s.2 + t * push s.1) % W.len s.1) :=
  ⟨h, mod_range (o.pos _ h)⟩
theorem WebOk.plain_spot {W : WebM α} (o : WebOk W) (push : α → Int) {s : Place α} (h : s.1 ∈ W.names) (t : Int) : W.Spot (W.plain push s t) :=
  o.spot (o.plain_val push h t)
/-- a table that tells truly where f leads, and whose silence means: the thing just goes on -/
structure Tells (W : WebM α) (push : α → Int) (tab : List (Place α × Place α)) (f g : Place α → Place α) : Prop where
  bij : Bij W.Spot f g
  nd : (tab.map (·.1)).Nodup
  in_ : ∀ a b, (a, b) ∈ tab → W.Spot a ∧ b = f a
  out : ∀ a, W.Spot a → a ∉ tab.map (·.1) → W.mate a = none ∧ f a = W.plain push a 1
/-- a form: shifts within the lengths, and such a table -/
structure FormOk (W : WebM α) (push : α → Int) (tab : List (Place α × Place α)) (f g : Place α → Place α) : Prop extends Tells W push tab f g where
  range : ∀ n ∈ W.names, 0 ≤ push n ∧ push n < W.len n
section
variable {W : WebM α} {push push' : α → Int} {tab tab' : List (Place α × Place α)} {f g f' g' : Place α → Place α}
theorem mem_keys {tab : List (Place α × Place α)} {a : Place α} (h : a ∈ tab.map (·.1)) : ∃ b, (a, b) ∈ tab := by
  obtain ⟨⟨x, y⟩, h1, h2⟩ := List.mem_map.mp h
  cases h2
  exact ⟨y, h1⟩
theorem keys_mem {tab : List (Place α × Place α)} {a b : Place α} (h : (a, b) ∈ tab) : a ∈ tab.map (·.1) := List.mem_map.mpr ⟨(a, b), h, rfl⟩
theorem Tells.key (F : Tells W push tab f g) {a : Place α} (h : a ∈ tab.map (·.1)) : (a, f a) ∈ tab := by
  obtain ⟨b, hb⟩ := mem_keys h
  have := (F.in_ a b hb).2
  rw [← this]; exact hb
theorem Tells.spot (F : Tells W push tab f g) {a : Place α} (h : a ∈ tab.map (·.1)) : W.Spot a := by
  obtain ⟨b, hb⟩ := mem_keys h
  exact (F.in_ a b hb).1
theorem Tells.mate_key (F : Tells W push tab f g) {a : Place α} (hs : W.Spot a) (h : W.mate a ≠ none) : a ∈ tab.map (·.1) :=
  Classical.byContradiction fun c => h (F.out a hs c).1
/-- only the remainders of the shifts count -/
theorem plain_cong (o : WebOk W) {s : Place α} (h : (push s.1 - push' s.1) % W.len s.1 = 0) (t : Int) : W.plain push s t = W.plain push' s t := by
  unfold WebM.plain
  congr 2
  have e : s.2 + t * push s.1 = (s.2 + t * push' s.1) + W.len s.1 * (t * ((push s.1 - push' s.1) / W.len s.1)) := by
    have := Int.mul_ediv_add_emod (push s.1 - push' s.1) (W.len s.1)
    rw [h, Int.add_zero] at this
    have e2 : push s.1 = push' s.1 + W.len s.1 * ((push s.1 - push' s.1) / W.len s.1) := by omega
    have e3 : t * push s.1 = t * push' s.1 + W.len s.1 * (t * ((push s.1 - push' s.1) / W.len s.1)) := by
      rw [Int.mul_left_comm, ← Int.mul_add, ← e2]
    omega
  rw [e, Int.add_mul_emod_self_left]
/-- what Form.__init__ keeps of a table -/
theorem Tells.form (o : WebOk W) (F : Tells W push tab f g) (hp : ∀ n ∈ W.names, push' n = push n % W.len n)
    (keep : Place α × Place α → Bool) (hk : ∀ a b, (a, b) ∈ tab → (keep (a, b) = true ↔ W.mate a ≠ none ∨ b ≠ W.plain push' a 1)) : FormOk W push' (tab.filter keep) f g := by
  have pl : ∀ s : Place α, s.1 ∈ W.names → ∀ t, W.plain push' s t = W.plain push s t := fun s hs t => by
    refine plain_cong o ?_ t
    rw [hp _ hs]
    have := Int.mul_ediv_add_emod (push s.1) (W.len s.1)
    have e : push s.1 % W.len s.1 - push s.1 = W.len s.1 * (-(push s.1 / W.len s.1)) := by
      rw [Int.mul_neg]; omega
    rw [e, Int.mul_emod_right]
  refine { bij := F.bij, nd := ?_, in_ := ?_, out := ?_, range := ?_ }
  · exact List.Nodup.sublist (List.Sublist.map _ List.filter_sublist) F.nd
  · intro a b h
    exact F.in_ a b (List.mem_filter.mp h).1
  · intro a hs h
    by_cases c : a ∈ tab.map (·.1)
    · have m := F.key c
      have nk : ¬ keep (a, f a) = true := fun k => h (keys_mem (List.mem_filter.mpr ⟨m, k⟩))
      rw [hk a (f a) m] at nk
      have n1 : W.mate a = none := Classical.byContradiction fun q => nk (.inl q)
      have n2 : f a = W.plain push' a 1 := Classical.byContradiction fun q => nk (.inr q)
      exact ⟨n1, n2⟩
    · obtain ⟨a1, a2⟩ := F.out a hs c
      exact ⟨a1, by rw [a2, pl a hs.1.1]⟩
  · intro n hn
    rw [hp n hn]
    exact mod_range (o.pos n hn)
/-- a spot that is no exception is a place of its own, and goes on -/
theorem Tells.free (o : WebOk W) (F : Tells W push tab f g) {a : Place α} (hs : W.Spot a) (h : a ∉ tab.map (·.1)) : W.mate a = none ∧ f a = W.told (a.1, (a.2 + push a.1) % W.len a.1) := by
  obtain ⟨h1, h2⟩ := F.out a hs h
  refine ⟨h1, ?_⟩
  rw [h2]
  unfold WebM.plain
  rw [Int.one_mul]
/-- the table of a product tells the product -/
theorem FormOk.mul (o : WebOk W) (A : FormOk W push tab f g) (B : FormOk W push' tab' f' g') {T : List (Place α × Place α)} (nd : (T.map (·.1)).Nodup)
    (h1 : ∀ a b, (a, b) ∈ T → W.Spot a ∧ b = f' (f a)) (h2 : ∀ a ∈ tab.map (·.1), a ∈ T.map (·.1)) (h3 : ∀ a ∈ tab'.map (·.1), g a ∈ T.map (·.1)) :
    Tells W (fun n => push n + push' n) T (fun s => f' (f s)) (fun s => g (g' s)) where
  bij := A.bij.comp B.bij
  nd := nd
  in_ := h1
  out := fun a hs h => by
    have n1 : a ∉ tab.map (·.1) := fun z => h (h2 a z)
    have n2 : f a ∉ tab'.map (·.1) := fun z => h (by have := h3 _ z; rw [A.bij.gf a hs] at this; exact this)
    obtain ⟨m1, e1⟩ := A.toTells.free o hs n1
    obtain ⟨m2, e2⟩ := B.toTells.free o (A.bij.to a hs) n2
    refine ⟨m1, ?_⟩
    show f' (f a) = _
    have e3 : (a.1, (a.2 + push a.1) % W.len a.1) = f a := o.told_eq_self e1.symm m2
    rw [e2, ← e3]
    unfold WebM.plain
    dsimp only
    rw [Int.one_mul, Int.emod_add_emod, Int.add_assoc]
/-- the table of the inverse -/
theorem FormOk.inv (o : WebOk W) (A : FormOk W push tab f g) {T : List (Place α × Place α)} (nd : (T.map (·.1)).Nodup)
    (h1 : ∀ a b, (a, b) ∈ T → W.Spot a ∧ b = g a) (h2 : ∀ a ∈ tab.map (·.1), f a ∈ T.map (·.1)) (h3 : ∀ a, W.Spot a → W.mate a ≠ none → a ∈ T.map (·.1)) :
    Tells W (fun n => - push n) T g f where
  bij := A.bij.symm
  nd := nd
  in_ := h1
  out := fun a hs h => by
    have m1 : W.mate a = none := Classical.byContradiction fun z => h (h3 a hs z)
    refine ⟨m1, ?_⟩
    have hg := A.bij.fro a hs
    have n1 : g a ∉ tab.map (·.1) := fun z => h (by have := h2 _ z; rw [A.bij.fg a hs] at this; exact this)
    obtain ⟨m2, e2⟩ := A.toTells.free o hg n1
    rw [A.bij.fg a hs] at e2
    have e3 := o.told_eq_self e2.symm m1
    -- a = (n, (j + p) % L) where g a = (n, j)
    obtain ⟨⟨hn, h0, hl⟩, ht⟩ := hg
    unfold WebM.plain
    have e1 : a.1 = (g a).1 := (congrArg Prod.fst e3).symm
    have e4 : a.2 = ((g a).2 + push (g a).1) % W.len (g a).1 := (congrArg Prod.snd e3).symm
    rw [e4, e1, Int.one_mul, Int.emod_add_emod]
    have e5 : (g a).2 + push (g a).1 + -push (g a).1 = (g a).2 := by omega
    rw [e5, Int.emod_eq_of_lt h0 hl]
    exact ht.symm
/-- origin: an exception's end is found in the table; else behind the place on its ring -/
theorem FormOk.origin_at (o : WebOk W) (A : FormOk W push tab f g) {s : Place α} (hs : W.Spot s) (h : g s ∉ tab.map (·.1)) :
    ∃ p : Place α, W.Val p ∧ W.told p = s ∧ W.told (p.1, (p.2 - push p.1) % W.len p.1) = g s := by
  have hg := A.bij.fro s hs
  obtain ⟨m2, e2⟩ := A.toTells.free o hg h
  rw [A.bij.fg s hs] at e2
  obtain ⟨⟨hn, h0, hl⟩, ht⟩ := hg
  refine ⟨((g s).1, ((g s).2 + push (g s).1) % W.len (g s).1), ⟨hn, mod_range (o.pos _ hn)⟩, e2.symm, ?_⟩
  dsimp only
  rw [Int.emod_sub_emod]
  have e5 : (g s).2 + push (g s).1 - push (g s).1 = (g s).2 := by omega
  rw [e5, Int.emod_eq_of_lt h0 hl]
  exact ht
theorem FormOk.origin_of (o : WebOk W) (A : FormOk W push tab f g) {s p : Place α} (hp : W.Val p) (e : W.told p = s) (h : W.told (p.1, (p.2 - push p.1) % W.len p.1) ∉ tab.map (·.1)) :
    W.told (p.1, (p.2 - push p.1) % W.len p.1) = g s := by
  have hv : W.Val (p.1, (p.2 - push p.1) % W.len p.1) := ⟨hp.1, mod_range (o.pos _ hp.1)⟩
  have hs' := o.spot hv
  obtain ⟨m, e2⟩ := A.toTells.free o hs' h
  have e3 : (p.1, (p.2 - push p.1) % W.len p.1) = W.told (p.1, (p.2 - push p.1) % W.len p.1) := o.told_eq_self rfl m
  have e4 : f (W.told (p.1, (p.2 - push p.1) % W.len p.1)) = s := by
    rw [e2, ← e3]
    dsimp only
    rw [Int.emod_add_emod]
    have e5 : p.2 - push p.1 + push p.1 = p.2 := by omega
    rw [e5, Int.emod_eq_of_lt hp.2.1 hp.2.2]
    exact e
  rw [← e4, A.bij.gf _ hs']
end
end MR
/-! Whole numbers: the common divisor, the solution; lanes of a ring. -/
namespace MR
def cd (a b : Int) : Int := (Int.gcd a b : Nat)
theorem cd_zero {a : Int} (h : 0 ≤ a) : cd a 0 = a := by
  unfold cd
  rw [Int.gcd_zero_right]; omega
theorem cd_step (a b : Int) : cd b (a % b) = cd a b := by
  unfold cd
  have e : a = a % b + b * (a / b) := by have := Int.mul_ediv_add_emod a b; omega
  congr 1
  rw [Int.gcd_comm a b]
  conv => rhs; rw [e]
  rw [Int.gcd_add_mul_left_right]
theorem cd_pos {a b : Int} (h : 0 < b) : 0 < cd a b := by
  unfold cd
  have := Int.gcd_pos_of_ne_zero_right a (show b ≠ 0 by omega)
  omega
theorem cd_dvd_left (a b : Int) : cd a b ∣ a := Int.gcd_dvd_left a b
theorem cd_dvd_right (a b : Int) : cd a b ∣ b := Int.gcd_dvd_right a b
/-- what stands between two turns of the loop of solution: A, m the two numbers at its start -/
structure SolI (A m first second one other : Int) : Prop where
  f0 : 0 ≤ first
  s0 : 0 ≤ second
  cong1 : (one * A - first) % m = 0
  cong2 : (other * A - second) % m = 0
  cop : cd first second = 1
  small : ∃ x y : Int, 0 ≤ x ∧ 0 ≤ y ∧ x ≤ m ∧ y ≤ m ∧ ((one = x ∧ other = -y) ∨ (one = -x ∧ other = y)) ∧ x * second + y * first = m
theorem SolI.start {A m : Int} (hm : 0 < m) (hA : 0 ≤ A) (h : cd A m = 1) : SolI A m A m 1 0 where
  f0 := hA
  s0 := by omega
  cong1 := by rw [Int.one_mul, Int.sub_self, Int.zero_emod]
  cong2 := by
    rw [Int.zero_mul, Int.zero_sub, Int.neg_emod_self]
  cop := h
  small := ⟨1, 0, by omega, by omega, by omega, by omega, .inl ⟨rfl, rfl⟩, by omega⟩
theorem SolI.turn {A m first second one other : Int} (hm : 0 < m) (I : SolI A m first second one other) (h : second ≠ 0) :
    SolI A m second (first - first / second * second) other (one - first / second * other) := by
  obtain ⟨f0, s0, c1, c2, cp, x, y, x0, y0, xm, ym, sg, sm⟩ := I
  have hs : 0 < second := by omega
  have er : first - first / second * second = first % second := by
    have := Int.mul_ediv_add_emod first second
    rw [Int.mul_comm] at this; omega
  have hq : 0 ≤ first / second := Int.ediv_nonneg f0 s0
  have hr := Int.emod_nonneg first h
  refine { f0 := s0, s0 := by rw [er]; exact hr, cong1 := c2, cong2 := ?_, cop := by rw [er, cd_step]; exact cp, small := ?_ }
  · have d1 := Int.dvd_of_emod_eq_zero c1
    have d2 := Int.dvd_of_emod_eq_zero c2
    have d3 : m ∣ (one * A - first) - (first / second) * (other * A - second) := Int.dvd_sub d1 (Int.dvd_mul_of_dvd_right d2)
    have e : (one - first / second * other) * A - (first - first / second * second) = (one * A - first) - (first / second) * (other * A - second) := by
      rw [Int.sub_mul, Int.mul_sub, Int.mul_assoc]; omega
    rw [e]
    exact Int.emod_eq_zero_of_dvd d3
  · have hqy : 0 ≤ first / second * y := Int.mul_nonneg hq y0
    have key : y * (first - first / second * second) + (x + first / second * y) * second = m := by
      rw [Int.mul_sub, Int.add_mul]
      have e1 : first / second * y * second = y * (first / second * second) := by
        rw [Int.mul_comm (first / second) y, Int.mul_assoc]
      rw [e1]; omega
    refine ⟨y, x + first / second * y, y0, by omega, ym, ?_, ?_, key⟩
    · have p1 : 0 ≤ y * (first - first / second * second) := Int.mul_nonneg y0 (by rw [er]; exact hr)
      have p2 : (x + first / second * y) * 1 ≤ (x + first / second * y) * second := Int.mul_le_mul_of_nonneg_left (by omega) (by omega)
      omega
    · rcases sg with ⟨rfl, rfl⟩ | ⟨rfl, rfl⟩
      · right
        refine ⟨rfl, ?_⟩
        rw [Int.mul_neg]; omega
      · left
        refine ⟨rfl, ?_⟩
        omega
theorem SolI.done {A m first one other : Int} (hm : 0 < m) (I : SolI A m first 0 one other) : (one * A) % m = 1 % m := by
  have e : first = 1 := by
    have := I.cop
    rw [cd_zero I.f0] at this; exact this
  have := I.cong1
  rw [e] at this
  have d := Int.dvd_of_emod_eq_zero this
  exact (Int.emod_eq_emod_iff_emod_sub_eq_zero).mpr this
theorem SolI.bound {A m first second one other : Int} (I : SolI A m first second one other) : one.natAbs ≤ m.natAbs ∧ other.natAbs ≤ m.natAbs := by
  obtain ⟨_, _, _, _, _, x, y, x0, y0, xm, ym, sg, _⟩ := I
  rcases sg with ⟨rfl, rfl⟩ | ⟨rfl, rfl⟩ <;> omega
/-- a ring of length L with shift p: g lanes of m places each; b goes from a place's number on its lane to how often the shift leads there -/
structure LaneOk (L p g m b : Int) : Prop where
  L0 : 0 < L
  eg : g = cd p L
  em : m = L / g
  b0 : 0 ≤ b
  bm : b < m
  cong : (b * (p / g)) % m = 1 % m
section
variable {L p g m b : Int}
theorem LaneOk.g0 (o : LaneOk L p g m b) : 0 < g := by rw [o.eg]; exact cd_pos o.L0
theorem LaneOk.eL (o : LaneOk L p g m b) : L = g * m := by
  rw [o.em, o.eg]
  exact (Int.mul_ediv_cancel' (cd_dvd_right p L)).symm
theorem LaneOk.m0 (o : LaneOk L p g m b) : 0 < m := by
  have := o.b0; have := o.bm; omega
theorem LaneOk.ep (o : LaneOk L p g m b) : p = g * (p / g) := by
  have d : g ∣ p := by rw [o.eg]; exact cd_dvd_left p L
  exact (Int.mul_ediv_cancel' d).symm
def atOf (g m b i : Int) : Int := i / g * b % m
theorem LaneOk.at_range (o : LaneOk L p g m b) (i : Int) : 0 ≤ atOf g m b i ∧ atOf g m b i < m := mod_range o.m0
/-- the place after t shifts, by its lane and its number there -/
theorem LaneOk.go (o : LaneOk L p g m b) (i t : Int) : (i + t * p) % L = i % g + g * ((i / g + t * (p / g)) % m) := by
  have g0 := o.g0
  have m0 := o.m0
  have e1 := Int.mul_ediv_add_emod i g
  have hr := mod_range (a := i) g0
  have e2 : i + t * p = i % g + g * (i / g + t * (p / g)) := by
    have := o.ep
    have e3 : t * p = g * (t * (p / g)) := by rw [Int.mul_left_comm, ← this]
    rw [Int.mul_add, e3]; omega
  have e4 := Int.mul_ediv_add_emod (i / g + t * (p / g)) m
  have hk := mod_range (a := i / g + t * (p / g)) m0
  have e5 : i + t * p = (i % g + g * ((i / g + t * (p / g)) % m)) + L * ((i / g + t * (p / g)) / m) := by
    rw [e2, o.eL, Int.mul_assoc]
    have : g * (i / g + t * (p / g)) = g * (m * ((i / g + t * (p / g)) / m)) + g * ((i / g + t * (p / g)) % m) := by
      rw [← Int.mul_add, e4]
    rw [this]; omega
  rw [e5, Int.add_mul_emod_self_left]
  refine Int.emod_eq_of_lt ?_ ?_
  · have : 0 ≤ g * ((i / g + t * (p / g)) % m) := Int.mul_nonneg (by omega) hk.1
    omega
  · rw [o.eL]
    have : g * ((i / g + t * (p / g)) % m + 1) ≤ g * m := Int.mul_le_mul_of_nonneg_left (by omega) (by omega)
    rw [Int.mul_add, Int.mul_one] at this
    omega
theorem LaneOk.lane (o : LaneOk L p g m b) (i t : Int) : ((i + t * p) % L) % g = i % g := by
  rw [o.go, Int.add_mul_emod_self_left, Int.emod_emod]
theorem LaneOk.div (o : LaneOk L p g m b) (i t : Int) : ((i + t * p) % L) / g = (i / g + t * (p / g)) % m := by
  rw [o.go, Int.add_mul_ediv_left _ _ (show g ≠ 0 by have := o.g0; omega)]
  have hr := mod_range (a := i) o.g0
  rw [Int.ediv_eq_zero_of_lt hr.1 hr.2, Int.zero_add]
theorem LaneOk.at_go (o : LaneOk L p g m b) (i t : Int) : atOf g m b ((i + t * p) % L) = (atOf g m b i + t) % m := by
  unfold atOf
  rw [o.div]
  have e : ((i / g + t * (p / g)) % m * b) % m = ((i / g) * b + t * (b * (p / g))) % m := by
    rw [Int.mul_emod, Int.emod_emod, ← Int.mul_emod, Int.add_mul, Int.mul_assoc t, Int.mul_comm (p / g) b]
  rw [e, Int.add_emod, Int.mul_emod t, o.cong, ← Int.mul_emod, Int.mul_one, ← Int.add_emod, Int.emod_add_emod]
/-- lane and number tell the place -/
theorem LaneOk.inj (o : LaneOk L p g m b) {i j : Int} (hi : 0 ≤ i ∧ i < L) (hj : 0 ≤ j ∧ j < L) (h1 : i % g = j % g) (h2 : atOf g m b i = atOf g m b j) : i = j := by
  have g0 := o.g0
  have m0 := o.m0
  have qr : ∀ k, 0 ≤ k ∧ k < L → 0 ≤ k / g ∧ k / g < m := fun k hk => by
    refine ⟨Int.ediv_nonneg hk.1 (by omega), ?_⟩
    refine Int.ediv_lt_of_lt_mul g0 ?_
    have := o.eL
    rw [Int.mul_comm]; omega
  have back : ∀ k, 0 ≤ k ∧ k < L → (atOf g m b k * (p / g)) % m = k / g := fun k hk => by
    unfold atOf
    rw [Int.mul_emod, Int.emod_emod, ← Int.mul_emod, Int.mul_assoc, Int.mul_emod, o.cong, ← Int.mul_emod, Int.mul_one]
    exact Int.emod_eq_of_lt (qr k hk).1 (qr k hk).2
  have e : i / g = j / g := by rw [← back i hi, ← back j hj, h2]
  have := Int.mul_ediv_add_emod i g
  have := Int.mul_ediv_add_emod j g
  rw [e] at *
  omega
end
end MR
namespace MR
open PySem PySem.Spec PyProof.Rows L2 He
section
variable {P : Program} {w : World} {K : PySem.W.Frag} {mg : Str → Option Value} {base : Heap}
/-! ### numbers -/
def spCd : Sp := spOf 0 (ι := Int × Int) (fun i => 0 ≤ i.1 ∧ 0 ≤ i.2) (fun i => [Is (.int i.1), Is (.int i.2)]) (fun i => Is (.int (cd i.1 i.2)))
theorem ok_common_divisor (T : Tx K mg) : Good P w K mg base 1 (ga K "common_divisor") ["first", "second"] spCd := by
  refine good_of T.d_common_divisor sc_common_divisor (fun fd F => FunD.bindsN F fun _ _ _ _ _ _ us hl => match us, hl with | [_, _], _ => rfl) (fun vs H Q E h => ?_) (fun cdv A outer s H vs Q E hr h => ?_)
  · obtain ⟨i, G, _, _, _, al, _⟩ := h
    exact al_len al rfl
  · obtain ⟨⟨a0, b0⟩, G0, ⟨ha0, hb0⟩, _, sG, al, k⟩ := h
    obtain ⟨_, _, rfl, e1, e2⟩ := al2 al
    cases e1
    cases e2
    refine ⟨_, (pss_cons (ps_while PassesOwn.never (pt_truth (pv 1) (by intro _; rfl)) (pss_one (ps_par (i := 0) (j := 1) (by rfl) sc_common_divisor.nd rfl rfl (by decide) rfl rfl (pa_cons (pv 1) (pa_cons (pe_op op_mod (pv 0) (pv 1)) pa_nil)) (by rfl))))
    (pss_one (ps_ret (pv 0)))), ?_⟩
    refine seq_ (p_while (M := none) (fun m σ' H' => ∃ (a b : Int) (G : Hp), 0 ≤ a ∧ 0 ≤ b ∧ b.toNat = m ∧ σ' = [some (.int a), some (.int b)] ∧ cd a b = cd a0 b0 ∧ Ext none G0 H G H') ⟨b0.toNat, a0, b0, G0, ha0, hb0, rfl, rfl, rfl, Ext.rfl' (.mk0 sG)⟩ ?_)
    rintro m σ' H' ⟨a, b, G, ha, hb, rfl, rfl, ec, x⟩
    have f : Fr none G H' := .mk0 x.sub
    refine ⟨G, b != 0, f, et_int (ev_var rfl rfl), fun G1 H1 x1 => ⟨fun hb1 => ?_, fun hb1 => ?_⟩⟩
    · have b0' : b ≠ 0 := by simpa using hb1
      have bp : 0 < b := by omega
      refine p_par (P1 := Is (.int b)) (P2 := Is (.int (a % b))) (f.ext x1) (ev_var rfl rfl) (ev_i (i := a) (j := b) (ev_var rfl rfl) (ev_var rfl rfl) bp) fun v w G2 H2 x2 h1 h2 => ?_
      cases h1
      cases h2
      have := mod_range (a := a) bp
      refine ⟨(a % b).toNat, by omega, b, a % b, G2, hb, this.1, rfl, rfl, ?_, (x.trans x1).trans x2⟩
      rw [cd_step, ec]
    · have b0' : b = 0 := by simpa using hb1
      subst b0'
      refine s_ret (f.ext x1) (P := Is (.int a)) (ev_var rfl rfl) fun v G2 H2 x2 h1 => ?_
      cases h1
      refine k _ G2 H2 ((x.trans x1).trans x2) ?_
      show V.int _ = V.int _
      rw [← ec, cd_zero ha]
theorem cd_cop {p L : Int} (hL : 0 < L) : cd (p / cd p L) (L / cd p L) = 1 := by
  unfold cd
  have h := Int.gcd_ediv_gcd_ediv_gcd (i := p) (j := L) (Int.gcd_pos_of_ne_zero_right p (by omega))
  rw [h]
  rfl
theorem div_small {a m : Int} {n : Nat} (hm : 0 < m) (h : m.natAbs < 2 ^ n) (h0 : 0 < n) (h9 : n ≤ 9000) : CDivW a m := wide_div hm h h0 h9
/-- b with b * factor ≡ wanted: here factor and wanted are such that the answer is the lane's turn -/
def spSol : Sp := spOf 0 (ι := Int × Int × Int) (fun i => 0 ≤ i.1 ∧ 0 < i.2.2 ∧ i.2.1 = cd i.1 i.2.2 ∧ i.1 < i.2.2 ∧ i.2.2.natAbs < 2 ^ 200) (fun i => [Is (.int i.1), Is (.int i.2.1), Is (.int i.2.2)])
  (fun i => fun H v => ∃ b, v = .int b ∧ LaneOk i.2.2 i.1 (cd i.1 i.2.2) (i.2.2 / cd i.1 i.2.2) b)
theorem ok_solution (T : Tx K mg) : Good P w K mg base 2 (ga K "solution") ["factor", "wanted", "modulus"] spSol := by
  obtain ⟨⟨fd_common_divisor, G_common_divisor, b_common_divisor⟩, k_common_divisor⟩ := ok_common_divisor (P := P) (w := w) (base := base) T
  refine good_of T.d_solution sc_solution (fun fd F => FunD.bindsN F fun _ _ _ _ _ _ us hl => match us, hl with | [_, _, _], _ => rfl) (fun vs H Q E h => ?_) (fun cdv A outer s H vs Q E hr h => ?_)
  · obtain ⟨i, G, _, _, _, al, _⟩ := h
    exact al_len al rfl
  · obtain ⟨⟨p, g, L⟩, G0, ⟨hp, hL, hg, hlt, hbit⟩, _, sG, al, k⟩ := h
    obtain ⟨_, _, _, rfl, e1, e2, e3⟩ := al3 al
    cases e1
    cases e2
    cases e3
    refine ⟨_, (pss_cons (ps_set (i := 3) sc_solution.nd rfl (Or.inl rfl) (pe_call G_common_divisor (hr.mono (by decide)) (by rfl) T.g_common_divisor k_common_divisor b_common_divisor .nil pass0 (pa_cons (pe_op op_mod (pv 0) (pv 2)) (pa_cons (pv 2) pa_nil))))
    (pss_cons (ps_if (pt_cmpR op_ne (pe_op op_mod (pv 1) (pv 3)) pe_int (nomark _)) (pss_one (ps_ret pe_non)) pss_nil)
    (pss_cons (ps_set (i := 4) sc_solution.nd rfl (Or.inl rfl) (pe_op op_fdivW (pv 2) (pv 3)))
    (pss_cons (ps_par (i := 5) (j := 6) (by rfl) sc_solution.nd rfl rfl (by decide) rfl rfl (pa_cons (pe_op op_mod (pe_op op_fdivW (pv 0) (pv 3)) (pv 4)) (pa_cons (pv 4) pa_nil)) (by rfl))
    (pss_cons (ps_asg (pe_tup (pa_cons pe_int (pa_cons pe_int pa_nil))) (pg_tup rfl (pgs_cons (pg_name (i := 7) sc_solution.nd rfl (Or.inl rfl)) (pgs_cons (pg_name (i := 8) sc_solution.nd rfl (Or.inl rfl)) pgs_nil))))
    (pss_cons (ps_while PassesOwn.never (pt_truth (pv 6) (by intro _; rfl)) (pss_cons (ps_set (i := 9) sc_solution.nd rfl (Or.inl rfl) (pe_op op_fdivW (pv 5) (pv 6)))
    (pss_cons (ps_par (i := 5) (j := 6) (by rfl) sc_solution.nd rfl rfl (by decide) rfl rfl (pa_cons (pv 6) (pa_cons (pe_op op_sub (pv 5) (pe_op op_mulX (pv 9) (pv 6))) pa_nil)) (by rfl))
    (pss_one (ps_par (i := 7) (j := 8) (by rfl) sc_solution.nd rfl rfl (by decide) rfl rfl (pa_cons (pv 8) (pa_cons (pe_op op_sub (pv 7) (pe_op op_mulX (pv 9) (pv 8))) pa_nil)) (by rfl))))))
    (pss_one (ps_ret (pe_op op_mod (pe_op op_mulX (pv 7) (pe_op op_fdivW (pv 1) (pv 3))) (pv 4)))))))))), ?_⟩
    dsimp only at hp hL hg hlt hbit
    have hL' : L ≠ 0 := by omega
    have ep : p % L = p := Int.emod_eq_of_lt hp hlt
    have gp : 0 < cd p L := cd_pos hL
    have hg' : g = cd p L := hg
    subst hg'
    have gL : cd p L ∣ L := cd_dvd_right p L
    have gpd : cd p L ∣ p := cd_dvd_left p L
    -- divisor
    refine q_asg (P := Is (.int (cd p L))) (.mk0 sG) (ev_imp (ev_call (i := (p % L, L)) ⟨by rw [ep]; exact hp, by omega⟩ (n := 0) trivial (ea_cons (ev_i (i := p) (j := L) (ev_var rfl rfl) (ev_var rfl rfl) hL) (ea_cons (ev_var (P := Is (.int L)) rfl rfl) ea_nil))) fun H v h => by
      have h' : v = V.int (cd (p % L) L) := h
      rw [ep] at h'
      exact h') fun v1 G1 H1 x1 h1 => ?_
    cases h1
    refine q_when (.mk0 x1.sub) (et_test (ev_ne (x := .int (cd p L % cd p L)) (y := .int 0) (ev_i (i := cd p L) (j := cd p L) (ev_var rfl rfl) (ev_var rfl rfl) gp) ev_c rfl)) (fun hb => ?_) fun _ G2 H2 x2 => ?_
    · exfalso
      rw [Int.emod_self] at hb
      simp at hb
    have x2 := x1.trans x2
    -- small
    refine q_asg (P := Is (.int (L / cd p L))) (.mk0 x2.sub) (ev_i (i := L) (j := cd p L) (ev_var rfl rfl) (ev_var rfl rfl) ?_) fun v3 G3 H3 x3 h3 => ?_
    · refine wide_div gp (b := 200) ?_ (by decide) (by decide)
      have : cd p L ≤ L := Int.le_of_dvd hL gL
      have hbit' : L.natAbs < 2 ^ 200 := hbit
      omega
    cases h3
    have x3 := x2.trans x3
    have mp : 0 < L / cd p L := Int.ediv_pos_of_pos_of_dvd hL (Int.le_of_lt gp) gL
    have mL : L / cd p L ≤ L := Int.ediv_le_self _ (Int.le_of_lt hL)
    have gbit : (cd p L).natAbs < 2 ^ 200 := by
      have : cd p L ≤ L := Int.le_of_dvd hL gL
      omega
    have mbit : (L / cd p L).natAbs < 2 ^ 200 := by omega
    have A0 : 0 ≤ p / cd p L := Int.ediv_nonneg hp (Int.le_of_lt gp)
    have Am : p / cd p L < L / cd p L := by
      have e1 : L = cd p L * (L / cd p L) := (Int.mul_ediv_cancel' gL).symm
      refine Int.ediv_lt_of_lt_mul gp ?_
      rw [Int.mul_comm]
      omega
    have eA : p / cd p L % (L / cd p L) = p / cd p L := Int.emod_eq_of_lt A0 Am
    generalize hm : L / cd p L = m at *
    generalize hA : p / cd p L = B at *
    -- first, second
    refine seq_ (p_par (P1 := Is (.int B)) (P2 := Is (.int m)) (.mk0 x3.sub) (ev_is (ev_i (i := p / cd p L) (j := m) (ev_i (i := p) (j := cd p L) (ev_var rfl rfl) (ev_var rfl rfl) (wide_div gp gbit (by decide) (by decide))) (ev_var rfl rfl) mp) (by rw [hA, eA])) (ev_var rfl rfl) fun v w G4 H4 x4 h4 h5 => ?_)
    cases h4
    cases h5
    have x4 := x3.trans x4
    -- one, other
    refine q_asgG (P := TupP [Is (.int 1), Is (.int 0)]) (.mk0 x4.sub) (ev_tup (ea_cons ev_c (ea_cons ev_c ea_nil))) fun v G5 H5 x5 h6 => tg2 h6 x5.sub fun v1 v2 h7 h8 => ?_
    cases h7
    cases h8
    have x5 := x4.trans x5
    have cop : cd B m = 1 := by rw [← hA, ← hm]; exact cd_cop hL
    refine seq_ (p_while (M := none) (fun k' σ' H' => ∃ (a b c d : Int) (s0 : Option V) (G : Hp), SolI B m a b c d ∧ b ≤ m ∧ a.natAbs < 2 ^ 200 ∧ b.toNat = k' ∧ σ' = [some (.int p), some (.int (cd p L)), some (.int L), some (.int (cd p L)), some (.int m), some (.int a), some (.int b), some (.int c), some (.int d), s0] ∧ Ext none G0 H G H') ⟨m.toNat, B, m, 1, 0, none, G5, SolI.start mp A0 cop, by omega, by omega, rfl, rfl, x5⟩ ?_)
    rintro k' σ' H' ⟨a, b, c, d, s0, G, I, hbm, ha200, rfl, rfl, x⟩
    refine ⟨G, b != 0, .mk0 x.sub, et_int (ev_var rfl rfl), fun G6 H6 x6 => ⟨fun hb1 => ?_, fun hb1 => ?_⟩⟩
    · have bn : b ≠ 0 := by simpa using hb1
      have b0 : 0 < b := by
        have := I.s0
        omega
      have x6 := x.trans x6
      have bd := I.bound
      have mb : m.natAbs < 2 ^ 200 := mbit
      have bb : b.natAbs < 2 ^ 200 := by omega
      refine q_asg (P := Is (.int (a / b))) (.mk0 x6.sub) (ev_i (i := a) (j := b) (ev_var rfl rfl) (ev_var rfl rfl) (wide_div b0 bb (by decide) (by decide))) fun v G7 H7 x7 h7 => ?_
      cases h7
      have x7 := x6.trans x7
      have I2 := I.turn mp bn
      have er : a - a / b * b = a % b := by
        have := Int.mul_ediv_add_emod a b
        rw [Int.mul_comm] at this
        omega
      have rb := mod_range (a := a) b0
      have qb : (a / b).natAbs < 2 ^ 200 := by
        have h1 : 0 ≤ a / b := Int.ediv_nonneg I.f0 I.s0
        have h2 : a / b ≤ a := Int.ediv_le_self _ I.f0
        omega
      refine seq_ (p_par (P1 := Is (.int b)) (P2 := Is (.int (a - a / b * b))) (.mk0 x7.sub) (ev_var rfl rfl) (ev_i0 (i := a) (j := a / b * b) (ev_var rfl rfl) (ev_i (i := a / b) (j := b) (ev_var rfl rfl) (ev_var rfl rfl) (mulx_ok qb bb (by decide)))) fun v w G8 H8 x8 h8 h9 => ?_)
      cases h8
      cases h9
      have x8 := x7.trans x8
      refine p_par (P1 := Is (.int d)) (P2 := Is (.int (c - a / b * d))) (.mk0 x8.sub) (ev_var rfl rfl) (ev_i0 (i := c) (j := a / b * d) (ev_var rfl rfl) (ev_i (i := a / b) (j := d) (ev_var rfl rfl) (ev_var rfl rfl) (mulx_ok (a := 200) (b := 200) qb (by omega) (by decide)))) fun v w G9 H9 x9 h10 h11 => ?_
      cases h10
      cases h11
      refine ⟨(a - a / b * b).toNat, by rw [er]; omega, b, _, d, _, _, G9, I2, by rw [er]; omega, bb, rfl, rfl, x8.trans x9⟩
    · have bn : b = 0 := by simpa using hb1
      subst bn
      have x6 := x.trans x6
      have bd := I.bound
      have mb : m.natAbs < 2 ^ 200 := mbit
      have e1 : cd p L / cd p L = 1 := Int.ediv_self (by omega)
      dsimp only
      refine s_ret (P := Is (.int (c * (cd p L / cd p L) % m))) (.mk0 x6.sub) (ev_is (v := .int (c * (cd p L / cd p L) % m)) (ev_i (i := c * (cd p L / cd p L)) (j := m) (ev_i (i := c) (j := cd p L / cd p L) (ev_var rfl rfl) (ev_i (i := cd p L) (j := cd p L) (ev_var rfl rfl) (ev_var rfl rfl) (wide_div gp gbit (by decide) (by decide))) (mulx_ok (a := 200) (b := 200) (by omega) (by rw [e1]; decide) (by decide))) (ev_var rfl rfl) mp) rfl) fun v G7 H7 x7 h7 => ?_
      cases h7
      refine k _ G7 H7 (x6.trans x7) ⟨_, rfl, ?_⟩
      dsimp only
      rw [e1, Int.mul_one, hm]
      have r := mod_range (a := c) mp
      refine ⟨hL, rfl, hm.symm, r.1, r.2, ?_⟩
      rw [hA, Int.mul_emod, Int.emod_emod, ← Int.mul_emod]
      exact I.done mp
end
end MR
/-! How things run between the exceptions of a form. -/
namespace MR
variable {α : Type} [DecidableEq α]
structure LanesM (α : Type) where
  gd : α → Int
  sz : α → Int
  bk : α → Int
def LanesOk (W : WebM α) (push : α → Int) (N : LanesM α) : Prop := ∀ n ∈ W.names, LaneOk (W.len n) (push n) (N.gd n) (N.sz n) (N.bk n)
def LanesM.lane (N : LanesM α) (p : Place α) : α × Int := (p.1, p.2 % N.gd p.1)
def LanesM.at_ (N : LanesM α) (p : Place α) : Int := atOf (N.gd p.1) (N.sz p.1) (N.bk p.1) p.2
/-- an exception e has a place that stands on this lane, so far from its start -/
def Marked (W : WebM α) (N : LanesM α) (keys : List (Place α)) (l : α × Int) (a : Int) (e : Place α) : Prop :=
  e ∈ keys ∧ ∃ p : Place α, W.Val p ∧ W.told p = e ∧ N.lane p = l ∧ N.at_ p = a
section
variable {W : WebM α} {push : α → Int} {tab : List (Place α × Place α)} {f g : Place α → Place α} {N : LanesM α}
abbrev keysOf (tab : List (Place α × Place α)) : List (Place α) := tab.map (·.1)
/-- the place so many shifts on -/
def onPl (W : WebM α) (push : α → Int) (s : Place α) (t : Int) : Place α := (s.1, (s.2 + t * push s.1) % W.len s.1)
theorem onPl_zero {s : Place α} (h : W.Val s) : onPl W push s 0 = s := by
  unfold onPl
  rw [Int.zero_mul, Int.add_zero, Int.emod_eq_of_lt h.2.1 h.2.2]
theorem onPl_succ (s : Place α) (k : Nat) : onPl W push s ((k + 1 : Nat) : Int) = (s.1, ((onPl W push s k).2 + push s.1) % W.len s.1) := by
  unfold onPl
  dsimp only
  rw [Int.emod_add_emod]
  congr 2
  rw [Int.natCast_add, Int.add_mul]
  have : ((1 : Nat) : Int) * push s.1 = push s.1 := Int.one_mul _
  rw [this]; omega
theorem onPl_val (o : WebOk W) {s : Place α} (h : s.1 ∈ W.names) (t : Int) : W.Val (onPl W push s t) := ⟨h, mod_range (o.pos _ h)⟩
theorem told_onPl (s : Place α) (t : Int) : W.told (onPl W push s t) = W.plain push s t := rfl
/-- as long as no exception is met, the thing goes on by the shift -/
theorem path (o : WebOk W) (F : Tells W push tab f g) {s : Place α} (hs : W.Spot s) : ∀ (t : Nat), (∀ k, k < t → W.plain push s (k : Nat) ∉ keysOf tab) → itn f t s = W.plain push s (t : Nat)
  | 0, _ => by
    show s = W.plain push s ((0 : Nat) : Int)
    rw [← told_onPl, Int.natCast_zero, onPl_zero hs.1, hs.2]
  | t + 1, h => by
    have ih := path o F hs t fun k hk => h k (by omega)
    have hn := h t (by omega)
    have hp : W.Spot (W.plain push s (t : Nat)) := o.plain_spot push hs.1.1 _
    rw [itn_succ, ih]
    obtain ⟨h1, h2⟩ := F.free o hp hn
    rw [h2]
    have e : onPl W push s (t : Nat) = W.plain push s (t : Nat) := o.told_eq_self rfl h1
    rw [← e, ← told_onPl, onPl_succ]
    rfl
/-- the same, the other way round: no exception among the turns of the thing -/
theorem path' (o : WebOk W) (F : Tells W push tab f g) {s : Place α} (hs : W.Spot s) : ∀ (t : Nat), (∀ k, k < t → itn f k s ∉ keysOf tab) → itn f t s = W.plain push s (t : Nat) := fun t => by
  induction t with
  | zero => intro _; exact path o F hs 0 (fun k hk => by omega)
  | succ t ih =>
    intro h
    refine path o F hs (t + 1) ?_
    intro k
    induction k using Nat.strongRecOn with
    | ind k ihk =>
      intro hk
      rw [← path o F hs k fun j hj => ihk j hj (by omega)]
      exact h k hk
theorem lane_onPl (o : WebOk W) (L : LanesOk W push N) {s : Place α} (h : s.1 ∈ W.names) (t : Int) : N.lane (onPl W push s t) = N.lane s := by
  unfold LanesM.lane onPl
  dsimp only
  rw [(L _ h).lane]
theorem at_onPl (o : WebOk W) (L : LanesOk W push N) {s : Place α} (h : s.1 ∈ W.names) (t : Int) : N.at_ (onPl W push s t) = (N.at_ s + t) % N.sz s.1 := by
  unfold LanesM.at_ onPl
  dsimp only
  rw [(L _ h).at_go]
theorem at_onPl2 (o : WebOk W) (L : LanesOk W push N) {s : Place α} (h : s.1 ∈ W.names) (t : Int) : atOf (N.gd s.1) (N.sz s.1) (N.bk s.1) (onPl W push s t).2 = (N.at_ s + t) % N.sz s.1 := at_onPl o L h t
theorem at_range (L : LanesOk W push N) {s : Place α} (h : s.1 ∈ W.names) : 0 ≤ N.at_ s ∧ N.at_ s < N.sz s.1 := (L _ h).at_range _
/-- which turn of a lane is an exception -/
theorem key_marked (o : WebOk W) (L : LanesOk W push N) {s : Place α} (hs : W.Val s) {t : Int} (h : W.plain push s t ∈ keysOf tab) :
    Marked W N (keysOf tab) (N.lane s) ((N.at_ s + t) % N.sz s.1) (W.plain push s t) :=
  ⟨h, onPl W push s t, onPl_val o hs.1 t, rfl, lane_onPl o L hs.1 t, at_onPl o L hs.1 t⟩
theorem marked_key (o : WebOk W) (L : LanesOk W push N) {s : Place α} (hs : W.Val s) {a : Int} {e : Place α} (h : Marked W N (keysOf tab) (N.lane s) a e) :
    W.plain push s ((a - N.at_ s) % N.sz s.1) = e := by
  obtain ⟨he, p, hp, et, el, ea⟩ := h
  have en : p.1 = s.1 := (congrArg Prod.fst el : (N.lane p).1 = (N.lane s).1)
  have er : p.2 % N.gd p.1 = s.2 % N.gd s.1 := (congrArg Prod.snd el : (N.lane p).2 = (N.lane s).2)
  have hn := hs.1
  have q : onPl W push s ((a - N.at_ s) % N.sz s.1) = p := by
    refine Prod.ext en.symm ?_
    refine (L _ hn).inj (onPl_val (push := push) o hn _).2 (by rw [← en]; exact hp.2) ?_ ?_
    · have := congrArg Prod.snd (lane_onPl o L hn ((a - N.at_ s) % N.sz s.1))
      unfold LanesM.lane onPl at this
      dsimp only at this
      rw [show (onPl W push s ((a - N.at_ s) % N.sz s.1)).2 % N.gd s.1 = s.2 % N.gd s.1 from this, ← er, en]
    · rw [at_onPl2 o L hn]
      have r := at_range L (s := p) (by rw [en]; exact hn)
      rw [ea, en] at r
      rw [Int.add_emod_emod]
      have e2 : N.at_ s + (a - N.at_ s) = a := by omega
      rw [e2, Int.emod_eq_of_lt r.1 r.2, ← ea]
      unfold LanesM.at_
      rw [en]
  rw [← told_onPl, q]
  exact et
/-- the first exception that a thing comes to: t times on, e -/
structure Hit (W : WebM α) (push : α → Int) (keys : List (Place α)) (f : Place α → Place α) (s : Place α) (t : Nat) (e : Place α) : Prop where
  here : itn f t s = e
  key : e ∈ keys
  free : ∀ k, k < t → itn f k s ∉ keys
  way : ∀ k, k ≤ t → itn f k s = W.plain push s (k : Nat)
/-- .. it never comes to any -/
structure NoHit (W : WebM α) (push : α → Int) (keys : List (Place α)) (f : Place α → Place α) (s : Place α) (m : Int) : Prop where
  free : ∀ k, itn f k s ∉ keys
  way : ∀ k, itn f k s = W.plain push s (k : Nat)
  per : Per f s m.toNat
  pos : 0 < m
theorem hit_of (o : WebOk W) (F : Tells W push tab f g) (L : LanesOk W push N) {s : Place α} (hs : W.Spot s) {a : Int} {e : Place α} (hm : Marked W N (keysOf tab) (N.lane s) a e)
    (least : ∀ a' e', Marked W N (keysOf tab) (N.lane s) a' e' → (a - N.at_ s) % N.sz s.1 ≤ (a' - N.at_ s) % N.sz s.1) : Hit W push (keysOf tab) f s ((a - N.at_ s) % N.sz s.1).toNat e := by
  have hn := hs.1.1
  have r := mod_range (a := a - N.at_ s) (L _ hn).m0
  have et : (((a - N.at_ s) % N.sz s.1).toNat : Int) = (a - N.at_ s) % N.sz s.1 := Int.toNat_of_nonneg r.1
  have fr : ∀ k : Nat, k < ((a - N.at_ s) % N.sz s.1).toNat → W.plain push s (k : Nat) ∉ keysOf tab := fun k hk hin => by
    have mk := key_marked o L hs.1 hin
    have := least _ _ mk
    rw [Int.emod_sub_emod] at this
    have e2 : N.at_ s + (k : Int) - N.at_ s = k := by omega
    have hk' : (k : Int) < (a - N.at_ s) % N.sz s.1 := by rw [← et]; exact Int.ofNat_lt.mpr hk
    rw [e2, Int.emod_eq_of_lt (Int.natCast_nonneg k) (Int.lt_trans hk' r.2)] at this
    exact absurd hk' (Int.not_lt.mpr this)
  have way : ∀ k, k ≤ ((a - N.at_ s) % N.sz s.1).toNat → itn f k s = W.plain push s (k : Nat) := fun k hk => path o F hs k fun j hj => fr j (by omega)
  refine ⟨?_, hm.1, fun k hk => by rw [way k (by omega)]; exact fr k hk, way⟩
  rw [way _ (Nat.le_refl _), et]
  exact marked_key o L hs.1 hm
theorem noHit_of (o : WebOk W) (F : Tells W push tab f g) (L : LanesOk W push N) {s : Place α} (hs : W.Spot s) (no : ∀ a e, ¬ Marked W N (keysOf tab) (N.lane s) a e) : NoHit W push (keysOf tab) f s (N.sz s.1) := by
  have hn := hs.1.1
  have fr : ∀ k : Nat, W.plain push s (k : Nat) ∉ keysOf tab := fun k hin => no _ _ (key_marked o L hs.1 hin)
  have way : ∀ k : Nat, itn f k s = W.plain push s (k : Nat) := fun k => path o F hs k fun j _ => fr j
  have m0 := (L _ hn).m0
  -- every place on the way is a spot of its own
  have own : ∀ k : Nat, onPl W push s (k : Nat) = W.plain push s (k : Nat) := fun k => by
    have h1 := (F.free o (o.plain_spot push hn _) (fr k)).1
    exact o.told_eq_self rfl h1
  refine ⟨fun k => by rw [way k]; exact fr k, way, ⟨by omega, ?_, fun k h0 hk e => ?_⟩, m0⟩
  · rw [way, ← own]
    refine Prod.ext rfl ?_
    refine (L _ hn).inj (onPl_val (push := push) o hn _).2 hs.1.2 ((L _ hn).lane _ _) ?_
    rw [at_onPl2 o L hn, Int.toNat_of_nonneg (by omega), Int.add_emod_right]
    have r := (L _ hn).at_range s.2
    exact Int.emod_eq_of_lt r.1 r.2
  · rw [way, ← own] at e
    have := at_onPl o L hn (k : Int)
    rw [e] at this
    have r := at_range L (s := s) hn
    have hk' : (k : Int) < N.sz s.1 := by omega
    -- at = (at + k) % m with 0 < k < m
    have d : (N.at_ s + k - N.at_ s) % N.sz s.1 = 0 := by
      rw [Int.sub_emod, ← this, Int.emod_eq_of_lt r.1 r.2, Int.sub_self, Int.zero_emod]
    have e2 : N.at_ s + (k : Int) - N.at_ s = k := by omega
    rw [e2, Int.emod_eq_of_lt (by omega) hk'] at d
    omega
/-! ### the exceptions that a thing comes to, one behind the other -/
/-- from s, the stations with the times to the next one, to e -/
def Steps (W : WebM α) (push : α → Int) (keys : List (Place α)) (f : Place α → Place α) : Place α → List (Place α × Int) → Place α → Prop
  | s, [], e => s = e
  | s, (a, t) :: r, e => a = s ∧ s ∈ keys ∧ 0 < t ∧ (∀ k : Nat, 0 < k → (k : Int) < t → itn f k s ∉ keys ∧ itn f k s = W.plain push (f s) ((k : Int) - 1)) ∧ Steps W push keys f (itn f t.toNat s) r e
def total (l : List (Place α × Int)) : Int := (l.map (·.2)).sum
theorem total_cons (x : Place α × Int) (l : List (Place α × Int)) : total (x :: l) = x.2 + total l := by
  unfold total; rw [List.map_cons, List.sum_cons]
theorem total_append (l : List (Place α × Int)) (x : Place α × Int) : total (l ++ [x]) = total l + x.2 := by
  induction l with
  | nil => rw [List.nil_append, total_cons]; unfold total; simp
  | cons y l ih => rw [List.cons_append, total_cons, total_cons, ih]; omega
variable {keys : List (Place α)}
theorem Steps.snoc : ∀ {l : List (Place α × Int)} {s e : Place α} {t : Int}, Steps W push keys f s l e → e ∈ keys → 0 < t →
    (∀ k : Nat, 0 < k → (k : Int) < t → itn f k e ∉ keys ∧ itn f k e = W.plain push (f e) ((k : Int) - 1)) → Steps W push keys f s (l ++ [(e, t)]) (itn f t.toNat e)
  | [], s, e, t, h, hk, h0, hf => by
    have : s = e := h
    subst this
    exact ⟨rfl, hk, h0, hf, rfl⟩
  | (a, u) :: r, s, e, t, h, hk, h0, hf => ⟨h.1, h.2.1, h.2.2.1, h.2.2.2.1, Steps.snoc h.2.2.2.2 hk h0 hf⟩
theorem Steps.tot0 : ∀ {l : List (Place α × Int)} {s e : Place α}, Steps W push keys f s l e → 0 ≤ total l
  | [], s, e, h => by unfold total; simp
  | (a, t) :: r, s, e, h => by
    rw [total_cons]
    have := Steps.tot0 h.2.2.2.2
    have := h.2.2.1
    dsimp only
    omega
theorem Steps.end_ : ∀ {l : List (Place α × Int)} {s e : Place α}, Steps W push keys f s l e → itn f (total l).toNat s = e
  | [], s, e, h => h
  | (a, t) :: r, s, e, h => by
    rw [total_cons]
    have h1 := Steps.tot0 h.2.2.2.2
    have h2 := h.2.2.1
    have e1 : ((a, t).2 + total r).toNat = t.toNat + (total r).toNat := by dsimp only; omega
    rw [e1, itn_add]
    exact Steps.end_ h.2.2.2.2
/-- every exception on the way is a station -/
theorem Steps.cover : ∀ {l : List (Place α × Int)} {s e : Place α} {k : Nat}, Steps W push keys f s l e → (k : Int) < total l → itn f k s ∈ keys → itn f k s ∈ l.map (·.1)
  | [], s, e, k, h, hk, _ => by unfold total at hk; simp at hk; omega
  | (a, t) :: r, s, e, k, h, hk, hin => by
    rw [total_cons] at hk
    dsimp only at hk
    rw [List.map_cons]
    by_cases h0 : k = 0
    · subst h0
      exact List.mem_cons.mpr (.inl h.1.symm)
    · by_cases c : (k : Int) < t
      · exact absurd hin (h.2.2.2.1 k (by omega) c).1
      · have e1 : itn f k s = itn f (k - t.toNat) (itn f t.toNat s) := by
          rw [← itn_add]
          have := h.2.2.1
          congr 1; omega
        rw [e1] at hin ⊢
        exact List.mem_cons_of_mem _ (Steps.cover h.2.2.2.2 (by have := h.2.2.1; omega) hin)
/-- every station is an exception on the way -/
theorem Steps.on : ∀ {l : List (Place α × Int)} {s e a : Place α}, Steps W push keys f s l e → a ∈ l.map (·.1) → a ∈ keys ∧ ∃ k : Nat, (k : Int) < total l ∧ itn f k s = a
  | [], s, e, a, h, ha => by simp at ha
  | (b, t) :: r, s, e, a, h, ha => by
    rw [List.map_cons] at ha
    rw [total_cons]
    have h1 := Steps.tot0 h.2.2.2.2
    have h2 := h.2.2.1
    rcases List.mem_cons.mp ha with rfl | ha
    · refine ⟨by rw [h.1]; exact h.2.1, 0, ?_, h.1.symm⟩
      dsimp only
      omega
    · obtain ⟨hk, k, kl, ke⟩ := Steps.on h.2.2.2.2 ha
      refine ⟨hk, t.toNat + k, ?_, ?_⟩
      · dsimp only; omega
      · rw [itn_add]; exact ke
/-- a further exception, first met t times behind f e -/
theorem Hit.gap {e e' : Place α} {t : Nat} (h : Hit W push keys f (f e) t e') : itn f (t + 1) e = e' ∧ ∀ k : Nat, 0 < k → k < t + 1 → itn f k e ∉ keys ∧ itn f k e = W.plain push (f e) ((k : Int) - 1) := by
  refine ⟨h.here, fun k h0 hk => ?_⟩
  have e1 : itn f k e = itn f (k - 1) (f e) := by
    have : k = 1 + (k - 1) := by omega
    rw [this, itn_add]
    have : 1 + (k - 1) - 1 = k - 1 := by omega
    rw [this]; rfl
  rw [e1]
  refine ⟨h.free _ (by omega), ?_⟩
  rw [h.way _ (by omega)]
  congr 1; omega
/-- the round of an exception, as far as it has been gone: the word of round_from's loop -/
structure Round (W : WebM α) (push : α → Int) (keys : List (Place α)) (f : Place α → Place α) (start : Place α) (T : Nat) (l : List (Place α × Int)) (spot : Place α) : Prop where
  steps : Steps W push keys f start l spot
  key : spot ∈ keys
  le : total l ≤ T
  nd : (l.map (·.1)).Nodup
theorem Round.start {s : Place α} {T : Nat} (h : s ∈ keys) : Round W push keys f s T [] s := ⟨rfl, h, by unfold total; simp, List.nodup_nil⟩
theorem Round.few {s e : Place α} {T : Nat} {l : List (Place α × Int)} (R : Round W push keys f s T l e) : l.length ≤ keys.length := by
  have := List.Nodup.length_le_of_subset R.nd (fun a ha => (R.steps.on ha).1)
  rwa [List.length_map] at this
theorem Round.pos {s e : Place α} {T : Nat} {l : List (Place α × Int)} (R : Round W push keys f s T l e) (h : l ≠ []) : 0 < total l := by
  cases l with
  | nil => exact absurd rfl h
  | cons x r =>
    rw [total_cons]
    have := R.steps.2.2.2.2.tot0
    have := R.steps.2.2.1
    omega
theorem Round.here {s e : Place α} {T : Nat} {l : List (Place α × Int)} (R : Round W push keys f s T l e) : itn f (total l).toNat s = e := R.steps.end_
/-- the loop goes on where the round is not through -/
theorem Round.go_on {s e : Place α} {T : Nat} {l : List (Place α × Int)} (p : Per f s T) (R : Round W push keys f s T l e) (h : l = [] ∨ e ≠ s) : total l < T := by
  have hl := R.le
  have h0 := R.steps.tot0
  rcases h with rfl | h
  · have := p.pos; unfold total; simp; omega
  · refine Classical.byContradiction fun q0 => h ?_
    have q : total l = T := by omega
    rw [← R.here, q]
    exact p.back
theorem Round.through {s e : Place α} {T : Nat} {l : List (Place α × Int)} (p : Per f s T) (R : Round W push keys f s T l e) (h1 : l ≠ []) (h2 : e = s) : total l = T := by
  have hl := R.le
  have h0 := R.pos h1
  refine Classical.byContradiction fun q => ?_
  refine p.least (total l).toNat (by omega) (by omega) ?_
  rw [R.here, h2]
theorem Round.next {S : Place α → Prop} (bj : Bij S f g) {s e e' : Place α} (hs : S s) {T : Nat} {l : List (Place α × Int)} {t : Nat} (p : Per f s T) (hk : s ∈ keys) (R : Round W push keys f s T l e) (h : l = [] ∨ e ≠ s) (H : Hit W push keys f (f e) t e') :
    Round W push keys f s T (l ++ [(e, (t : Int) + 1)]) e' := by
  have lt := R.go_on p h
  have h0 := R.steps.tot0
  obtain ⟨g1, g2⟩ := H.gap
  have e1 : ((t : Int) + 1).toNat = t + 1 := by omega
  refine ⟨?_, H.key, ?_, ?_⟩
  · rw [← g1, ← e1]
    exact R.steps.snoc R.key (by omega) fun k k0 kt => g2 k k0 (by omega)
  · rw [total_append]
    dsimp only
    refine Int.not_lt.mp fun q => ?_
    -- at T the thing of s is at s, an exception
    have e2 : itn f (T - (total l).toNat) e = s := by
      rw [← R.here, ← itn_add]
      have : (total l).toNat + (T - (total l).toNat) = T := by omega
      rw [this]; exact p.back
    have := (g2 (T - (total l).toNat) (by omega) (by omega)).1
    rw [e2] at this
    exact this hk
  · rw [List.map_append, List.map_cons, List.map_nil]
    refine List.nodup_append.mpr ⟨R.nd, List.nodup_cons.mpr ⟨List.not_mem_nil, List.nodup_nil⟩, ?_⟩
    intro a ha b hb
    rw [List.mem_singleton] at hb
    subst hb
    intro q
    obtain ⟨_, k, kl, ke⟩ := R.steps.on ha
    have := Per.eq_iff bj hs p (i := k) (j := (total l).toNat) (by omega) (by omega) (by rw [ke, R.here, q])
    omega
/-- a thing on its way comes again to an exception: there is a next one -/
theorem no_end {s : Place α} {T : Nat} {e : Place α} {m : Int} (bj : Bij W.Spot f g) (p : Per f s T) (hk : s ∈ keys) (R : ∃ k, itn f k s = e) (N : NoHit W push keys f (f e) m) : False := by
  obtain ⟨k, rfl⟩ := R
  have h := N.free (T * (k + 1) - (k + 1))
  have hT : k + 1 ≤ T * (k + 1) := Nat.le_mul_of_pos_left _ p.pos
  have e1 : itn f (T * (k + 1) - (k + 1)) (f (itn f k s)) = s := by
    rw [← itn_succ f, ← itn_add]
    have : k + 1 + (T * (k + 1) - (k + 1)) = T * (k + 1) := by omega
    rw [this]
    exact itn_mul p.back _
  rw [e1] at h
  exact h hk
/-- the end of after's loop: what is left leads from a station to the goal -/
structure Left (W : WebM α) (push : α → Int) (keys : List (Place α)) (f : Place α → Place α) (goal : Place α) (r : List (Place α × Int)) (left : Int) : Prop where
  at_ : ∃ s e, Steps W push keys f s r e ∧ itn f left.toNat s = goal
  low : 0 ≤ left
  lt : left < total r
theorem Left.stop {goal a : Place α} {t : Int} {r : List (Place α × Int)} (h : Left W push keys f goal ((a, t) :: r) 0) : a = goal := by
  obtain ⟨s, e, st, q⟩ := h.at_
  rw [st.1]; exact q
theorem Left.on {goal a : Place α} {t left : Int} {r : List (Place α × Int)} (h : Left W push keys f goal ((a, t) :: r) left) (h0 : left ≠ 0) (hl : left < t) : W.plain push (f a) (left - 1) = goal := by
  obtain ⟨s, e, st, q⟩ := h.at_
  have := h.low
  have w := (st.2.2.2.1 left.toNat (by omega) (by omega)).2
  rw [q] at w
  rw [st.1, w]
  congr 1; omega
theorem Left.next {goal a : Place α} {t left : Int} {r : List (Place α × Int)} (h : Left W push keys f goal ((a, t) :: r) left) (hl : ¬ left < t) : Left W push keys f goal r (left - t) := by
  obtain ⟨s, e, st, q⟩ := h.at_
  have hlt := h.lt
  rw [total_cons] at hlt
  dsimp only at hlt
  have t0 := st.2.2.1
  refine ⟨⟨_, e, st.2.2.2.2, ?_⟩, by omega, by omega⟩
  rw [← itn_add]
  have : t.toNat + (left - t).toNat = left.toNat := by omega
  rw [this]; exact q
theorem Left.nil {goal : Place α} {left : Int} (h : Left W push keys f goal [] left) : False := by
  have := h.low
  have := h.lt
  unfold total at this
  simp at this
  omega
theorem Left.start {s goal : Place α} {T : Nat} {l : List (Place α × Int)} {k : Int} (st : Steps W push keys f s l s) (ht : total l = T) (hT : 0 < T) (hk : 0 ≤ k) (p : itn f T s = s) (q : itn f k.toNat s = goal) : Left W push keys f goal l (k % total l) := by
  have m := mod_range (a := k) (b := total l) (by omega)
  refine ⟨⟨s, s, st, ?_⟩, m.1, m.2⟩
  have e1 : (k % total l).toNat = k.toNat % T := by
    rw [ht]
    have h : (k.toNat : Int) = k := Int.toNat_of_nonneg hk
    have : ((k.toNat % T : Nat) : Int) = k % (T : Int) := by rw [Int.natCast_emod, h]
    omega
  rw [e1, itn_mod p, q]
end
end MR
/-! How many rounds of which length. -/
namespace MR
open Classical
variable {α : Type} [DecidableEq α]
/-- all spots -/
def ringPl (W : WebM α) (n : α) : List (Place α) := (List.range (W.len n).toNat).map fun (i : Nat) => (n, (i : Int))
def allPl (W : WebM α) : List (Place α) := W.names.flatMap (ringPl W)
noncomputable def spotsL (W : WebM α) : List (Place α) := (allPl W).filter fun p => decide (W.told p = p)
theorem mem_ringPl {W : WebM α} {n : α} {p : Place α} : p ∈ ringPl W n ↔ p.1 = n ∧ 0 ≤ p.2 ∧ p.2 < W.len n := by
  unfold ringPl
  constructor
  · intro h
    obtain ⟨i, hi, rfl⟩ := List.mem_map.mp h
    have := List.mem_range.mp hi
    refine ⟨rfl, ?_, ?_⟩ <;> dsimp only <;> omega
  · rintro ⟨rfl, h0, hl⟩
    refine List.mem_map.mpr ⟨p.2.toNat, List.mem_range.mpr (by omega), ?_⟩
    refine Prod.ext rfl ?_
    dsimp only
    omega
theorem mem_allPl {W : WebM α} {p : Place α} : p ∈ allPl W ↔ W.Val p := by
  unfold allPl
  constructor
  · intro h
    obtain ⟨n, hn, hp⟩ := List.mem_flatMap.mp h
    obtain ⟨rfl, h0, hl⟩ := mem_ringPl.mp hp
    exact ⟨hn, h0, hl⟩
  · rintro ⟨hn, h0, hl⟩
    exact List.mem_flatMap.mpr ⟨p.1, hn, mem_ringPl.mpr ⟨rfl, h0, hl⟩⟩
theorem nodup_flat {β γ : Type} {l : List β} {h : β → List γ} (hl : l.Nodup) (h1 : ∀ a ∈ l, (h a).Nodup) (h2 : ∀ a ∈ l, ∀ b ∈ l, a ≠ b → ∀ x, x ∈ h a → x ∉ h b) : (l.flatMap h).Nodup := by
  induction l with
  | nil => exact List.nodup_nil
  | cons a r ih =>
    have hd := List.nodup_cons.mp hl
    rw [List.flatMap_cons]
    refine List.nodup_append.mpr ⟨h1 a List.mem_cons_self, ih hd.2 (fun b hb => h1 b (List.mem_cons_of_mem _ hb)) (fun b hb c hc => h2 b (List.mem_cons_of_mem _ hb) c (List.mem_cons_of_mem _ hc)), ?_⟩
    intro x hx y hy e
    subst e
    obtain ⟨b, hb, hxb⟩ := List.mem_flatMap.mp hy
    have ne : a ≠ b := fun q => hd.1 (by rw [q]; exact hb)
    exact h2 a List.mem_cons_self b (List.mem_cons_of_mem _ hb) ne x hx hxb
theorem nodup_ringPl (W : WebM α) (n : α) : (ringPl W n).Nodup := by
  refine map_nodup ?_ List.nodup_range
  intro a _ b _ e
  have := (Prod.mk.inj e).2
  omega
theorem nodup_allPl {W : WebM α} (o : WebOk W) : (allPl W).Nodup := by
  refine nodup_flat o.nd (fun n _ => nodup_ringPl W n) ?_
  intro a _ b _ ne x hx hx'
  exact ne ((mem_ringPl.mp hx).1.symm.trans (mem_ringPl.mp hx').1)
theorem mem_spotsL {W : WebM α} {p : Place α} : p ∈ spotsL W ↔ W.Spot p := by
  unfold spotsL
  rw [List.mem_filter, mem_allPl, decide_eq_true_iff]
  rfl
theorem nodup_filter {β : Type} {l : List β} (h : l.Nodup) (q : β → Bool) : (l.filter q).Nodup := List.Nodup.sublist List.filter_sublist h
theorem nodup_spotsL {W : WebM α} (o : WebOk W) : (spotsL W).Nodup := nodup_filter (nodup_allPl o) _
/-- lists of the same members -/
theorem same_len {β : Type} {l l' : List β} (h : l.Nodup) (h' : l'.Nodup) (e : ∀ a, a ∈ l ↔ a ∈ l') : l.length = l'.length :=
  ((List.perm_ext_iff_of_nodup h h').mpr e).length_eq
theorem len_flat {β γ : Type} {h : β → List γ} {c : Nat} : ∀ {l : List β}, (∀ a ∈ l, (h a).length = c) → (l.flatMap h).length = l.length * c
  | [], _ => by simp
  | a :: r, e => by
    rw [List.flatMap_cons, List.length_append, e a List.mem_cons_self, len_flat fun b hb => e b (List.mem_cons_of_mem _ hb), List.length_cons, Nat.add_mul, Nat.one_mul]
    omega
theorem filter_split {β : Type} (q r : β → Bool) : ∀ l : List β, (l.filter q).length = (l.filter fun x => q x && r x).length + (l.filter fun x => q x && !r x).length
  | [] => rfl
  | a :: l => by
    have ih := filter_split q r l
    rw [List.filter_cons, List.filter_cons, List.filter_cons]
    cases hq : q a <;> cases hr : r a <;> simp <;> omega
/-- the things by the name in front: their number is the sum over the names -/
theorem count_by {β : Type} {γ : Type} [DecidableEq γ] (key : β → γ) (q : β → Bool) : ∀ (ns : List γ) (l : List β), ns.Nodup → (∀ x ∈ l, q x = true → key x ∈ ns) →
    (l.filter q).length = (ns.map fun n => (l.filter fun x => decide (key x = n) && q x).length).sum
  | ns, [], _, _ => by
    have : ∀ ms : List γ, (ms.map fun n => (([] : List β).filter fun x => decide (key x = n) && q x).length).sum = 0 := fun ms => by
      induction ms with
      | nil => rfl
      | cons n r ih => rw [List.map_cons, List.sum_cons, ih]; rfl
    rw [this ns]; rfl
  | ns, x :: l, nd, h => by
    have ih := count_by key q ns l nd fun y hy => h y (List.mem_cons_of_mem _ hy)
    have step : ∀ ms : List γ, ms.Nodup → (ms.map fun n => ((x :: l).filter fun y => decide (key y = n) && q y).length).sum =
        (ms.map fun n => (l.filter fun y => decide (key y = n) && q y).length).sum + (if key x ∈ ms ∧ q x = true then 1 else 0) := by
      intro ms
      induction ms with
      | nil => intro _; simp
      | cons n r ihn =>
        intro nd'
        have nd'' := List.nodup_cons.mp nd'
        rw [List.map_cons, List.map_cons, List.sum_cons, List.sum_cons, ihn nd''.2, List.filter_cons]
        by_cases c : key x = n
        · have hnr : key x ∉ r := by rw [c]; exact nd''.1
          cases hq : q x with
          | true => simp [c, hnr]; rw [if_neg (by rw [← c]; exact hnr)]; omega
          | false => simp [c]
        · cases hq : q x with
          | true => simp [c]; omega
          | false => simp [c]
    rw [step ns nd, ← ih, List.filter_cons]
    cases hq : q x with
    | true =>
      rw [if_pos rfl, if_pos ⟨h x List.mem_cons_self hq, rfl⟩]
      rfl
    | false => simp
section
variable {W : WebM α} {push : α → Int} {tab : List (Place α × Place α)} {f g : Place α → Place α} {N : LanesM α} {keys : List (Place α)}
def Strange (keys : List (Place α)) (f : Place α → Place α) (s : Place α) : Prop := ∃ k, itn f k s ∈ keys
/-- the number of spots whose round is so long -/
noncomputable def spotsOf (W : WebM α) (f : Place α → Place α) (L : Nat) : Nat := ((spotsL W).filter fun s => decide (Per f s L)).length
def Orb (f : Place α → Place α) (s t : Place α) : Prop := ∃ k, itn f k s = t
theorem Orb.refl (s : Place α) : Orb f s s := ⟨0, rfl⟩
theorem Orb.trans {s t u : Place α} (a : Orb f s t) (b : Orb f t u) : Orb f s u := by
  obtain ⟨k, rfl⟩ := a
  obtain ⟨j, rfl⟩ := b
  exact ⟨k + j, itn_add f k j s⟩
theorem Orb.symm {s t : Place α} {T : Nat} (p : Per f s T) (a : Orb f s t) : Orb f t s := by
  obtain ⟨k, rfl⟩ := a
  refine ⟨T * (k + 1) - k, ?_⟩
  rw [← itn_add]
  have hT : k + 1 ≤ T * (k + 1) := Nat.le_mul_of_pos_left _ p.pos
  have : k + (T * (k + 1) - k) = T * (k + 1) := by omega
  rw [this, itn_mul p.back]
theorem Orb.low {s t : Place α} {T : Nat} (p : Per f s T) (a : Orb f s t) : ∃ k, k < T ∧ itn f k s = t := by
  obtain ⟨k, rfl⟩ := a
  exact ⟨k % T, Nat.mod_lt _ p.pos, itn_mod p.back k⟩
/-- one exception of each round that has any -/
structure Reps (keys : List (Place α)) (f : Place α → Place α) (reps : List (Place α)) : Prop where
  nd : reps.Nodup
  sub : ∀ r ∈ reps, r ∈ keys
  apart : ∀ r ∈ reps, ∀ r' ∈ reps, Orb f r r' → r = r'
  all : ∀ a ∈ keys, ∃ r ∈ reps, Orb f r a
theorem strange_count (o : WebOk W) (b : Bij W.Spot f g) (hk : ∀ a ∈ keys, W.Spot a) {reps : List (Place α)} (R : Reps keys f reps) {L : Nat} :
    ((spotsL W).filter fun s => decide (Per f s L) && decide (Strange keys f s)).length = (reps.filter fun r => decide (Per f r L)).length * L := by
  have hr : ∀ r ∈ reps, W.Spot r := fun r hr => hk r (R.sub r hr)
  have e1 : ((reps.filter fun r => decide (Per f r L)).flatMap fun r => (List.range L).map fun k => itn f k r).length = (reps.filter fun r => decide (Per f r L)).length * L :=
    len_flat fun a _ => by rw [List.length_map, List.length_range]
  rw [← e1]
  refine same_len (nodup_filter (nodup_spotsL o) _) ?_ ?_
  · refine nodup_flat (nodup_filter R.nd _) ?_ ?_
    · intro r h
      have h' := List.mem_filter.mp h
      have p : Per f r L := of_decide_eq_true h'.2
      refine map_nodup ?_ List.nodup_range
      intro i hi j hj e
      exact Per.eq_iff b (hr r h'.1) p (List.mem_range.mp hi) (List.mem_range.mp hj) e
    · intro r h r' h' ne x hx hx'
      have h1 := List.mem_filter.mp h
      have h2 := List.mem_filter.mp h'
      obtain ⟨i, _, ei⟩ := List.mem_map.mp hx
      obtain ⟨j, _, ej⟩ := List.mem_map.mp hx'
      have p' : Per f r' L := of_decide_eq_true h2.2
      exact ne (R.apart r h1.1 r' h2.1 (Orb.trans ⟨i, ei⟩ (Orb.symm p' ⟨j, ej⟩)))
  · intro s
    rw [List.mem_filter, mem_spotsL, Bool.and_eq_true, decide_eq_true_iff, decide_eq_true_iff, List.mem_flatMap]
    constructor
    · rintro ⟨hs, p, k, hin⟩
      obtain ⟨r, hr1, q⟩ := R.all _ hin
      have pk := p.step b hs k
      obtain ⟨T, pr⟩ := b.per (l := spotsL W) (fun s h => mem_spotsL.mpr h) (hr r hr1)
      have back : Orb f r s := Orb.trans q (Orb.symm p ⟨k, rfl⟩)
      have eT : T = L := by
        obtain ⟨j, ej⟩ := back
        have := pr.step b (hr r hr1) j
        rw [ej] at this
        exact this.uniq p
      subst eT
      obtain ⟨j, hj, ej⟩ := back.low pr
      exact ⟨r, List.mem_filter.mpr ⟨hr1, decide_eq_true pr⟩, List.mem_map.mpr ⟨j, List.mem_range.mpr hj, ej⟩⟩
    · rintro ⟨r, h, hx⟩
      have h1 := List.mem_filter.mp h
      have p : Per f r L := of_decide_eq_true h1.2
      obtain ⟨i, _, rfl⟩ := List.mem_map.mp hx
      refine ⟨b.itn_to i r (hr r h1.1), p.step b (hr r h1.1) i, ?_⟩
      obtain ⟨j, ej⟩ := Orb.symm p ⟨i, rfl⟩
      exact ⟨j, by rw [ej]; exact R.sub r h1.1⟩
/-- a lane of ring n with no exception on it -/
def Bare (W : WebM α) (N : LanesM α) (keys : List (Place α)) (l : α × Int) : Prop := ∀ a e, ¬ Marked W N keys l a e
theorem strange_iff (o : WebOk W) (F : Tells W push tab f g) (L : LanesOk W push N) {s : Place α} (hs : W.Spot s) : ¬ Strange (keysOf tab) f s ↔ Bare W N (keysOf tab) (N.lane s) := by
  constructor
  · intro h a e m
    refine h ⟨((a - N.at_ s) % N.sz s.1).toNat, ?_⟩
    -- the marked exception is met in so many turns, or one before
    refine Classical.byContradiction fun c => ?_
    have free : ∀ k, itn f k s ∉ keysOf tab := fun k q => h ⟨k, q⟩
    have r := mod_range (a := a - N.at_ s) (L _ hs.1.1).m0
    have e1 := path' o F hs ((a - N.at_ s) % N.sz s.1).toNat fun k _ => free k
    rw [Int.toNat_of_nonneg r.1, marked_key o L hs.1 m] at e1
    exact c (by rw [e1]; exact m.1)
  · rintro h ⟨k, hk⟩
    exact (noHit_of o F L hs h).free k hk
theorem lone_per (o : WebOk W) (F : Tells W push tab f g) (L : LanesOk W push N) {s : Place α} (hs : W.Spot s) (h : ¬ Strange (keysOf tab) f s) : Per f s (N.sz s.1).toNat :=
  (noHit_of o F L hs ((strange_iff o F L hs).mp h)).per
/-- of a ring with U bare lanes, U times so many spots as a lane has meet no exception -/
theorem lone_count (o : WebOk W) (F : Tells W push tab f g) (L : LanesOk W push N) {n : α} (hn : n ∈ W.names) :
    ((spotsL W).filter fun s => decide (s.1 = n) && !decide (Strange (keysOf tab) f s)).length = ((List.range (N.gd n).toNat).filter fun (r : Nat) => decide (Bare W N (keysOf tab) (n, (r : Int)))).length * (N.sz n).toNat := by
  have ln := L n hn
  have g0 := ln.g0
  have m0 := ln.m0
  have eL := ln.eL
  have e1 : (((List.range (N.gd n).toNat).filter fun (r : Nat) => decide (Bare W N (keysOf tab) (n, (r : Int)))).flatMap fun (r : Nat) => (List.range (N.sz n).toNat).map fun (q : Nat) => ((n, (r : Int) + N.gd n * (q : Int)) : Place α)).length =
      ((List.range (N.gd n).toNat).filter fun (r : Nat) => decide (Bare W N (keysOf tab) (n, (r : Int)))).length * (N.sz n).toNat :=
    len_flat fun a _ => by rw [List.length_map, List.length_range]
  rw [← e1]
  have inRange : ∀ r q : Nat, (r : Int) < N.gd n → (q : Int) < N.sz n → 0 ≤ (r : Int) + N.gd n * (q : Int) ∧ (r : Int) + N.gd n * (q : Int) < W.len n ∧ ((r : Int) + N.gd n * (q : Int)) % N.gd n = r ∧ ((r : Int) + N.gd n * (q : Int)) / N.gd n = q := fun r q hr hq => by
    have h1 : 0 ≤ N.gd n * (q : Int) := Int.mul_nonneg (by omega) (Int.natCast_nonneg q)
    have h2 : N.gd n * ((q : Int) + 1) ≤ N.gd n * N.sz n := Int.mul_le_mul_of_nonneg_left (by omega) (by omega)
    rw [Int.mul_add, Int.mul_one, ← eL] at h2
    refine ⟨by omega, by omega, ?_, ?_⟩
    · rw [Int.add_mul_emod_self_left]
      exact Int.emod_eq_of_lt (Int.natCast_nonneg r) hr
    · rw [Int.add_mul_ediv_left _ _ (show N.gd n ≠ 0 by omega), Int.ediv_eq_zero_of_lt (Int.natCast_nonneg r) hr, Int.zero_add]
  refine same_len (nodup_filter (nodup_spotsL o) _) ?_ ?_
  · refine nodup_flat (nodup_filter List.nodup_range _) ?_ ?_
    · intro r hr
      have hr1 := List.mem_range.mp (List.mem_filter.mp hr).1
      refine map_nodup ?_ List.nodup_range
      intro q hq q' hq' e
      have h1 := (inRange r q (by omega) (by have := List.mem_range.mp hq; omega)).2.2.2
      have h2 := (inRange r q' (by omega) (by have := List.mem_range.mp hq'; omega)).2.2.2
      have := (Prod.mk.inj e).2
      rw [this, h2] at h1
      omega
    · intro r hr r' hr' ne x hx hx'
      have hr1 := List.mem_range.mp (List.mem_filter.mp hr).1
      have hr2 := List.mem_range.mp (List.mem_filter.mp hr').1
      obtain ⟨q, hq, rfl⟩ := List.mem_map.mp hx
      obtain ⟨q', hq', e⟩ := List.mem_map.mp hx'
      have h1 := (inRange r q (by omega) (by have := List.mem_range.mp hq; omega)).2.2.1
      have h2 := (inRange r' q' (by omega) (by have := List.mem_range.mp hq'; omega)).2.2.1
      have := (Prod.mk.inj e).2
      rw [← this, h2] at h1
      exact ne (by omega)
  · intro s
    rw [List.mem_filter, mem_spotsL, Bool.and_eq_true, decide_eq_true_iff, Bool.not_eq_true', decide_eq_false_iff_not, List.mem_flatMap]
    constructor
    · rintro ⟨hs, rfl, h⟩
      have bare := (strange_iff o F L hs).mp h
      have r1 := mod_range (a := s.2) g0
      refine ⟨(s.2 % N.gd s.1).toNat, List.mem_filter.mpr ⟨List.mem_range.mpr (by omega), decide_eq_true ?_⟩, ?_⟩
      · rw [Int.toNat_of_nonneg r1.1]; exact bare
      · have q0 : 0 ≤ s.2 / N.gd s.1 := Int.ediv_nonneg hs.1.2.1 (by omega)
        have q1 : s.2 / N.gd s.1 < N.sz s.1 := Int.ediv_lt_of_lt_mul g0 (by rw [Int.mul_comm, ← eL]; exact hs.1.2.2)
        refine List.mem_map.mpr ⟨(s.2 / N.gd s.1).toNat, List.mem_range.mpr (by omega), ?_⟩
        rw [Int.toNat_of_nonneg r1.1, Int.toNat_of_nonneg q0]
        refine Prod.ext rfl ?_
        exact Int.emod_add_mul_ediv s.2 _
    · rintro ⟨r, hr, hx⟩
      obtain ⟨q, hq, rfl⟩ := List.mem_map.mp hx
      have hr' := List.mem_filter.mp hr
      have hr1 := List.mem_range.mp hr'.1
      obtain ⟨i0, i1, i2, i3⟩ := inRange r q (by omega) (by have := List.mem_range.mp hq; omega)
      have bare : Bare W N (keysOf tab) (n, (r : Int)) := of_decide_eq_true hr'.2
      have lane : N.lane (n, (r : Int) + N.gd n * (q : Int)) = (n, (r : Int)) := by unfold LanesM.lane; dsimp only; rw [i2]
      have hv : W.Val (n, (r : Int) + N.gd n * (q : Int)) := ⟨hn, i0, i1⟩
      have hsp := o.spot hv
      -- a place of a bare lane is a spot of its own: its spot is no exception
      have nk : W.told (n, (r : Int) + N.gd n * (q : Int)) ∉ keysOf tab := fun c => bare _ _ ⟨c, _, hv, rfl, lane, rfl⟩
      have e := o.told_eq_self rfl (F.free o hsp nk).1
      have hs : W.Spot (n, (r : Int) + N.gd n * (q : Int)) := by rw [e]; exact hsp
      exact ⟨hs, rfl, (strange_iff o F L hs).mpr (by rw [lane]; exact bare)⟩
/-- the rounds of length L, counted: through exceptions, and ring by ring -/
theorem spots_of (o : WebOk W) (F : Tells W push tab f g) (L : LanesOk W push N) {reps : List (Place α)} (R : Reps (keysOf tab) f reps) (l : Nat) :
    spotsOf W f l = (reps.filter fun r => decide (Per f r l)).length * l +
      (W.names.map fun n => if (N.sz n).toNat = l then ((List.range (N.gd n).toNat).filter fun (r : Nat) => decide (Bare W N (keysOf tab) (n, (r : Int)))).length * l else 0).sum := by
  unfold spotsOf
  rw [filter_split _ (fun s => decide (Strange (keysOf tab) f s)), strange_count o F.bij (fun a h => F.spot h) R]
  congr 1
  rw [count_by (fun s : Place α => s.1) _ W.names _ o.nd (fun x hx _ => (mem_spotsL.mp hx).1.1)]
  congr 1
  refine List.map_congr_left fun n hn => ?_
  split
  · rename_i e
    subst e
    rw [← lone_count o F L hn]
    congr 1
    refine List.filter_congr fun s hs => ?_
    by_cases c1 : s.1 = n
    · by_cases c2 : Strange (keysOf tab) f s
      · simp [c1, c2]
      · have := lone_per o F L (mem_spotsL.mp hs) c2
        rw [c1] at this
        simp [c1, c2, this]
    · simp [c1]
  · rename_i ne
    rw [List.length_eq_zero_iff]
    refine List.filter_eq_nil_iff.mpr fun s hs q => ?_
    rw [Bool.and_eq_true, Bool.and_eq_true, decide_eq_true_iff, decide_eq_true_iff, Bool.not_eq_true', decide_eq_false_iff_not] at q
    have := lone_per o F L (mem_spotsL.mp hs) q.2.2
    rw [q.1] at this
    exact ne (this.uniq q.2.1)
end
end MR
/-! The list of the rounds: it is told by the numbers of spots alone. -/
namespace MR
open Classical
variable {α : Type} [DecidableEq α]
def leP (a b : Int × Int) : Prop := a.1 < b.1 ∨ (a.1 = b.1 ∧ a.2 ≤ b.2)
structure DueOk (W : WebM α) (f : Place α → Place α) (due : List (Int × Int)) : Prop where
  nd : (due.map (·.1)).Nodup
  up : due.Pairwise leP
  ok : ∀ x ∈ due, 0 < x.1 ∧ 0 < x.2 ∧ x.2 * x.1 = (spotsOf W f x.1.toNat : Nat)
  all : ∀ l, spotsOf W f l ≠ 0 → ∃ c, ((l : Int), c) ∈ due
section
variable {W : WebM α} {f g f' g' h h' : Place α → Place α}
theorem nodup_of_keys {β γ : Type} {l : List β} {k : β → γ} (hk : (l.map k).Nodup) : l.Nodup := by
  induction l with
  | nil => exact List.nodup_nil
  | cons a r ih =>
    rw [List.map_cons] at hk
    have := List.nodup_cons.mp hk
    exact List.nodup_cons.mpr ⟨fun c => this.1 (List.mem_map.mpr ⟨a, c, rfl⟩), ih this.2⟩
theorem DueOk.mem (D : DueOk W f due) {x : Int × Int} : x ∈ due ↔ 0 < x.1 ∧ 0 < x.2 ∧ x.2 * x.1 = (spotsOf W f x.1.toNat : Nat) := by
  constructor
  · exact D.ok x
  · rintro ⟨h1, h2, h3⟩
    have p : 0 < x.2 * x.1 := Int.mul_pos h2 h1
    obtain ⟨c, hc⟩ := D.all x.1.toNat (by omega)
    have e : ((x.1.toNat : Nat) : Int) = x.1 := by omega
    rw [e] at hc
    have := (D.ok _ hc).2.2
    dsimp only at this
    have e2 : c = x.2 := Int.eq_of_mul_eq_mul_right (by omega) (this.trans h3.symm)
    rw [e2] at hc
    exact hc
theorem leP_antisymm {a b : Int × Int} (h1 : leP a b) (h2 : leP b a) : a = b := by
  unfold leP at h1 h2
  refine Prod.ext ?_ ?_ <;> omega
theorem sorted_uniq {l l' : List (Int × Int)} (h : l.Pairwise leP) (h' : l'.Pairwise leP) (p : l.Perm l') : l = l' :=
  List.Perm.eq_of_pairwise (fun a b _ _ x y => leP_antisymm x y) h h' p
theorem DueOk.uniq {due due' : List (Int × Int)} (D : DueOk W f due) (D' : DueOk W f' due') (e : ∀ l, spotsOf W f l = spotsOf W f' l) : due = due' := by
  refine sorted_uniq D.up D'.up ?_
  refine (List.perm_ext_iff_of_nodup (nodup_of_keys D.nd) (nodup_of_keys D'.nd)).mpr fun x => ?_
  rw [D.mem, D'.mem, e]
theorem spots_inverse (b : Bij W.Spot f g) (l : Nat) : spotsOf W g l = spotsOf W f l := by
  unfold spotsOf
  congr 1
  refine List.filter_congr fun s hs => ?_
  have hs' := mem_spotsL.mp hs
  have : Per g s l ↔ Per f s l := ⟨fun p => p.inverse b.symm hs', fun p => p.inverse b hs'⟩
  exact decide_eq_decide.mpr this
theorem spots_conj (o : WebOk W) (bf : Bij W.Spot f g) (bh : Bij W.Spot h h') (bf1 : Bij W.Spot f' g') (e : ∀ s, W.Spot s → f' (h s) = h (f s)) (l : Nat) : spotsOf W f' l = spotsOf W f l := by
  unfold spotsOf
  have e2 : (((spotsL W).filter fun s => decide (Per f s l)).map h).length = ((spotsL W).filter fun s => decide (Per f s l)).length := List.length_map h
  rw [← e2]
  refine same_len (nodup_filter (nodup_spotsL o) _) ?_ ?_
  · refine map_nodup ?_ (nodup_filter (nodup_spotsL o) _)
    intro a ha b hb q
    exact bh.inj (mem_spotsL.mp (List.mem_filter.mp ha).1) (mem_spotsL.mp (List.mem_filter.mp hb).1) q
  · intro s
    rw [List.mem_filter, mem_spotsL, decide_eq_true_iff]
    have e' : ∀ s, W.Spot s → f (h' s) = h' (f' s) := fun s hs => by
      have := e (h' s) (bh.fro s hs)
      rw [bh.fg s hs] at this
      rw [this, bh.gf _ (bf.to _ (bh.fro s hs))]
    constructor
    · rintro ⟨hs, p⟩
      refine List.mem_map.mpr ⟨h' s, List.mem_filter.mpr ⟨mem_spotsL.mpr (bh.fro s hs), decide_eq_true ?_⟩, bh.fg s hs⟩
      exact Per.conj bf1 bh.symm e' hs p
    · intro hm
      obtain ⟨t, ht, rfl⟩ := List.mem_map.mp hm
      have h1 := List.mem_filter.mp ht
      have hs := mem_spotsL.mp h1.1
      exact ⟨bh.to t hs, Per.conj bf bh e hs (of_decide_eq_true h1.2)⟩
/-- the products of lengths and counts add up to the spots -/
theorem DueOk.sum (o : WebOk W) (b : Bij W.Spot f g) {due : List (Int × Int)} (D : DueOk W f due) : (due.map fun x => x.1 * x.2).sum = ((spotsL W).length : Nat) := by
  have per : ∀ s, ∃ n : Nat, W.Spot s → Per f s n := fun s => by
    by_cases hs : W.Spot s
    · obtain ⟨n, p⟩ := b.per (l := spotsL W) (fun s h => mem_spotsL.mpr h) hs
      exact ⟨n, fun _ => p⟩
    · exact ⟨0, fun h => absurd h hs⟩
  have hx : ∃ T : Place α → Nat, ∀ s, W.Spot s → Per f s (T s) := ⟨fun s => choose (per s), fun s => choose_spec (per s)⟩
  obtain ⟨T, hT⟩ := hx
  have cnt : ∀ l : Nat, ((spotsL W).filter fun s => decide ((T s : Int) = (l : Int)) && true).length = spotsOf W f l := fun l => by
    unfold spotsOf
    congr 1
    refine List.filter_congr fun s hs => ?_
    rw [Bool.and_true]
    refine decide_eq_decide.mpr ?_
    have p := hT s (mem_spotsL.mp hs)
    constructor
    · intro e
      have : T s = l := by omega
      rw [← this]; exact p
    · intro q
      rw [p.uniq q]
  have tot := count_by (fun s => (T s : Int)) (fun _ => true) (due.map (·.1)) (spotsL W) D.nd (fun s hs _ => by
    have p := hT s (mem_spotsL.mp hs)
    have ne : spotsOf W f (T s) ≠ 0 := by
      rw [← cnt]
      intro z
      have := List.length_eq_zero_iff.mp z
      have := List.filter_eq_nil_iff.mp this s hs
      exact this (by simp)
    obtain ⟨c, hc⟩ := D.all _ ne
    exact List.mem_map.mpr ⟨_, hc, rfl⟩)
  have e0 : ((spotsL W).filter fun _ => true) = spotsL W := by simp
  rw [e0] at tot
  rw [tot, List.map_map]
  have gen : ∀ r : List (Int × Int), (∀ x ∈ r, x ∈ due) → (r.map fun x => x.1 * x.2).sum = (((r.map ((fun n => ((spotsL W).filter fun s => decide ((T s : Int) = n) && true).length) ∘ fun x => x.1)).sum : Nat) : Int) := by
    intro r
    induction r with
    | nil => intro _; rfl
    | cons x r ih =>
      intro hr
      rw [List.map_cons, List.map_cons, List.sum_cons, List.sum_cons, ih fun y hy => hr y (List.mem_cons_of_mem _ hy)]
      have d := D.ok x (hr x List.mem_cons_self)
      have e1 : x.1 = ((x.1.toNat : Nat) : Int) := by omega
      have e2 : ((fun n => ((spotsL W).filter fun s => decide ((T s : Int) = n) && true).length) ∘ fun x : Int × Int => x.1) x = spotsOf W f x.1.toNat := by
        show ((spotsL W).filter fun s => decide ((T s : Int) = x.1) && true).length = _
        rw [← cnt, ← e1]
      rw [e2, Int.natCast_add, ← d.2.2, Int.mul_comm x.1 x.2]
  exact gen due fun x h => h
/-- the least common multiple, as period reckons it -/
def lcmOf (due : List (Int × Int)) : Int := due.foldl (fun r x => r / cd r x.1 * x.1) 1
theorem lcm_step {r x : Int} (hr : 0 < r) (hx : 0 < x) : 0 < r / cd r x * x ∧ r ∣ r / cd r x * x ∧ x ∣ r / cd r x * x := by
  have hc : 0 < cd r x := cd_pos hx
  have d1 := cd_dvd_left r x
  have d2 := cd_dvd_right r x
  have q1 : 0 < r / cd r x := Int.ediv_pos_of_pos_of_dvd hr (by omega) d1
  refine ⟨Int.mul_pos q1 hx, ?_, Int.dvd_mul_left _ _⟩
  obtain ⟨k, hk⟩ := d2
  refine ⟨k, ?_⟩
  have e1 : r / cd r x * cd r x = r := Int.ediv_mul_cancel d1
  calc r / cd r x * x = r / cd r x * (cd r x * k) := by rw [← hk]
    _ = r / cd r x * cd r x * k := by rw [Int.mul_assoc]
    _ = r * k := by rw [e1]
theorem lcm_fold : ∀ (due : List (Int × Int)) (r : Int), 0 < r → (∀ x ∈ due, 0 < x.1) →
    0 < due.foldl (fun r x => r / cd r x.1 * x.1) r ∧ r ∣ due.foldl (fun r x => r / cd r x.1 * x.1) r ∧ ∀ x ∈ due, x.1 ∣ due.foldl (fun r x => r / cd r x.1 * x.1) r
  | [], r, hr, _ => ⟨hr, Int.dvd_refl r, fun x h => by simp at h⟩
  | x :: due, r, hr, h => by
    have s := lcm_step hr (h x List.mem_cons_self)
    obtain ⟨a, b, c⟩ := lcm_fold due _ s.1 fun y hy => h y (List.mem_cons_of_mem _ hy)
    rw [List.foldl_cons]
    refine ⟨a, Int.dvd_trans s.2.1 b, fun y hy => ?_⟩
    rcases List.mem_cons.mp hy with rfl | hy
    · exact Int.dvd_trans s.2.2 b
    · exact c y hy
theorem DueOk.per_mem {due : List (Int × Int)} (D : DueOk W f due) {s : Place α} {T : Nat} (hs : W.Spot s) (p : Per f s T) : ∃ c, ((T : Int), c) ∈ due := by
  refine D.all T ?_
  unfold spotsOf
  intro z
  have := List.length_eq_zero_iff.mp z
  exact List.filter_eq_nil_iff.mp this s (mem_spotsL.mpr hs) (decide_eq_true p)
theorem DueOk.per_dvd {due : List (Int × Int)} (D : DueOk W f due) {s : Place α} {T : Nat} (hs : W.Spot s) (p : Per f s T) : lcmOf due % (T : Int) = 0 := by
  obtain ⟨c, hc⟩ := D.per_mem hs p
  exact Int.emod_eq_zero_of_dvd ((lcm_fold due 1 (by omega) fun x hx => (D.ok x hx).1).2.2 _ hc)
/-- a divisor of the period does not lead back -/
theorem Per.smaller {s : Place α} {T p : Nat} (P : Per f s T) (hp : 2 ≤ p) (hd : T % p = 0) : itn f (T / p) s ≠ s := by
  have h0 := P.pos
  have e := Nat.div_add_mod T p
  rw [hd, Nat.add_zero] at e
  have h1 : 0 < T / p := by
    refine Nat.pos_of_ne_zero fun z => ?_
    rw [z, Nat.mul_zero] at e; omega
  exact P.least _ h1 (Nat.div_lt_self h0 (by omega))
/-! ### the table of counts, as rounds fills it -/
def cget (cs : List (Int × Int)) (k : Int) : Int := ((cs.find? fun x => decide (x.1 = k)).map (·.2)).getD 0
/-- what has been counted: for each length so many rounds, c says -/
structure CountsOk (cs : List (Int × Int)) (c : Int → Int) : Prop where
  nd : (cs.map (·.1)).Nodup
  mem : ∀ l n, (l, n) ∈ cs ↔ n = c l ∧ c l ≠ 0
  pos : ∀ l, 0 ≤ c l
theorem due_of (o : WebOk W) {push : α → Int} {tab : List (Place α × Place α)} {N : LanesM α} (F : Tells W push tab f g) (L : LanesOk W push N) {reps : List (Place α)} (R : Reps (keysOf tab) f reps)
    {cs due : List (Int × Int)} {c : Int → Int} (C : CountsOk cs c)
    (hc : ∀ l, c l = ((reps.filter fun r => decide (∃ T : Nat, (T : Int) = l ∧ Per f r T)).length : Nat) + (W.names.map fun n => if N.sz n = l then (((List.range (N.gd n).toNat).filter fun (r : Nat) => decide (Bare W N (keysOf tab) (n, (r : Int)))).length : Int) else 0).sum)
    (up : due.Pairwise leP) (p : due.Perm cs) : DueOk W f due := by
  have key : ∀ l : Nat, c (l : Int) * l = (spotsOf W f l : Nat) := fun l => by
    rw [hc, spots_of o F L R l, Int.add_mul, Int.natCast_add, Int.natCast_mul]
    congr 1
    · congr 2
      refine congrArg List.length (List.filter_congr fun r _ => decide_eq_decide.mpr ?_)
      constructor
      · rintro ⟨T, e, q⟩
        have : T = l := by omega
        rw [← this]; exact q
      · intro q; exact ⟨l, rfl, q⟩
    · have gen : ∀ ns : List α, (∀ n ∈ ns, n ∈ W.names) → (ns.map fun n => if N.sz n = (l : Int) then (((List.range (N.gd n).toNat).filter fun (r : Nat) => decide (Bare W N (keysOf tab) (n, (r : Int)))).length : Int) else 0).sum * (l : Int) =
          (((ns.map fun n => if (N.sz n).toNat = l then ((List.range (N.gd n).toNat).filter fun (r : Nat) => decide (Bare W N (keysOf tab) (n, (r : Int)))).length * l else 0).sum : Nat) : Int) := by
        intro ns
        induction ns with
        | nil => intro _; simp
        | cons n r ih =>
          intro h
          rw [List.map_cons, List.map_cons, List.sum_cons, List.sum_cons, Int.add_mul, ih fun m hm => h m (List.mem_cons_of_mem _ hm), Int.natCast_add]
          congr 1
          have m0 := (L n (h n List.mem_cons_self)).m0
          by_cases e : N.sz n = (l : Int)
          · rw [if_pos e, if_pos (by omega), Int.natCast_mul]
          · rw [if_neg e, if_neg (by omega), Int.zero_mul]; rfl
      exact gen W.names fun n h => h
  have neg : ∀ l : Int, l ≤ 0 → c l = 0 := fun l hl => by
    rw [hc]
    have e1 : (reps.filter fun r => decide (∃ T : Nat, (T : Int) = l ∧ Per f r T)) = [] := by
      refine List.filter_eq_nil_iff.mpr fun r _ q => ?_
      obtain ⟨T, e, pr⟩ := of_decide_eq_true q
      have := pr.pos
      omega
    rw [e1]
    have gen : ∀ ns : List α, (∀ n ∈ ns, n ∈ W.names) → (ns.map fun n => if N.sz n = l then (((List.range (N.gd n).toNat).filter fun (r : Nat) => decide (Bare W N (keysOf tab) (n, (r : Int)))).length : Int) else 0).sum = 0 := by
      intro ns
      induction ns with
      | nil => intro _; rfl
      | cons n r ih =>
        intro h
        rw [List.map_cons, List.sum_cons, ih fun m hm => h m (List.mem_cons_of_mem _ hm)]
        have m0 := (L n (h n List.mem_cons_self)).m0
        rw [if_neg (by omega)]; rfl
    rw [gen W.names fun n h => h]; rfl
  refine ⟨?_, up, ?_, ?_⟩
  · exact ((p.map (·.1)).nodup_iff).mpr C.nd
  · rintro ⟨l, n⟩ hx
    have := (C.mem l n).mp (p.mem_iff.mp hx)
    have l0 : 0 < l := by
      refine Int.not_le.mp fun q => this.2 (neg l q)
    refine ⟨l0, ?_, ?_⟩
    · have := C.pos l; dsimp only; omega
    · dsimp only
      have e : ((l.toNat : Nat) : Int) = l := by omega
      have := key l.toNat
      rw [e] at this
      rw [← this]
      congr 1
      exact ((C.mem l n).mp (p.mem_iff.mp hx)).1
  · intro l hl
    refine ⟨c l, p.mem_iff.mpr ((C.mem l _).mpr ⟨rfl, fun z => hl ?_⟩)⟩
    have := key l
    rw [z, Int.zero_mul] at this
    omega
end
end MR
/-! The turns of a script, followed thing by thing: what form_of keeps. -/
namespace MR
variable {α : Type} [DecidableEq α]
/-- the place of a spot on a ring -/
def ringIx (W : WebM α) (n : α) (s : Place α) : Option Int :=
  if s.1 = n then some s.2 else match W.mate s with
    | some q => if q.1 = n then some q.2 else none
    | none => none
section
variable {W : WebM α}
theorem ringIx_some (o : WebOk W) {n : α} {s : Place α} (hs : W.Spot s) {i : Int} : ringIx W n s = some i ↔ W.Val (n, i) ∧ W.told (n, i) = s := by
  constructor
  · intro h
    unfold ringIx at h
    by_cases c : s.1 = n
    · rw [if_pos c] at h
      cases h
      have e : (n, s.2) = s := by rw [← c]
      rw [e]; exact ⟨hs.1, hs.2⟩
    · rw [if_neg c] at h
      cases hm : W.mate s with
      | none => rw [hm] at h; cases h
      | some q =>
        rw [hm] at h
        dsimp only at h
        by_cases c2 : q.1 = n
        · rw [if_pos c2] at h
          cases h
          have e : (n, q.2) = q := by rw [← c2]
          rw [e]
          exact ⟨(o.mate_val s q hm).2, (o.told_eq s q hm).symm.trans hs.2⟩
        · rw [if_neg c2] at h; cases h
  · rintro ⟨hv, ht⟩
    have e : W.told (n, i) = W.told s := by rw [ht, hs.2]
    unfold ringIx
    rcases o.same_spot e with rfl | hm
    · rw [if_pos rfl]
    · have ne := o.mate_ne _ _ hm
      rw [if_neg fun c => ne c.symm, o.mate_symm _ _ hm]
      dsimp only
      rw [if_pos rfl]
/-- ring n goes on by t places -/
def turnF (W : WebM α) (n : α) (t : Int) (s : Place α) : Place α := match ringIx W n s with
  | some i => W.told (n, (i + t) % W.len n)
  | none => s
theorem turnF_on (o : WebOk W) {n : α} (t : Int) {i : Int} (hv : W.Val (n, i)) : turnF W n t (W.told (n, i)) = W.told (n, (i + t) % W.len n) := by
  unfold turnF
  rw [(ringIx_some o (o.spot hv)).mpr ⟨hv, rfl⟩]
theorem turnF_off {n : α} (t : Int) {s : Place α} (h : ringIx W n s = none) : turnF W n t s = s := by
  unfold turnF
  rw [h]
theorem turnF_spot (o : WebOk W) {n : α} (t : Int) {s : Place α} (hs : W.Spot s) : W.Spot (turnF W n t s) := by
  cases h : ringIx W n s with
  | none => rw [turnF_off t h]; exact hs
  | some i =>
    obtain ⟨hv, ht⟩ := (ringIx_some o hs).mp h
    rw [← ht, turnF_on o t hv]
    exact o.spot ⟨hv.1, mod_range (o.pos n hv.1)⟩
theorem turnF_back (o : WebOk W) {n : α} (t : Int) {s : Place α} (hs : W.Spot s) : turnF W n (-t) (turnF W n t s) = s := by
  cases h : ringIx W n s with
  | none => rw [turnF_off t h, turnF_off _ h]
  | some i =>
    obtain ⟨hv, ht⟩ := (ringIx_some o hs).mp h
    have hv2 : W.Val (n, (i + t) % W.len n) := ⟨hv.1, mod_range (o.pos n hv.1)⟩
    rw [← ht, turnF_on o t hv, turnF_on o (-t) hv2]
    rw [Int.emod_add_emod]
    have e : i + t + -t = i := by omega
    rw [e, Int.emod_eq_of_lt hv.2.1 hv.2.2]
theorem turn_bij (o : WebOk W) (n : α) (t : Int) : Bij W.Spot (turnF W n t) (turnF W n (-t)) where
  to := fun _ h => turnF_spot o t h
  fro := fun _ h => turnF_spot o (-t) h
  gf := fun _ h => turnF_back o t h
  fg := fun _ h => by
    have := turnF_back o (-t) (n := n) h
    rw [Int.neg_neg] at this
    exact this
/-- what form_of has in hand: cur tells whose thing is at a spot -/
structure Sim (W : WebM α) (off : α → Int) (cells : α → Int → Option (Place α)) (shared : Place α → Place α) (cur goal : Place α → Place α) : Prop where
  bij : Bij W.Spot cur goal
  range : ∀ n ∈ W.names, 0 ≤ off n ∧ off n < W.len n
  sh : ∀ m, W.Spot m → W.mate m ≠ none → shared m = cur m
  own : ∀ n ∈ W.names, ∀ p, 0 ≤ p → p < W.len n → W.mate (n, (p + off n) % W.len n) = none → cur (n, (p + off n) % W.len n) = (cells n p).getD (n, p)
  keys : ∀ n ∈ W.names, ∀ p, cells n p ≠ none → (0 ≤ p ∧ p < W.len n) ∧ W.mate (n, (p + off n) % W.len n) = none
  homes : ∀ n ∈ W.names, ∀ d, W.mate (n, d) ≠ none → cells n d ≠ none ∨ W.mate (n, (d + off n) % W.len n) ≠ none
theorem Sim.start (o : WebOk W) : Sim W (fun _ => 0) (fun _ _ => none) (fun m => m) (fun s => s) (fun s => s) where
  bij := Bij.id
  range := fun n hn => ⟨Int.le_refl 0, o.pos n hn⟩
  sh := fun _ _ _ => rfl
  own := fun n hn p h0 hl _ => by
    rw [Int.add_zero, Int.emod_eq_of_lt h0 hl]; rfl
  keys := fun n hn p h => absurd rfl h
  homes := fun n hn d h => by
    right
    cases hm : W.mate (n, d) with
    | none => exact absurd hm h
    | some q =>
      have v := (o.mate_val _ _ hm).1
      rw [Int.add_zero, Int.emod_eq_of_lt v.2.1 v.2.2, hm]
      exact fun z => by cases z
variable {off : α → Int} {cells : α → Int → Option (Place α)} {shared : Place α → Place α} {cur goal : Place α → Place α}
/-- what is on ring n, by carried places -/
def onRing (W : WebM α) (off : α → Int) (cur : Place α → Place α) (n : α) (p : Int) : Place α := cur (W.told (n, (p + off n) % W.len n))
/-- the ring's table once all at its doors has been put into it -/
structure Full (W : WebM α) (off : α → Int) (cur : Place α → Place α) (n : α) (held : Int → Option (Place α)) : Prop where
  val : ∀ p v, held p = some v → (0 ≤ p ∧ p < W.len n) ∧ v = onRing W off cur n p
  gone : ∀ p, 0 ≤ p → p < W.len n → held p = none → onRing W off cur n p = (n, p)
  homes : ∀ d, W.mate (n, d) ≠ none → held d ≠ none
theorem Full.getD {n : α} {held : Int → Option (Place α)} (F : Full W off cur n held) {p : Int} (h0 : 0 ≤ p) (hl : p < W.len n) : (held p).getD (n, p) = onRing W off cur n p := by
  cases h : held p with
  | none => exact (F.gone p h0 hl h).symm
  | some v => exact (F.val p v h).2
/-- from the state to the full table: held holds cells n, and the things at the doors -/
theorem Sim.full (o : WebOk W) (S : Sim W off cells shared cur goal) {n : α} (hn : n ∈ W.names) {held : Int → Option (Place α)}
    (h1 : ∀ p v, held p = some v → cells n p = some v ∨ ∃ i, W.mate (n, i) ≠ none ∧ p = (i - off n) % W.len n ∧ v = shared (W.told (n, i)))
    (h2 : ∀ p, cells n p ≠ none → held p ≠ none) (h3 : ∀ i, W.mate (n, i) ≠ none → held ((i - off n) % W.len n) ≠ none) : Full W off cur n held := by
  have L0 := o.pos n hn
  have door : ∀ i, W.mate (n, i) ≠ none → W.Val (n, i) := fun i h => by
    cases hm : W.mate (n, i) with
    | none => exact absurd hm h
    | some q => exact (o.mate_val _ _ hm).1
  have home : ∀ i, W.Val (n, i) → ((i - off n) % W.len n + off n) % W.len n = i := fun i hv => by
    rw [Int.emod_add_emod]
    have e : i - off n + off n = i := by omega
    rw [e, Int.emod_eq_of_lt hv.2.1 hv.2.2]
  have plain : ∀ p, W.mate (n, (p + off n) % W.len n) = none → W.told (n, (p + off n) % W.len n) = (n, (p + off n) % W.len n) := fun p h => o.told_none _ h
  refine ⟨fun p v h => ?_, fun p h0 hl h => ?_, fun d hd => ?_⟩
  · rcases h1 p v h with c | ⟨i, hi, rfl, rfl⟩
    · have k := S.keys n hn p (by rw [c]; exact fun z => by cases z)
      refine ⟨k.1, ?_⟩
      unfold onRing
      rw [plain p k.2, S.own n hn p k.1.1 k.1.2 k.2, c]; rfl
    · refine ⟨mod_range L0, ?_⟩
      unfold onRing
      rw [home i (door i hi), S.sh _ (o.spot (door i hi)) (fun z => hi ((o.mate_told _).mp z))]
  · have c : cells n p = none := Classical.byContradiction fun z => h2 p z h
    have m : W.mate (n, (p + off n) % W.len n) = none := Classical.byContradiction fun z => by
      refine h3 _ z ?_
      rw [Int.emod_sub_emod]
      have e : p + off n - off n = p := by omega
      rw [e, Int.emod_eq_of_lt h0 hl]
      exact h
    unfold onRing
    rw [plain p m, S.own n hn p h0 hl m, c]; rfl
  · rcases S.homes n hn d hd with c | c
    · exact h2 d c
    · have := h3 _ c
      rw [Int.emod_sub_emod] at this
      have e : d + off n - off n = d := by omega
      have v := door d hd
      rw [e, Int.emod_eq_of_lt v.2.1 v.2.2] at this
      exact this
/-- ring n has gone on: the tables behind a turn -/
theorem Sim.turn (o : WebOk W) (S : Sim W off cells shared cur goal) {n : α} (hn : n ∈ W.names) {held : Int → Option (Place α)} (F : Full W off cur n held) {off' : α → Int} {cells' : α → Int → Option (Place α)} {shared' : Place α → Place α}
    (ho : ∀ m, m ≠ n → off' m = off m) (hr : 0 ≤ off' n ∧ off' n < W.len n) (hc : ∀ m, m ≠ n → cells' m = cells m)
    (c1 : ∀ p, W.mate (n, (p + off' n) % W.len n) = none → cells' n p = held p) (c2 : ∀ p, 0 ≤ p → p < W.len n → W.mate (n, (p + off' n) % W.len n) ≠ none → cells' n p = none)
    (c3 : ∀ p, ¬ (0 ≤ p ∧ p < W.len n) → cells' n p = none)
    (s1 : ∀ i, W.mate (n, i) ≠ none → shared' (W.told (n, i)) = (held ((i - off' n) % W.len n)).getD (n, (i - off' n) % W.len n))
    (s2 : ∀ m, W.Spot m → W.mate m ≠ none → (∀ i, W.told (n, i) = m → W.mate (n, i) = none) → shared' m = shared m) :
    Sim W off' cells' shared' (fun s => cur (turnF W n (-(off' n - off n)) s)) (fun s => turnF W n (off' n - off n) (goal s)) := by
  have L0 := o.pos n hn
  have b2 : Bij W.Spot (turnF W n (-(off' n - off n))) (turnF W n (off' n - off n)) := (turn_bij o n _).symm
  have key : ∀ p, 0 ≤ p → p < W.len n → cur (turnF W n (-(off' n - off n)) (W.told (n, (p + off' n) % W.len n))) = onRing W off cur n p := fun p h0 hl => by
    rw [turnF_on o _ ⟨hn, mod_range L0⟩, Int.emod_add_emod]
    have e : p + off' n + -(off' n - off n) = p + off n := by omega
    rw [e]; rfl
  have other : ∀ s, W.Spot s → (∀ i, W.told (n, i) ≠ s ∨ ¬ W.Val (n, i)) → turnF W n (-(off' n - off n)) s = s := fun s hs h => by
    refine turnF_off _ ?_
    cases c : ringIx W n s with
    | none => rfl
    | some i =>
      obtain ⟨v, t⟩ := (ringIx_some o hs).mp c
      rcases h i with q | q
      · exact absurd t q
      · exact absurd v q
  -- a place of another ring that is in no meeting is not on ring n
  have apart : ∀ m ∈ W.names, m ≠ n → ∀ j, W.Val (m, j) → W.mate (m, j) = none → turnF W n (-(off' n - off n)) (m, j) = (m, j) := fun m hm ne j hv hj => by
    refine other _ ⟨hv, o.told_none _ hj⟩ fun i => .inl fun e => ?_
    have := o.told_eq_self e hj
    exact ne (congrArg Prod.fst this).symm
  have door : ∀ i, W.mate (n, i) ≠ none → W.Val (n, i) := fun i h => by
    cases hm : W.mate (n, i) with
    | none => exact absurd hm h
    | some q => exact (o.mate_val _ _ hm).1
  refine { bij := b2.comp S.bij, range := ?_, sh := ?_, own := ?_, keys := ?_, homes := ?_ }
  · intro m hm
    by_cases c : m = n
    · rw [c]; exact hr
    · rw [ho m c]; exact S.range m hm
  · intro m hs hm
    by_cases c : ∃ i, W.told (n, i) = m ∧ W.mate (n, i) ≠ none
    · obtain ⟨i, rfl, hi⟩ := c
      have v := door i hi
      have hp := mod_range (a := i - off' n) L0
      rw [s1 i hi, F.getD hp.1 hp.2]
      show _ = cur (turnF W n (-(off' n - off n)) (W.told (n, i)))
      rw [← key _ hp.1 hp.2, Int.emod_add_emod]
      have e : i - off' n + off' n = i := by omega
      rw [e, Int.emod_eq_of_lt v.2.1 v.2.2]
    · have no : ∀ i, W.told (n, i) = m → W.mate (n, i) = none := fun i e => Classical.byContradiction fun q => c ⟨i, e, q⟩
      rw [s2 m hs hm no, S.sh m hs hm]
      show cur m = cur (turnF W n (-(off' n - off n)) m)
      rw [other m hs fun i => by
        refine .inl fun e => ?_
        have := no i e
        rw [← o.mate_told, e] at this
        exact hm this]
  · intro m hm p h0 hl hmate
    by_cases c : m = n
    · subst c
      rw [c1 p hmate, F.getD h0 hl, ← key p h0 hl, o.told_none _ hmate]
    · rw [ho m c] at hmate ⊢
      show cur (turnF W n _ (m, _)) = _
      rw [apart m hm c _ ⟨hm, mod_range (o.pos m hm)⟩ hmate, hc m c]
      exact S.own m hm p h0 hl hmate
  · intro m hm p h
    by_cases c : m = n
    · subst c
      have r : 0 ≤ p ∧ p < W.len m := Classical.byContradiction fun q => h (c3 p q)
      exact ⟨r, Classical.byContradiction fun q => h (c2 p r.1 r.2 q)⟩
    · rw [ho m c]
      rw [hc m c] at h
      exact S.keys m hm p h
  · intro m hm d hd
    by_cases c : m = n
    · subst c
      by_cases q : W.mate (m, (d + off' m) % W.len m) = none
      · left
        rw [c1 d q]
        exact F.homes d hd
      · exact .inr q
    · rw [ho m c, hc m c]
      exact S.homes m hm d hd
/-- what told_goals tells -/
theorem Sim.tells (o : WebOk W) (S : Sim W off cells shared cur goal) {T : List (Place α × Place α)} (nd : (T.map (·.1)).Nodup)
    (h1 : ∀ a b, (a, b) ∈ T → (W.Spot b ∧ W.mate b ≠ none ∧ a = shared b) ∨ ∃ n ∈ W.names, ∃ p, cells n p = some a ∧ b = W.told (n, (p + off n) % W.len n))
    (h2 : ∀ b, W.Spot b → W.mate b ≠ none → shared b ∈ T.map (·.1)) (h3 : ∀ n ∈ W.names, ∀ p a, cells n p = some a → a ∈ T.map (·.1)) :
    Tells W off T goal cur where
  bij := S.bij.symm
  nd := nd
  in_ := fun a b h => by
    rcases h1 a b h with ⟨hb, hm, rfl⟩ | ⟨n, hn, p, hp, rfl⟩
    · rw [S.sh b hb hm]
      exact ⟨S.bij.to b hb, (S.bij.gf b hb).symm⟩
    · have k := S.keys n hn p (by rw [hp]; exact fun z => by cases z)
      have e := S.own n hn p k.1.1 k.1.2 k.2
      rw [hp] at e
      have hs : W.Spot (n, (p + off n) % W.len n) := ⟨⟨hn, mod_range (o.pos n hn)⟩, o.told_none _ k.2⟩
      have e2 : cur (n, (p + off n) % W.len n) = a := e
      rw [o.told_none _ k.2, ← e2]
      exact ⟨S.bij.to _ hs, (S.bij.gf _ hs).symm⟩
  out := fun a hs h => by
    have ht := S.bij.fro a hs
    have ec := S.bij.fg a hs
    have m1 : W.mate (goal a) = none := Classical.byContradiction fun q => by
      have := h2 (goal a) ht q
      rw [S.sh _ ht q, ec] at this
      exact h this
    obtain ⟨⟨hn, h0, hl⟩, hself⟩ := ht
    have L0 := o.pos _ hn
    have hp := mod_range (a := (goal a).2 - off (goal a).1) L0
    have e1 : (((goal a).2 - off (goal a).1) % W.len (goal a).1 + off (goal a).1) % W.len (goal a).1 = (goal a).2 := by
      rw [Int.emod_add_emod]
      have e : (goal a).2 - off (goal a).1 + off (goal a).1 = (goal a).2 := by omega
      rw [e, Int.emod_eq_of_lt h0 hl]
    have e2 := S.own (goal a).1 hn _ hp.1 hp.2 (by rw [e1]; exact m1)
    rw [e1] at e2
    have e3 : cur (goal a) = a := ec
    have e4 : a = (cells (goal a).1 (((goal a).2 - off (goal a).1) % W.len (goal a).1)).getD ((goal a).1, ((goal a).2 - off (goal a).1) % W.len (goal a).1) := e3.symm.trans e2
    cases hc : cells (goal a).1 (((goal a).2 - off (goal a).1) % W.len (goal a).1) with
    | some v =>
      rw [hc] at e4
      have e5 : a = v := e4
      exact absurd (h3 _ hn _ _ (by rw [hc, e5])) h
    | none =>
      rw [hc] at e4
      have e5 : a = ((goal a).1, ((goal a).2 - off (goal a).1) % W.len (goal a).1) := e4
      have m2 : W.mate a = none := Classical.byContradiction fun q => by
        rw [e5] at q
        rcases S.homes _ hn _ q with c | c
        · exact c hc
        · rw [e1] at c
          exact c m1
      refine ⟨m2, ?_⟩
      have a1 : a.1 = (goal a).1 := (congrArg (fun z : Place α => z.1) e5 :)
      have a2 : a.2 = ((goal a).2 - off (goal a).1) % W.len (goal a).1 := (congrArg (fun z : Place α => z.2) e5 :)
      unfold WebM.plain
      rw [Int.one_mul, a1, a2, e1]
      exact hself.symm
end
end MR
/-! Webs: what stands for one; the small defs. -/
namespace MR
open PySem PySem.Spec PyProof.Rows L2 He
structure WebD where
  rings : List (Nm × Int × Int)
  joints : List (Nm × Int × Nm × Int)
  lens : List (Nm × Int)
  steps : List (Nm × Int)
  mates : List (Pl × Pl)
def WebD.names (w : WebD) : List Nm := w.rings.map (·.1)
def WebD.len (w : WebD) (n : Nm) : Int := (lk w.lens n).getD 0
def WebD.told (w : WebD) (p : Pl) : Pl := match lk w.mates p with
  | none => p
  | some q => minPl p q
def WebD.m (w : WebD) : WebM Nm := ⟨w.names, w.len, lk w.mates, w.told⟩
structure WebGood (w : WebD) : Prop where
  ok : WebOk w.m
  len : ∀ n, n ∈ w.names → lk w.lens n = some (w.len n)
  key : ∀ n, (lk w.lens n).isSome = true → n ∈ w.names
  step : ∀ n, n ∈ w.names → ∃ s : Int, lk w.steps n = some s ∧ s.natAbs < 2 ^ 104
  str : ∀ n, n ∈ w.names → PyData.strOk n = true
  big : ∀ n, n ∈ w.names → w.len n < 2 ^ 104
  few : w.rings.length ≤ 100
  mfew : w.mates.length ≤ 300
  jfew : w.joints.length ≤ 150
  mnd : (w.mates.map (·.1)).Nodup
  cnt : (w.rings.map (·.2.1)).sum - (w.joints.length : Int) = ((spotsL w.m).length : Nat)
  jstr : ∀ x, x ∈ w.joints → PyData.strOk x.1 = true ∧ PyData.strOk x.2.2.1 = true
abbrev RingA (r : Nm × Int × Int) : Hp → V → Prop := TupP [Is (.str r.1), Is (.int r.2.1), Is (.int r.2.2)]
abbrev JointA (r : Nm × Int × Nm × Int) : Hp → V → Prop := TupP [Is (.str r.1), Is (.int r.2.1), Is (.str r.2.2.1), Is (.int r.2.2.2)]
abbrev IntA (i : Int) : Hp → V → Prop := Is (.int i)
abbrev StrA (i : Nm) : Hp → V → Prop := Is (.str i)
def fsWeb (r j l s m : V) : List (Str × V) := [("rings", r), ("joints", j), ("lengths", l), ("steps", s), ("mates", m)]
/-- a web stands at v -/
def WebA (K : PySem.W.Frag) (w : WebD) : Hp → V → Prop := fun H v => ∃ a dx r j l s m, v = .ref a ∧ H a = some (.ins (ga K "Web") dx (fsWeb r j l s m)) ∧ TuA RingA w.rings H r ∧ TuA JointA w.joints H j ∧ DcK kN IntA w.lens H l ∧ DcK kN IntA w.steps H s ∧ DcT PlA w.mates H m
instance {K : PySem.W.Frag} {w : WebD} : Mo (WebA K w) := ⟨fun e h => by
  obtain ⟨a, dx, r, j, l, s, m, rfl, h0, h1, h2, h3, h4, h5⟩ := h
  exact ⟨a, dx, r, j, l, s, m, rfl, e.ins h0, Mo.up e h1, Mo.up e h2, Mo.up e h3, Mo.up e h4, Mo.up e h5⟩⟩
section
variable {P : Program} {w : World} {K : PySem.W.Frag} {mg : Str → Option Value} {base : Heap} {wd : WebD}
theorem fd_rings (T : Tx K mg) : Fd K "rings" (WebA K wd) (TuA RingA wd.rings) := fun H v ⟨a, dx, r, j, l, s, m, e, h0, h1, h2, h3, h4, h5⟩ => ⟨a, _, dx, _, r, e, h0, T.c_Web, T.n_Web_rings, by rfl, h1⟩
theorem fd_joints (T : Tx K mg) : Fd K "joints" (WebA K wd) (TuA JointA wd.joints) := fun H v ⟨a, dx, r, j, l, s, m, e, h0, h1, h2, h3, h4, h5⟩ => ⟨a, _, dx, _, j, e, h0, T.c_Web, T.n_Web_joints, by rfl, h2⟩
theorem fd_lengths (T : Tx K mg) : Fd K "lengths" (WebA K wd) (DcK kN IntA wd.lens) := fun H v ⟨a, dx, r, j, l, s, m, e, h0, h1, h2, h3, h4, h5⟩ => ⟨a, _, dx, _, l, e, h0, T.c_Web, T.n_Web_lengths, by rfl, h3⟩
theorem fd_steps (T : Tx K mg) : Fd K "steps" (WebA K wd) (DcK kN IntA wd.steps) := fun H v ⟨a, dx, r, j, l, s, m, e, h0, h1, h2, h3, h4, h5⟩ => ⟨a, _, dx, _, s, e, h0, T.c_Web, T.n_Web_steps, by rfl, h4⟩
theorem fd_mates (T : Tx K mg) : Fd K "mates" (WebA K wd) (DcT PlA wd.mates) := fun H v ⟨a, dx, r, j, l, s, m, e, h0, h1, h2, h3, h4, h5⟩ => ⟨a, _, dx, _, m, e, h0, T.c_Web, T.n_Web_mates, by rfl, h5⟩
end
end MR
namespace MR
open PySem PySem.Spec PyProof.Rows L2 He
section
variable {P : Program} {w : World} {K : PySem.W.Frag} {mg : Str → Option Value} {base : Heap} {wd : WebD}
theorem isI_web {m : Str} (h : ∀ r j l s q : V, (fsWeb r j l s q).lookup m = none) : ∀ H v, WebA K wd H v → IsI (ga K "Web") m H v := fun H v ⟨a, dx, r, j, l, s, q, e, h0, _⟩ => ⟨a, dx, _, e, h0, h r j l s q⟩
/-- Web.names() -/
def spNames (K : PySem.W.Frag) : Sp := spOf 0 (ι := WebD) (fun w => w.rings.length < 100000) (fun w => [WebA K w]) (fun w => LsA StrA w.names)
theorem ok_Web_names (T : Tx K mg) : Good P w K mg base 1 (ma K (ga K "Web") "names") ["self"] (spNames K) := by
  refine good_of T.d_Web_names sc_Web_names (fun fd F => FunD.bindsN F fun _ _ _ _ _ _ us hl => match us, hl with | [_], _ => rfl) (fun vs H Q E h => ?_) (fun cdv A outer s H vs Q E hr h => ?_)
  · obtain ⟨i, G, _, _, _, al, _⟩ := h
    exact al_len al rfl
  · obtain ⟨i, G0, hC, nl, sG, al, k⟩ := h
    have hu := hu_of hr
    have hmin := hr.units
    have f0 : Fr none G0 H := .mk0 sG
    obtain ⟨v, rfl, e1⟩ := al1 al
    refine ⟨_, (pss_one (ps_ret (pe_lc (own := [("name", 1), ("length", 2), ("step", 3)]) (g := (gTup K 3 (gCons (gName 1) (gCons (gName 2) (gCons (gName 3) gNil))))) (by rfl) sc_Web_names.nd (pi_tup (pe_fld (pv 0) (by rfl))) (blkOk_by (N := N_Web_names) (sc := defScope s_Web_names) (by decide +kernel)) (fun _ _ _ _ _ => (pg_tup rfl (pgs_cons (pg_name (i := 1) sc_Web_names.nd rfl (Or.inl rfl)) (pgs_cons (pg_name (i := 2) sc_Web_names.nd rfl (Or.inl rfl)) (pgs_cons (pg_name (i := 3) sc_Web_names.nd rfl (Or.inl rfl)) pgs_nil))))) (fun _ _ _ _ _ => pts_nil) (fun _ _ _ _ _ => (pv 1))))), ?_⟩
    refine s_ret f0 (ev_lcM (R := RingA) (R' := StrA) (l := i.rings) (fun r : Nm × Int × Int => r.1) (src_tup (ev_fld (fd_rings T) (ev_var rfl e1))) hC fun r hr x G' H' g f rx Q k2 => tg3 rx f.sub fun v1 v2 v3 h1 h2 h3 => k2 _ rfl (ev_var rfl h1)) k
/-- w.told(place) -/
def spTold (K : PySem.W.Frag) : Sp := spOf 0 (ι := WebD × Pl) (fun _ => True) (fun i => [WebA K i.1, PlA i.2]) (fun i => PlA (i.1.told i.2))
theorem ok_Web_told (T : Tx K mg) : Good P w K mg base 1 (ma K (ga K "Web") "told") ["self", "place"] (spTold K) := by
  refine good_of T.d_Web_told sc_Web_told (fun fd F => FunD.bindsN F fun _ _ _ _ _ _ us hl => match us, hl with | [_, _], _ => rfl) (fun vs H Q E h => ?_) (fun cdv A outer s H vs Q E hr h => ?_)
  · obtain ⟨i, G, _, _, _, al, _⟩ := h
    exact al_len al rfl
  · obtain ⟨i, G0, hC, nl, sG, al, k⟩ := h
    have hu := hu_of hr
    have hmin := hr.units
    have f0 : Fr none G0 H := .mk0 sG
    obtain ⟨v, u, rfl, e1, e2⟩ := al2 al
    refine ⟨_, (pss_one (ps_ret (pe_ifExp (pt_cmp (pc_din hu (pv 1) (pe_fld (pv 0) (by rfl)))) (pe_callB (cr_min2D rfl hmin) (by rfl) T.f_min (by decide +kernel) (pa_cons (pv 1) (pa_cons (pe_dget hu (pe_fld (pv 0) (by rfl)) (pv 1) (fun _ _ => rfl)) pa_nil))) (pv 1)))), ?_⟩
    obtain ⟨i, p⟩ := i
    refine s_ret f0 (ev_if (et_B (ev_inT p (ev_var rfl e2) (ev_fld (fd_mates T) (ev_var rfl e1)))) (fun hb => ?_) fun hb => ?_) k
    · cases q : lk i.mates p with
      | none =>
        rw [q] at hb
        cases hb
      | some m =>
        have et : i.told p = minPl p m := by
          unfold WebD.told
          rw [q]
        show Ev none _ _ _ (PlA (i.told p))
        rw [et]
        exact ev_min2 (ev_var rfl e2) (ev_getT p q (ev_fld (fd_mates T) (ev_var rfl e1)) (ev_var rfl e2))
    · cases q : lk i.mates p with
      | some m =>
        rw [q] at hb
        cases hb
      | none =>
        have et : i.told p = p := by
          unfold WebD.told
          rw [q]
        show Ev none _ _ _ (PlA (i.told p))
        rw [et]
        exact ev_var rfl e2
/-- w.has_place(place) -/
def spHas (K : PySem.W.Frag) : Sp := spOf 0 (ι := WebD × Pl) (fun i => WebGood i.1) (fun i => [WebA K i.1, PlA i.2]) (fun i => fun H v => ∃ b : Bool, v = .bl b ∧ (b = true ↔ i.1.m.Val i.2))
theorem ok_Web_has_place (T : Tx K mg) : Good P w K mg base 1 (ma K (ga K "Web") "has_place") ["self", "place"] (spHas K) := by
  refine good_of T.d_Web_has_place sc_Web_has_place (fun fd F => FunD.bindsN F fun _ _ _ _ _ _ us hl => match us, hl with | [_, _], _ => rfl) (fun vs H Q E h => ?_) (fun cdv A outer s H vs Q E hr h => ?_)
  · obtain ⟨i, G, _, _, _, al, _⟩ := h
    exact al_len al rfl
  · obtain ⟨i, G0, hC, nl, sG, al, k⟩ := h
    have hu := hu_of hr
    have hmin := hr.units
    have f0 : Fr none G0 H := .mk0 sG
    obtain ⟨v, u, rfl, e1, e2⟩ := al2 al
    obtain ⟨i, p⟩ := i
    refine ⟨_, (pss_cons (ps_asg (pv 1) (pg_tup rfl (pgs_cons (pg_name (i := 2) sc_Web_has_place.nd rfl (Or.inl rfl)) (pgs_cons (pg_name (i := 3) sc_Web_has_place.nd rfl (Or.inl rfl)) pgs_nil))))
    (pss_one (ps_ret (pe_and (pe_cmp (pc_din hu (pv 2) (pe_fld (pv 0) (by rfl)))) (pe_one (pe_chain op_le op_lt pe_int (pv 3) (pe_dget hu (pe_fld (pv 0) (by rfl)) (pv 2) (fun _ _ => rfl)))))))), ?_⟩
    refine q_asgG f0 (ev_var rfl (plA_tup e2)) fun v1 G1 H1 x1 h1 => tg2 h1 x1.sub fun v2 v3 h2 h3 => ?_
    cases h2
    cases h3
    have hC' : WebGood i := hC
    have kl : (lk i.lens p.1).isSome = true → lk i.lens p.1 = some (i.len p.1) := fun h => hC'.len _ (hC'.key _ h)
    refine s_ret (.mk0 x1.sub) (ev_andV (c := decide (0 ≤ p.2) && decide (p.2 < i.len p.1)) (ev_inK (R := IntA) kN_inj p.1 (ev_var rfl rfl) (ev_fld (fd_lengths T) (ev_var rfl (mo_same x1.gs e1)))) fun hb => ?_) fun v G2 H2 x2 h4 => ?_
    · exact ev_chain (i := 0) (j := p.2) (l := i.len p.1) ev_c (ev_var rfl rfl) (fun _ => ev_getK (R := IntA) kN_inj p.1 (kl hb) (ev_fld (fd_lengths T) (ev_var rfl (mo_same x1.gs e1))) (ev_var rfl rfl)) rfl fun _ => rfl
    · refine k v G2 H2 (x1.trans x2) ⟨_, h4, ?_⟩
      rw [Bool.and_eq_true, Bool.and_eq_true, decide_eq_true_eq, decide_eq_true_eq]
      constructor
      · rintro ⟨a, b, c⟩
        exact ⟨hC'.key _ a, b, c⟩
      · rintro ⟨a, b, c⟩
        refine ⟨?_, b, c⟩
        rw [hC'.len _ a]
        rfl
/-- w.check_name(name): it is there -/
def spCheckName (K : PySem.W.Frag) : Sp := spOf 0 (ι := WebD × Nm) (fun i => WebGood i.1 ∧ i.2 ∈ i.1.names) (fun i => [WebA K i.1, StrA i.2]) (fun i => Is .non)
theorem ok_Web_check_name (T : Tx K mg) : Good P w K mg base 1 (ma K (ga K "Web") "check_name") ["self", "name"] (spCheckName K) := by
  refine good_of T.d_Web_check_name sc_Web_check_name (fun fd F => FunD.bindsN F fun _ _ _ _ _ _ us hl => match us, hl with | [_, _], _ => rfl) (fun vs H Q E h => ?_) (fun cdv A outer s H vs Q E hr h => ?_)
  · obtain ⟨i, G, _, _, _, al, _⟩ := h
    exact al_len al rfl
  · obtain ⟨i, G0, hC, nl, sG, al, k⟩ := h
    have hu := hu_of hr
    have hmin := hr.units
    have f0 : Fr none G0 H := .mk0 sG
    obtain ⟨v, u, rfl, e1, e2⟩ := al2 al
    obtain ⟨i, n⟩ := i
    cases e2
    have hC' : WebGood i := hC.1
    have hl := hC'.len n hC.2
    refine ⟨_, (pss_one (ps_if (pt_cmp (pc_dnotin hu (pv 1) (pe_fld (pv 0) (by rfl)))) (pss_one ps_never) pss_nil)), ?_⟩
    refine s_when f0 (et_B (ev_ninK (R := IntA) kN_inj n (ev_var rfl rfl) (ev_fld (fd_lengths T) (ev_var rfl e1)))) (fun hb => ?_) fun hb G1 H1 x1 => k _ G1 H1 x1 rfl
    rw [hl] at hb
    cases hb
/-- w.length(name) -/
def spLength (K : PySem.W.Frag) : Sp := spOf 0 (ι := WebD × Nm) (fun i => WebGood i.1 ∧ i.2 ∈ i.1.names) (fun i => [WebA K i.1, StrA i.2]) (fun i => Is (.int (i.1.len i.2)))
theorem ok_Web_length (T : Tx K mg) : Good P w K mg base 2 (ma K (ga K "Web") "length") ["self", "name"] (spLength K) := by
  obtain ⟨⟨fd_Web_check_name, G_Web_check_name, b_Web_check_name⟩, k_Web_check_name⟩ := ok_Web_check_name (P := P) (w := w) (base := base) T
  refine good_of T.d_Web_length sc_Web_length (fun fd F => FunD.bindsN F fun _ _ _ _ _ _ us hl => match us, hl with | [_, _], _ => rfl) (fun vs H Q E h => ?_) (fun cdv A outer s H vs Q E hr h => ?_)
  · obtain ⟨i, G, _, _, _, al, _⟩ := h
    exact al_len al rfl
  · obtain ⟨i, G0, hC, nl, sG, al, k⟩ := h
    have hu := hu_of hr
    have hmin := hr.units
    have f0 : Fr none G0 H := .mk0 sG
    obtain ⟨v, u, rfl, e1, e2⟩ := al2 al
    obtain ⟨i, n⟩ := i
    cases e2
    have hC' : WebGood i := hC.1
    have hl := hC'.len n hC.2
    refine ⟨_, (pss_cons (ps_expr (pe_meth (pv 0) T.c_Web T.m_Web_check_name G_Web_check_name (hr.mono (by decide)) b_Web_check_name .nil pass0 (pa_cons (pv 1) pa_nil)))
    (pss_one (ps_ret (pe_dget hu (pe_fld (pv 0) (by rfl)) (pv 1) (fun _ _ => rfl))))), ?_⟩
    refine q_drop f0 (ev_meth (i := (i, n)) hC (n := 0) trivial rfl (isI_web fun _ _ _ _ _ => by rfl) (ev_var rfl e1) (ea_cons (ev_var (P := StrA n) rfl rfl) ea_nil)) fun v G1 H1 x1 h1 => ?_
    refine s_ret (.mk0 x1.sub) (ev_getK (R := IntA) kN_inj n hl (ev_fld (fd_lengths T) (ev_var rfl (mo_same x1.gs e1))) (ev_var rfl rfl)) fun v G2 H2 x2 => k v G2 H2 (x1.trans x2)
/-- w.checked(spot) -/
def spChecked (K : PySem.W.Frag) : Sp := spOf 0 (ι := WebD × Pl) (fun i => WebGood i.1 ∧ i.1.m.Val i.2) (fun i => [WebA K i.1, PlA i.2]) (fun i => PlA (i.1.told i.2))
theorem ok_Web_checked (T : Tx K mg) : Good P w K mg base 2 (ma K (ga K "Web") "checked") ["self", "spot"] (spChecked K) := by
  obtain ⟨⟨fd_Web_has_place, G_Web_has_place, b_Web_has_place⟩, k_Web_has_place⟩ := ok_Web_has_place (P := P) (w := w) (base := base) T
  obtain ⟨⟨fd_Web_told, G_Web_told, b_Web_told⟩, k_Web_told⟩ := ok_Web_told (P := P) (w := w) (base := base) T
  refine good_of T.d_Web_checked sc_Web_checked (fun fd F => FunD.bindsN F fun _ _ _ _ _ _ us hl => match us, hl with | [_, _], _ => rfl) (fun vs H Q E h => ?_) (fun cdv A outer s H vs Q E hr h => ?_)
  · obtain ⟨i, G, _, _, _, al, _⟩ := h
    exact al_len al rfl
  · obtain ⟨i, G0, hC, nl, sG, al, k⟩ := h
    have hu := hu_of hr
    have hmin := hr.units
    have f0 : Fr none G0 H := .mk0 sG
    obtain ⟨v, u, rfl, e1, e2⟩ := al2 al
    obtain ⟨i, p⟩ := i
    refine ⟨_, (pss_cons (ps_if (pt_not (pt_val (pe_meth (pv 0) T.c_Web T.m_Web_has_place G_Web_has_place (hr.mono (by decide)) b_Web_has_place .nil pass0 (pa_cons (pv 1) pa_nil)))) (pss_one ps_never) pss_nil)
    (pss_one (ps_ret (pe_meth (pv 0) T.c_Web T.m_Web_told G_Web_told (hr.mono (by decide)) b_Web_told .nil pass0 (pa_cons (pv 1) pa_nil))))), ?_⟩
    refine q_when f0 (et_not (et_B (ev_imp (P' := Is (.bl true)) (ev_meth (i := (i, p)) hC.1 (n := 0) trivial rfl (isI_web fun _ _ _ _ _ => by rfl) (ev_var rfl e1) (ea_cons (ev_var rfl e2) ea_nil)) ?_))) (fun hb => by cases hb) fun hb G1 H1 x1 => ?_
    · rintro H v ⟨b, rfl, hb⟩
      rw [hb.mpr hC.2]
      rfl
    exact s_ret (.mk0 x1.sub) (ev_meth (i := (i, p)) trivial (n := 0) trivial rfl (isI_web fun _ _ _ _ _ => by rfl) (ev_var rfl (mo_same x1.gs e1)) (ea_cons (ev_var rfl (mo_same x1.gs e2)) ea_nil)) fun v G2 H2 x2 => k v G2 H2 (x1.trans x2)
end
end MR
namespace MR
open PySem PySem.Spec PyProof.Rows L2 He
section
variable {P : Program} {w : World} {K : PySem.W.Frag} {mg : Str → Option Value} {base : Heap} {wd : WebD}
def WebD.placesL (w : WebD) (p : Pl) : List Pl := match lk w.mates (w.told p) with
  | none => [w.told p]
  | some q => [w.told p, q]
theorem ls1 {β : Type} {R : β → Hp → V → Prop} {a : β} : ∀ H v, LstP [R a] H v → LsA R [a] H v := fun H v ⟨p, vs, e, h, al⟩ => by
  obtain ⟨v1, rfl, h1⟩ := al1 al
  exact ⟨p, _, e, h, .cons h1 .nil⟩
theorem ls2 {β : Type} {R : β → Hp → V → Prop} {a b : β} : ∀ H v, LstP [R a, R b] H v → LsA R [a, b] H v := fun H v ⟨p, vs, e, h, al⟩ => by
  obtain ⟨v1, v2, rfl, h1, h2⟩ := al2 al
  exact ⟨p, _, e, h, .cons h1 (.cons h2 .nil)⟩
/-- w.places(spot) -/
def spPlaces (K : PySem.W.Frag) : Sp := spOf 0 (ι := WebD × Pl) (fun i => WebGood i.1 ∧ i.1.m.Val i.2) (fun i => [WebA K i.1, PlA i.2]) (fun i => LsA PlA (i.1.placesL i.2))
theorem ok_Web_places (T : Tx K mg) : Good P w K mg base 3 (ma K (ga K "Web") "places") ["self", "spot"] (spPlaces K) := by
  obtain ⟨⟨fd_Web_checked, G_Web_checked, b_Web_checked⟩, k_Web_checked⟩ := ok_Web_checked (P := P) (w := w) (base := base) T
  refine good_of T.d_Web_places sc_Web_places (fun fd F => FunD.bindsN F fun _ _ _ _ _ _ us hl => match us, hl with | [_, _], _ => rfl) (fun vs H Q E h => ?_) (fun cdv A outer s H vs Q E hr h => ?_)
  · obtain ⟨i, G, _, _, _, al, _⟩ := h
    exact al_len al rfl
  · obtain ⟨i, G0, hC, nl, sG, al, k⟩ := h
    have hu := hu_of hr
    have hmin := hr.units
    have f0 : Fr none G0 H := .mk0 sG
    obtain ⟨v, u, rfl, e1, e2⟩ := al2 al
    obtain ⟨i, p⟩ := i
    refine ⟨_, (pss_cons (ps_set (i := 2) sc_Web_places.nd rfl (Or.inl rfl) (pe_meth (pv 0) T.c_Web T.m_Web_checked G_Web_checked (hr.mono (by decide)) b_Web_checked .nil pass0 (pa_cons (pv 1) pa_nil)))
    (pss_one (ps_ret (pe_ifExp (pt_cmp (pc_din hu (pv 2) (pe_fld (pv 0) (by rfl)))) (pe_lst (pa_cons (pv 2) (pa_cons (pe_dget hu (pe_fld (pv 0) (by rfl)) (pv 2) (fun _ _ => rfl)) pa_nil))) (pe_lst (pa_cons (pv 2) pa_nil)))))), ?_⟩
    refine q_asg f0 (ev_meth (i := (i, p)) hC (n := 0) trivial rfl (isI_web fun _ _ _ _ _ => by rfl) (ev_var rfl e1) (ea_cons (ev_var rfl e2) ea_nil)) fun v1 G1 H1 x1 h1 => ?_
    have e1' := mo_same x1.gs e1
    have fm : Ev none (tFld K (tVar 0) "mates") [some v, some u, some v1] G1 (DcT PlA i.mates) := ev_fld (fd_mates T) (ev_var rfl e1')
    have vp : Ev none (tVar 2) [some v, some u, some v1] G1 (PlA (i.told p)) := ev_var rfl h1
    refine s_ret (.mk0 x1.sub) (ev_if (P := LsA PlA (i.placesL p)) (et_B (ev_inT (R := PlA) (i.told p) vp fm)) (fun hb => ?_) fun hb => ?_) fun v G2 H2 x2 => k v G2 H2 (x1.trans x2)
    · cases q : lk i.mates (i.told p) with
      | none =>
        rw [q] at hb
        cases hb
      | some m =>
        have et : i.placesL p = [i.told p, m] := by
          unfold WebD.placesL
          rw [q]
        rw [et]
        exact ev_imp (ev_lst (ea_cons vp (ea_cons (ev_getT (R := PlA) (i.told p) q fm vp) ea_nil))) ls2
    · cases q : lk i.mates (i.told p) with
      | some m =>
        rw [q] at hb
        cases hb
      | none =>
        have et : i.placesL p = [i.told p] := by
          unfold WebD.placesL
          rw [q]
        rw [et]
        exact ev_imp (ev_lst (ea_cons vp ea_nil)) ls1
/-- w.spot_of(name, i) -/
def spSpotOf (K : PySem.W.Frag) : Sp := spOf 0 (ι := WebD × Pl) (fun i => WebGood i.1 ∧ i.1.m.Val i.2) (fun i => [WebA K i.1, StrA i.2.1, IntA i.2.2]) (fun i => PlA (i.1.told i.2))
theorem ok_Web_spot_of (T : Tx K mg) : Good P w K mg base 2 (ma K (ga K "Web") "spot_of") ["self", "name", "i"] (spSpotOf K) := by
  obtain ⟨⟨fd_Web_check_name, G_Web_check_name, b_Web_check_name⟩, k_Web_check_name⟩ := ok_Web_check_name (P := P) (w := w) (base := base) T
  obtain ⟨⟨fd_Web_told, G_Web_told, b_Web_told⟩, k_Web_told⟩ := ok_Web_told (P := P) (w := w) (base := base) T
  refine good_of T.d_Web_spot_of sc_Web_spot_of (fun fd F => FunD.bindsN F fun _ _ _ _ _ _ us hl => match us, hl with | [_, _, _], _ => rfl) (fun vs H Q E h => ?_) (fun cdv A outer s H vs Q E hr h => ?_)
  · obtain ⟨i, G, _, _, _, al, _⟩ := h
    exact al_len al rfl
  · obtain ⟨i, G0, hC, nl, sG, al, k⟩ := h
    have hu := hu_of hr
    have hmin := hr.units
    have f0 : Fr none G0 H := .mk0 sG
    obtain ⟨v, u, u2, rfl, e1, e2, e3⟩ := al3 al
    obtain ⟨i, p⟩ := i
    cases e2
    cases e3
    have hC' : WebGood i := hC.1
    obtain ⟨hn, h0, hl⟩ : i.m.Val p := hC.2
    have hln := hC'.len p.1 hn
    refine ⟨_, (pss_cons (ps_expr (pe_meth (pv 0) T.c_Web T.m_Web_check_name G_Web_check_name (hr.mono (by decide)) b_Web_check_name .nil pass0 (pa_cons (pv 1) pa_nil)))
    (pss_cons (ps_if (pt_not (pt_chain op_le op_lt pe_int (pv 2) (pe_dget hu (pe_fld (pv 0) (by rfl)) (pv 1) (fun _ _ => rfl)))) (pss_one ps_never) pss_nil)
    (pss_one (ps_ret (pe_meth (pv 0) T.c_Web T.m_Web_told G_Web_told (hr.mono (by decide)) b_Web_told .nil pass0 (pa_cons (pe_tup (pa_cons (pv 1) (pa_cons (pv 2) pa_nil))) pa_nil)))))), ?_⟩
    refine q_drop f0 (ev_meth (i := (i, p.1)) ⟨hC.1, hn⟩ (n := 0) trivial rfl (isI_web fun _ _ _ _ _ => by rfl) (ev_var rfl e1) (ea_cons (ev_var (P := StrA p.1) rfl rfl) ea_nil)) fun v1 G1 H1 x1 h1 => ?_
    have e1' := mo_same x1.gs e1
    refine q_when (.mk0 x1.sub) (et_not (et_test (ev_chain (i := 0) (j := p.2) (l := i.len p.1) (b := decide (0 ≤ p.2)) (c := decide (p.2 < i.len p.1)) ev_c (ev_var rfl rfl) (fun _ => ev_getK (R := IntA) kN_inj p.1 hln (ev_fld (fd_lengths T) (ev_var rfl e1')) (ev_var rfl rfl)) rfl fun _ => rfl))) (fun hb => ?_) fun hb G2 H2 x2 => ?_
    · rw [decide_eq_true h0, decide_eq_true (show p.2 < i.len p.1 from hl)] at hb
      cases hb
    have x2 := x1.trans x2
    exact s_ret (.mk0 x2.sub) (ev_meth (i := (i, p)) trivial (n := 0) trivial rfl (isI_web fun _ _ _ _ _ => by rfl) (ev_var rfl (mo_same x2.gs e1)) (ea_cons (ev_imp (ev_tup (ea_cons (ev_var (P := StrA p.1) rfl rfl) (ea_cons (ev_var (P := IntA p.2) rfl rfl) ea_nil))) fun H v h => plA_of h) ea_nil)) fun v G3 H3 x3 => k v G3 H3 (x2.trans x3)
/-- w.spots -/
def spSpots (K : PySem.W.Frag) : Sp := spOf 0 (ι := WebD) (fun i => WebGood i) (fun i => [WebA K i]) (fun i => Is (.int ((spotsL i.m).length : Nat)))
theorem ok_Web_spots (T : Tx K mg) : Good P w K mg base 1 (He5.wf K (ga K "Web") "property" "spots") ["self"] (spSpots K) := by
  refine good_of T.d_Web_spots sc_Web_spots (fun fd F => FunD.bindsN F fun _ _ _ _ _ _ us hl => match us, hl with | [_], _ => rfl) (fun vs H Q E h => ?_) (fun cdv A outer s H vs Q E hr h => ?_)
  · obtain ⟨i, G, _, _, _, al, _⟩ := h
    exact al_len al rfl
  · obtain ⟨i, G0, hC, nl, sG, al, k⟩ := h
    have hu := hu_of hr
    have hmin := hr.units
    have f0 : Fr none G0 H := .mk0 sG
    obtain ⟨v, rfl, e1⟩ := al1 al
    have hC' : WebGood i := hC
    refine ⟨_, (pss_one (ps_ret (pe_op op_sub (pe_callB (cr_sum rfl) (by rfl) T.f_sum (by decide +kernel) (pa_cons (pe_lc (own := [("name", 1), ("length", 2), ("step", 3)]) (g := (gTup K 3 (gCons (gName 1) (gCons (gName 2) (gCons (gName 3) gNil))))) (by rfl) sc_Web_spots.nd (pi_tup (pe_fld (pv 0) (by rfl))) (blkOk_by (N := N_Web_spots) (sc := defScope s_Web_spots) (by decide +kernel)) (fun _ _ _ _ _ => (pg_tup rfl (pgs_cons (pg_name (i := 1) sc_Web_spots.nd rfl (Or.inl rfl)) (pgs_cons (pg_name (i := 2) sc_Web_spots.nd rfl (Or.inl rfl)) (pgs_cons (pg_name (i := 3) sc_Web_spots.nd rfl (Or.inl rfl)) pgs_nil))))) (fun _ _ _ _ _ => pts_nil) (fun _ _ _ _ _ => (pv 2))) pa_nil)) (pe_callB call_len_seq (by rfl) T.f_len PySem.boot_len (pa_cons (pe_fld (pv 0) (by rfl)) pa_nil))))), ?_⟩
    refine s_ret f0 (ev_is (ev_i0 (i := (i.rings.map (·.2.1)).sum) (j := (i.joints.length : Nat)) (ev_sumI (ev_lcM (R := RingA) (R' := fun b => Is (.int b)) (l := i.rings) (fun r : Nm × Int × Int => r.2.1) (src_tup (ev_fld (fd_rings T) (ev_var rfl e1))) (by have := hC'.few; omega) fun r hr x G' H' g f rx Q k2 => tg3 rx f.sub fun v1 v2 v3 h1 h2 h3 => k2 _ rfl (ev_var rfl h2))) (ev_len (ev_imp (ev_fld (fd_joints T) (ev_var rfl e1)) seqN_tu))) ?_) k
    rw [hC'.cnt]
/-! ### webs compared -/
def ringD (r : Nm × Int × Int) : PyData := .tuple [.str r.1, .int r.2.1, .int r.2.2]
def jointD (r : Nm × Int × Nm × Int) : PyData := .tuple [.str r.1, .int r.2.1, .str r.2.2.1, .int r.2.2.2]
theorem dp_all {β : Type} {R : β → Hp → V → Prop} {D : β → PyData} {H : Hp} (h : ∀ b v, R b H v → Dp K H v (D b)) : ∀ {l : List β} {vs : List V}, Paired (fun b u => R b H u) l vs → DpAll K H vs (l.map D)
  | _, _, .nil => .nil
  | _, _, .cons a t => .cons (h _ _ a) (dp_all h t)
theorem ring_dp (r : Nm × Int × Int) {H : Hp} {v : V} (h : RingA r H v) : Dp K H v (ringD r) := by
  obtain ⟨a, vs, rfl, h, al⟩ := h
  obtain ⟨_, _, _, rfl, h1, h2, h3⟩ := al3 al
  cases h1
  cases h2
  cases h3
  exact .tup (SqT.of h) (.cons (.str _) (.cons (.int _) (.cons (.int _) .nil)))
theorem joint_dp (r : Nm × Int × Nm × Int) {H : Hp} {v : V} (h : JointA r H v) : Dp K H v (jointD r) := by
  obtain ⟨a, vs, rfl, h, al⟩ := h
  obtain ⟨_, _, _, _, rfl, h1, h2, h3, h4⟩ := al4 al
  cases h1
  cases h2
  cases h3
  cases h4
  exact .tup (SqT.of h) (.cons (.str _) (.cons (.int _) (.cons (.str _) (.cons (.int _) .nil))))
theorem can_all {l : List PyData} (h : ∀ d, d ∈ l → PyData.canLay0 d = true ∧ d.depth ≤ 1) : SeqAt.shaped (.tuple l) = true := by
  unfold SeqAt.shaped
  have h1 : PyData.canLayAll0 l = true ∧ PyData.depthAll l ≤ 1 := by
    induction l with
    | nil => exact ⟨by rw [PyData.canLayAll0], by rw [PyData.depthAll]; omega⟩
    | cons x l ih =>
      have a := h x List.mem_cons_self
      have b := ih fun d hd => h d (List.mem_cons_of_mem _ hd)
      exact ⟨by rw [PyData.canLayAll0, a.1, b.1]; rfl, by rw [PyData.depthAll]; omega⟩
  rw [PyData.canLay0, h1.1, PyData.depth]
  have : PyData.depthAll l + 1 ≤ 64 ∨ True := .inr trivial
  simp
  omega
/-- two webs of the same data -/
def spEq (K : PySem.W.Frag) : Sp := spOf 0 (ι := WebD) (fun i => WebGood i) (fun i => [WebA K i, WebA K i]) (fun i => Is (.bl true))
theorem ok_WebU_eqU (T : Tx K mg) : Good P w K mg base 1 (ma K (ga K "Web") "__eq__") ["self", "other"] (spEq K) := by
  refine good_of T.d_WebU_eqU sc_WebU_eqU (fun fd F => FunD.bindsN F fun _ _ _ _ _ _ us hl => match us, hl with | [_, _], _ => rfl) (fun vs H Q E h => ?_) (fun cdv A outer s H vs Q E hr h => ?_)
  · obtain ⟨i, G, _, _, _, al, _⟩ := h
    exact al_len al rfl
  · obtain ⟨i, G0, hC, nl, sG, al, k⟩ := h
    have hu := hu_of hr
    have hmin := hr.units
    have f0 : Fr none G0 H := .mk0 sG
    obtain ⟨v, u, rfl, e1, e2⟩ := al2 al
    have hC' : WebGood i := hC
    refine ⟨_, (pss_one (ps_ret (pe_and (pe_callB call_isi (by rfl) T.f_isinstance (by decide +kernel) (pa_cons (pv 1) (pa_cons (pe_glob (v := .ref (ga K "Web")) (by rfl) T.g_Web rfl) pa_nil))) (pe_and (pe_cmpR (op_eqD hr.units) (pe_fld (pv 0) (by rfl)) (pe_fld (pv 1) (by rfl)) (nomark _)) (pe_one (pe_cmpR (op_eqD hr.units) (pe_fld (pv 0) (by rfl)) (pe_fld (pv 1) (by rfl)) (nomark _))))))), ?_⟩
    have sr : SeqAt.shaped (.tuple (i.rings.map ringD)) = true := can_all fun d hd => by
      obtain ⟨r, hr, rfl⟩ := List.mem_map.mp hd
      have := hC'.str r.1 (List.mem_map.mpr ⟨r, hr, rfl⟩)
      unfold ringD
      simp [PyData.canLay0, PyData.canLayAll0, PyData.depth, PyData.depthAll, this]
    have sj : SeqAt.shaped (.tuple (i.joints.map jointD)) = true := can_all fun d hd => by
      obtain ⟨r, hr, rfl⟩ := List.mem_map.mp hd
      have := hC'.jstr r hr
      unfold jointD
      simp [PyData.canLay0, PyData.canLayAll0, PyData.depth, PyData.depthAll, this]
    refine s_ret f0 (ev_andV (b := true) (c := true) ?_ fun _ => ev_andV (b := true) (c := true) ?_ fun _ => ?_) k
    · refine ev_cb (ea_cons (ev_var rfl e2) (ea_cons (ev_c (v := .ref (ga K "Web"))) ea_nil)) fun G1 H1 vs g f al Q k2 => ?_
      obtain ⟨_, _, rfl, a1, a2⟩ := al2 al
      cases a2
      obtain ⟨a, dx, r, j, l, s, m, rfl, h0, _⟩ := a1
      exact ⟨_, _, _, _, true, rfl, .own _, .base (.ins (f.sub _ _ h0) T.c_Web T.q_cls1 T.q_cls2 T.q_cls3 T.q_obj), T.q_kit, k2 _ G1 H1 (Ext.rfl' f) rfl⟩
    · have := ev_eqD (K := K) (ev_fld (M := none) (G := G0) (fd_rings T) (ev_var (σ := start N_WebU_eqU [v, u]) (i := 0) rfl e1)) (ev_fld (fd_rings T) (ev_var (σ := start N_WebU_eqU [v, u]) (i := 1) rfl e2)) (d := .tuple (i.rings.map ringD)) (e := .tuple (i.rings.map ringD)) (fun H H' v s h => ?_) (fun H H' v s h => ?_) sr sr
      · rw [SeqAt.eqv_refl _ (SeqAt.canLay_of_shaped sr)] at this
        exact this
      all_goals
        obtain ⟨a, vs, rfl, h1, h2⟩ := mo_same (P := TuA RingA i.rings) s h
        exact .tup (SqT.of h1) (dp_all (fun b v hb => ring_dp b hb) h2)
    · have := ev_eqD (K := K) (ev_fld (M := none) (G := G0) (fd_joints T) (ev_var (σ := start N_WebU_eqU [v, u]) (i := 0) rfl e1)) (ev_fld (fd_joints T) (ev_var (σ := start N_WebU_eqU [v, u]) (i := 1) rfl e2)) (d := .tuple (i.joints.map jointD)) (e := .tuple (i.joints.map jointD)) (fun H H' v s h => ?_) (fun H H' v s h => ?_) sj sj
      · rw [SeqAt.eqv_refl _ (SeqAt.canLay_of_shaped sj)] at this
        exact this
      all_goals
        obtain ⟨a, vs, rfl, h1, h2⟩ := mo_same (P := TuA JointA i.joints) s h
        exact .tup (SqT.of h1) (dp_all (fun b v hb => joint_dp b hb) h2)
end
end MR
/-! Forms: what stands for one; the small defs. -/
namespace MR
open PySem PySem.Spec PyProof.Rows L2 He
structure FormD where
  web : WebD
  push : List (Nm × Int)
  goals : List (Pl × Pl)
  org : List (Pl × Pl)
def pOf (push : List (Nm × Int)) (n : Nm) : Int := (lk push n).getD 0
def FormD.ps (fd : FormD) : Nm → Int := pOf fd.push
structure PushOk (w : WebD) (push : List (Nm × Int)) : Prop where
  key : push.map (·.1) = w.names
  range : ∀ n, n ∈ w.names → 0 ≤ pOf push n ∧ pOf push n < w.len n
structure FormGood (fd : FormD) (f g : Pl → Pl) : Prop where
  web : WebGood fd.web
  form : FormOk fd.web.m fd.ps fd.goals f g
  push : PushOk fd.web fd.push
  org1 : ∀ a b, (a, b) ∈ fd.goals → lk fd.org b = some a
  org2 : ∀ a b, lk fd.org b = some a → (a, b) ∈ fd.goals
  few : fd.goals.length < 90000
def fsForm (w p g o : V) : List (Str × V) := [("web", w), ("pushes", p), ("goals", g), ("origins", o)]
def FormA (K : PySem.W.Frag) (fd : FormD) : Hp → V → Prop := fun H v => ∃ a dx w p g o, v = .ref a ∧ H a = some (.ins (ga K "Form") dx (fsForm w p g o)) ∧ WebA K fd.web H w ∧ DcK kN IntA fd.push H p ∧ DcT PlA fd.goals H g ∧ DcT PlA fd.org H o
instance {K : PySem.W.Frag} {fd : FormD} : Mo (FormA K fd) := ⟨fun e h => by
  obtain ⟨a, dx, w, p, g, o, rfl, h0, h1, h2, h3, h4⟩ := h
  exact ⟨a, dx, w, p, g, o, rfl, e.ins h0, Mo.up e h1, Mo.up e h2, Mo.up e h3, Mo.up e h4⟩⟩
/-- what plain asks of a form -/
def FormP (K : PySem.W.Frag) (w : WebD) (push : List (Nm × Int)) : Hp → V → Prop := fun H v => ∃ a dx fs wv p, v = .ref a ∧ H a = some (.ins (ga K "Form") dx fs) ∧ fs.lookup ("web" : Str) = some wv ∧ fs.lookup ("pushes" : Str) = some p ∧ fs.lookup ("plain" : Str) = none ∧ WebA K w H wv ∧ DcK kN IntA push H p
instance {K : PySem.W.Frag} {w : WebD} {push : List (Nm × Int)} : Mo (FormP K w push) := ⟨fun e h => by
  obtain ⟨a, dx, fs, wv, p, rfl, h0, h1, h2, h3, h4, h5⟩ := h
  exact ⟨a, dx, fs, wv, p, rfl, e.ins h0, h1, h2, h3, Mo.up e h4, Mo.up e h5⟩⟩
section
variable {P : Program} {w : World} {K : PySem.W.Frag} {mg : Str → Option Value} {base : Heap} {fd : FormD} {wd : WebD} {push : List (Nm × Int)}
theorem formP_of : ∀ H v, FormA K fd H v → FormP K fd.web fd.push H v := fun H v ⟨a, dx, w, p, g, o, e, h0, h1, h2, _⟩ => ⟨a, dx, _, w, p, e, h0, by rfl, by rfl, by rfl, h1, h2⟩
theorem fd_web (T : Tx K mg) : Fd K "web" (FormA K fd) (WebA K fd.web) := fun H v ⟨a, dx, w, p, g, o, e, h0, h1, h2, h3, h4⟩ => ⟨a, _, dx, _, w, e, h0, T.c_Form, T.n_Form_web, by rfl, h1⟩
theorem fd_push (T : Tx K mg) : Fd K "pushes" (FormA K fd) (DcK kN IntA fd.push) := fun H v ⟨a, dx, w, p, g, o, e, h0, h1, h2, h3, h4⟩ => ⟨a, _, dx, _, p, e, h0, T.c_Form, T.n_Form_pushes, by rfl, h2⟩
theorem fd_goals (T : Tx K mg) : Fd K "goals" (FormA K fd) (DcT PlA fd.goals) := fun H v ⟨a, dx, w, p, g, o, e, h0, h1, h2, h3, h4⟩ => ⟨a, _, dx, _, g, e, h0, T.c_Form, T.n_Form_goals, by rfl, h3⟩
theorem fd_org (T : Tx K mg) : Fd K "origins" (FormA K fd) (DcT PlA fd.org) := fun H v ⟨a, dx, w, p, g, o, e, h0, h1, h2, h3, h4⟩ => ⟨a, _, dx, _, o, e, h0, T.c_Form, T.n_Form_origins, by rfl, h4⟩
theorem fp_web (T : Tx K mg) : Fd K "web" (FormP K wd push) (WebA K wd) := fun H v ⟨a, dx, fs, wv, p, e, h0, h1, h2, h3, h4, h5⟩ => ⟨a, _, dx, _, wv, e, h0, T.c_Form, T.n_Form_web, h1, h4⟩
theorem fp_push (T : Tx K mg) : Fd K "pushes" (FormP K wd push) (DcK kN IntA push) := fun H v ⟨a, dx, fs, wv, p, e, h0, h1, h2, h3, h4, h5⟩ => ⟨a, _, dx, _, p, e, h0, T.c_Form, T.n_Form_pushes, h2, h5⟩
theorem isI_form {m : Str} (h : ∀ r j l s : V, (fsForm r j l s).lookup m = none) : ∀ H v, FormA K fd H v → IsI (ga K "Form") m H v := fun H v ⟨a, dx, r, j, l, s, e, h0, _⟩ => ⟨a, dx, _, e, h0, h r j l s⟩
theorem isI_plain : ∀ H v, FormP K wd push H v → IsI (ga K "Form") "plain" H v := fun H v ⟨a, dx, fs, wv, p, e, h0, h1, h2, h3, _⟩ => ⟨a, dx, _, e, h0, h3⟩
theorem PushOk.at_ (h : PushOk wd push) {n : Nm} (hn : n ∈ wd.names) : lk push n = some (pOf push n) := by
  have := lk_some.mpr (show n ∈ push.map (·.1) by rw [h.key]; exact hn)
  unfold pOf
  cases q : lk push n with
  | none => exact absurd q this
  | some p => rfl
theorem PushOk.bits (h : PushOk wd push) (W : WebGood wd) {n : Nm} (hn : n ∈ wd.names) : (pOf push n).natAbs < 2 ^ 104 := by
  have := h.range n hn
  have := W.big n hn
  omega
theorem len_bits (W : WebGood wd) {n : Nm} (hn : n ∈ wd.names) : 0 < wd.len n := W.ok.pos n hn
/-- form.plain(spot, times) -/
def spPlain (K : PySem.W.Frag) : Sp := spOf 0 (ι := WebD × List (Nm × Int) × Pl × Int) (fun i => WebGood i.1 ∧ PushOk i.1 i.2.1 ∧ i.2.2.1.1 ∈ i.1.names ∧ i.2.2.2.natAbs < 2 ^ 200) (fun i => [FormP K i.1 i.2.1, PlA i.2.2.1, IntA i.2.2.2]) (fun i => PlA (i.1.m.plain (pOf i.2.1) i.2.2.1 i.2.2.2))
theorem ok_Form_plain (T : Tx K mg) : Good P w K mg base 2 (ma K (ga K "Form") "plain") ["self", "spot", "times"] (spPlain K) := by
  obtain ⟨⟨fd_Web_told, G_Web_told, b_Web_told⟩, k_Web_told⟩ := ok_Web_told (P := P) (w := w) (base := base) T
  refine good_of T.d_Form_plain sc_Form_plain (fun fd F => FunD.bindsN F fun _ _ _ _ _ _ us hl => match us, hl with | [_, _, _], _ => rfl) (fun vs H Q E h => ?_) (fun cdv A outer s H vs Q E hr h => ?_)
  · obtain ⟨i, G, _, _, _, al, _⟩ := h
    exact al_len al rfl
  · obtain ⟨i, G0, hC, nl, sG, al, k⟩ := h
    have hu := hu_of hr
    have hmin := hr.units
    have f0 : Fr none G0 H := .mk0 sG
    obtain ⟨v, u, u2, rfl, e1, e2, e3⟩ := al3 al
    obtain ⟨wd, push, s, t⟩ := i
    obtain ⟨hW, hP, hn, ht⟩ := hC
    dsimp only at hW hP hn ht e1 e2 e3
    cases e3
    refine ⟨_, (pss_cons (ps_asg (pv 1) (pg_tup rfl (pgs_cons (pg_name (i := 3) sc_Form_plain.nd rfl (Or.inl rfl)) (pgs_cons (pg_name (i := 4) sc_Form_plain.nd rfl (Or.inl rfl)) pgs_nil))))
    (pss_one (ps_ret (pe_meth (pe_fld (pv 0) (by rfl)) T.c_Web T.m_Web_told G_Web_told (hr.mono (by decide)) b_Web_told .nil pass0 (pa_cons (pe_tup (pa_cons (pv 3) (pa_cons (pe_op op_mod (pe_op op_add (pv 4) (pe_op op_mulX (pv 2) (pe_dget hu (pe_fld (pv 0) (by rfl)) (pv 3) (fun _ _ => rfl)))) (pe_dget hu (pe_fld (pe_fld (pv 0) (by rfl)) (by rfl)) (pv 3) (fun _ _ => rfl))) pa_nil))) pa_nil))))), ?_⟩
    refine q_asgG f0 (ev_var rfl (plA_tup e2)) fun v1 G1 H1 x1 h1 => tg2 h1 x1.sub fun v2 v3 h2 h3 => ?_
    cases h2
    cases h3
    have e1' := mo_same x1.gs e1
    have hl := hW.len s.1 hn
    refine s_ret (.mk0 x1.sub) (ev_meth (i := (wd, (s.1, (s.2 + t * pOf push s.1) % wd.len s.1))) trivial (n := 0) trivial rfl (isI_web fun _ _ _ _ _ => by rfl) (ev_fld (fp_web T) (ev_var rfl e1')) (ea_cons (ev_imp (ev_tup (ea_cons (ev_var (P := StrA s.1) rfl rfl) (ea_cons (P := IntA ((s.2 + t * pOf push s.1) % wd.len s.1)) ?_ ea_nil))) fun H v h => plA_of h) ea_nil)) fun v4 G2 H2 x2 => k v4 G2 H2 (x1.trans x2)
    exact ev_i (i := s.2 + t * pOf push s.1) (j := wd.len s.1) (ev_i0 (i := s.2) (j := t * pOf push s.1) (ev_var rfl rfl) (ev_i (i := t) (j := pOf push s.1) (ev_var rfl rfl) (ev_getK (R := IntA) kN_inj s.1 (hP.at_ hn) (ev_fld (fp_push T) (ev_var rfl e1')) (ev_var rfl rfl)) (mulx_ok ht (hP.bits hW hn) (by decide)))) (ev_getK (R := IntA) kN_inj s.1 hl (ev_fld (fd_lengths T) (ev_fld (fp_web T) (ev_var rfl e1'))) (ev_var rfl rfl)) (len_bits hW hn)
/-- a form and a spot, a spot out -/
structure FIx where
  fd : FormD
  f : Pl → Pl
  g : Pl → Pl
  s : Pl
theorem FormGood.at_key {f g : Pl → Pl} (F : FormGood fd f g) {s b : Pl} (h : lk fd.goals s = some b) : b = f s := (F.form.in_ s b (lk_mem h)).2
theorem FormGood.no_key {f g : Pl → Pl} (F : FormGood fd f g) {s : Pl} (hs : fd.web.m.Spot s) (h : lk fd.goals s = none) : f s = fd.web.m.plain fd.ps s 1 := (F.form.out s hs (lk_none.mp h)).2
def spGoal (K : PySem.W.Frag) : Sp := spOf 0 (ι := FIx) (fun i => FormGood i.fd i.f i.g ∧ i.fd.web.m.Spot i.s) (fun i => [FormA K i.fd, PlA i.s]) (fun i => PlA (i.f i.s))
theorem ok_Form_goal (T : Tx K mg) : Good P w K mg base 3 (ma K (ga K "Form") "goal") ["self", "spot"] (spGoal K) := by
  obtain ⟨⟨fd_Form_plain, G_Form_plain, b_Form_plain⟩, k_Form_plain⟩ := ok_Form_plain (P := P) (w := w) (base := base) T
  refine good_of T.d_Form_goal sc_Form_goal (fun fd F => FunD.bindsN F fun _ _ _ _ _ _ us hl => match us, hl with | [_, _], _ => rfl) (fun vs H Q E h => ?_) (fun cdv A outer s H vs Q E hr h => ?_)
  · obtain ⟨i, G, _, _, _, al, _⟩ := h
    exact al_len al rfl
  · obtain ⟨i, G0, hC, nl, sG, al, k⟩ := h
    have hu := hu_of hr
    have hmin := hr.units
    have f0 : Fr none G0 H := .mk0 sG
    obtain ⟨v, u, rfl, e1, e2⟩ := al2 al
    obtain ⟨fd, f, g, s⟩ := i
    obtain ⟨hF, hs⟩ := hC
    dsimp only at hF hs e1 e2
    refine ⟨_, (pss_one (ps_ret (pe_ifExp (pt_cmp (pc_din hu (pv 1) (pe_fld (pv 0) (by rfl)))) (pe_dget hu (pe_fld (pv 0) (by rfl)) (pv 1) (fun _ _ => rfl)) (pe_meth (pv 0) T.c_Form T.m_Form_plain G_Form_plain (hr.mono (by decide)) b_Form_plain .nil pass0 (pa_cons (pv 1) (pa_cons pe_int pa_nil)))))), ?_⟩
    refine s_ret f0 (ev_if (et_B (ev_inT (R := PlA) s (ev_var rfl e2) (ev_fld (fd_goals T) (ev_var rfl e1)))) (fun hb => ?_) fun hb => ?_) k
    · cases q : lk fd.goals s with
      | none =>
        rw [q] at hb
        cases hb
      | some b =>
        have := hF.at_key q
        dsimp only
        rw [← this]
        exact ev_getT (R := PlA) s q (ev_fld (fd_goals T) (ev_var rfl e1)) (ev_var rfl e2)
    · cases q : lk fd.goals s with
      | some b =>
        rw [q] at hb
        cases hb
      | none =>
        dsimp only
        rw [hF.no_key hs q]
        exact ev_meth (i := (fd.web, fd.push, s, 1)) ⟨hF.web, hF.push, hs.1.1, (by decide : (1 : Int).natAbs < 2 ^ 200)⟩ (n := 0) trivial rfl isI_plain (ev_imp (ev_var rfl e1) formP_of) (ea_cons (ev_var rfl e2) (ea_cons (P := IntA 1) ev_c ea_nil))
/-- form(place) -/
def spCallF (K : PySem.W.Frag) : Sp := spOf 0 (ι := FIx) (fun i => FormGood i.fd i.f i.g ∧ i.fd.web.m.Val i.s) (fun i => [FormA K i.fd, PlA i.s]) (fun i => PlA (i.f (i.fd.web.told i.s)))
theorem ok_FormU_callU (T : Tx K mg) : Good P w K mg base 4 (ma K (ga K "Form") "__call__") ["self", "spot"] (spCallF K) := by
  obtain ⟨⟨fd_Form_goal, G_Form_goal, b_Form_goal⟩, k_Form_goal⟩ := ok_Form_goal (P := P) (w := w) (base := base) T
  obtain ⟨⟨fd_Web_checked, G_Web_checked, b_Web_checked⟩, k_Web_checked⟩ := ok_Web_checked (P := P) (w := w) (base := base) T
  refine good_of T.d_FormU_callU sc_FormU_callU (fun fd F => FunD.bindsN F fun _ _ _ _ _ _ us hl => match us, hl with | [_, _], _ => rfl) (fun vs H Q E h => ?_) (fun cdv A outer s H vs Q E hr h => ?_)
  · obtain ⟨i, G, _, _, _, al, _⟩ := h
    exact al_len al rfl
  · obtain ⟨i, G0, hC, nl, sG, al, k⟩ := h
    have hu := hu_of hr
    have hmin := hr.units
    have f0 : Fr none G0 H := .mk0 sG
    obtain ⟨v, u, rfl, e1, e2⟩ := al2 al
    obtain ⟨fd, f, g, s⟩ := i
    obtain ⟨hF, hs⟩ := hC
    dsimp only at hF hs e1 e2
    refine ⟨_, (pss_one (ps_ret (pe_meth (pv 0) T.c_Form T.m_Form_goal G_Form_goal (hr.mono (by decide)) b_Form_goal .nil pass0 (pa_cons (pe_meth (pe_fld (pv 0) (by rfl)) T.c_Web T.m_Web_checked G_Web_checked (hr.mono (by decide)) b_Web_checked .nil pass0 (pa_cons (pv 1) pa_nil)) pa_nil)))), ?_⟩
    refine s_ret f0 (ev_meth (i := (⟨fd, f, g, fd.web.told s⟩ : FIx)) ⟨hF, hF.web.ok.spot hs⟩ (n := 0) trivial rfl (isI_form fun _ _ _ _ => by rfl) (ev_var rfl e1) (ea_cons (ev_meth (i := (fd.web, s)) ⟨hF.web, hs⟩ (n := 0) trivial rfl (isI_web fun _ _ _ _ _ => by rfl) (ev_fld (fd_web T) (ev_var rfl e1)) (ea_cons (ev_var rfl e2) ea_nil)) ea_nil)) k
theorem placesL_val (W : WebGood wd) {s q : Pl} (hs : wd.m.Spot s) (h : q ∈ wd.placesL s) : wd.m.Val q ∧ wd.told q = s := by
  have e : wd.told s = s := hs.2
  unfold WebD.placesL at h
  rw [e] at h
  cases c : lk wd.mates s with
  | none =>
    rw [c] at h
    rcases List.mem_cons.mp h with rfl | h
    · exact hs
    · cases h
  | some m =>
    rw [c] at h
    rcases List.mem_cons.mp h with rfl | h
    · exact hs
    · rcases List.mem_cons.mp h with rfl | h
      · have hv := W.ok.mate_val s q c
        refine ⟨hv.2, ?_⟩
        have := W.ok.told_eq s q c
        exact this.symm.trans e
      · cases h
theorem placesL_mem (W : WebGood wd) {s q : Pl} (hs : wd.m.Spot s) (hq : wd.m.Val q) (e : wd.told q = s) : q ∈ wd.placesL s := by
  have es : wd.told s = s := hs.2
  unfold WebD.placesL
  rw [es]
  rcases W.ok.same_spot (p := q) (q := s) (e.trans es.symm) with rfl | h
  · cases c : lk wd.mates q <;> exact List.mem_cons_self
  · have h2 : lk wd.mates s = some q := W.ok.mate_symm q s h
    rw [h2]
    exact List.mem_cons_of_mem _ List.mem_cons_self
theorem placesL_few (w : WebD) (s : Pl) : (w.placesL s).length ≤ 2 := by
  unfold WebD.placesL
  split <;> simp
/-- form.origin(spot) -/
def spOrigin (K : PySem.W.Frag) : Sp := spOf 0 (ι := FIx) (fun i => FormGood i.fd i.f i.g ∧ i.fd.web.m.Spot i.s) (fun i => [FormA K i.fd, PlA i.s]) (fun i => PlA (i.g i.s))
theorem ok_Form_origin (T : Tx K mg) : Good P w K mg base 4 (ma K (ga K "Form") "origin") ["self", "spot"] (spOrigin K) := by
  obtain ⟨⟨fd_Web_places, G_Web_places, b_Web_places⟩, k_Web_places⟩ := ok_Web_places (P := P) (w := w) (base := base) T
  obtain ⟨⟨fd_Web_told, G_Web_told, b_Web_told⟩, k_Web_told⟩ := ok_Web_told (P := P) (w := w) (base := base) T
  refine good_of T.d_Form_origin sc_Form_origin (fun fd F => FunD.bindsN F fun _ _ _ _ _ _ us hl => match us, hl with | [_, _], _ => rfl) (fun vs H Q E h => ?_) (fun cdv A outer s H vs Q E hr h => ?_)
  · obtain ⟨i, G, _, _, _, al, _⟩ := h
    exact al_len al rfl
  · obtain ⟨i, G0, hC, nl, sG, al, k⟩ := h
    have hu := hu_of hr
    have hmin := hr.units
    have f0 : Fr none G0 H := .mk0 sG
    obtain ⟨v, u, rfl, e1, e2⟩ := al2 al
    obtain ⟨fd, f, g, s⟩ := i
    obtain ⟨hF, hs⟩ := hC
    dsimp only at hF hs e1 e2 k
    have o := hF.web.ok
    refine ⟨_, (pss_cons (ps_if (pt_cmp (pc_din hu (pv 1) (pe_fld (pv 0) (by rfl)))) (pss_one (ps_ret (pe_dget hu (pe_fld (pv 0) (by rfl)) (pv 1) (fun _ _ => rfl)))) pss_nil)
    (pss_cons (ps_set (i := 2) sc_Form_origin.nd rfl (Or.inl rfl) (pv 1))
    (pss_cons (ps_for PassesOwn.never rfl (pi_list (pe_meth (pe_fld (pv 0) (by rfl)) T.c_Web T.m_Web_places G_Web_places (hr.mono (by decide)) b_Web_places .nil pass0 (pa_cons (pv 1) pa_nil))) (pg_tup rfl (pgs_cons (pg_name (i := 3) sc_Form_origin.nd rfl (Or.inl rfl)) (pgs_cons (pg_name (i := 4) sc_Form_origin.nd rfl (Or.inl rfl)) pgs_nil)))
    (pss_cons (ps_set (i := 5) sc_Form_origin.nd rfl (Or.inl rfl) (pe_meth (pe_fld (pv 0) (by rfl)) T.c_Web T.m_Web_told G_Web_told (hr.mono (by decide)) b_Web_told .nil pass0 (pa_cons (pe_tup (pa_cons (pv 3) (pa_cons (pe_op op_mod (pe_op op_sub (pv 4) (pe_dget hu (pe_fld (pv 0) (by rfl)) (pv 3) (fun _ _ => rfl))) (pe_dget hu (pe_fld (pe_fld (pv 0) (by rfl)) (by rfl)) (pv 3) (fun _ _ => rfl))) pa_nil))) pa_nil)))
    (pss_one (ps_if (pt_cmp (pc_dnotin hu (pv 5) (pe_fld (pv 0) (by rfl)))) (pss_one (ps_set (i := 2) sc_Form_origin.nd rfl (Or.inl rfl) (pv 5))) pss_nil))))
    (pss_one (ps_ret (pv 2)))))), ?_⟩
    refine q_when f0 (et_B (ev_inT (R := PlA) s (ev_var rfl e2) (ev_fld (fd_org T) (ev_var rfl e1)))) (fun hb G1 H1 x1 => ?_) fun hb G1 H1 x1 => ?_
    · cases q : lk fd.org s with
      | none =>
        rw [q] at hb
        cases hb
      | some a =>
        have ha := hF.org2 a s q
        have eg : a = g s := by
          have h1 := hF.form.in_ a s ha
          rw [h1.2, hF.form.bij.gf a h1.1]
        refine s_ret (P := PlA (g s)) (.mk0 x1.sub) (by rw [← eg]; exact ev_getT (R := PlA) s q (ev_fld (fd_org T) (ev_var rfl (mo_same x1.gs e1))) (ev_var rfl (mo_same x1.gs e2))) fun v G2 H2 x2 => k v G2 H2 (x1.trans x2)
    · have nk : g s ∉ keysOf fd.goals := fun z => by
        have h1 := hF.form.toTells.key z
        rw [hF.form.bij.fg s hs] at h1
        rw [hF.org1 _ _ h1] at hb
        cases hb
      refine q_asg (P := PlA s) (.mk0 x1.sub) (ev_var rfl (mo_same x1.gs e2)) fun v2 G2 H2 x2 h2 => ?_
      have x2 := x1.trans x2
      refine seq_ (p_for (l := fd.web.placesL s) (R := PlA) (.mk0 x2.sub) (src_lst (ev_meth (i := (fd.web, s)) ⟨hF.web, hs.1⟩ (n := 0) trivial rfl (isI_web fun _ _ _ _ _ => by rfl) (ev_fld (fd_web T) (ev_var rfl (mo_same x2.gs e1))) (ea_cons (ev_var rfl (mo_same x2.gs e2)) ea_nil))) fun G3 H3 y3 => ?_)
      have x3 := x2.trans y3
      refine ⟨fun i σ' H' => ∃ (φ : Pl) (w0 : V) (s3 s4 s5 : Option V) (G : Hp), σ' = [some v, some u, some w0, s3, s4, s5] ∧ PlA φ G w0 ∧ Gw G3 G ∧ Ext none G0 H G H' ∧ ∀ q, q ∈ (fd.web.placesL s).take i → fd.web.told (q.1, (q.2 - fd.ps q.1) % fd.web.len q.1) ∉ keysOf fd.goals → φ = g s,
        ⟨s, v2, none, none, none, G3, rfl, mo_same y3.gs h2, Gw.rfl' _, x3, fun q hq => by cases hq⟩, ?_, ?_, ?_⟩
      · rintro i σ' H' ⟨φ, w0, s3, s4, s5, G, rfl, pw, gw, x, hq⟩
        exact gw.gs.trans x.sub
      · rintro i b σ1 H4 hbi ⟨φ, w0, s3, s4, s5, G, rfl, pw, gw, x, hq⟩ xv H5 hy
        obtain ⟨G5, x5, rb⟩ := hy G gw (.mk0 x.sub)
        refine tg2 (plA_tup rb) x5.sub fun v6 v7 h6 h7 => ?_
        cases h6
        cases h7
        have hv := placesL_val hF.web hs (List.mem_of_getElem? hbi)
        have hn : b.1 ∈ fd.web.names := hv.1.1
        have x5' := x.trans x5
        have e5 := mo_same x5'.gs e1
        refine q_asg (P := PlA (fd.web.told (b.1, (b.2 - fd.ps b.1) % fd.web.len b.1))) (.mk0 x5.sub) (ev_meth (i := (fd.web, (b.1, (b.2 - fd.ps b.1) % fd.web.len b.1))) trivial (n := 0) trivial rfl (isI_web fun _ _ _ _ _ => by rfl) (ev_fld (fd_web T) (ev_var rfl e5)) (ea_cons (ev_imp (ev_tup (ea_cons (ev_var (P := StrA b.1) rfl rfl) (ea_cons (P := IntA ((b.2 - fd.ps b.1) % fd.web.len b.1)) (ev_i (i := b.2 - fd.ps b.1) (j := fd.web.len b.1) (ev_i0 (i := b.2) (j := fd.ps b.1) (ev_var rfl rfl) (ev_getK (R := IntA) kN_inj b.1 (hF.push.at_ hn) (ev_fld (fd_push T) (ev_var rfl e5)) (ev_var rfl rfl))) (ev_getK (R := IntA) kN_inj b.1 (hF.web.len _ hn) (ev_fld (fd_lengths T) (ev_fld (fd_web T) (ev_var rfl e5))) (ev_var rfl rfl)) (len_bits hF.web hn)) ea_nil))) fun H v h => plA_of h) ea_nil)) fun v8 G6 H6 x6 h8 => ?_
        have x6' := x5'.trans x6
        have gw6 := gw.trans (x5.trans x6).gw
        have tk : (fd.web.placesL s).take (i + 1) = (fd.web.placesL s).take i ++ [b] := by
          rw [List.take_add_one, hbi]
          rfl
        refine s_when (.mk0 x6.sub) (et_B (ev_ninT (R := PlA) _ (ev_var rfl h8) (ev_fld (fd_goals T) (ev_var rfl (mo_same x6'.gs e1))))) (fun hb2 G7 H7 x7 => ?_) fun hb2 G7 H7 x7 => ?_
        · have nk2 : fd.web.told (b.1, (b.2 - fd.ps b.1) % fd.web.len b.1) ∉ keysOf fd.goals := by
            cases q : lk fd.goals (fd.web.told (b.1, (b.2 - fd.ps b.1) % fd.web.len b.1)) with
            | none => exact lk_none.mp q
            | some z =>
              rw [q] at hb2
              cases hb2
          have eo := hF.form.origin_of o (p := b) (s := s) hv.1 hv.2 nk2
          refine s_asg (P := PlA (g s)) (.mk0 x7.sub) (ev_var rfl ?_) fun v9 G8 H8 x8 h9 => ?_
          · have h8' := mo_same x7.gs h8
            have eo' : fd.web.told (b.1, (b.2 - fd.ps b.1) % fd.web.len b.1) = g s := eo
            rw [eo'] at h8'
            exact h8'
          · exact ⟨g s, v9, _, _, _, G8, rfl, h9, gw6.trans (x7.trans x8).gw, (x6'.trans x7).trans x8, fun _ _ _ => rfl⟩
        · refine ⟨φ, w0, _, _, _, G7, rfl, mo_same ((x5.trans x6).trans x7).gs pw, gw6.trans x7.gw, x6'.trans x7, fun q hq2 hn2 => ?_⟩
          rw [tk] at hq2
          rcases List.mem_append.mp hq2 with h | h
          · exact hq q h hn2
          · rw [List.mem_singleton] at h
            subst h
            rw [lk_none.mpr hn2] at hb2
            cases hb2
      · rintro σ' H' ⟨φ, w0, s3, s4, s5, G, rfl, pw, gw, x, hq⟩
        rw [List.take_length] at hq
        obtain ⟨p, p1, p2, p3⟩ := hF.form.origin_at o hs nk
        have ep : φ = g s := hq p (placesL_mem hF.web hs p1 p2) (by
          have p3' : fd.web.told (p.1, (p.2 - fd.ps p.1) % fd.web.len p.1) = g s := p3
          rw [p3']
          exact nk)
        subst ep
        exact s_ret (P := PlA (g s)) (.mk0 x.sub) (ev_var rfl pw) fun v G2 H2 x2 => k v G2 H2 (x.trans x2)
end
end MR
/-! Form.__init__ -/
namespace MR
open PySem PySem.Spec PyProof.Rows L2 He
theorem names_nd {wd : WebD} (W : WebGood wd) : wd.names.Nodup := W.ok.nd
/-- an instance as it stands -/
def InsP (x C dx : Addr) (fs : List (Str × V)) : Hp → V → Prop := fun H v => v = .ref x ∧ H x = some (.ins C dx fs)
instance {x C dx : Addr} {fs : List (Str × V)} : Mo (InsP x C dx fs) := ⟨fun e h => ⟨h.1, e.ins h.2⟩⟩
theorem plain_str {wd : WebD} (W : WebGood wd) {s : Pl} (h : wd.m.Spot s) : PyData.strOk s.1 = true := W.str _ h.1.1
/-- the table that __init__ keeps, turned round -/
theorem swap_nd {wd : WebD} {push : Nm → Int} {tab : List (Pl × Pl)} {f g : Pl → Pl} (F : Tells wd.m push tab f g) : ((tab.map fun q => (q.2, q.1)).map (·.1)).Nodup := by
  rw [List.map_map]
  refine map_nodup (fun a ha b hb e => ?_) (nodup_of_keys F.nd)
  have h1 := F.in_ a.1 a.2 ha
  have h2 := F.in_ b.1 b.2 hb
  have e' : a.2 = b.2 := e
  have : a.1 = b.1 := F.bij.inj h1.1 h2.1 (by rw [← h1.2, ← h2.2, e'])
  exact Prod.ext this e'
/-- what Form.__init__ is given -/
structure InI where
  wd : WebD
  sh : List (Nm × Int)
  goes : List (Pl × Pl)
  push : Nm → Int
  f : Pl → Pl
  g : Pl → Pl
structure InOk (i : InI) : Prop where
  web : WebGood i.wd
  sh : ∀ n, n ∈ i.wd.names → lk i.sh n = some (i.push n)
  tells : Tells i.wd.m i.push i.goes i.f i.g
  few : i.goes.length < 90000
def InR (K : PySem.W.Frag) (i : InI) : Hp → V → Prop := fun H v => ∃ fd, FormA K fd H v ∧ FormGood fd i.f i.g ∧ fd.web = i.wd ∧ (∀ n, n ∈ i.wd.names → fd.ps n = i.push n % i.wd.len n) ∧ fd.goals.length ≤ i.goes.length
section
variable {P : Program} {w : World} {K : PySem.W.Frag} {mg : Str → Option Value} {base : Heap}
def spFormI (K : PySem.W.Frag) : Sp := spIni 2 (ga K "Form") (ι := InI) InOk (fun i => [WebA K i.wd, DcK kN IntA i.sh, DcT PlA i.goes]) (InR K)
theorem ok_FormU_initU (T : Tx K mg) : Good P w K mg base 3 (ma K (ga K "Form") "__init__") ["self", "web", "shifts", "goes"] (spFormI K) := by
  obtain ⟨⟨fd_Web_names, G_Web_names, b_Web_names⟩, k_Web_names⟩ := ok_Web_names (P := P) (w := w) (base := base) T
  obtain ⟨⟨fd_Form_plain, G_Form_plain, b_Form_plain⟩, k_Form_plain⟩ := ok_Form_plain (P := P) (w := w) (base := base) T
  refine good_of T.d_FormU_initU sc_FormU_initU (fun fd F => FunD.bindsN F fun _ _ _ _ _ _ us hl => match us, hl with | [_, _, _, _], _ => rfl) (fun vs H Q E h => ?_) (fun cdv A outer s H vs Q E hr h => ?_)
  · obtain ⟨i, G, x, dx, rest, rfl, _, _, _, _, _, al, _⟩ := h
    exact congrArg Nat.succ (al_len al rfl)
  · obtain ⟨i, G0, x, dx, rest, rfl, hx, g0, hC, nl, sG, al, k⟩ := h
    have hu := hu_of hr
    have hmin := hr.units
    obtain ⟨v1, v2, v3, rfl, e1, e2, e3⟩ := al3 al
    obtain ⟨wd, sh, goes, push, f, g⟩ := i
    have o := hC.web.ok
    dsimp only at e1 e2 e3
    have hW : WebGood wd := hC.web
    have X0 : Ext none G0 (del H x) G0 H := ini_start sG g0
    have f0 : Fr none G0 H := .mk0 sG
    have nM : (none : Option Addr) ≠ some x := fun z => by cases z
    refine ⟨_, (pss_cons (ps_fld (pv 0) (pv 1) rfl)
    (pss_cons (ps_fld (pv 0) (pe_dc (own := [("name", 4)]) (g := (gName 4)) (by rfl) sc_FormU_initU.nd (pi_list (pe_meth0 (pv 1) T.c_Web T.m_Web_names G_Web_names (hr.mono (by decide)) b_Web_names .nil pass0)) (blkOk_by (N := N_FormU_initU) (sc := defScope s_FormU_initU) (by decide +kernel)) (fun _ _ _ _ _ => (pg_name (i := 4) sc_FormU_initU.nd rfl (Or.inl rfl))) (fun _ _ _ _ _ => pts_nil) (fun _ _ _ _ _ => (pv 4)) (fun _ _ _ _ _ => (pe_op op_mod (pe_dget hu (pv 2) (pv 4) (fun _ _ => rfl)) (pe_dget hu (pe_fldK (K := K) (pv 1) (by rfl) (by rfl)) (pv 4) (fun _ _ => rfl))))) rfl)
    (pss_cons (ps_fld (pv 0) (pe_lock (pe_dcTx hu (own := [("a", 5), ("b", 6)]) (g := (gTup K 2 (gCons (gName 5) (gCons (gName 6) gNil)))) (by rfl) sc_FormU_initU.nd (pi_itemsT (pv 3)) (blkOk_by (N := N_FormU_initU) (sc := defScope s_FormU_initU) (by decide +kernel)) (fun _ _ _ _ _ => (pg_tup rfl (pgs_cons (pg_name (i := 5) sc_FormU_initU.nd rfl (Or.inl rfl)) (pgs_cons (pg_name (i := 6) sc_FormU_initU.nd rfl (Or.inl rfl)) pgs_nil)))) (fun _ _ _ _ _ => (pts_one (PW.pt (pw_or (pt_cmp (pc_din hu (pv 5) (pe_fldK (K := K) (pv 1) (by rfl) (by rfl)))) (pw_or1 (pt_cmpR (op_neDK (K := K) (by rfl) hr.units) (pv 6) (pe_meth (pv 0) T.c_Form T.m_Form_plain G_Form_plain (hr.mono (by decide)) b_Form_plain .nil pass0 (pa_cons (pv 5) (pa_cons pe_int pa_nil))) (nomark _))))))) (fun _ _ _ _ _ => (pv 5)) (fun _ _ _ _ _ => (pv 6)))) rfl)
    (pss_one (ps_fld (pv 0) (pe_lock (pe_dcTx hu (own := [("spot", 7), ("goal", 8)]) (g := (gTup K 2 (gCons (gName 7) (gCons (gName 8) gNil)))) (by rfl) sc_FormU_initU.nd (pi_itemsT (pe_fld (pv 0) (by rfl))) (blkOk_by (N := N_FormU_initU) (sc := defScope s_FormU_initU) (by decide +kernel)) (fun _ _ _ _ _ => (pg_tup rfl (pgs_cons (pg_name (i := 7) sc_FormU_initU.nd rfl (Or.inl rfl)) (pgs_cons (pg_name (i := 8) sc_FormU_initU.nd rfl (Or.inl rfl)) pgs_nil)))) (fun _ _ _ _ _ => pts_nil) (fun _ _ _ _ _ => (pv 8)) (fun _ _ _ _ _ => (pv 7)))) rfl))))), ?_⟩
    -- self.web
    refine (q_fld0 (P := WebA K wd) f0 rfl hx g0 nM T.c_Form T.n_Form_web (by decide) (ev_var rfl e1) fun u1 G1 H1 y1 p1 g1 hx1 => ?_)
    have X1 := Ext.mutD (o := .ins (ga K "Form") dx (putF "web" u1 [])) (X0.trans y1) del_same g1 nM
    -- self.pushes
    have f1 : Fr none G1 (upd H1 x (.ins (ga K "Form") dx (putF "web" u1 []))) := .mk0 X1.sub
    have e1' := mo_same X1.gs e1
    have e2' := mo_same X1.gs e2
    have few : wd.names.length < 100000 := by
      have := hW.few
      unfold WebD.names
      rw [List.length_map]
      omega
    refine (q_fld0 (P := DcK kN IntA (wd.names.map fun n => (n, push n % wd.len n))) f1 rfl upd_same g1 nM T.c_Form T.n_Form_pushes few1 (ev_cast (ev_dcK (R' := IntA) (R := StrA) (l := wd.names) kN_inj (fun n => some (n, push n % wd.len n))
        (src_lst (ev_meth (i := wd) (n := 0) (by have := hW.few; show wd.rings.length < 100000; omega) trivial rfl (isI_web fun _ _ _ _ _ => by rfl) (ev_var rfl e1') ea_nil)) few (fun n hn xv G' H' gw fr rx Q' k2 => k2 _ rfl ⟨et_yes, fun c hc => ?_⟩)) ?_) fun u2 G2 H2 y2 p2 g2 hx2 => ?_)
    · cases hc
      cases rx
      refine ⟨ev_var rfl rfl, ev_i (i := push n) (j := wd.len n) (ev_getK (R := IntA) kN_inj n (hC.sh n hn) (ev_var rfl (mo_same gw.gs e2')) (ev_var rfl rfl)) (ev_getK (R := IntA) kN_inj n (hW.len n hn) (ev_fld (fd_lengths T) (ev_var rfl (mo_same gw.gs e1'))) (ev_var rfl rfl)) (len_bits hW hn)⟩
    · rw [fm_map, mkT_nd _ (by rw [map_fst_tab]; exact names_nd hW)]
    have X2 := Ext.mutD (o := .ins (ga K "Form") dx (putF "pushes" u2 (putF "web" u1 []))) (X1.trans y2) del_same g2 nM
    have f2 : Fr none G2 (upd H2 x (.ins (ga K "Form") dx (putF "pushes" u2 (putF "web" u1 [])))) := .mk0 X2.sub
    -- self.goals
    obtain ⟨d, kvs, rfl, kd, dr⟩ := id e3
    have d0 : G0 d = some (.dT kvs) := kd.t nl.2
    have nxd : d ≠ x := ne_of_none d0 g0
    let fs2 : List (Str × V) := putF "pushes" u2 (putF "web" u1 [])
    have hGs : (upd G2 x (.ins (ga K "Form") dx fs2)) d = some (.dT kvs) := by
      rw [upd_ne nxd]
      exact X2.gs _ _ d0
    have up0 : ∀ od, Up G2 (upd (upd G2 x (.ins (ga K "Form") dx fs2)) d (.frz od (.dT kvs))) := fun od => (up_new g2).trans (Up.lock hGs trivial)
    have po : PushOk wd (wd.names.map fun n => (n, push n % wd.len n)) := by
      refine ⟨map_fst_tab _ _, fun n hn => ?_⟩
      unfold pOf
      rw [lk_tab _ _ hn]
      exact mod_range (len_bits hW hn)
    have pe : ∀ n, n ∈ wd.names → pOf (wd.names.map fun n => (n, push n % wd.len n)) n = push n % wd.len n := fun n hn => by
      unfold pOf
      rw [lk_tab _ _ hn]
      rfl
    have p1' : WebA K wd G2 u1 := mo_same y2.gs p1
    let keep : Pl × Pl → Bool := fun q => (lk wd.mates q.1).isSome || !decide (q.2 = wd.m.plain (pOf (wd.names.map fun n => (n, push n % wd.len n))) q.1 1)
    refine q_fld (P := DcT PlA (goes.filter keep)) f2 rfl upd_same g2 nM T.c_Form T.n_Form_goals few2 (ev_cast (ev_lock (P := DcT PlA (mkT (goes.filterMap fun q => if keep q = true then some q else none))) hGs trivial fun od => ev_dcT (R := fun b : Pl × Pl => TupP [PlA b.1, PlA b.2]) (R' := PlA) (fun q => if keep q = true then some q else none) (src_itT (ev_var rfl rfl) upd_same (DR.mo ((sm_up (y1.gs.trans y2.gs)).trans (up0 od)) dr)) (by have := hC.few; show goes.length < 100000; dsimp only at this; omega) (fun q hq xv G' H' gw fr rx Q' k2 => ?_)) ?_) fun u3 G3 H3 y3 p3 g3 hx3 => ?_
    · refine tg2 rx fr.sub fun a1 a2 ha1 ha2 => ?_
      have hin := hC.tells.in_ q.1 q.2 hq
      have hsp : wd.m.Spot q.1 := hin.1
      have hsp2 : wd.m.Spot q.2 := by
        have : wd.m.Spot (f q.1) := hC.tells.bij.to _ hsp
        rw [hin.2]
        exact this
      have self : FormP K wd (wd.names.map fun n => (n, push n % wd.len n)) G' (.ref x) := by
        refine mo_same gw.gs ⟨x, dx, fs2, u1, u2, rfl, ?_, by rfl, by rfl, by rfl, Mo.up (up0 od) p1', Mo.up (up0 od) p2⟩
        rw [upd_ne nxd.symm, upd_same]
      have vm : WebA K wd G' v1 := mo_same gw.gs (Mo.up (up0 od) (mo_same X2.gs e1))
      refine k2 _ rfl ⟨et_is (et_or (b := (lk wd.mates q.1).isSome) (c := !decide (q.2 = wd.m.plain (pOf (wd.names.map fun n => (n, push n % wd.len n))) q.1 1)) (et_B (ev_inT (R := PlA) q.1 (ev_var rfl ha1) (ev_fld (fd_mates T) (ev_var rfl vm)))) fun _ => et_test (ev_nePl (plain_str hW hsp2) (plain_str hW (o.plain_spot _ hsp.1.1 1)) (ev_var rfl ha2) (ev_meth (i := (wd, (wd.names.map fun n => (n, push n % wd.len n)), q.1, 1)) ⟨hW, po, hsp.1.1, (by decide : (1 : Int).natAbs < 2 ^ 200)⟩ (n := 0) trivial rfl isI_plain (ev_var rfl self) (ea_cons (ev_var rfl ha1) (ea_cons (P := IntA 1) ev_c ea_nil))))) ?_, fun c hc => ?_⟩
      · show keep q = _
        by_cases c : keep q = true
        · rw [c]
          rfl
        · rw [Bool.eq_false_iff.mpr c]
          rfl
      · by_cases c' : keep q = true
        · rw [if_pos c'] at hc
          cases hc
          exact ⟨ev_var rfl ha1, ev_var rfl ha2⟩
        · rw [if_neg c'] at hc
          cases hc
    · rw [fm_filter, mkT_nd _ (List.Nodup.sublist (List.Sublist.map _ List.filter_sublist) hC.tells.nd)]
    have FG : FormOk wd.m (pOf (wd.names.map fun n => (n, push n % wd.len n))) (goes.filter keep) f g := Tells.form o hC.tells (fun n hn => pe n hn) keep fun a b _ => by
      show ((lk wd.mates a).isSome || !decide (b = wd.m.plain (pOf (wd.names.map fun n => (n, push n % wd.len n))) a 1)) = true ↔ _
      rw [Bool.or_eq_true, Bool.not_eq_true', decide_eq_false_iff_not]
      refine or_congr ?_ Iff.rfl
      show (lk wd.mates a).isSome = true ↔ lk wd.mates a ≠ none
      cases lk wd.mates a <;> simp
    have fewg : (goes.filter keep).length ≤ goes.length := List.length_filter_le _ _
    have X3 := Ext.mutD (o := .ins (ga K "Form") dx (putF "goals" u3 fs2)) (X2.trans y3) del_same g3 nM
    have f3 : Fr none G3 (upd H3 x (.ins (ga K "Form") dx (putF "goals" u3 fs2))) := .mk0 X3.sub
    -- self.origins
    obtain ⟨d2, kvs2, rfl, kd2, dr2⟩ := id p3
    have nl3 : NL 2 G3 := X3.gw.nl nl
    have d3 : G3 d2 = some (.dT kvs2) := kd2.t nl3.2
    have nxd2 : d2 ≠ x := ne_of_none d3 g3
    have hGs2 : (upd G3 x (.ins (ga K "Form") dx (putF "goals" (.ref d2) fs2))) d2 = some (.dT kvs2) := by
      rw [upd_ne nxd2]
      exact d3
    have up3 : ∀ od, Up G3 (upd (upd G3 x (.ins (ga K "Form") dx (putF "goals" (.ref d2) fs2))) d2 (.frz od (.dT kvs2))) := fun od => (up_new g3).trans (Up.lock hGs2 trivial)
    have fdg : Fd K "goals" (InsP x (ga K "Form") dx (putF "goals" (.ref d2) fs2)) (Is (.ref d2)) := fun H v h => ⟨x, _, dx, _, _, h.1, h.2, T.c_Form, T.n_Form_goals, by rfl, rfl⟩
    refine p_fld (P := DcT PlA ((goes.filter keep).map fun q => (q.2, q.1))) f3 rfl upd_same g3 nM T.c_Form T.n_Form_origins few3 (ev_cast (ev_lock (P := DcT PlA (mkT ((goes.filter keep).filterMap fun q => some (q.2, q.1)))) hGs2 trivial fun od => ev_dcT (R := fun b : Pl × Pl => TupP [PlA b.1, PlA b.2]) (R' := PlA) (fun q => some (q.2, q.1)) (src_itT (ev_fld fdg (ev_var rfl ⟨rfl, ?_⟩)) upd_same (DR.mo (up3 od) dr2)) (by have := hC.few; dsimp only at this; omega) (fun q hq xv G' H' gw fr rx Q' k2 => ?_)) ?_) fun u4 G4 H4 y4 p4 g4 hx4 => ?_
    · rw [upd_ne nxd2.symm, upd_same]
    · exact tg2 rx fr.sub fun a1 a2 ha1 ha2 => k2 _ rfl ⟨et_yes, fun c hc => by cases hc; exact ⟨ev_var rfl ha2, ev_var rfl ha1⟩⟩
    · rw [fm_map, mkT_nd _ (swap_nd FG.toTells)]
    have X4 := Ext.mutD (o := .ins (ga K "Form") dx (putF "origins" u4 (putF "goals" (.ref d2) fs2))) (X3.trans y4) del_same g4 nM
    obtain ⟨c1, c2, c3, c4, c5⟩ := ini_end X4 g4 upd_same
    have ups : Same G4 (upd G4 x (.ins (ga K "Form") dx (putF "origins" u4 (putF "goals" (.ref d2) fs2)))) := sm_new g4
    refine k _ _ c1 c2 c3 c4 ⟨⟨wd, wd.names.map fun n => (n, push n % wd.len n), goes.filter keep, (goes.filter keep).map fun q => (q.2, q.1)⟩, ⟨x, dx, u1, u2, .ref d2, u4, rfl, upd_same, ?_, ?_, ?_, ?_⟩, ⟨hW, FG, po, fun a b h => ?_, fun a b h => ?_, by have := hC.few; dsimp only at this ⊢; omega⟩, rfl, pe, fewg⟩
    · exact mo_same ups (mo_same (y3.gs.trans y4.gs) p1')
    · exact mo_same ups (mo_same (y3.gs.trans y4.gs) p2)
    · exact mo_same ups (mo_same y4.gs p3)
    · exact mo_same ups p4
    · exact lk_of_mem (swap_nd FG.toTells) (List.mem_map.mpr ⟨(a, b), h, rfl⟩)
    · obtain ⟨q, hq, e⟩ := List.mem_map.mp (lk_mem h)
      cases e
      exact hq
end
end MR
/-! Form.__mul__, Form.inverse -/
namespace MR
open PySem PySem.Spec PyProof.Rows L2 He
section
variable {K : PySem.W.Frag} {G G1 H H1 : Hp}
theorem Ext.lockIn {d : Addr} {u : HO} {od : Obj} (X : Ext none G H G1 H1) (hd : G d = some u) : Ext none (upd G d (.frz od u)) (upd H d (.frz od u)) (upd G1 d (.frz od u)) (upd H1 d (.frz od u)) := by
  refine ⟨fun a o _ q => ?_, fun a o q => ?_, sm_both X.sub, fun a q z => ?_, fun a o w q => ?_, fun _ z => by cases z⟩
  · by_cases c : a = d
    · subst c
      rw [upd_same] at q ⊢
      exact q
    · rw [upd_ne c] at q ⊢
      exact X.same a o (fun z => by cases z) q
  · by_cases c : a = d
    · subst c
      rw [upd_same] at q ⊢
      exact q
    · rw [upd_ne c] at q ⊢
      exact X.gs _ _ q
  · by_cases c : a = d
    · subst c
      rw [upd_same] at z
      cases z
    · rw [upd_ne c] at z ⊢
      refine X.av a ?_ z
      obtain ⟨o, q, n⟩ := q
      rw [upd_ne c] at q
      exact ⟨o, q, n⟩
  · by_cases c : a = d
    · subst c
      rw [upd_same] at q ⊢
      exact q
    · rw [upd_ne c] at q ⊢
      exact X.nf _ _ _ q
end
theorem take_snoc {β : Type} {l : List β} {i : Nat} {b : β} (h : l[i]? = some b) : l.take (i + 1) = l.take i ++ [b] := by
  rw [List.take_add_one, h]
  rfl
/-- entries put one behind another -/
def puts (κ ν : Pl × Pl → Pl) (T l : List (Pl × Pl)) : List (Pl × Pl) := l.foldl (fun T q => pt T (κ q) (ν q)) T
theorem puts_snoc (κ ν : Pl × Pl → Pl) (T l : List (Pl × Pl)) (q : Pl × Pl) : puts κ ν T (l ++ [q]) = pt (puts κ ν T l) (κ q) (ν q) := by
  unfold puts
  rw [List.foldl_append]
  rfl
theorem puts_len (κ ν : Pl × Pl → Pl) : ∀ (l T : List (Pl × Pl)), (puts κ ν T l).length ≤ T.length + l.length
  | [], T => Nat.le_refl _
  | q :: l, T => by
    have := puts_len κ ν l (pt T (κ q) (ν q))
    have h := pt_len T (κ q) (ν q)
    show (puts κ ν (pt T (κ q) (ν q)) l).length ≤ _
    rw [List.length_cons]
    omega
theorem puts_nd (κ ν : Pl × Pl → Pl) : ∀ (l T : List (Pl × Pl)), (T.map (·.1)).Nodup → ((puts κ ν T l).map (·.1)).Nodup
  | [], T, h => h
  | q :: l, T, h => puts_nd κ ν l _ (pt_keys_nd h _ _)
theorem puts_key (κ ν : Pl × Pl → Pl) : ∀ (l T : List (Pl × Pl)) (k : Pl), k ∈ (puts κ ν T l).map (·.1) ↔ k ∈ T.map (·.1) ∨ ∃ q, q ∈ l ∧ κ q = k
  | [], T, k => by
    show k ∈ T.map (·.1) ↔ _
    simp
  | q :: l, T, k => by
    have := puts_key κ ν l (pt T (κ q) (ν q)) k
    show k ∈ (puts κ ν (pt T (κ q) (ν q)) l).map (·.1) ↔ _
    rw [this, keys_pt]
    constructor
    · rintro ((h | h) | ⟨r, h1, h2⟩)
      · exact .inr ⟨q, List.mem_cons_self, h.symm⟩
      · exact .inl h
      · exact .inr ⟨r, List.mem_cons_of_mem _ h1, h2⟩
    · rintro (h | ⟨r, h1, h2⟩)
      · exact .inl (.inr h)
      · rcases List.mem_cons.mp h1 with e | h1
        · exact .inl (.inl (by rw [← h2, e]))
        · exact .inr ⟨r, h1, h2⟩
/-- what is said of each entry is said of the table -/
theorem puts_all {Φ : Pl → Pl → Prop} (κ ν : Pl × Pl → Pl) : ∀ (l T : List (Pl × Pl)), (T.map (·.1)).Nodup → (∀ a b, (a, b) ∈ T → Φ a b) → (∀ q, q ∈ l → Φ (κ q) (ν q)) → ∀ a b, (a, b) ∈ puts κ ν T l → Φ a b
  | [], T, _, h, _ => h
  | q :: l, T, nd, h, h2 => puts_all κ ν l _ (pt_keys_nd nd _ _) (fun a b hm => by
      rcases (mem_pt nd).mp hm with ⟨rfl, rfl⟩ | ⟨_, hm⟩
      · exact h2 q List.mem_cons_self
      · exact h a b hm) fun r hr => h2 r (List.mem_cons_of_mem _ hr)
section
variable {K : PySem.W.Frag} {G0 G1 H H1 : Hp} {tz : TS} {D : Ends}
/-- for a, b in d.items(): goes[k] = v, d a dict that stands from the start, goes one of one's own -/
theorem loop_put {td tk tv : TE} {i1 i2 j : Nat} {d dg : Addr} {kA kvs : List (List Key × V)} {l T : List (Pl × Pl)} (S : Option V → Option V → L2.St) (s1 s2 : Option V) (κ ν : Pl × Pl → Pl)
    (f0 : Fr none G0 H) (X : Ext none G0 H G1 H1) (hd : G0 d = some (.dT kA)) (dr : DR pk (fun b u => PlA b G0 u) l kA) (h0 : H dg = none) (g1 : G1 dg = none) (h1 : H1 dg = some (.dT kvs)) (dT : DR pk (fun b u => PlA b G1 u) T kvs) (few : T.length + l.length < 100000)
    (hset : ∀ a b x y, ((S a b).set i1 (some x)).set i2 (some y) = S (some x) (some y)) (hj : ∀ a b, (S a b)[j]? = some (some (.ref dg)))
    (htd : ∀ od G', Same (upd G0 d (.frz od (.dT kA))) G' → ∀ a b, Ev none td (S a b) G' (Is (.ref d)))
    (hb : ∀ od q, q ∈ l → ∀ x y G', Gw (upd G0 d (.frz od (.dT kA))) G' → PlA q.1 G' x → PlA q.2 G' y → Ev none tk (S (some x) (some y)) G' (PlA (κ q)) ∧ Ev none tv (S (some x) (some y)) G' (PlA (ν q)))
    (k : ∀ G2 H2 a b kvs', Ext none G0 H G2 H2 → Up G1 G2 → G2 dg = none → H2 dg = some (.dT kvs') → DR pk (fun b u => PlA b G2 u) (puts κ ν T l) kvs' → tz D (S a b) H2) :
    tSeq (tLock (tFor (iItemsT td) (gTup K 2 (gCons (gName i1) (gCons (gName i2) gNil))) (sDPut (tVar j) tk tv))) tz D (S s1 s2) H1 := by
  have hd1 : G1 d = some (.dT kA) := X.gs _ _ hd
  have ngd : dg ≠ d := fun z => by rw [z, hd1] at g1; cases g1
  refine q_lock (.mk0 X.sub) hd1 trivial fun od f1 up D' hn hr => ?_
  have XL := X.lockIn (od := od) hd
  have g1' : (upd G1 d (.frz od (.dT kA))) dg = none := by rw [upd_ne ngd]; exact g1
  have h0' : (upd H d (.frz od (.dT kA))) dg = none := by rw [upd_ne ngd]; exact h0
  have h1' : (upd H1 d (.frz od (.dT kA))) dg = some (.dT kvs) := by rw [upd_ne ngd]; exact h1
  refine p_for (M := none) (l := l) (R := fun b : Pl × Pl => TupP [PlA b.1, PlA b.2]) f1 (src_itT (htd od _ XL.gs s1 s2) upd_same (DR.mo (((sm_up X.gs).trans up)) dr)) fun G2 H2 e2 => ?_
  refine ⟨fun i σ' H' => ∃ a b G kvs', σ' = S a b ∧ Ext none (upd G0 d (.frz od (.dT kA))) (upd H d (.frz od (.dT kA))) G H' ∧ Gw G2 G ∧ G dg = none ∧ H' dg = some (.dT kvs') ∧ DR pk (fun b u => PlA b G u) (puts κ ν T (l.take i)) kvs',
    ⟨s1, s2, G2, kvs, rfl, XL.trans e2, Gw.rfl' _, e2.av dg ⟨_, h1', fun _ z => by cases z⟩ g1', e2.same _ _ (fun z => by cases z) h1', DR.mo (up.trans (sm_up e2.gs)) dT⟩, ?_, ?_, ?_⟩
  · rintro i σ' H' ⟨a, b, G, kvs', rfl, x, gw, g, h, r⟩
    exact gw.gs.trans x.sub
  · rintro i q σ1 H3 hq ⟨a, b, G, kvs', rfl, x, gw, g, h, r⟩ xv H4 hy
    obtain ⟨G4, x4, rb⟩ := hy G gw (.mk0 x.sub)
    refine tg2 rb x4.sub fun y1 y2 r1 r2 => ?_
    rw [hset]
    have x4' := x.trans x4
    have h4 := x4.same _ _ (fun z => by cases z) h
    have g4 := x4.av dg ⟨_, h, fun _ z => by cases z⟩ g
    obtain ⟨e1, e2'⟩ := hb od q (List.mem_of_getElem? hq) y1 y2 G4 x4'.gw r1 r2
    have len : kvs'.length < 100000 := by
      have h1 := paired_len r
      have h2 := puts_len κ ν (l.take i) T
      have h3 : (l.take i).length ≤ l.length := by
        rw [List.length_take]
        exact Nat.min_le_right _ _
      omega
    refine p_putT (P := PlA (ν q)) (.mk0 x4.sub) h4 (fun z => by cases z) len e2' (fun G5 H5 e5 Q q' => ⟨_, hj _ _, q'⟩) e1 fun v G5 H5 e5 pv h5 => ?_
    have x5 := x4'.trans e5
    have g5 := e5.av dg ⟨_, h4, fun _ z => by cases z⟩ g4
    refine ⟨_, _, G5, _, rfl, Ext.mutD x5 h0' g5 (fun z => by cases z), gw.trans (x4.trans e5).gw, g5, upd_same, ?_⟩
    rw [take_snoc hq, puts_snoc]
    exact DR.put pk_inj (DR.mo (sm_up (x4.trans e5).gs) r) pv
  · rintro σ' H' ⟨a, b, G, kvs', rfl, x, gw, g, h, r⟩
    rw [List.take_length] at r
    obtain ⟨u1, u2, u3⟩ := Ext.unlock (G0 := G0) (H0 := H) f0 hd trivial x
    rw [hn]
    refine ⟨u2, k _ _ a b kvs' u1 (up.trans (((sm_up e2.gs).trans (sm_up gw.gs)).trans u3)) ?_ ?_ (DR.mo u3 r)⟩
    · rw [upd_ne ngd]
      exact g
    · rw [upd_ne ngd]
      exact h
/-- for a in d: m = ..; goes[m] = v -/
theorem loop_keys {td tm tv : TE} {i1 i2 j : Nat} {d dg : Addr} {kA kvs : List (List Key × V)} {l T : List (Pl × Pl)} (S : Option V → Option V → L2.St) (s1 s2 : Option V) (κ ν : Pl × Pl → Pl)
    (f0 : Fr none G0 H) (X : Ext none G0 H G1 H1) (hd : G0 d = some (.dT kA)) (dr : DR pk (fun b u => PlA b G0 u) l kA) (h0 : H dg = none) (g1 : G1 dg = none) (h1 : H1 dg = some (.dT kvs)) (dT : DR pk (fun b u => PlA b G1 u) T kvs) (few : T.length + l.length < 100000)
    (hset : ∀ a b x, (S a b).set i1 (some x) = S (some x) b) (hset2 : ∀ a b x, (S a b).set i2 (some x) = S a (some x)) (hj : ∀ a b, (S a b)[j]? = some (some (.ref dg))) (h2 : ∀ a b, (S a b)[i2]? = some b)
    (htd : ∀ od G', Same (upd G0 d (.frz od (.dT kA))) G' → ∀ a b, Ev none td (S a b) G' (Is (.ref d)))
    (hb : ∀ od q, q ∈ l → ∀ x b G', Gw (upd G0 d (.frz od (.dT kA))) G' → PlA q.1 G' x → Ev none tm (S (some x) b) G' (PlA (κ q)) ∧ ∀ m G'', Gw G' G'' → PlA (κ q) G'' m → Ev none tv (S (some x) (some m)) G'' (PlA (ν q)))
    (k : ∀ G2 H2 a b kvs', Ext none G0 H G2 H2 → Up G1 G2 → G2 dg = none → H2 dg = some (.dT kvs') → DR pk (fun b u => PlA b G2 u) (puts κ ν T l) kvs' → tz D (S a b) H2) :
    tSeq (tLock (tFor (iKeys td) (gName i1) (tSeq (tAsg tm (gName i2)) (sDPut (tVar j) (tVar i2) tv)))) tz D (S s1 s2) H1 := by
  have hd1 : G1 d = some (.dT kA) := X.gs _ _ hd
  have ngd : dg ≠ d := fun z => by rw [z, hd1] at g1; cases g1
  refine q_lock (.mk0 X.sub) hd1 trivial fun od f1 up D' hn hr => ?_
  have XL := X.lockIn (od := od) hd
  have g1' : (upd G1 d (.frz od (.dT kA))) dg = none := by rw [upd_ne ngd]; exact g1
  have h0' : (upd H d (.frz od (.dT kA))) dg = none := by rw [upd_ne ngd]; exact h0
  have h1' : (upd H1 d (.frz od (.dT kA))) dg = some (.dT kvs) := by rw [upd_ne ngd]; exact h1
  refine p_for (M := none) (l := l) (R := fun b : Pl × Pl => PlA b.1) f1 (src_keT (htd od _ XL.gs s1 s2) upd_same dr) fun G2 H2 e2 => ?_
  refine ⟨fun i σ' H' => ∃ a b G kvs', σ' = S a b ∧ Ext none (upd G0 d (.frz od (.dT kA))) (upd H d (.frz od (.dT kA))) G H' ∧ Gw G2 G ∧ G dg = none ∧ H' dg = some (.dT kvs') ∧ DR pk (fun b u => PlA b G u) (puts κ ν T (l.take i)) kvs',
    ⟨s1, s2, G2, kvs, rfl, XL.trans e2, Gw.rfl' _, e2.av dg ⟨_, h1', fun _ z => by cases z⟩ g1', e2.same _ _ (fun z => by cases z) h1', DR.mo (up.trans (sm_up e2.gs)) dT⟩, ?_, ?_, ?_⟩
  · rintro i σ' H' ⟨a, b, G, kvs', rfl, x, gw, g, h, r⟩
    exact gw.gs.trans x.sub
  · rintro i q σ1 H3 hq ⟨a, b, G, kvs', rfl, x, gw, g, h, r⟩ xv H4 hy
    obtain ⟨G4, x4, rb⟩ := hy G gw (.mk0 x.sub)
    show tSeq (tAsg tm (gName i2)) (sDPut (tVar j) (tVar i2) tv) _ ((S a b).set i1 (some xv)) H4
    rw [hset]
    have x4' := x.trans x4
    have h4 := x4.same _ _ (fun z => by cases z) h
    have g4 := x4.av dg ⟨_, h, fun _ z => by cases z⟩ g
    obtain ⟨e1, e2'⟩ := hb od q (List.mem_of_getElem? hq) xv b G4 x4'.gw rb
    have len : kvs'.length < 100000 := by
      have h1 := paired_len r
      have h2 := puts_len κ ν (l.take i) T
      have h3 : (l.take i).length ≤ l.length := by
        rw [List.length_take]
        exact Nat.min_le_right _ _
      omega
    refine q_asg (.mk0 x4.sub) e1 fun m G5 H5 e5 pm => ?_
    rw [hset2]
    have x5 := x4'.trans e5
    have g5 := e5.av dg ⟨_, h4, fun _ z => by cases z⟩ g4
    have h5 := e5.same _ _ (fun z => by cases z) h4
    refine p_putT (P := PlA (ν q)) (.mk0 x5.sub) h5 (fun z => by cases z) len (e2' m G5 e5.gw pm) (fun G6 H6 e6 Q q' => ⟨_, hj _ _, q'⟩) (ev_var (h2 _ _) pm) fun v G6 H6 e6 pv h6 => ?_
    have x6 := x5.trans e6
    have g6 := e6.av dg ⟨_, h5, fun _ z => by cases z⟩ g5
    refine ⟨_, _, G6, _, rfl, Ext.mutD x6 h0' g6 (fun z => by cases z), gw.trans ((x4.trans e5).trans e6).gw, g6, upd_same, ?_⟩
    rw [take_snoc hq, puts_snoc]
    exact DR.put pk_inj (DR.mo (sm_up ((x4.trans e5).trans e6).gs) r) pv
  · rintro σ' H' ⟨a, b, G, kvs', rfl, x, gw, g, h, r⟩
    rw [List.take_length] at r
    obtain ⟨u1, u2, u3⟩ := Ext.unlock (G0 := G0) (H0 := H) f0 hd trivial x
    rw [hn]
    refine ⟨u2, k _ _ a b kvs' u1 (up.trans (((sm_up e2.gs).trans (sm_up gw.gs)).trans u3)) ?_ ?_ (DR.mo u3 r)⟩
    · rw [upd_ne ngd]
      exact g
    · rw [upd_ne ngd]
      exact h
end
def InsP2 (x C dx : Addr) (fs : List (Str × V)) (y B dy : Addr) (gs : List (Str × V)) : Hp → V → Prop := fun H v => v = .ref x ∧ H x = some (.ins C dx fs) ∧ H y = some (.ins B dy gs)
instance {x C dx : Addr} {fs : List (Str × V)} {y B dy : Addr} {gs : List (Str × V)} : Mo (InsP2 x C dx fs y B dy gs) := ⟨fun e h => ⟨h.1, e.ins h.2.1, e.ins h.2.2⟩⟩
/-- a form is such a form -/
def FormR (K : PySem.W.Frag) (wd : WebD) (f g : Pl → Pl) (p : Nm → Int) (N : Nat) : Hp → V → Prop := fun H v => ∃ fd, FormA K fd H v ∧ FormGood fd f g ∧ fd.web = wd ∧ (∀ n, n ∈ wd.names → fd.ps n = p n) ∧ fd.goals.length ≤ N
instance {K : PySem.W.Frag} {wd : WebD} {f g : Pl → Pl} {p : Nm → Int} {N : Nat} : Mo (FormR K wd f g p N) := ⟨fun e ⟨fd, h, r⟩ => ⟨fd, Mo.up e h, r⟩⟩
section
variable {P : Program} {w : World} {K : PySem.W.Frag} {mg : Str → Option Value} {base : Heap} {wd : WebD} {M : Option Addr} {ta tb : TE} {σ : L2.St} {G : Hp} {E : XK}
theorem web_ins : ∀ H v, WebA K wd H v → ∃ a dx fs, v = .ref a ∧ H a = some (.ins (ga K "Web") dx fs) := fun H v ⟨a, dx, r, j, l, s, q, e, h0, _⟩ => ⟨a, dx, _, e, h0⟩
theorem ev_neWeb (W : WebGood wd) (h1 : Ev M ta σ G (WebA K wd)) (h2 : Ev M tb σ G (WebA K wd)) : Ev M (tOp (rNeO (ga K "Web") (spEq K) E) ta tb) σ G (Is (.bl false)) :=
  ev_op h1 h2 fun G1 H1 x y _ f hx hy Q k => by
    obtain ⟨a, dx, fs, rfl, ha⟩ := web_ins _ _ hx
    obtain ⟨b, dy, gs, rfl, hb⟩ := web_ins _ _ hy
    exact ⟨a, b, dx, dy, fs, gs, rfl, rfl, f.sub _ _ ha, f.sub _ _ hb, wd, G1, W, trivial, f.sub, .cons hx (.cons hy .nil), fun v G' H' e r => by
      cases r
      exact ⟨true, rfl, k _ G' H' (e.lift f) rfl⟩⟩
structure MulI where
  a : FormD
  f : Pl → Pl
  g : Pl → Pl
  b : FormD
  f' : Pl → Pl
  g' : Pl → Pl
structure MulOk (i : MulI) : Prop where
  a : FormGood i.a i.f i.g
  b : FormGood i.b i.f' i.g'
  web : i.b.web = i.a.web
  few : i.a.goals.length + i.b.goals.length < 90000
def spMul (K : PySem.W.Frag) : Sp := spOf 2 (ι := MulI) MulOk (fun i => [FormA K i.a, FormA K i.b]) (fun i => FormR K i.a.web (fun s => i.f' (i.f s)) (fun s => i.g (i.g' s)) (fun n => (i.a.ps n + i.b.ps n) % i.a.web.len n) (i.a.goals.length + i.b.goals.length))
theorem ok_FormU_mulU (T : Tx K mg) : Good P w K mg base 7 (ma K (ga K "Form") "__mul__") ["self", "other"] (spMul K) := by
  obtain ⟨⟨fd_WebU_eqU, G_WebU_eqU, b_WebU_eqU⟩, k_WebU_eqU⟩ := ok_WebU_eqU (P := P) (w := w) (base := base) T
  obtain ⟨⟨fd_Web_names, G_Web_names, b_Web_names⟩, k_Web_names⟩ := ok_Web_names (P := P) (w := w) (base := base) T
  obtain ⟨⟨fd_Form_goal, G_Form_goal, b_Form_goal⟩, k_Form_goal⟩ := ok_Form_goal (P := P) (w := w) (base := base) T
  obtain ⟨⟨fd_Form_origin, G_Form_origin, b_Form_origin⟩, k_Form_origin⟩ := ok_Form_origin (P := P) (w := w) (base := base) T
  obtain ⟨⟨fd_FormU_initU, G_FormU_initU, b_FormU_initU⟩, k_FormU_initU⟩ := ok_FormU_initU (P := P) (w := w) (base := base) T
  refine good_of T.d_FormU_mulU sc_FormU_mulU (fun fd F => FunD.bindsN F fun _ _ _ _ _ _ us hl => match us, hl with | [_, _], _ => rfl) (fun vs H Q E h => ?_) (fun cdv A outer s H vs Q E hr h => ?_)
  · obtain ⟨i, G, _, _, _, al, _⟩ := h
    exact al_len al rfl
  · obtain ⟨i, G0, hC, nl, sG, al, k⟩ := h
    have hu := hu_of hr
    have hmin := hr.units
    have f0 : Fr none G0 H := .mk0 sG
    obtain ⟨v, u, rfl, e1, e2⟩ := al2 al
    obtain ⟨A, f, g, B, f', g'⟩ := i
    obtain ⟨hA, hB, hw, few⟩ := hC
    dsimp only at hA hB hw few e1 e2 k
    have hW := hA.web
    have fewn : A.web.names.length < 100000 := by
      have := hW.few
      unfold WebD.names
      rw [List.length_map]
      omega
    have o := hW.ok
    refine ⟨_, (pss_cons (ps_if (pt_cmpR (op_neO G_WebU_eqU (hr.mono (by decide)) b_WebU_eqU pass0 T.q_obj T.q_ne T.q_eq T.q_isfn) (pe_fld (pv 0) (by rfl)) (pe_fld (pv 1) (by rfl)) (nomark _)) (pss_one ps_never) pss_nil)
    (pss_cons (ps_setDcx (i := 2) (own := [("name", 3)]) (g := (gName 3)) (by rfl) sc_FormU_mulU.nd rfl rfl (swD_true rfl rfl rfl (by decide +kernel)) (pi_list (pe_meth0 (pe_fld (pv 0) (by rfl)) T.c_Web T.m_Web_names G_Web_names (hr.mono (by decide)) b_Web_names .nil pass0)) (blkOk_by (N := N_FormU_mulU) (sc := defScope s_FormU_mulU) (by decide +kernel)) (fun _ _ _ _ _ => (pg_name (i := 3) sc_FormU_mulU.nd rfl (Or.inl rfl))) (fun _ _ _ _ _ => pts_nil) (fun _ _ _ _ _ => (pv 3)) (fun _ _ _ _ _ => (pe_op op_add (pe_dget hu (pe_fldK (K := K) (pv 0) (by rfl) (by rfl)) (pv 3) (fun _ _ => rfl)) (pe_dget hu (pe_fldK (K := K) (pv 1) (by rfl) (by rfl)) (pv 3) (fun _ _ => rfl)))))
    (pss_cons (ps_set (i := 4) sc_FormU_mulU.nd rfl (Or.inl rfl) (pe_dnewT))
    (pss_cons (ps_lock (ps_for PassesOwn.never rfl (pi_itemsT (pe_fld (pv 0) (by rfl))) (pg_tup rfl (pgs_cons (pg_name (i := 5) sc_FormU_mulU.nd rfl (Or.inl rfl)) (pgs_cons (pg_name (i := 6) sc_FormU_mulU.nd rfl (Or.inl rfl)) pgs_nil)))
    (pss_one (ps_dput hu (pv 4) (pv 5) (pe_meth (pv 1) T.c_Form T.m_Form_goal G_Form_goal (hr.mono (by decide)) b_Form_goal .nil pass0 (pa_cons (pv 6) pa_nil)) rfl))))
    (pss_cons (ps_lock (ps_for PassesOwn.never rfl (pi_itemsT (pe_fld (pv 1) (by rfl))) (pg_tup rfl (pgs_cons (pg_name (i := 5) sc_FormU_mulU.nd rfl (Or.inl rfl)) (pgs_cons (pg_name (i := 6) sc_FormU_mulU.nd rfl (Or.inl rfl)) pgs_nil)))
    (pss_one (ps_dput hu (pv 4) (pe_meth (pv 0) T.c_Form T.m_Form_origin G_Form_origin (hr.mono (by decide)) b_Form_origin .nil pass0 (pa_cons (pv 5) pa_nil)) (pv 6) rfl))))
    (pss_one (ps_ret (pe_make T.k_Form G_FormU_initU (hr.mono (by decide)) (by rfl) T.g_Form b_FormU_initU .nil pass0 (pa_cons (pe_fld (pv 0) (by rfl)) (pa_cons (pv 2) (pa_cons (pv 4) pa_nil))))))))))), ?_⟩
    have wa : Ev none (tFld K (tVar 0) "web") (start N_FormU_mulU [v, u]) G0 (WebA K A.web) := ev_fld (fd_web T) (ev_var rfl e1)
    have wb : Ev none (tFld K (tVar 1) "web") (start N_FormU_mulU [v, u]) G0 (WebA K A.web) := by
      rw [← hw]
      exact ev_fld (fd_web T) (ev_var rfl e2)
    refine q_when f0 (et_test (ev_neWeb hW wa wb)) (fun hb => by cases hb) fun _ G1 H1 x1 => ?_
    have e1' := mo_same x1.gs e1
    have e2' := mo_same x1.gs e2
    refine q_asg (P := DcK kN IntA (A.web.names.map fun n => (n, A.ps n + B.ps n))) (.mk0 x1.sub) (ev_cast (ev_dcK (R' := IntA) (R := StrA) (l := A.web.names) kN_inj (fun n => some (n, A.ps n + B.ps n))
        (src_lst (ev_meth (i := A.web) (n := 0) (by have := hW.few; show A.web.rings.length < 100000; omega) trivial rfl (isI_web fun _ _ _ _ _ => by rfl) (ev_fld (fd_web T) (ev_var rfl e1')) ea_nil)) fewn (fun n hn xv G' H' gw fr rx Q' k2 => k2 _ rfl ⟨et_yes, fun c hc => ?_⟩)) ?_) fun u2 G2 H2 y2 p2 => ?_
    · cases hc
      cases rx
      exact ⟨ev_var rfl rfl, ev_i0 (i := A.ps n) (j := B.ps n) (ev_getK (R := IntA) kN_inj n (hA.push.at_ hn) (ev_fld (fd_push T) (ev_var rfl (mo_same gw.gs e1'))) (ev_var rfl rfl)) (ev_getK (R := IntA) kN_inj n (hB.push.at_ (by rw [hw]; exact hn)) (ev_fld (fd_push T) (ev_var rfl (mo_same gw.gs e2'))) (ev_var rfl rfl))⟩
    · rw [fm_map, mkT_nd _ (by rw [map_fst_tab]; exact o.nd)]
    have x2 := x1.trans y2
    refine q_newT (.mk0 x2.sub) fun dg hdg => ?_
    have g2 : G2 dg = none := x2.sub.free hdg
    have h0g : H dg = none := by
      cases q : H dg with
      | none => rfl
      | some o => rw [x2.same _ _ (fun z => by cases z) q] at hdg; cases hdg
    have x3 := Ext.mutD (o := .dT []) x2 h0g g2 (fun z => by cases z)
    -- the first loop
    obtain ⟨aA, dxA, wvA, pvA, gvA, ovA, eA, hiA, _, _, hgA, _⟩ := id e1
    obtain ⟨dA, kA, rfl, knA, drA⟩ := id hgA
    have dA0 : G0 dA = some (.dT kA) := knA.t nl.2
    have isA : ∀ G', Up G0 G' → ∀ a b : Option V, Ev none (tFld K (tVar 0) "goals") [some v, some u, some u2, none, some (.ref dg), a, b] G' (Is (.ref dA)) := fun G' up a b => by
      have fdg : Fd K "goals" (InsP aA (ga K "Form") dxA (fsForm wvA pvA (.ref dA) ovA)) (Is (.ref dA)) := fun H v h => ⟨aA, _, dxA, _, _, h.1, h.2, T.c_Form, T.n_Form_goals, by rfl, rfl⟩
      exact ev_fld fdg (ev_var rfl ⟨eA, up.ins hiA⟩)
    have Sp : ∀ q, q ∈ A.goals → A.web.m.Spot q.1 ∧ q.2 = f q.1 ∧ A.web.m.Spot q.2 := fun q hq => by
      have h := hA.form.in_ q.1 q.2 hq
      refine ⟨h.1, h.2, ?_⟩
      rw [h.2]
      exact hA.form.bij.to _ h.1
    have SpB : ∀ q, q ∈ B.goals → A.web.m.Spot q.1 ∧ q.2 = f' q.1 := fun q hq => by
      have h := hB.form.in_ q.1 q.2 hq
      rw [hw] at h
      exact h
    have bB : Bij A.web.m.Spot f' g' := by
      have := hB.form.bij
      rw [hw] at this
      exact this
    refine loop_put (K := K) (S := fun a b => [some v, some u, some u2, none, some (.ref dg), a, b]) none none (fun q => q.1) (fun q => f' q.2) f0 x3 dA0 drA h0g g2 upd_same (T := []) .nil (by have := hA.few; simp; omega) (fun _ _ _ _ => rfl) (fun _ _ => rfl) (fun od G' s a b => isA G' ((Up.lock dA0 trivial).trans (sm_up s)) a b) (fun od q hq x y G' gw p1 p2' => ?_) fun G4 H4 a4 b4 kv4 x4 up4 g4 h4 r4 => ?_
    · have upL : Up G0 G' := (Up.lock dA0 trivial).trans (sm_up gw.gs)
      exact ⟨ev_var rfl p1, ev_meth (i := (⟨B, f', g', q.2⟩ : FIx)) ⟨hB, by rw [hw]; exact (Sp q hq).2.2⟩ (n := 0) trivial rfl (isI_form fun _ _ _ _ => by rfl) (ev_var rfl (Mo.up upL e2)) (ea_cons (ev_var rfl p2') ea_nil)⟩
    have lenT : (puts (fun q => q.1) (fun q => f' q.2) [] A.goals).length ≤ A.goals.length := by
      have := puts_len (fun q => q.1) (fun q => f' q.2) A.goals []
      simpa using this
    -- the second loop
    obtain ⟨aB, dxB, wvB, pvB, gvB, ovB, eB, hiB, _, _, hgB, _⟩ := id e2
    obtain ⟨dB, kB, rfl, knB, drB⟩ := id hgB
    have dB0 : G0 dB = some (.dT kB) := knB.t nl.2
    have isB : ∀ G', Up G0 G' → ∀ a b : Option V, Ev none (tFld K (tVar 1) "goals") [some v, some u, some u2, none, some (.ref dg), a, b] G' (Is (.ref dB)) := fun G' up a b => by
      have fdg : Fd K "goals" (InsP aB (ga K "Form") dxB (fsForm wvB pvB (.ref dB) ovB)) (Is (.ref dB)) := fun H v h => ⟨aB, _, dxB, _, _, h.1, h.2, T.c_Form, T.n_Form_goals, by rfl, rfl⟩
      exact ev_fld fdg (ev_var rfl ⟨eB, up.ins hiB⟩)
    refine loop_put (K := K) (S := fun a b => [some v, some u, some u2, none, some (.ref dg), a, b]) a4 b4 (fun q => g q.1) (fun q => q.2) f0 x4 dB0 drB h0g g4 h4 (T := puts (fun q => q.1) (fun q => f' q.2) [] A.goals) r4 (by omega) (fun _ _ _ _ => rfl) (fun _ _ => rfl) (fun od G' s a b => isB G' ((Up.lock dB0 trivial).trans (sm_up s)) a b) (fun od q hq x y G' gw p1 p2' => ?_) fun G5 H5 a5 b5 kv5 x5 up5 g5 h5 r5 => ?_
    · have upL : Up G0 G' := (Up.lock dB0 trivial).trans (sm_up gw.gs)
      exact ⟨ev_meth (i := (⟨A, f, g, q.1⟩ : FIx)) ⟨hA, (SpB q hq).1⟩ (n := 0) trivial rfl (isI_form fun _ _ _ _ => by rfl) (ev_var rfl (Mo.up upL e1)) (ea_cons (ev_var rfl p1) ea_nil), ev_var rfl p2'⟩
    -- the form
    have x6 := Ext.learn x5 h0g g5 h5 (fun _ _ z => by cases z)
    have up6 : Up G2 (upd G5 dg (.dT kv5)) := (up4.trans up5).trans (up_new g5)
    have nd1 : ((puts (fun q => q.1) (fun q => f' q.2) [] A.goals).map (·.1)).Nodup := puts_nd _ _ _ _ List.nodup_nil
    have nd2 := puts_nd (fun q : Pl × Pl => g q.1) (fun q => q.2) B.goals _ nd1
    have tl : Tells A.web.m (fun n => A.ps n + B.ps n) (puts (fun q => g q.1) (fun q => q.2) (puts (fun q => q.1) (fun q => f' q.2) [] A.goals) B.goals) (fun s => f' (f s)) (fun s => g (g' s)) := by
      have hBf : FormOk A.web.m B.ps B.goals f' g' := by
        have := hB.form
        rw [hw] at this
        exact this
      refine FormOk.mul o hA.form hBf nd2 (puts_all _ _ _ _ nd1 (puts_all _ _ _ _ List.nodup_nil (fun a b h => by cases h) fun q hq => ?_) fun q hq => ?_) (fun a ha => ?_) fun a ha => ?_
      · have h := Sp q hq
        exact ⟨h.1, by rw [h.2.1]⟩
      · have h := SpB q hq
        refine ⟨hA.form.bij.fro _ h.1, ?_⟩
        show q.2 = f' (f (g q.1))
        rw [hA.form.bij.fg _ h.1]
        exact h.2
      · refine (puts_key _ _ _ _ _).mpr (.inl ((puts_key _ _ _ _ _).mpr (.inr ?_)))
        obtain ⟨b, hb⟩ := mem_keys ha
        exact ⟨(a, b), hb, rfl⟩
      · refine (puts_key _ _ _ _ _).mpr (.inr ?_)
        obtain ⟨b, hb⟩ := mem_keys ha
        exact ⟨(a, b), hb, rfl⟩
    have lenT2 := puts_len (fun q : Pl × Pl => g q.1) (fun q => q.2) B.goals (puts (fun q => q.1) (fun q => f' q.2) [] A.goals)
    refine s_ret (.mk0 x6.sub) (ev_make (i := (⟨A.web, A.web.names.map (fun n => (n, A.ps n + B.ps n)), _, fun n => A.ps n + B.ps n, fun s => f' (f s), fun s => g (g' s)⟩ : InI)) ⟨hW, fun n hn => lk_tab _ _ hn, tl, Nat.lt_of_le_of_lt lenT2 (by omega)⟩ (n := 2) (x6.gw.nl nl) (ea_cons (P := WebA K A.web) (ev_fld (fd_web T) (ev_var rfl (mo_same x6.gs e1))) (ea_cons (P := DcK kN IntA (A.web.names.map (fun n => (n, A.ps n + B.ps n)))) (ev_var rfl (Mo.up up6 p2)) (ea_cons (P := DcT PlA (puts (fun q => g q.1) (fun q => q.2) (puts (fun q => q.1) (fun q => f' q.2) [] A.goals) B.goals)) (ev_var rfl ⟨dg, kv5, rfl, .inl upd_same, DR.mo (up_new g5) r5⟩) ea_nil)))) fun vr G7 H7 x7 r7 => ?_
    obtain ⟨fd, q1, q2, q3, q4, q5⟩ := r7
    exact k vr G7 H7 (x6.trans x7) ⟨fd, q1, q2, q3, q4, Nat.le_trans q5 (by show (puts (fun q => g q.1) (fun q => q.2) (puts (fun q => q.1) (fun q => f' q.2) [] A.goals) B.goals).length ≤ _; omega)⟩
structure InvI where
  a : FormD
  f : Pl → Pl
  g : Pl → Pl
def spInv (K : PySem.W.Frag) : Sp := spOf 2 (ι := InvI) (fun i => FormGood i.a i.f i.g ∧ i.a.goals.length + 300 < 90000) (fun i => [FormA K i.a]) (fun i => FormR K i.a.web i.g i.f (fun n => (- i.a.ps n) % i.a.web.len n) (i.a.goals.length + 300))
theorem ok_Form_inverse (T : Tx K mg) : Good P w K mg base 7 (He5.wf K (ga K "Form") "property" "inverse") ["self"] (spInv K) := by
  obtain ⟨⟨fd_Web_told, G_Web_told, b_Web_told⟩, k_Web_told⟩ := ok_Web_told (P := P) (w := w) (base := base) T
  obtain ⟨⟨fd_Form_origin, G_Form_origin, b_Form_origin⟩, k_Form_origin⟩ := ok_Form_origin (P := P) (w := w) (base := base) T
  obtain ⟨⟨fd_FormU_initU, G_FormU_initU, b_FormU_initU⟩, k_FormU_initU⟩ := ok_FormU_initU (P := P) (w := w) (base := base) T
  refine good_of T.d_Form_inverse sc_Form_inverse (fun fd F => FunD.bindsN F fun _ _ _ _ _ _ us hl => match us, hl with | [_], _ => rfl) (fun vs H Q E h => ?_) (fun cdv A outer s H vs Q E hr h => ?_)
  · obtain ⟨i, G, _, _, _, al, _⟩ := h
    exact al_len al rfl
  · obtain ⟨i, G0, hC, nl, sG, al, k⟩ := h
    have hu := hu_of hr
    have hmin := hr.units
    have f0 : Fr none G0 H := .mk0 sG
    obtain ⟨v, rfl, e1⟩ := al1 al
    obtain ⟨A, f, g⟩ := i
    obtain ⟨hA, few⟩ := hC
    dsimp only at hA few e1 k
    have hW := hA.web
    have o := hW.ok
    refine ⟨_, (pss_cons (ps_set (i := 1) sc_Form_inverse.nd rfl (Or.inl rfl) (pe_dnewT))
    (pss_cons (ps_lock (ps_for PassesOwn.never rfl (pi_itemsT (pe_fld (pv 0) (by rfl))) (pg_tup rfl (pgs_cons (pg_name (i := 2) sc_Form_inverse.nd rfl (Or.inl rfl)) (pgs_cons (pg_name (i := 3) sc_Form_inverse.nd rfl (Or.inl rfl)) pgs_nil)))
    (pss_one (ps_dput hu (pv 1) (pv 3) (pv 2) rfl))))
    (pss_cons (ps_lock (ps_for PassesOwn.never rfl (pi_keys (pe_fld (pe_fld (pv 0) (by rfl)) (by rfl))) (pg_name (i := 2) sc_Form_inverse.nd rfl (Or.inl rfl))
    (pss_cons (ps_set (i := 4) sc_Form_inverse.nd rfl (Or.inl rfl) (pe_meth (pe_fld (pv 0) (by rfl)) T.c_Web T.m_Web_told G_Web_told (hr.mono (by decide)) b_Web_told .nil pass0 (pa_cons (pv 2) pa_nil)))
    (pss_one (ps_dput hu (pv 1) (pv 4) (pe_meth (pv 0) T.c_Form T.m_Form_origin G_Form_origin (hr.mono (by decide)) b_Form_origin .nil pass0 (pa_cons (pv 4) pa_nil)) rfl)))))
    (pss_one (ps_ret (pe_make T.k_Form G_FormU_initU (hr.mono (by decide)) (by rfl) T.g_Form b_FormU_initU .nil pass0 (pa_cons (pe_fld (pv 0) (by rfl)) (pa_cons (pe_lock (pe_dc (own := [("name", 5), ("push", 6)]) (g := (gTup K 2 (gCons (gName 5) (gCons (gName 6) gNil)))) (by rfl) sc_Form_inverse.nd (pi_items (pe_fld (pv 0) (by rfl))) (blkOk_by (N := N_Form_inverse) (sc := defScope s_Form_inverse) (by decide +kernel)) (fun _ _ _ _ _ => (pg_tup rfl (pgs_cons (pg_name (i := 5) sc_Form_inverse.nd rfl (Or.inl rfl)) (pgs_cons (pg_name (i := 6) sc_Form_inverse.nd rfl (Or.inl rfl)) pgs_nil)))) (fun _ _ _ _ _ => pts_nil) (fun _ _ _ _ _ => (pv 5)) (fun _ _ _ _ _ => (pe_un un_neg (pv 6))))) (pa_cons (pv 1) pa_nil))))))))), ?_⟩
    refine q_newT f0 fun dg hdg => ?_
    have g0 : G0 dg = none := sG.free hdg
    have x1 := Ext.mutD (o := .dT []) (Ext.rfl' f0) hdg g0 (fun z => by cases z)
    obtain ⟨aA, dxA, wvA, pvA, gvA, ovA, eA, hiA, hwA, hpA, hgA, _⟩ := id e1
    obtain ⟨dA, kA, rfl, knA, drA⟩ := id hgA
    have dA0 : G0 dA = some (.dT kA) := knA.t nl.2
    have isA : ∀ G', Up G0 G' → ∀ a b : Option V, Ev none (tFld K (tVar 0) "goals") [some v, some (.ref dg), a, b, none, none, none] G' (Is (.ref dA)) := fun G' up a b => by
      have fdg : Fd K "goals" (InsP aA (ga K "Form") dxA (fsForm wvA pvA (.ref dA) ovA)) (Is (.ref dA)) := fun H v h => ⟨aA, _, dxA, _, _, h.1, h.2, T.c_Form, T.n_Form_goals, by rfl, rfl⟩
      exact ev_fld fdg (ev_var rfl ⟨eA, up.ins hiA⟩)
    have Sp : ∀ q, q ∈ A.goals → A.web.m.Spot q.1 ∧ q.2 = f q.1 ∧ A.web.m.Spot q.2 := fun q hq => by
      have h := hA.form.in_ q.1 q.2 hq
      refine ⟨h.1, h.2, ?_⟩
      rw [h.2]
      exact hA.form.bij.to _ h.1
    refine loop_put (K := K) (S := fun a b => [some v, some (.ref dg), a, b, none, none, none]) none none (fun q => q.2) (fun q => q.1) f0 x1 dA0 drA hdg g0 upd_same (T := []) .nil (by simp; omega) (fun _ _ _ _ => rfl) (fun _ _ => rfl) (fun od G' s a b => isA G' ((Up.lock dA0 trivial).trans (sm_up s)) a b) (fun od q hq x y G' gw p1 p2' => ⟨ev_var rfl p2', ev_var rfl p1⟩) fun G4 H4 a4 b4 kv4 x4 up4 g4 h4 r4 => ?_
    have lenT : (puts (fun q => q.2) (fun q => q.1) [] A.goals).length ≤ A.goals.length := by
      have := puts_len (fun q => q.2) (fun q => q.1) A.goals []
      simpa using this
    -- the mates
    obtain ⟨aW, dxW, rv, jv, lv, sv, mv, rfl, hiW, _, _, _, _, hmW⟩ := id hwA
    obtain ⟨dM, kM, rfl, knM, drM⟩ := id hmW
    have dM0 : G0 dM = some (.dT kM) := knM.t nl.2
    have isM : ∀ G', Up G0 G' → ∀ a b : Option V, Ev none (tFld K (tFld K (tVar 0) "web") "mates") [some v, some (.ref dg), a, b4, b, none, none] G' (Is (.ref dM)) := fun G' up a b => by
      have fdw : Fd K "web" (InsP2 aA (ga K "Form") dxA (fsForm (.ref aW) pvA (.ref dA) ovA) aW (ga K "Web") dxW (fsWeb rv jv lv sv (.ref dM))) (InsP aW (ga K "Web") dxW (fsWeb rv jv lv sv (.ref dM))) := fun H v h => ⟨aA, _, dxA, _, _, h.1, h.2.1, T.c_Form, T.n_Form_web, by rfl, rfl, h.2.2⟩
      have fdm : Fd K "mates" (InsP aW (ga K "Web") dxW (fsWeb rv jv lv sv (.ref dM))) (Is (.ref dM)) := fun H v h => ⟨aW, _, dxW, _, _, h.1, h.2, T.c_Web, T.n_Web_mates, by rfl, rfl⟩
      exact ev_fld fdm (ev_fld fdw (ev_var rfl ⟨eA, up.ins hiA, up.ins hiW⟩))
    refine loop_keys (S := fun a b => [some v, some (.ref dg), a, b4, b, none, none]) a4 none (fun q => A.web.told q.1) (fun q => g (A.web.told q.1)) f0 x4 dM0 drM hdg g4 h4 (T := puts (fun q => q.2) (fun q => q.1) [] A.goals) r4 (by have := hW.mfew; omega) (fun _ _ _ => rfl) (fun _ _ _ => rfl) (fun _ _ => rfl) (fun _ _ => rfl) (fun od G' s a b => isM G' ((Up.lock dM0 trivial).trans (sm_up s)) a b) (fun od q hq x b G' gw p1 => ⟨?_, fun m G'' gw' pm => ?_⟩) fun G5 H5 a5 b5 kv5 x5 up5 g5 h5 r5 => ?_
    · have upL : Up G0 G' := (Up.lock dM0 trivial).trans (sm_up gw.gs)
      exact ev_meth (i := (A.web, q.1)) trivial (n := 0) trivial rfl (isI_web fun _ _ _ _ _ => by rfl) (ev_fld (fd_web T) (ev_var rfl (Mo.up upL e1))) (ea_cons (ev_var rfl p1) ea_nil)
    · have upL : Up G0 G'' := ((Up.lock dM0 trivial).trans (sm_up gw.gs)).trans (sm_up gw'.gs)
      have hv := (o.mate_val q.1 q.2 (lk_of_mem hW.mnd hq)).1
      exact ev_meth (i := (⟨A, f, g, A.web.told q.1⟩ : FIx)) ⟨hA, o.spot hv⟩ (n := 0) trivial rfl (isI_form fun _ _ _ _ => by rfl) (ev_var rfl (Mo.up upL e1)) (ea_cons (ev_var rfl pm) ea_nil)
    have x6 := Ext.learn x5 hdg g5 h5 (fun _ _ z => by cases z)
    have nl6 := x6.gw.nl nl
    have nd1 : ((puts (fun q => q.2) (fun q => q.1) [] A.goals).map (·.1)).Nodup := puts_nd _ _ _ _ List.nodup_nil
    have nd2 := puts_nd (fun q : Pl × Pl => A.web.told q.1) (fun q => g (A.web.told q.1)) A.web.mates _ nd1
    have lenT2 := puts_len (fun q : Pl × Pl => A.web.told q.1) (fun q => g (A.web.told q.1)) A.web.mates (puts (fun q => q.2) (fun q => q.1) [] A.goals)
    have tl : Tells A.web.m (fun n => - A.ps n) (puts (fun q => A.web.told q.1) (fun q => g (A.web.told q.1)) (puts (fun q => q.2) (fun q => q.1) [] A.goals) A.web.mates) g f := by
      refine FormOk.inv o hA.form nd2 (puts_all _ _ _ _ nd1 (puts_all _ _ _ _ List.nodup_nil (fun a b h => by cases h) fun q hq => ?_) fun q hq => ?_) (fun a ha => ?_) fun a hs hm => ?_
      · have h := Sp q hq
        refine ⟨h.2.2, ?_⟩
        show q.1 = g q.2
        rw [h.2.1, hA.form.bij.gf _ h.1]
      · exact ⟨o.spot (o.mate_val q.1 q.2 (lk_of_mem hW.mnd hq)).1, rfl⟩
      · refine (puts_key _ _ _ _ _).mpr (.inl ((puts_key _ _ _ _ _).mpr (.inr ?_)))
        obtain ⟨b, hb⟩ := mem_keys ha
        exact ⟨(a, b), hb, (hA.form.in_ a b hb).2⟩
      · refine (puts_key _ _ _ _ _).mpr (.inr ?_)
        cases c : lk A.web.mates a with
        | none => exact absurd c hm
        | some b => exact ⟨(a, b), lk_mem c, hs.2⟩
    -- the pushes turned round
    obtain ⟨dP, kP, rfl, knP, drP⟩ := id hpA
    have dP0 : G0 dP = some (.dK kP) := knP.k nl.1
    have dP6 := x6.gs _ _ dP0
    have pnd : (A.push.map (·.1)).Nodup := by
      rw [hA.push.key]
      exact o.nd
    have isP : ∀ G', Up G0 G' → Ev none (tFld K (tVar 0) "pushes") [some v, some (.ref dg), a5, b4, b5, none, none] G' (Is (.ref dP)) := fun G' up => by
      have fdp : Fd K "pushes" (InsP aA (ga K "Form") dxA (fsForm (.ref aW) (.ref dP) (.ref dA) ovA)) (Is (.ref dP)) := fun H v h => ⟨aA, _, dxA, _, _, h.1, h.2, T.c_Form, T.n_Form_pushes, by rfl, rfl⟩
      exact ev_fld fdp (ev_var rfl ⟨eA, up.ins hiA⟩)
    have up6 : Up G0 (upd G5 dg (.dT kv5)) := sm_up x6.gs
    have lkp : ∀ n, n ∈ A.web.names → lk (A.push.map fun q => (q.1, -q.2)) n = some (- A.ps n) := fun n hn => by
      have := lk_map (fun (_ : Nm) (p : Int) => -p) A.push n
      rw [this, hA.push.at_ hn]
      rfl
    refine s_ret (.mk0 x6.sub) (ev_make (i := (⟨A.web, A.push.map (fun q => (q.1, -q.2)), _, fun n => - A.ps n, g, f⟩ : InI)) ⟨hW, lkp, tl, Nat.lt_of_le_of_lt lenT2 (by have := hW.mfew; omega)⟩ (n := 2) nl6 (ea_cons (P := WebA K A.web) (ev_fld (fd_web T) (ev_var rfl (mo_same x6.gs e1))) (ea_cons (P := DcK kN IntA (A.push.map (fun q => (q.1, -q.2)))) (ev_cast (ev_lock (P := DcK kN IntA (mkT (A.push.filterMap fun q => some (q.1, -q.2)))) dP6 trivial fun od => ev_dcK (R := fun b : Nm × Int => TupP [Is (kV (kN b.1)), IntA b.2]) (R' := IntA) kN_inj (fun q => some (q.1, -q.2)) (src_itK (e := kN) (isP _ (up6.trans (Up.lock dP6 trivial))) upd_same (DR.mo (up6.trans (Up.lock dP6 trivial)) drP)) (by have := hW.few; have h2 : A.push.length = A.web.names.length := (List.length_map (as := A.push) (f := (·.1))) ▸ (congrArg List.length hA.push.key); unfold WebD.names at h2; rw [List.length_map] at h2; omega) (fun q hq xv G' H' gw fr rx Q' k2 => tg2 rx fr.sub fun a1 a2 ha1 ha2 => k2 _ rfl ⟨et_yes, fun c hc => by cases hc; exact ⟨ev_var rfl ha1, ev_u (i := q.2) (ev_var rfl ha2)⟩⟩)) (by rw [fm_map, mkT_nd _ (by rw [List.map_map]; exact pnd)])) (ea_cons (P := DcT PlA (puts (fun q => A.web.told q.1) (fun q => g (A.web.told q.1)) (puts (fun q => q.2) (fun q => q.1) [] A.goals) A.web.mates)) (ev_var rfl ⟨dg, kv5, rfl, .inl upd_same, DR.mo (up_new g5) r5⟩) ea_nil)))) fun vr G7 H7 x7 r7 => ?_
    obtain ⟨fd, q1, q2, q3, q4, q5⟩ := r7
    exact k vr G7 H7 (x6.trans x7) ⟨fd, q1, q2, q3, q4, Nat.le_trans q5 (by have := hW.mfew; show (puts (fun q => A.web.told q.1) (fun q => g (A.web.told q.1)) (puts (fun q => q.2) (fun q => q.1) [] A.goals) A.web.mates).length ≤ _; omega)⟩
end
end MR
/-! Runs: what stands for one; stand, ahead, lone_length. -/
namespace MR
open PySem PySem.Spec PyProof.Rows L2 He
/-! ### min of pairs -/
def qD (q : Int × Pl) : PyData := .tuple [.int q.1, plD q.2]
theorem qD_alike (p q : Int × Pl) : PySem.W.alike (qD p) (qD q) = true := rfl
theorem qD_lt {p q : Int × Pl} (h : p.1 < q.1) : PySem.W.dataLt (qD p) (qD q) = true := by
  unfold qD
  rw [PySem.W.dataLt_pair rfl rfl]
  have : PyData.eqv (.int p.1) (.int q.1) = false := by
    rw [PyData.eqv, int_beq]
    exact decide_eq_false (by omega)
  rw [this, PySem.W.dataLt_int]
  simpa using h
theorem qD_ge {p q : Int × Pl} (h : q.1 < p.1) : PySem.W.dataLt (qD p) (qD q) = false := by
  unfold qD
  rw [PySem.W.dataLt_pair rfl rfl]
  have : PyData.eqv (.int p.1) (.int q.1) = false := by
    rw [PyData.eqv, int_beq]
    exact decide_eq_false (by omega)
  rw [this, PySem.W.dataLt_int]
  simp
  omega
theorem minD_q : ∀ (l : List (Int × Pl)) (p : Int × Pl), ∃ q, q ∈ p :: l ∧ PySem.W.minD (qD p) (l.map qD) = qD q ∧ ∀ r, r ∈ p :: l → q.1 ≤ r.1 := by
  intro l
  unfold PySem.W.minD
  induction l with
  | nil => exact fun p => ⟨p, List.mem_cons_self, rfl, fun r hr => by
      rcases List.mem_cons.mp hr with rfl | h
      · exact Int.le_refl _
      · cases h⟩
  | cons y l ih =>
    intro p
    rw [List.map_cons, List.foldl_cons]
    by_cases c : PySem.W.dataLt (qD y) (qD p) = true
    · rw [if_pos c]
      obtain ⟨q, h1, h2, h3⟩ := ih y
      refine ⟨q, List.mem_cons_of_mem _ h1, h2, fun r hr => ?_⟩
      rcases List.mem_cons.mp hr with rfl | h
      · have h4 := h3 y List.mem_cons_self
        have : ¬ r.1 < y.1 := fun z => by
          rw [qD_ge z] at c
          cases c
        omega
      · exact h3 r h
    · rw [if_neg c]
      obtain ⟨q, h1, h2, h3⟩ := ih p
      have yp : ¬ y.1 < p.1 := fun z => c (qD_lt z)
      refine ⟨q, ?_, h2, fun r hr => ?_⟩
      · rcases List.mem_cons.mp h1 with rfl | h
        · exact List.mem_cons_self
        · exact List.mem_cons_of_mem _ (List.mem_cons_of_mem _ h)
      · have h4 := h3 p List.mem_cons_self
        rcases List.mem_cons.mp hr with rfl | h
        · exact h4
        · rcases List.mem_cons.mp h with rfl | h
          · omega
          · exact h3 r (List.mem_cons_of_mem _ h)
abbrev QA (q : Int × Pl) : Hp → V → Prop := TupP [IntA q.1, PlA q.2]
theorem qa_dp {K : PySem.W.Frag} {q : Int × Pl} {H H' : Hp} {v : V} (s : Same H H') (h : QA q H v) : Dp K H' v (qD q) := by
  obtain ⟨a, vs, rfl, h, al⟩ := h
  obtain ⟨_, _, rfl, h1, h2⟩ := al2 al
  cases h1
  exact .tup (SqT.of (s _ _ h)) (.cons (.int _) (.cons (pl_dp s h2) .nil))
theorem dpa_all {K : PySem.W.Frag} {β : Type} {R : β → Hp → V → Prop} {D : β → PyData} {H H' : Hp} (h : ∀ b v, R b H v → Dp K H' v (D b)) : ∀ {l : List β} {vs : List V}, Paired (fun b u => R b H u) l vs → DpAll K H' vs (l.map D)
  | _, _, .nil => .nil
  | _, _, .cons a t => .cons (h _ _ a) (dpa_all h t)
def MinP (l : List (Int × Pl)) : Hp → V → Prop := fun H v => ∃ q, q ∈ l ∧ QA q H v ∧ ∀ r, r ∈ l → q.1 ≤ r.1
theorem depth_q (l : List (Int × Pl)) : PyData.depthAll (l.map qD) ≤ 60 := by
  have : PyData.depthAll (l.map qD) ≤ 2 := by
    induction l with
    | nil => rw [List.map_nil, PyData.depthAll]; omega
    | cons x l ih =>
      rw [List.map_cons, PyData.depthAll]
      have : (qD x).depth ≤ 2 := by
        unfold qD plD
        simp [PyData.depth, PyData.depthAll]
      omega
  omega
theorem qD_inj {p q : Int × Pl} (h : qD p = qD q) : p = q := by
  unfold qD plD at h
  simp at h
  obtain ⟨h1, h2, h3⟩ := h
  exact Prod.ext h1 (Prod.ext h2 h3)
theorem ev_minQ {K : PySem.W.Frag} {M : Option Addr} {te : TE} {σ : L2.St} {G : Hp} {l : List (Int × Pl)} (hl : l ≠ []) (h : Ev M te σ G (LsA QA l)) : Ev M (tCB (rMinD K) (tCons te tNil)) σ G (MinP l) := fun G1 H1 e f Q k =>
  h G1 H1 e f _ fun v G2 H2 e2 p => by
    obtain ⟨a, vs, rfl, h1, h2⟩ := p
    cases l with
    | nil => exact absurd rfl hl
    | cons q0 l =>
      refine ⟨a, vs, qD q0, l.map qD, rfl, SqL.of (e2.sub _ _ h1), dpa_all (D := qD) (fun b v hb => qa_dp e2.sub hb) h2, ⟨fun x hx y hy => ?_, fun x hx => ?_⟩, depth_q (q0 :: l), fun i v hi hm => ?_⟩
      · have hx' : x ∈ (q0 :: l).map qD := hx
        have hy' : y ∈ (q0 :: l).map qD := hy
        obtain ⟨a, _, rfl⟩ := List.mem_map.mp hx'
        obtain ⟨b, _, rfl⟩ := List.mem_map.mp hy'
        rfl
      · have hx' : x ∈ (q0 :: l).map qD := hx
        obtain ⟨a, _, rfl⟩ := List.mem_map.mp hx'
        intro z
        cases z
      · obtain ⟨q, m1, m2, m3⟩ := minD_q l q0
        rw [m2] at hm
        have hm' : ((q0 :: l).map qD)[i]? = some (qD q) := hm
        rw [List.getElem?_map] at hm'
        cases c : (q0 :: l)[i]? with
        | none =>
          rw [c] at hm'
          cases hm'
        | some r =>
          rw [c] at hm'
          have er : r = q := qD_inj (Option.some.inj hm')
          subst er
          obtain ⟨w, hw, rw_⟩ := paired_at' h2 c
          rw [hi] at hw
          cases hw
          exact k _ G2 H2 e2 ⟨r, m1, rw_, m3⟩
/-! ### runs -/
abbrev LaneT := Int × Int × Int
structure RunsD where
  fd : FormD
  lanes : List (Nm × LaneT)
  marks : List (Pl × List (Int × Pl))
def laneOf (lanes : List (Nm × LaneT)) (n : Nm) : LaneT := (lk lanes n).getD (1, 1, 0)
def NOf (lanes : List (Nm × LaneT)) : LanesM Nm := ⟨fun n => (laneOf lanes n).1, fun n => (laneOf lanes n).2.1, fun n => (laneOf lanes n).2.2⟩
structure LanesGood (w : WebD) (ps : Nm → Int) (lanes : List (Nm × LaneT)) : Prop where
  at_ : ∀ n, n ∈ w.names → lk lanes n = some (laneOf lanes n)
  ok : LanesOk w.m ps (NOf lanes)
structure RunsGood (rd : RunsD) (f g : Pl → Pl) : Prop where
  fd : FormGood rd.fd f g
  lanes : LanesGood rd.fd.web rd.fd.ps rd.lanes
  marks : ∀ l a e, (∃ t, lk rd.marks l = some t ∧ lk t a = some e) ↔ Marked rd.fd.web.m (NOf rd.lanes) (keysOf rd.fd.goals) l a e
  mnd : (rd.marks.map (·.1)).Nodup
  ind : ∀ q, q ∈ rd.marks → (q.2.map (·.1)).Nodup ∧ q.2 ≠ [] ∧ q.2.length < 100000
  mfew : rd.marks.length < 100000
abbrev LaneA (t : LaneT) : Hp → V → Prop := TupP [IntA t.1, IntA t.2.1, IntA t.2.2]
abbrev MarkA (t : List (Int × Pl)) : Hp → V → Prop := DcK kI PlA t
def fsRuns (f l m : V) : List (Str × V) := [("form", f), ("lanes", l), ("marks", m)]
def RunsA (K : PySem.W.Frag) (rd : RunsD) : Hp → V → Prop := fun H v => ∃ a dx f l m, v = .ref a ∧ H a = some (.ins (ga K "Runs") dx (fsRuns f l m)) ∧ FormA K rd.fd H f ∧ DcK kN LaneA rd.lanes H l ∧ DcT MarkA rd.marks H m
instance {K : PySem.W.Frag} {rd : RunsD} : Mo (RunsA K rd) := ⟨fun e h => by
  obtain ⟨a, dx, f, l, m, rfl, h0, h1, h2, h3⟩ := h
  exact ⟨a, dx, f, l, m, rfl, e.ins h0, Mo.up e h1, Mo.up e h2, Mo.up e h3⟩⟩
/-- what stand asks -/
def StandP (K : PySem.W.Frag) (lanes : List (Nm × LaneT)) : Hp → V → Prop := fun H v => ∃ a dx fs l, v = .ref a ∧ H a = some (.ins (ga K "Runs") dx fs) ∧ fs.lookup ("lanes" : Str) = some l ∧ fs.lookup ("stand" : Str) = none ∧ DcK kN LaneA lanes H l
instance {K : PySem.W.Frag} {lanes : List (Nm × LaneT)} : Mo (StandP K lanes) := ⟨fun e h => by
  obtain ⟨a, dx, fs, l, rfl, h0, h1, h2, h3⟩ := h
  exact ⟨a, dx, fs, l, rfl, e.ins h0, h1, h2, Mo.up e h3⟩⟩
section
variable {P : Program} {w : World} {K : PySem.W.Frag} {mg : Str → Option Value} {base : Heap} {rd : RunsD} {lanes : List (Nm × LaneT)}
theorem standP_of : ∀ H v, RunsA K rd H v → StandP K rd.lanes H v := fun H v ⟨a, dx, f, l, m, e, h0, h1, h2, h3⟩ => ⟨a, dx, _, l, e, h0, by rfl, by rfl, h2⟩
theorem fr_form (T : Tx K mg) : Fd K "form" (RunsA K rd) (FormA K rd.fd) := fun H v ⟨a, dx, f, l, m, e, h0, h1, h2, h3⟩ => ⟨a, _, dx, _, f, e, h0, T.c_Runs, T.n_Runs_form, by rfl, h1⟩
theorem fr_lanes (T : Tx K mg) : Fd K "lanes" (RunsA K rd) (DcK kN LaneA rd.lanes) := fun H v ⟨a, dx, f, l, m, e, h0, h1, h2, h3⟩ => ⟨a, _, dx, _, l, e, h0, T.c_Runs, T.n_Runs_lanes, by rfl, h2⟩
theorem fr_marks (T : Tx K mg) : Fd K "marks" (RunsA K rd) (DcT MarkA rd.marks) := fun H v ⟨a, dx, f, l, m, e, h0, h1, h2, h3⟩ => ⟨a, _, dx, _, m, e, h0, T.c_Runs, T.n_Runs_marks, by rfl, h3⟩
theorem fs_lanes (T : Tx K mg) : Fd K "lanes" (StandP K lanes) (DcK kN LaneA lanes) := fun H v ⟨a, dx, fs, l, e, h0, h1, h2, h3⟩ => ⟨a, _, dx, _, l, e, h0, T.c_Runs, T.n_Runs_lanes, h1, h3⟩
theorem isI_runs {m : Str} (h : ∀ r j l : V, (fsRuns r j l).lookup m = none) : ∀ H v, RunsA K rd H v → IsI (ga K "Runs") m H v := fun H v ⟨a, dx, r, j, l, e, h0, _⟩ => ⟨a, dx, _, e, h0, h r j l⟩
theorem isI_stand : ∀ H v, StandP K lanes H v → IsI (ga K "Runs") "stand" H v := fun H v ⟨a, dx, fs, l, e, h0, h1, h2, _⟩ => ⟨a, dx, _, e, h0, h2⟩
structure LaneBits (t : LaneT) : Prop where
  g0 : 0 < t.1
  g : t.1.natAbs < 2 ^ 104
  z0 : 0 < t.2.1
  z : t.2.1.natAbs < 2 ^ 104
  b : t.2.2.natAbs < 2 ^ 104
/-- runs.stand(place) -/
def spStand (K : PySem.W.Frag) : Sp := spOf 0 (ι := List (Nm × LaneT) × Pl) (fun i => lk i.1 i.2.1 = some (laneOf i.1 i.2.1) ∧ LaneBits (laneOf i.1 i.2.1) ∧ i.2.2.natAbs < 2 ^ 104) (fun i => [StandP K i.1, PlA i.2]) (fun i => TupP [PlA ((NOf i.1).lane i.2), IntA ((NOf i.1).at_ i.2)])
theorem ok_Runs_stand (T : Tx K mg) : Good P w K mg base 1 (ma K (ga K "Runs") "stand") ["self", "place"] (spStand K) := by
  refine good_of T.d_Runs_stand sc_Runs_stand (fun fd F => FunD.bindsN F fun _ _ _ _ _ _ us hl => match us, hl with | [_, _], _ => rfl) (fun vs H Q E h => ?_) (fun cdv A outer s H vs Q E hr h => ?_)
  · obtain ⟨i, G, _, _, _, al, _⟩ := h
    exact al_len al rfl
  · obtain ⟨i, G0, hC, nl, sG, al, k⟩ := h
    have hu := hu_of hr
    have hmin := hr.units
    have f0 : Fr none G0 H := .mk0 sG
    obtain ⟨v, u, rfl, e1, e2⟩ := al2 al
    obtain ⟨lanes, p⟩ := i
    obtain ⟨hl, hb, hp⟩ := hC
    dsimp only at hl hb hp e1 e2 k
    refine ⟨_, (pss_cons (ps_asg (pv 1) (pg_tup rfl (pgs_cons (pg_name (i := 2) sc_Runs_stand.nd rfl (Or.inl rfl)) (pgs_cons (pg_name (i := 3) sc_Runs_stand.nd rfl (Or.inl rfl)) pgs_nil))))
    (pss_cons (ps_asg (pe_dget hu (pe_fld (pv 0) (by rfl)) (pv 2) (fun _ _ => rfl)) (pg_tup rfl (pgs_cons (pg_name (i := 4) sc_Runs_stand.nd rfl (Or.inl rfl)) (pgs_cons (pg_name (i := 5) sc_Runs_stand.nd rfl (Or.inl rfl)) (pgs_cons (pg_name (i := 6) sc_Runs_stand.nd rfl (Or.inl rfl)) pgs_nil)))))
    (pss_one (ps_ret (pe_tup (pa_cons (pe_tup (pa_cons (pv 2) (pa_cons (pe_op op_mod (pv 3) (pv 4)) pa_nil))) (pa_cons (pe_op op_mod (pe_op op_mulX (pe_op op_fdivW (pv 3) (pv 4)) (pv 6)) (pv 5)) pa_nil))))))), ?_⟩
    refine q_asgG f0 (ev_var rfl (plA_tup e2)) fun v1 G1 H1 x1 h1 => tg2 h1 x1.sub fun v2 v3 h2 h3 => ?_
    cases h2
    cases h3
    refine q_asgG (.mk0 x1.sub) (ev_getK (R := LaneA) kN_inj p.1 hl (ev_fld (fs_lanes T) (ev_var rfl (mo_same x1.gs e1))) (ev_var rfl rfl)) fun v4 G2 H2 x2 h4 => tg3 h4 x2.sub fun v5 v6 v7 h5 h6 h7 => ?_
    cases h5
    cases h6
    cases h7
    have x2 := x1.trans x2
    generalize hL : laneOf lanes p.1 = t at *
    have r := mod_range (a := p.2 / t.1 * t.2.2) hb.z0
    have qb : (p.2 / t.1).natAbs < 2 ^ 105 := by
      have := hb.g0
      have h1 := Int.natAbs_ediv_le_natAbs p.2 t.1
      omega
    refine s_ret (P := TupP [PlA ((NOf lanes).lane p), IntA ((NOf lanes).at_ p)]) (.mk0 x2.sub) (ev_tup (ea_cons (ev_imp (ev_tup (ea_cons (ev_var (P := StrA p.1) rfl rfl) (ea_cons (P := IntA (p.2 % t.1)) (ev_i (i := p.2) (j := t.1) (ev_var rfl rfl) (ev_var rfl rfl) hb.g0) ea_nil))) fun H v h => ?_) (ea_cons (ev_is (v := .int (p.2 / t.1 * t.2.2 % t.2.1)) (ev_i (i := p.2 / t.1 * t.2.2) (j := t.2.1) (ev_i (i := p.2 / t.1) (j := t.2.2) (ev_i (i := p.2) (j := t.1) (ev_var rfl rfl) (ev_var rfl rfl) (wide_div hb.g0 hb.g (by decide) (by decide))) (ev_var rfl rfl) (mulx_ok qb hb.b (by decide))) (ev_var rfl rfl) hb.z0) ?_) ea_nil))) fun v G3 H3 x3 => k v G3 H3 (x2.trans x3)
    · have : (NOf lanes).lane p = (p.1, p.2 % t.1) := by
        subst hL
        rfl
      rw [this]
      exact plA_of h
    · have : (NOf lanes).at_ p = p.2 / t.1 * t.2.2 % t.2.1 := by
        subst hL
        rfl
      rw [this]
theorem LanesGood.bits {wd : WebD} {ps : Nm → Int} (W : WebGood wd) (L : LanesGood wd ps lanes) {n : Nm} (hn : n ∈ wd.names) : LaneBits (laneOf lanes n) := by
  have o := L.ok n hn
  have o' : LaneOk (wd.len n) (ps n) (laneOf lanes n).1 (laneOf lanes n).2.1 (laneOf lanes n).2.2 := o
  have b := W.big n hn
  have g0 := o'.g0
  have m0 := o'.m0
  have e := o'.eL
  have b0 := o'.b0
  have bm := o'.bm
  have h1 : (laneOf lanes n).1 * 1 ≤ (laneOf lanes n).1 * (laneOf lanes n).2.1 := Int.mul_le_mul_of_nonneg_left (by omega) (by omega)
  have h2 : 1 * (laneOf lanes n).2.1 ≤ (laneOf lanes n).1 * (laneOf lanes n).2.1 := Int.mul_le_mul_of_nonneg_right (by omega) (by omega)
  exact ⟨g0, by omega, m0, by omega, by omega⟩
/-- runs.lone_length(name) -/
def spLoneLen (K : PySem.W.Frag) : Sp := spOf 0 (ι := RunsD × Nm) (fun i => lk i.1.lanes i.2 = some (laneOf i.1.lanes i.2)) (fun i => [RunsA K i.1, StrA i.2]) (fun i => IntA ((NOf i.1.lanes).sz i.2))
theorem ok_Runs_lone_length (T : Tx K mg) : Good P w K mg base 1 (ma K (ga K "Runs") "lone_length") ["self", "name"] (spLoneLen K) := by
  refine good_of T.d_Runs_lone_length sc_Runs_lone_length (fun fd F => FunD.bindsN F fun _ _ _ _ _ _ us hl => match us, hl with | [_, _], _ => rfl) (fun vs H Q E h => ?_) (fun cdv A outer s H vs Q E hr h => ?_)
  · obtain ⟨i, G, _, _, _, al, _⟩ := h
    exact al_len al rfl
  · obtain ⟨i, G0, hC, nl, sG, al, k⟩ := h
    have hu := hu_of hr
    have hmin := hr.units
    have f0 : Fr none G0 H := .mk0 sG
    obtain ⟨v, u, rfl, e1, e2⟩ := al2 al
    obtain ⟨rd, n⟩ := i
    dsimp only at hC e1 e2 k
    cases e2
    refine ⟨_, (pss_one (ps_ret (pe_ix ix_tup (pe_dget hu (pe_fld (pv 0) (by rfl)) (pv 1) (fun _ _ => rfl)) pe_int (fun _ _ => rfl)))), ?_⟩
    exact s_ret f0 (ev_ixT (P := IntA (laneOf rd.lanes n).2.1) (i := 1) (ev_imp (ev_getK (R := LaneA) kN_inj n hC (ev_fld (fr_lanes T) (ev_var rfl e1)) (ev_var rfl rfl)) item_t1) ev_c) k
theorem DR.vals {κ K' β : Type} [DecidableEq κ] {e : κ → K'} {R : β → V → Prop} : ∀ {l : List (κ × β)} {kvs : List (K' × V)}, DR e R l kvs → ∃ lV : List (κ × V), DR e (fun b u => u = b) lV kvs ∧ ∀ k c, lk l k = some c → ∃ v, lk lV k = some v ∧ R c v
  | _, _, .nil => ⟨[], .nil, fun k c h => by cases h⟩
  | x :: l, q :: kvs, .cons a t => by
    obtain ⟨lV, h1, h2⟩ := DR.vals t
    refine ⟨(x.1, q.2) :: lV, .cons ⟨a.1, rfl⟩ h1, fun k c h => ?_⟩
    rw [lk_cons] at h ⊢
    by_cases z : x.1 = k
    · rw [if_pos z] at h ⊢
      cases h
      exact ⟨_, rfl, a.2⟩
    · rw [if_neg z] at h ⊢
      exact h2 k c h
/-- the very values of a dict -/
theorem dcT_is {K : PySem.W.Frag} {H : Hp} {d : Addr} {kvs : List (List Key × V)} {lV : List (Pl × V)} (h : Kn H d (.dT kvs)) (r : DR pk (fun b u => u = b) lV kvs) : DcT (fun b => Is b) lV H (.ref d) := ⟨d, kvs, rfl, h, r⟩
def RunsV (K : PySem.W.Frag) (a dx : Addr) (f l : V) (dm : Addr) (kvs : List (List Key × V)) : Hp → V → Prop := fun H v => v = .ref a ∧ H a = some (.ins (ga K "Runs") dx (fsRuns f l (.ref dm))) ∧ Kn H dm (.dT kvs)
instance {a dx : Addr} {f l : V} {dm : Addr} {kvs : List (List Key × V)} : Mo (RunsV K a dx f l dm kvs) := ⟨fun e h => ⟨h.1, e.ins h.2.1, e.dT h.2.2⟩⟩
theorem fv_marks (T : Tx K mg) {a dx : Addr} {f l : V} {dm : Addr} {kvs : List (List Key × V)} {lV : List (Pl × V)} (r : DR pk (fun b u => u = b) lV kvs) : Fd K "marks" (RunsV K a dx f l dm kvs) (DcT (fun b => Is b) lV) := fun H v h => ⟨a, _, dx, _, _, h.1, h.2.1, T.c_Runs, T.n_Runs_marks, by rfl, dcT_is (K := K) h.2.2 r⟩
/-- runs.ahead(spot) -/
structure RIx where
  rd : RunsD
  f : Pl → Pl
  g : Pl → Pl
  s : Pl
def AheadP (i : RIx) : Hp → V → Prop := fun H v => (v = .non ∧ ∀ a e, ¬ Marked i.rd.fd.web.m (NOf i.rd.lanes) (keysOf i.rd.fd.goals) ((NOf i.rd.lanes).lane i.s) a e) ∨ ∃ (t : Nat) (e : Pl), QA ((t : Int), e) H v ∧ Hit i.rd.fd.web.m i.rd.fd.ps (keysOf i.rd.fd.goals) i.f i.s t e
instance {i : RIx} : Mo (AheadP i) := ⟨fun e h => by
  rcases h with h | ⟨t, x, h1, h2⟩
  · exact .inl h
  · exact .inr ⟨t, x, Mo.up e h1, h2⟩⟩
def spAhead (K : PySem.W.Frag) : Sp := spOf 1 (ι := RIx) (fun i => RunsGood i.rd i.f i.g ∧ i.rd.fd.web.m.Spot i.s) (fun i => [RunsA K i.rd, PlA i.s]) AheadP
theorem ok_Runs_ahead (T : Tx K mg) : Good P w K mg base 2 (ma K (ga K "Runs") "ahead") ["self", "spot"] (spAhead K) := by
  obtain ⟨⟨fd_Runs_stand, G_Runs_stand, b_Runs_stand⟩, k_Runs_stand⟩ := ok_Runs_stand (P := P) (w := w) (base := base) T
  refine good_of T.d_Runs_ahead sc_Runs_ahead (fun fd F => FunD.bindsN F fun _ _ _ _ _ _ us hl => match us, hl with | [_, _], _ => rfl) (fun vs H Q E h => ?_) (fun cdv A outer s H vs Q E hr h => ?_)
  · obtain ⟨i, G, _, _, _, al, _⟩ := h
    exact al_len al rfl
  · obtain ⟨i, G0, hC, nl, sG, al, k⟩ := h
    have hu := hu_of hr
    have hmin := hr.units
    have f0 : Fr none G0 H := .mk0 sG
    obtain ⟨v, u, rfl, e1, e2⟩ := al2 al
    obtain ⟨rd, f, g, s⟩ := i
    obtain ⟨hR, hs⟩ := hC
    dsimp only at hR hs e1 e2 k
    have hF := hR.fd
    have hW := hF.web
    have o := hW.ok
    have hn : s.1 ∈ rd.fd.web.names := hs.1.1
    have hb := hR.lanes.bits hW hn
    have hsb : s.2.natAbs < 2 ^ 104 := by
      have h1 := hs.1.2.1
      have h2 := hs.1.2.2
      have h3 := hW.big s.1 hn
      have h4 : rd.fd.web.m.len s.1 = rd.fd.web.len s.1 := rfl
      omega
    refine ⟨_, (pss_cons (ps_if (pt_cmp (pc_din hu (pv 1) (pe_fld (pe_fld (pv 0) (by rfl)) (by rfl)))) (pss_one (ps_ret (pe_tup (pa_cons pe_int (pa_cons (pv 1) pa_nil))))) pss_nil)
    (pss_cons (ps_asg (pe_meth (pv 0) T.c_Runs T.m_Runs_stand G_Runs_stand (hr.mono (by decide)) b_Runs_stand .nil pass0 (pa_cons (pv 1) pa_nil)) (pg_tup rfl (pgs_cons (pg_name (i := 2) sc_Runs_ahead.nd rfl (Or.inl rfl)) (pgs_cons (pg_name (i := 3) sc_Runs_ahead.nd rfl (Or.inr rfl)) pgs_nil))))
    (pss_cons (ps_if (pt_cmp (pc_dnotin hu (pv 2) (pe_fld (pv 0) (by rfl)))) (pss_one (ps_ret pe_non)) pss_nil)
    (pss_cons (ps_set (i := 4) sc_Runs_ahead.nd rfl (Or.inr rfl) (pe_ix ix_tup (pe_dget hu (pe_fld (pv 0) (by rfl)) (pe_ix ix_tup (pv 1) pe_int (fun _ _ => rfl)) (fun _ _ => rfl)) pe_int (fun _ _ => rfl)))
    (pss_one (ps_ret (pe_callB (cr_minD rfl hmin) (by rfl) T.f_min (by decide +kernel) (pa_cons (pe_lock (pe_lc (own := [("mark", 5), ("found", 6)]) (g := (gTup K 2 (gCons (gName 5) (gCons (gName 6) gNil)))) (by rfl) sc_Runs_ahead.nd (pi_items (pe_dget hu (pe_fld (pv 0) (by rfl)) (pv 2) (fun _ _ => rfl))) (blkOk_by (N := N_Runs_ahead) (sc := defScope s_Runs_ahead) (by decide +kernel)) (fun _ _ _ _ _ => (pg_tup rfl (pgs_cons (pg_name (i := 5) sc_Runs_ahead.nd rfl (Or.inl rfl)) (pgs_cons (pg_name (i := 6) sc_Runs_ahead.nd rfl (Or.inl rfl)) pgs_nil)))) (fun _ _ _ _ _ => pts_nil) (fun _ _ _ _ _ => (pe_tup (pa_cons (pe_op op_mod (pe_op op_sub (pv 5) (pv 3)) (pv 4)) (pa_cons (pv 6) pa_nil)))))) pa_nil)))))))), ?_⟩
    refine q_when f0 (et_B (ev_inT (R := PlA) s (ev_var rfl e2) (ev_fld (fd_goals T) (ev_fld (fr_form T) (ev_var rfl e1))))) (fun hb2 G1 H1 x1 => ?_) fun hb2 G1 H1 x1 => ?_
    · have hk : s ∈ keysOf rd.fd.goals := by
        refine lk_some.mp fun z => ?_
        rw [z] at hb2
        cases hb2
      refine s_ret (P := QA (0, s)) (.mk0 x1.sub) (ev_tup (ea_cons (P := IntA 0) ev_c (ea_cons (ev_var rfl (mo_same x1.gs e2)) ea_nil))) fun v2 G2 H2 x2 h2 => k v2 G2 H2 (x1.trans x2) (.inr ⟨0, s, h2, rfl, hk, fun k hk => absurd hk (Nat.not_lt_zero k), fun k hk => ?_⟩)
      have : k = 0 := by omega
      subst this
      show s = rd.fd.web.m.plain rd.fd.ps s ((0 : Nat) : Int)
      have h1 : rd.fd.web.m.plain rd.fd.ps s ((0 : Nat) : Int) = rd.fd.web.m.told (onPl rd.fd.web.m rd.fd.ps s 0) := rfl
      rw [h1, onPl_zero hs.1, hs.2]
    · have hk : s ∉ keysOf rd.fd.goals := by
        refine lk_none.mp ?_
        cases q : lk rd.fd.goals s with
        | none => rfl
        | some b => rw [q] at hb2; cases hb2
      refine q_asgG (.mk0 x1.sub) (ev_meth (i := (rd.lanes, s)) ⟨hR.lanes.at_ _ hn, hb, hsb⟩ (n := 0) trivial rfl isI_stand (ev_imp (ev_var rfl (mo_same x1.gs e1)) standP_of) (ea_cons (ev_var rfl (mo_same x1.gs e2)) ea_nil)) fun v2 G2 H2 x2 h2 => tg2 h2 x2.sub fun v3 v4 h3 h4 => ?_
      cases h4
      have x2 := x1.trans x2
      refine q_when (.mk0 x2.sub) (et_B (ev_ninT (R := MarkA) _ (ev_var rfl h3) (ev_fld (fr_marks T) (ev_var rfl (mo_same x2.gs e1))))) (fun hb3 G3 H3 x3 => ?_) fun hb3 G3 H3 y3 => ?_
      · have hm : lk rd.marks ((NOf rd.lanes).lane s) = none := by
          cases q : lk rd.marks ((NOf rd.lanes).lane s) with
          | none => rfl
          | some b => rw [q] at hb3; cases hb3
        have x3 := x2.trans x3
        refine s_ret (P := Is .non) (.mk0 x3.sub) ev_c fun v5 G4 H4 x4 h5 => k v5 G4 H4 (x3.trans x4) (.inl ⟨h5, fun a e hM => ?_⟩)
        obtain ⟨t, ht, _⟩ := (hR.marks _ a e).mpr hM
        rw [hm] at ht
        cases ht
      · obtain ⟨t, ht⟩ : ∃ t, lk rd.marks ((NOf rd.lanes).lane s) = some t := by
          cases q : lk rd.marks ((NOf rd.lanes).lane s) with
          | none => rw [q] at hb3; cases hb3
          | some b => exact ⟨b, rfl⟩
        have x3 := x2.trans y3
        refine q_asg (P := IntA (laneOf rd.lanes s.1).2.1) (.mk0 x3.sub) (ev_ixT (i := 1) (ev_imp (ev_getK (R := LaneA) kN_inj s.1 (hR.lanes.at_ _ hn) (ev_fld (fr_lanes T) (ev_var rfl (mo_same x3.gs e1))) (ev_ixT (P := StrA s.1) (i := 0) (ev_imp (ev_var rfl (mo_same x3.gs e2)) item_pl0) ev_c)) item_t1) ev_c) fun v5 G4 H4 y4 h5 => ?_
        cases h5
        have x4 := x3.trans y4
        obtain ⟨tn, tne, tl⟩ := hR.ind _ (lk_mem ht)
        obtain ⟨a, dx, fv, lv, mv, rfl, hia, _, _, hma⟩ := mo_same x4.gs e1
        obtain ⟨dm, kvs, rfl, knm, drm⟩ := hma
        obtain ⟨lV, drV, hV⟩ := DR.vals drm
        obtain ⟨vi, hvi, di, ikvs, rfl, kni, dri⟩ := hV _ _ ht
        have nl4 : NL 1 G4 := x4.gw.nl nl
        have hdi : G4 di = some (.dK ikvs) := kni.k nl4
        have upL : ∀ od, Up G4 (upd G4 di (.frz od (.dK ikvs))) := fun od => Up.lock hdi trivial
        have h3' : PlA ((NOf rd.lanes).lane s) G4 v3 := mo_same (y3.gs.trans y4.gs) h3
        refine s_ret (P := MinP (t.map fun q => ((q.1 - (NOf rd.lanes).at_ s) % (laneOf rd.lanes s.1).2.1, q.2))) (.mk0 x4.sub) (ev_minQ (fun z => tne (List.map_eq_nil_iff.mp z)) (ev_lock hdi trivial fun od => ev_lcM (R := fun b : Int × Pl => TupP [Is (kV (kI b.1)), PlA b.2]) (fun q => ((q.1 - (NOf rd.lanes).at_ s) % (laneOf rd.lanes s.1).2.1, q.2)) (src_itK (e := kI) (R := PlA) (ev_getT (R := fun b => Is b) _ hvi (ev_fld (fv_marks T drV) (ev_var rfl (Mo.up (P := RunsV K a dx fv lv dm kvs) (upL od) ⟨rfl, hia, knm⟩))) (ev_var rfl (Mo.up (upL od) h3'))) upd_same (DR.mo (upL od) dri)) tl (fun q hq xv G' H' gw fr rx Q' k2 => tg2 rx fr.sub fun a1 a2 ha1 ha2 => k2 _ rfl ?_))) fun v6 G5 H5 x5 h6 => ?_
        · cases ha1
          exact ev_tup (ea_cons (P := IntA ((q.1 - (NOf rd.lanes).at_ s) % (laneOf rd.lanes s.1).2.1)) (ev_i (i := q.1 - (NOf rd.lanes).at_ s) (j := (laneOf rd.lanes s.1).2.1) (ev_i0 (i := q.1) (j := (NOf rd.lanes).at_ s) (ev_var rfl rfl) (ev_var rfl rfl)) (ev_var rfl rfl) hb.z0) (ea_cons (ev_var rfl ha2) ea_nil))
        · obtain ⟨q, hq, hqa, hle⟩ := h6
          obtain ⟨r, hr, rfl⟩ := List.mem_map.mp hq
          have hM : Marked rd.fd.web.m (NOf rd.lanes) (keysOf rd.fd.goals) ((NOf rd.lanes).lane s) r.1 r.2 := (hR.marks _ _ _).mp ⟨t, ht, lk_of_mem tn hr⟩
          have hit := hit_of o hF.form.toTells hR.lanes.ok hs hM fun a' e' hM' => by
            obtain ⟨t', ht', hl'⟩ := (hR.marks _ _ _).mpr hM'
            rw [ht] at ht'
            cases ht'
            exact hle _ (List.mem_map.mpr ⟨(a', e'), lk_mem hl', rfl⟩)
          have rg := mod_range (a := r.1 - (NOf rd.lanes).at_ s) hb.z0
          refine k v6 G5 H5 (x4.trans x5) (.inr ⟨_, r.2, ?_, hit⟩)
          have ec : (((r.1 - (NOf rd.lanes).at_ s) % (NOf rd.lanes).sz s.1).toNat : Int) = (r.1 - (NOf rd.lanes).at_ s) % (laneOf rd.lanes s.1).2.1 := Int.toNat_of_nonneg rg.1
          rw [ec]
          exact hqa
end
end MR
/-! Runs: round_from, lone_count, strange_lengths. -/
namespace MR
open PySem PySem.Spec PyProof.Rows L2 He
abbrev StA (q : Pl × Int) : Hp → V → Prop := TupP [PlA q.1, IntA q.2]
instance {n : Nat} : Mo (SeqN n) := ⟨fun e h => by
  obtain ⟨p, ys, h1, h2, h3⟩ := h
  exact ⟨p, ys, h1, h2.imp e.lst e.tup, h3⟩⟩
/-- a round from s -/
structure RoundOk (i : RIx) (l : List (Pl × Int)) (T : Nat) : Prop where
  per : Per i.f i.s T
  ne : l ≠ []
  round : Round i.rd.fd.web.m i.rd.fd.ps (keysOf i.rd.fd.goals) i.f i.s T l i.s
  tot : total l = T
def RoundP (i : RIx) : Hp → V → Prop := fun H v => ∃ l T, LsA StA l H v ∧ RoundOk i l T
instance {i : RIx} : Mo (RoundP i) := ⟨fun e ⟨l, T, h, r⟩ => ⟨l, T, Mo.up e h, r⟩⟩
section
variable {P : Program} {w : World} {K : PySem.W.Frag} {mg : Str → Option Value} {base : Heap}
def spRound (K : PySem.W.Frag) : Sp := spOf 1 (ι := RIx) (fun i => RunsGood i.rd i.f i.g ∧ i.s ∈ keysOf i.rd.fd.goals) (fun i => [RunsA K i.rd, PlA i.s]) RoundP
theorem tru_tup {K : PySem.W.Frag} {H : Hp} {a : Addr} {x : V} {xs : List V} (h : H a = some (.tup (x :: xs))) : TruV K (.ref a) H true := .inr (.inl ⟨_, SqT.of h, rfl⟩)
/-- what ahead has found -/
def HitP (i : RIx) : Hp → V → Prop := fun H v => ∃ (t : Nat) (e : Pl), QA ((t : Int), e) H v ∧ Hit i.rd.fd.web.m i.rd.fd.ps (keysOf i.rd.fd.goals) i.f i.s t e
theorem ev_orAhead {M : Option Addr} {ta tb : TE} {σ : L2.St} {G : Hp} {i : RIx} (h : Ev M ta σ G (AheadP i)) (no : (∀ a e, ¬ Marked i.rd.fd.web.m (NOf i.rd.lanes) (keysOf i.rd.fd.goals) ((NOf i.rd.lanes).lane i.s) a e) → False) : Ev M (tOrT K ta tb) σ G (HitP i) := fun G1 H1 e f Q k => h G1 H1 e f _ fun v G2 H2 e2 p => by
  rcases p with ⟨_, n⟩ | ⟨t, x, q, hit⟩
  · exact (no n).elim
  · obtain ⟨a, vs, rfl, ha, al⟩ := id q
    cases al with
    | cons a1 al => exact ⟨true, tru_tup (e2.sub _ _ ha), by rw [if_pos rfl]; exact k _ G2 H2 e2 ⟨t, x, q, hit⟩⟩
theorem ok_Runs_round_from (T : Tx K mg) : Good P w K mg base 4 (ma K (ga K "Runs") "round_from") ["self", "start"] (spRound K) := by
  obtain ⟨⟨fd_Runs_ahead, G_Runs_ahead, b_Runs_ahead⟩, k_Runs_ahead⟩ := ok_Runs_ahead (P := P) (w := w) (base := base) T
  obtain ⟨⟨fd_Form_goal, G_Form_goal, b_Form_goal⟩, k_Form_goal⟩ := ok_Form_goal (P := P) (w := w) (base := base) T
  refine good_of T.d_Runs_round_from sc_Runs_round_from (fun fd F => FunD.bindsN F fun _ _ _ _ _ _ us hl => match us, hl with | [_, _], _ => rfl) (fun vs H Q E h => ?_) (fun cdv A outer s H vs Q E hr h => ?_)
  · obtain ⟨i, G, _, _, _, al, _⟩ := h
    exact al_len al rfl
  · obtain ⟨i, G0, hC, nl, sG, al, k⟩ := h
    have hu := hu_of hr
    have hmin := hr.units
    have f0 : Fr none G0 H := .mk0 sG
    obtain ⟨v, u, rfl, e1, e2⟩ := al2 al
    obtain ⟨rd, f, g, s⟩ := i
    obtain ⟨hR, hk⟩ := hC
    dsimp only at hR hk e1 e2 k
    have hF := hR.fd
    have hW := hF.web
    have o := hW.ok
    have hs : rd.fd.web.m.Spot s := hF.form.toTells.spot hk
    obtain ⟨T', p⟩ := hF.form.bij.per (l := spotsL rd.fd.web.m) (fun s h => mem_spotsL.mpr h) hs
    refine ⟨_, (pss_cons (ps_set (i := 2) sc_Runs_round_from.nd rfl (Or.inl rfl) (pe_lst pa_nil))
    (pss_cons (ps_set (i := 3) sc_Runs_round_from.nd rfl (Or.inl rfl) (pv 1))
    (pss_cons (ps_while PassesOwn.never (PW.pt (pw_or (pt_cmpR op_eq (pe_callB call_len_seq (by rfl) T.f_len PySem.boot_len (pa_cons (pv 2) pa_nil)) pe_int (nomark _)) (pw_or1 (pt_cmpR (op_neD hr.units) (pv 3) (pv 1) (nomark _))))) (pss_cons (ps_asg (pe_orT (pe_meth (pv 0) T.c_Runs T.m_Runs_ahead G_Runs_ahead (hr.mono (by decide)) b_Runs_ahead .nil pass0 (pa_cons (pe_meth (pe_fld (pv 0) (by rfl)) T.c_Form T.m_Form_goal G_Form_goal (hr.mono (by decide)) b_Form_goal .nil pass0 (pa_cons (pv 3) pa_nil)) pa_nil)) (pe_one (pe_tup (pa_cons pe_int (pa_cons (pv 1) pa_nil))))) (pg_tup rfl (pgs_cons (pg_name (i := 4) sc_Runs_round_from.nd rfl (Or.inl rfl)) (pgs_cons (pg_name (i := 5) sc_Runs_round_from.nd rfl (Or.inl rfl)) pgs_nil))))
    (pss_cons (ps_expr (pe_bm PySem.F.plainAttrs_list PySem.F.slot_list_append PySem.F.type_list_append mt_append (pv 2) (pa_cons (pe_tup (pa_cons (pv 3) (pa_cons (pe_op op_add (pv 4) pe_int) pa_nil))) pa_nil)))
    (pss_one (ps_set (i := 3) sc_Runs_round_from.nd rfl (Or.inl rfl) (pv 5))))))
    (pss_one (ps_ret (pv 2)))))), ?_⟩
    refine q_newL f0 fun lf hlf => ?_
    have g0 : G0 lf = none := sG.free hlf
    have x1 := Ext.mutD (o := .lst []) (Ext.rfl' f0) hlf g0 (fun z => by cases z)
    refine q_asg (P := PlA s) (.mk0 x1.sub) (ev_var rfl e2) fun v2 G2 H2 y2 h2 => ?_
    have x2 := x1.trans y2
    have g2 : G2 lf = none := y2.av lf ⟨_, upd_same, fun _ z => by cases z⟩ g0
    refine q_while (M := none) (fun m σ' H' => ∃ (l : List (Pl × Int)) (e : Pl) (ve : V) (s4 s5 : Option V) (G : Hp) (acc : List V), σ' = [some v, some u, some (.ref lf), some ve, s4, s5] ∧ PlA e G ve ∧ Round rd.fd.web.m rd.fd.ps (keysOf rd.fd.goals) f s T' l e ∧ ((T' : Int) - total l).toNat = m ∧ H' lf = some (.lst acc) ∧ G lf = none ∧ Paired (fun q u => StA q G u) l acc ∧ Ext none G0 H G H')
      ⟨_, [], s, v2, none, none, G2, [], rfl, h2, Round.start hk, rfl, y2.same _ _ (fun z => by cases z) upd_same, g2, .nil, x2⟩ ?_
    rintro m σ' H' ⟨l, e, ve, s4, s5, G, acc, rfl, pe, R, rfl, hl, gl, pr, x⟩
    have fp : Fr none (upd G lf (.lst acc)) H' := (Fr.mk0 x.sub).add hl (fun z => by cases z)
    have pe' : PlA e (upd G lf (.lst acc)) ve := mo_same (sm_new gl) pe
    have pu' : PlA s (upd G lf (.lst acc)) u := mo_same (sm_new gl) (mo_same x.gs e2)
    have pl := paired_len pr
    refine ⟨upd G lf (.lst acc), decide (V.int (l.length : Nat) = .int 0) || !decide (e = s), fp, et_or (et_test (ev_eq (x := .int (l.length : Nat)) (y := .int 0) (ev_len (ev_var (P := SeqN l.length) rfl ⟨lf, acc, rfl, .inl upd_same, pl⟩)) ev_c rfl)) fun _ => et_test (ev_nePl (hW.str _ (hF.form.toTells.spot R.key).1.1) (hW.str _ hs.1.1) (ev_var rfl pe') (ev_var rfl pu')), fun G3 H3 y3' => ?_⟩
    have y3 := y3'.hide gl
    have x3 := x.trans y3
    have g3 : (del G3 lf) lf = none := del_same
    have h3 := y3.same _ _ (fun z => by cases z) hl
    refine ⟨fun hb => ?_, fun hb => ?_⟩
    · have hne : l = [] ∨ e ≠ s := by
        rcases Bool.or_eq_true_iff.mp hb with h | h
        · left
          have : V.int (l.length : Nat) = .int 0 := of_decide_eq_true h
          have h' : ((l.length : Nat) : Int) = 0 := V.int.inj this
          exact List.length_eq_zero_iff.mp (by omega)
        · right
          intro z
          rw [z] at h
          simp at h
      have hfe : rd.fd.web.m.Spot (f e) := hF.form.bij.to _ (hF.form.toTells.spot R.key)
      have e1d := mo_same x3.gs e1
      refine q_asgG (.mk0 x3.sub) (ev_orAhead (i := ⟨rd, f, g, f e⟩) (ev_meth (i := (⟨rd, f, g, f e⟩ : RIx)) ⟨hR, hfe⟩ (n := 1) (x3.gw.nl nl) rfl (isI_runs fun _ _ _ => by rfl) (ev_var rfl e1d) (ea_cons (ev_meth (i := (⟨rd.fd, f, g, e⟩ : FIx)) ⟨hF, hF.form.toTells.spot R.key⟩ (n := 0) trivial rfl (isI_form fun _ _ _ _ => by rfl) (ev_fld (fr_form T) (ev_var rfl e1d)) (ea_cons (ev_var rfl (mo_same y3.gs pe)) ea_nil)) ea_nil)) fun no => no_end hF.form.bij p hk ⟨_, R.here⟩ (noHit_of o hF.form.toTells hR.lanes.ok hfe no)) fun v4 G4 H4 y4 h4 => ?_
      obtain ⟨t, e', qa, hit⟩ := h4
      refine tg2 qa y4.sub fun v5 v6 h5 h6 => ?_
      cases h5
      have x4 := x3.trans y4
      have l4 := y4.same _ _ (fun z => by cases z) h3
      have g4 := y4.av lf ⟨_, h3, fun _ z => by cases z⟩ g3
      have acc_few : acc.length < 100000 := by
        have := R.few
        have h2 := hF.few
        unfold keysOf at this
        rw [List.length_map] at this
        omega
      refine q_app (P := StA (e, (t : Int) + 1)) (.mk0 x4.sub) rfl l4 (fun z => by cases z) acc_few (ev_tup (ea_cons (ev_var rfl (mo_same (y3.gs.trans y4.gs) pe)) (ea_cons (P := IntA ((t : Int) + 1)) (ev_i0 (i := (t : Int)) (j := 1) (ev_var rfl rfl) ev_c) ea_nil))) fun v7 G5 H5 y5 h7 l5 => ?_
      have g5 := y5.av lf ⟨_, l4, fun _ z => by cases z⟩ g4
      have x5 := Ext.mutD (o := .lst (acc ++ [v7])) (x4.trans y5) hlf g5 (fun z => by cases z)
      refine s_asg (P := PlA e') (.mk0 x5.sub) (ev_var rfl (mo_same y5.gs h6)) fun v8 G6 H6 y6 h8 => ?_
      have R2 := R.next hF.form.bij hs p hk hne hit
      have lt := R.go_on p hne
      refine ⟨((T' : Int) - total (l ++ [(e, (t : Int) + 1)])).toNat, ?_, l ++ [(e, (t : Int) + 1)], e', v8, _, _, G6, acc ++ [v7], rfl, h8, R2, rfl, y6.same _ _ (fun z => by cases z) upd_same, y6.av lf ⟨_, upd_same, fun _ z => by cases z⟩ g5, ?_, x5.trans y6⟩
      · rw [total_append]
        dsimp only
        omega
      · refine paired_snoc (paired_imp (fun q u (z : StA q G u) => mo_same (P := StA q) (((y3.gs.trans y4.gs).trans y5.gs).trans y6.gs) z) pr) (mo_same y6.gs h7)
    · have hne : l ≠ [] ∧ e = s := by
        have h := Bool.or_eq_false_iff.mp hb
        constructor
        · intro z
          rw [z] at h
          simp at h
        · have := h.2
          simp at this
          exact this
      have hes := hne.2
      subst hes
      have x4 := Ext.learn x3 hlf g3 h3 (fun _ _ z => by cases z)
      refine s_ret (P := RoundP ⟨rd, f, g, e⟩) (.mk0 x4.sub) (ev_var rfl ⟨l, T', ⟨lf, acc, rfl, upd_same, paired_imp (fun q u (z : StA q G u) => mo_same (P := StA q) (y3.gs.trans (sm_new g3)) z) pr⟩, p, hne.1, R, R.through p hne.1 rfl⟩) fun v5 G5 H5 y5 h5 => k v5 G5 H5 (x4.trans y5) h5
end
end MR
/-! Runs: lone_count, strange_lengths. -/
namespace MR
open PySem PySem.Spec PyProof.Rows L2 He
section
variable {P : Program} {w : World} {K : PySem.W.Frag} {mg : Str → Option Value} {base : Heap}
open Classical in
/-- how many lanes of the ring no exception stands on -/
noncomputable def bareN (rd : RunsD) (n : Nm) : Nat := ((List.range ((NOf rd.lanes).gd n).toNat).filter fun (r : Nat) => decide (Bare rd.fd.web.m (NOf rd.lanes) (keysOf rd.fd.goals) (n, (r : Int)))).length
theorem mem_keys' {κ β : Type} {l : List (κ × β)} {a : κ} (h : a ∈ l.map (·.1)) : ∃ b, (a, b) ∈ l := by
  obtain ⟨x, hx, rfl⟩ := List.mem_map.mp h
  exact ⟨x.2, hx⟩
theorem bare_count {rd : RunsD} {f g : Pl → Pl} (hR : RunsGood rd f g) {n : Nm} (hn : n ∈ rd.fd.web.names) : (laneOf rd.lanes n).1 - (((rd.marks.map (·.1)).filter fun l => decide (l.1 = n)).length : Nat) = (bareN rd n : Nat) := by
  classical
  have ln := hR.lanes.ok n hn
  have g0 : 0 < (laneOf rd.lanes n).1 := ln.g0
  have key : ((rd.marks.map (·.1)).filter fun l => decide (l.1 = n)).length = ((List.range ((NOf rd.lanes).gd n).toNat).filter fun (r : Nat) => !decide (Bare rd.fd.web.m (NOf rd.lanes) (keysOf rd.fd.goals) (n, (r : Int)))).length := by
    have e1 : (((List.range ((NOf rd.lanes).gd n).toNat).filter fun (r : Nat) => !decide (Bare rd.fd.web.m (NOf rd.lanes) (keysOf rd.fd.goals) (n, (r : Int)))).map fun (r : Nat) => ((n, (r : Int)) : Pl)).length = ((List.range ((NOf rd.lanes).gd n).toNat).filter fun (r : Nat) => !decide (Bare rd.fd.web.m (NOf rd.lanes) (keysOf rd.fd.goals) (n, (r : Int)))).length := List.length_map ..
    rw [← e1]
    refine same_len (nodup_filter hR.mnd _) (map_nodup (fun a _ b _ e => by have := (Prod.mk.inj e).2; omega) (nodup_filter List.nodup_range _)) fun l => ?_
    rw [List.mem_filter, decide_eq_true_eq]
    constructor
    · rintro ⟨h1, h2⟩
      obtain ⟨t, ht⟩ := mem_keys' h1
      obtain ⟨_, tne, _⟩ := hR.ind _ ht
      obtain ⟨⟨a, e⟩, tt, rfl⟩ := List.exists_cons_of_ne_nil tne
      have hM := (hR.marks l a e).mp ⟨_, lk_of_mem hR.mnd ht, by rw [lk_cons, if_pos rfl]⟩
      obtain ⟨_, p, hv, _, hl, _⟩ := id hM
      have en : p.1 = n := by rw [← h2, ← hl]; rfl
      have er : l = (n, p.2 % (laneOf rd.lanes n).1) := by
        rw [← hl, ← en]
        rfl
      have rg := mod_range (a := p.2) g0
      refine List.mem_map.mpr ⟨(p.2 % (laneOf rd.lanes n).1).toNat, List.mem_filter.mpr ⟨List.mem_range.mpr ?_, ?_⟩, ?_⟩
      · show _ < (laneOf rd.lanes n).1.toNat
        omega
      · rw [Int.toNat_of_nonneg rg.1, ← er, Bool.not_eq_true', decide_eq_false_iff_not]
        exact fun z => z _ _ hM
      · rw [Int.toNat_of_nonneg rg.1, ← er]
    · intro h
      obtain ⟨r, hr, rfl⟩ := List.mem_map.mp h
      obtain ⟨_, h2⟩ := List.mem_filter.mp hr
      rw [Bool.not_eq_true', decide_eq_false_iff_not] at h2
      refine ⟨?_, rfl⟩
      refine Classical.byContradiction fun c => h2 fun a e hM => ?_
      obtain ⟨t, ht, _⟩ := (hR.marks _ a e).mpr hM
      exact c (List.mem_map.mpr ⟨_, lk_mem ht, rfl⟩)
  have sp := filter_split (fun _ : Nat => true) (fun r : Nat => decide (Bare rd.fd.web.m (NOf rd.lanes) (keysOf rd.fd.goals) (n, (r : Int)))) (List.range ((NOf rd.lanes).gd n).toNat)
  rw [List.filter_eq_self.mpr (fun _ _ => rfl), List.length_range] at sp
  simp only [Bool.true_and] at sp
  have gg : (NOf rd.lanes).gd n = (laneOf rd.lanes n).1 := rfl
  rw [gg] at sp key
  unfold bareN
  rw [gg, key]
  omega
/-- runs.lone_count(name) -/
def spLoneCnt (K : PySem.W.Frag) : Sp := spOf 2 (ι := RIx × Nm) (fun i => RunsGood i.1.rd i.1.f i.1.g ∧ i.2 ∈ i.1.rd.fd.web.names) (fun i => [RunsA K i.1.rd, StrA i.2]) (fun i => IntA (bareN i.1.rd i.2 : Nat))
theorem ok_Runs_lone_count (T : Tx K mg) : Good P w K mg base 1 (ma K (ga K "Runs") "lone_count") ["self", "name"] (spLoneCnt K) := by
  refine good_of T.d_Runs_lone_count sc_Runs_lone_count (fun fd F => FunD.bindsN F fun _ _ _ _ _ _ us hl => match us, hl with | [_, _], _ => rfl) (fun vs H Q E h => ?_) (fun cdv A outer s H vs Q E hr h => ?_)
  · obtain ⟨i, G, _, _, _, al, _⟩ := h
    exact al_len al rfl
  · obtain ⟨i, G0, hC, nl, sG, al, k⟩ := h
    have hu := hu_of hr
    have hmin := hr.units
    have f0 : Fr none G0 H := .mk0 sG
    obtain ⟨v, u, rfl, e1, e2⟩ := al2 al
    obtain ⟨⟨rd, f, g, s0⟩, n⟩ := i
    obtain ⟨hR, hn⟩ := hC
    dsimp only at hR hn e1 e2 k
    cases e2
    refine ⟨_, (pss_one (ps_ret (pe_op op_sub (pe_ix ix_tup (pe_dget hu (pe_fld (pv 0) (by rfl)) (pv 1) (fun _ _ => rfl)) pe_int (fun _ _ => rfl)) (pe_callB call_len_seq (by rfl) T.f_len PySem.boot_len (pa_cons (pe_lock (pe_lc (own := [("lane", 2)]) (g := (gName 2)) (by rfl) sc_Runs_lone_count.nd (pi_keys (pe_fld (pv 0) (by rfl))) (blkOk_by (N := N_Runs_lone_count) (sc := defScope s_Runs_lone_count) (by decide +kernel)) (fun _ _ _ _ _ => (pg_name (i := 2) sc_Runs_lone_count.nd rfl (Or.inl rfl))) (fun _ _ _ _ _ => (pts_one (pt_cmpR op_eq (pe_ix (ix_tupK (K := K) (by rfl)) (pv 2) pe_int (fun _ _ => rfl)) (pv 1) (nomark _)))) (fun _ _ _ _ _ => (pv 2)))) pa_nil))))), ?_⟩
    obtain ⟨a, dx, fv, lv, mv, rfl, hia, _, _, hma⟩ := id e1
    obtain ⟨dm, kvs, rfl, knm, drm⟩ := hma
    have hdm : G0 dm = some (.dT kvs) := knm.t nl.2
    have upL : ∀ od, Up G0 (upd G0 dm (.frz od (.dT kvs))) := fun od => Up.lock hdm trivial
    have fdm : Fd K "marks" (InsP a (ga K "Runs") dx (fsRuns fv lv (.ref dm))) (Is (.ref dm)) := fun H v h => ⟨a, _, dx, _, _, h.1, h.2, T.c_Runs, T.n_Runs_marks, by rfl, rfl⟩
    refine s_ret (P := IntA (bareN rd n : Nat)) f0 (ev_is (v := .int ((laneOf rd.lanes n).1 - (((rd.marks.filterMap fun q => if decide (q.1.1 = n) = true then some q.1 else none).length : Nat) : Int))) (ev_i0 (i := (laneOf rd.lanes n).1) (j := (((rd.marks.filterMap fun q => if decide (q.1.1 = n) = true then some q.1 else none).length : Nat) : Int)) (ev_ixT (i := 0) (ev_imp (ev_getK (R := LaneA) kN_inj n (hR.lanes.at_ n hn) (ev_fld (fr_lanes T) (ev_var rfl e1)) (ev_var rfl rfl)) item_t0) ev_c) (ev_len (ev_imp (ev_lock hdm trivial fun od => ev_lc (R := fun b : Pl × List (Int × Pl) => PlA b.1) (R' := PlA) (fun q => if decide (q.1.1 = n) = true then some q.1 else none) (src_keT (ev_fld fdm (ev_var rfl ⟨rfl, (upL od).ins hia⟩)) upd_same drm) hR.mfew (fun q hq xv G' H' gw fr rx Q' k2 => k2 ((wipe _ _).set 2 (some xv)) rfl ⟨et_is (et_test (ev_eq (x := .str q.1.1) (y := .str n) (ev_ixT (P := StrA q.1.1) (i := 0) (ev_imp (ev_var rfl rx) item_pl0) ev_c) (ev_var rfl rfl) rfl)) ?_, fun c hc => ?_⟩)) seqN_ls))) ?_) k
    · by_cases c : q.1.1 = n <;> simp [c]
    · by_cases c' : q.1.1 = n
      · rw [if_pos (decide_eq_true c')] at hc
        cases hc
        exact ev_var rfl rx
      · rw [if_neg (by simpa using c')] at hc
        cases hc
    · have : (rd.marks.filterMap fun q => if decide (q.1.1 = n) = true then some q.1 else none).length = ((rd.marks.map (·.1)).filter fun l => decide (l.1 = n)).length := by
        induction rd.marks with
        | nil => rfl
        | cons x l ih =>
          rw [List.filterMap_cons, List.map_cons, List.filter_cons]
          by_cases c : decide (x.1.1 = n) = true
          · rw [if_pos c, if_pos c, List.length_cons, List.length_cons, ih]
          · rw [if_neg c, if_neg c, ih]
      rw [this, bare_count hR hn]
end
end MR
/-! Runs: strange_lengths. -/
namespace MR
open PySem PySem.Spec PyProof.Rows L2 He
/-- what strange_lengths has found so far -/
structure RI (keys : List Pl) (f : Pl → Pl) (done reps : List Pl) (ls : List Int) (met : List Pl) : Prop where
  nd : reps.Nodup
  mnd : met.Nodup
  sub : ∀ r, r ∈ reps → r ∈ keys
  apart : ∀ r, r ∈ reps → ∀ r', r' ∈ reps → Orb f r r' → r = r'
  met : ∀ a, a ∈ met ↔ a ∈ keys ∧ ∃ r, r ∈ reps ∧ Orb f r a
  all : ∀ a, a ∈ done → ∃ r, r ∈ reps ∧ Orb f r a
  pair : Paired (fun r L => ∃ n : Nat, L = (n : Int) ∧ Per f r n) reps ls
theorem RI.start {keys : List Pl} {f : Pl → Pl} : RI keys f [] [] [] [] :=
  ⟨List.nodup_nil, List.nodup_nil, fun _ h => (nomatch h), fun _ h => (nomatch h), fun a => ⟨fun h => (nomatch h), fun ⟨_, _, h, _⟩ => (nomatch h)⟩, fun _ h => (nomatch h), .nil⟩
theorem RI.skip {keys : List Pl} {f : Pl → Pl} {done reps : List Pl} {ls : List Int} {met : List Pl} (R : RI keys f done reps ls met) {s : Pl} (h : s ∈ met) : RI keys f (done ++ [s]) reps ls met :=
  ⟨R.nd, R.mnd, R.sub, R.apart, R.met, fun a ha => by
    rcases List.mem_append.mp ha with h1 | h1
    · exact R.all a h1
    · rw [List.mem_singleton] at h1
      subst h1
      exact ((R.met a).mp h).2, R.pair⟩
theorem RI.step {keys : List Pl} {f : Pl → Pl} {done reps : List Pl} {ls : List Int} {met met' : List Pl} (R : RI keys f done reps ls met) {s : Pl} (hk : s ∈ keys) (h : s ∉ met) {T : Nat} (p : Per f s T) (pk : ∀ r, r ∈ reps → ∃ n, Per f r n)
    (nd : met'.Nodup) (hm : ∀ a, a ∈ met' ↔ a ∈ met ∨ (a ∈ keys ∧ Orb f s a)) : RI keys f (done ++ [s]) (reps ++ [s]) (ls ++ [(T : Int)]) met' where
  nd := by
    refine List.nodup_append.mpr ⟨R.nd, List.nodup_cons.mpr ⟨List.not_mem_nil, List.nodup_nil⟩, fun a ha b hb e => ?_⟩
    rw [List.mem_singleton] at hb
    subst hb
    subst e
    exact h ((R.met a).mpr ⟨hk, a, ha, Orb.refl a⟩)
  mnd := nd
  sub := fun r hr => by
    rcases List.mem_append.mp hr with h1 | h1
    · exact R.sub r h1
    · rw [List.mem_singleton] at h1
      rw [h1]
      exact hk
  apart := fun r hr r' hr' o => by
    rcases List.mem_append.mp hr with h1 | h1
    · rcases List.mem_append.mp hr' with h2 | h2
      · exact R.apart r h1 r' h2 o
      · rw [List.mem_singleton] at h2
        subst h2
        exact absurd ((R.met r').mpr ⟨hk, r, h1, o⟩) h
    · rw [List.mem_singleton] at h1
      subst h1
      rcases List.mem_append.mp hr' with h2 | h2
      · exact absurd ((R.met r).mpr ⟨hk, r', h2, Orb.symm p o⟩) h
      · rw [List.mem_singleton] at h2
        exact h2.symm
  met := fun a => by
    rw [hm, R.met]
    constructor
    · rintro (⟨h1, r, h2, h3⟩ | ⟨h1, h2⟩)
      · exact ⟨h1, r, List.mem_append_left _ h2, h3⟩
      · exact ⟨h1, s, List.mem_append_right _ List.mem_cons_self, h2⟩
    · rintro ⟨h1, r, h2, h3⟩
      rcases List.mem_append.mp h2 with h2 | h2
      · exact .inl ⟨h1, r, h2, h3⟩
      · rw [List.mem_singleton] at h2
        subst h2
        exact .inr ⟨h1, h3⟩
  all := fun a ha => by
    rcases List.mem_append.mp ha with h1 | h1
    · obtain ⟨r, h2, h3⟩ := R.all a h1
      exact ⟨r, List.mem_append_left _ h2, h3⟩
    · rw [List.mem_singleton] at h1
      subst h1
      exact ⟨a, List.mem_append_right _ List.mem_cons_self, Orb.refl a⟩
  pair := paired_snoc R.pair ⟨T, rfl, p⟩
theorem g_name {i : Nat} {v : V} {σ : L2.St} {H : Hp} {Q : L2.St → Hp → Prop} (h : Q (σ.set i (some v)) H) : gName i v σ H Q := h
theorem nlk_lockT {G : Hp} {d : Addr} {o : Obj} {kvs : List (List Key × V)} (h : NLk G) : NLk (upd G d (.frz o (.dT kvs))) := fun a q k z => by
  by_cases c : a = d
  · subst c
    rw [upd_same] at z
    cases z
  · rw [upd_ne c] at z
    exact h a q k z
/-- the stations of a round are the exceptions on it -/
theorem RoundOk.mem {i : RIx} {l : List (Pl × Int)} {T : Nat} (R : RoundOk i l T) (a : Pl) : a ∈ l.map (·.1) ↔ a ∈ keysOf i.rd.fd.goals ∧ Orb i.f i.s a := by
  constructor
  · intro h
    obtain ⟨h1, k, _, h2⟩ := R.round.steps.on h
    exact ⟨h1, k, h2⟩
  · rintro ⟨h1, h2⟩
    obtain ⟨k, hk, rfl⟩ := Orb.low R.per h2
    exact R.round.steps.cover (by rw [R.tot]; exact Int.ofNat_lt.mpr hk) h1
section
variable {P : Program} {w : World} {K : PySem.W.Frag} {mg : Str → Option Value} {base : Heap}
def AnyP (_ : Unit) : Hp → V → Prop := fun _ _ => True
instance {u : Unit} : Mo (AnyP u) := ⟨fun _ _ => trivial⟩
def StrangeP (i : RIx) : Hp → V → Prop := fun H v => ∃ reps ls, LsA IntA ls H v ∧ Reps (keysOf i.rd.fd.goals) i.f reps ∧ Paired (fun r L => ∃ n : Nat, L = (n : Int) ∧ Per i.f r n) reps ls ∧ ls.length ≤ i.rd.fd.goals.length
instance {i : RIx} : Mo (StrangeP i) := ⟨fun e ⟨r, l, h, q⟩ => ⟨r, l, Mo.up e h, q⟩⟩
def spStrange (K : PySem.W.Frag) : Sp := spOf 2 (ι := RIx) (fun i => RunsGood i.rd i.f i.g) (fun i => [RunsA K i.rd]) StrangeP
theorem ok_Runs_strange_lengths (T : Tx K mg) : Good P w K mg base 5 (ma K (ga K "Runs") "strange_lengths") ["self"] (spStrange K) := by
  obtain ⟨⟨fd_Runs_round_from, G_Runs_round_from, b_Runs_round_from⟩, k_Runs_round_from⟩ := ok_Runs_round_from (P := P) (w := w) (base := base) T
  refine good_of T.d_Runs_strange_lengths sc_Runs_strange_lengths (fun fd F => FunD.bindsN F fun _ _ _ _ _ _ us hl => match us, hl with | [_], _ => rfl) (fun vs H Q E h => ?_) (fun cdv A outer s H vs Q E hr h => ?_)
  · obtain ⟨i, G, _, _, _, al, _⟩ := h
    exact al_len al rfl
  · obtain ⟨i, G0, hC, nl, sG, al, k⟩ := h
    have hu := hu_of hr
    have hmin := hr.units
    have f0 : Fr none G0 H := .mk0 sG
    obtain ⟨v, rfl, e1⟩ := al1 al
    obtain ⟨rd, f, g, s0⟩ := i
    have hR : RunsGood rd f g := hC
    dsimp only at e1 k
    have hF := hR.fd
    have hW := hF.web
    have o := hW.ok
    refine ⟨_, (pss_cons (ps_set (i := 1) sc_Runs_strange_lengths.nd rfl (Or.inl rfl) (pe_lst pa_nil))
    (pss_cons (ps_set (i := 2) sc_Runs_strange_lengths.nd rfl (Or.inl rfl) (pe_dnewT))
    (pss_cons (ps_lock (ps_for PassesOwn.never rfl (pi_keys (pe_fld (pe_fld (pv 0) (by rfl)) (by rfl))) (pg_name (i := 3) sc_Runs_strange_lengths.nd rfl (Or.inl rfl))
    (pss_one (ps_if (pt_cmp (pc_dnotin hu (pv 3) (pv 2))) (pss_cons (ps_set (i := 4) sc_Runs_strange_lengths.nd rfl (Or.inl rfl) (pe_meth (pv 0) T.c_Runs T.m_Runs_round_from G_Runs_round_from (hr.mono (by decide)) b_Runs_round_from .nil pass0 (pa_cons (pv 3) pa_nil)))
    (pss_cons (ps_expr (pe_bm PySem.F.plainAttrs_list PySem.F.slot_list_append PySem.F.type_list_append mt_append (pv 1) (pa_cons (pe_callB (cr_sum rfl) (by rfl) T.f_sum (by decide +kernel) (pa_cons (pe_lc (own := [("spot", 5), ("times", 6)]) (g := (gTup K 2 (gCons (gName 5) (gCons (gName 6) gNil)))) (by rfl) sc_Runs_strange_lengths.nd (pi_list (pv 4)) (blkOk_by (N := N_Runs_strange_lengths) (sc := defScope s_Runs_strange_lengths) (by decide +kernel)) (fun _ _ _ _ _ => (pg_tup rfl (pgs_cons (pg_name (i := 5) sc_Runs_strange_lengths.nd rfl (Or.inl rfl)) (pgs_cons (pg_name (i := 6) sc_Runs_strange_lengths.nd rfl (Or.inl rfl)) pgs_nil)))) (fun _ _ _ _ _ => pts_nil) (fun _ _ _ _ _ => (pv 6))) pa_nil)) pa_nil)))
    (pss_one (ps_for PassesOwn.never rfl (pi_list (pv 4)) (pg_tup rfl (pgs_cons (pg_name (i := 5) sc_Runs_strange_lengths.nd rfl (Or.inl rfl)) (pgs_cons (pg_name (i := 6) sc_Runs_strange_lengths.nd rfl (Or.inl rfl)) pgs_nil)))
    (pss_one (ps_dput hu (pv 2) (pv 5) pe_bl rfl)))))) pss_nil))))
    (pss_one (ps_ret (pv 1)))))), ?_⟩
    refine q_newL f0 fun ll hll => ?_
    have gl0 : G0 ll = none := sG.free hll
    have x1 := Ext.mutD (o := .lst []) (Ext.rfl' f0) hll gl0 (fun z => by cases z)
    refine q_newT (.mk0 x1.sub) fun dm hdm => ?_
    have ne : ll ≠ dm := fun z => by rw [← z, upd_same] at hdm; cases hdm
    have hdm0 : H dm = none := by rw [upd_ne ne.symm] at hdm; exact hdm
    have gd0 : G0 dm = none := sG.free hdm0
    have x2 := Ext.mutD (o := .dT []) x1 hdm0 gd0 (fun z => by cases z)
    obtain ⟨aR, dxR, fv, lv, mv, rfl, hiR, hfR, _, _⟩ := id e1
    obtain ⟨aF, dxF, wv, pv, gv, ov, rfl, hiF, _, _, hgF, _⟩ := hfR
    obtain ⟨dg, kg, rfl, kng, drg⟩ := hgF
    have hdg : G0 dg = some (.dT kg) := kng.t nl.2
    have isG : ∀ G', Up G0 G' → ∀ a b c d : Option V, Ev none (tFld K (tFld K (tVar 0) "form") "goals") [some (.ref aR), some (.ref ll), some (.ref dm), a, b, c, d] G' (Is (.ref dg)) := fun G' up a b c d => by
      have fdf : Fd K "form" (InsP2 aR (ga K "Runs") dxR (fsRuns (.ref aF) lv mv) aF (ga K "Form") dxF (fsForm wv pv (.ref dg) ov)) (InsP aF (ga K "Form") dxF (fsForm wv pv (.ref dg) ov)) := fun H v h => ⟨aR, _, dxR, _, _, h.1, h.2.1, T.c_Runs, T.n_Runs_form, by rfl, rfl, h.2.2⟩
      have fdg : Fd K "goals" (InsP aF (ga K "Form") dxF (fsForm wv pv (.ref dg) ov)) (Is (.ref dg)) := fun H v h => ⟨aF, _, dxF, _, _, h.1, h.2, T.c_Form, T.n_Form_goals, by rfl, rfl⟩
      exact ev_fld fdg (ev_fld fdf (ev_var rfl ⟨rfl, up.ins hiR, up.ins hiF⟩))
    refine q_lock (.mk0 x2.sub) hdg trivial fun od f1 up D' hn hr2 => ?_
    have XL := x2.lockIn (od := od) hdg
    have nl1 : NL 1 (upd G0 dg (.frz od (.dT kg))) := nlk_lockT nl.1
    have nlg : ll ≠ dg := fun z => by rw [z, hdg] at gl0; cases gl0
    have ndg : dm ≠ dg := fun z => by rw [z, hdg] at gd0; cases gd0
    refine p_for (M := none) (l := rd.fd.goals) (R := fun b : Pl × Pl => PlA b.1) f1 (src_keT (isG _ up none none none none) upd_same drg) fun G2 H2 e2 => ?_
    have hl2 : H2 ll = some (.lst []) := e2.same _ _ (fun z => by cases z) (by rw [upd_ne nlg, upd_ne ne, upd_same])
    have hd2 : H2 dm = some (.dT []) := e2.same _ _ (fun z => by cases z) (by rw [upd_ne ndg, upd_same])
    have gl2 : G2 ll = none := e2.av _ ⟨.lst [], by rw [upd_ne nlg, upd_ne ne, upd_same], fun _ z => by cases z⟩ (by rw [upd_ne nlg]; exact gl0)
    have gd2 : G2 dm = none := e2.av _ ⟨.dT [], by rw [upd_ne ndg, upd_same], fun _ z => by cases z⟩ (by rw [upd_ne ndg]; exact gd0)
    have hll' : (upd H dg (.frz od (.dT kg))) ll = none := by rw [upd_ne nlg]; exact hll
    have hdm' : (upd H dg (.frz od (.dT kg))) dm = none := by rw [upd_ne ndg]; exact hdm0
    refine ⟨fun i σ' H' => ∃ (reps : List Pl) (ls : List Int) (Tb : List (Pl × Unit)) (kvs : List (List Key × V)) (s3 s4 s5 s6 : Option V) (G : Hp), σ' = [some (.ref aR), some (.ref ll), some (.ref dm), s3, s4, s5, s6] ∧ Ext none (upd G0 dg (.frz od (.dT kg))) (upd H dg (.frz od (.dT kg))) G H' ∧ Gw G2 G ∧ G ll = none ∧ G dm = none ∧ H' ll = some (.lst (ls.map V.int)) ∧ H' dm = some (.dT kvs) ∧ DR pk (fun _ _ => True) Tb kvs ∧ RI (keysOf rd.fd.goals) f (keysOf (rd.fd.goals.take i)) reps ls (Tb.map (·.1)),
      ⟨[], [], [], [], none, none, none, none, G2, rfl, XL.trans e2, Gw.rfl' _, gl2, gd2, hl2, hd2, .nil, RI.start⟩, ?_, ?_, ?_⟩
    · rintro i σ' H' ⟨reps, ls, Tb, kvs, s3, s4, s5, s6, G, rfl, x, gw, _⟩
      exact gw.gs.trans x.sub
    · rintro i q σ1 H3 hq ⟨reps, ls, Tb, kvs, s3, s4, s5, s6, G, rfl, x, gw, gl, gd, hl, hd, dr, R⟩ xv H4 hy
      obtain ⟨G4, x4, rb⟩ := hy G gw (.mk0 x.sub)
      have hk : q.1 ∈ keysOf rd.fd.goals := List.mem_map.mpr ⟨q, List.mem_of_getElem? hq, rfl⟩
      have x4' := x.trans x4
      have gl4 := x4.av ll ⟨_, hl, fun _ z => by cases z⟩ gl
      have gd4 := x4.av dm ⟨_, hd, fun _ z => by cases z⟩ gd
      have hl4 := x4.same _ _ (fun z => by cases z) hl
      have hd4 := x4.same _ _ (fun z => by cases z) hd
      have tkk : keysOf (rd.fd.goals.take (i + 1)) = keysOf (rd.fd.goals.take i) ++ [q.1] := by
        rw [take_snoc hq]
        unfold keysOf
        rw [List.map_append]
        rfl
      refine g_name ?_
      refine s_when ((Fr.mk0 x4.sub).add hd4 (fun z => by cases z)) (et_B (ev_ninT (R := AnyP) (l := Tb) q.1 (ev_var rfl (mo_same (sm_new gd4) rb)) (ev_var rfl ⟨dm, kvs, rfl, .inl upd_same, paired_imp (fun _ _ z => ⟨z.1, trivial⟩) dr⟩))) (fun hb G5 H5 y5' => ?_) (fun hb G5 H5 y5' => ?_)
      · have nin : q.1 ∉ Tb.map (·.1) := by
          refine lk_none.mp ?_
          cases c : lk Tb q.1 with
          | none => rfl
          | some b => rw [c] at hb; cases hb
        have y5 := y5'.hide gd4
        have x5 := x4'.trans y5
        have hl5 := y5.same _ _ (fun z => by cases z) hl4
        have hd5 := y5.same _ _ (fun z => by cases z) hd4
        have gl5 := y5.av ll ⟨_, hl4, fun _ z => by cases z⟩ gl4
        have e1x : ∀ G', Gw (upd G0 dg (.frz od (.dT kg))) G' → RunsA K rd G' (.ref aR) := fun G' gw => mo_same gw.gs (Mo.up (Up.lock hdg trivial) e1)
        refine q_asg (P := RoundP ⟨rd, f, g, q.1⟩) (.mk0 x5.sub) (ev_meth (i := (⟨rd, f, g, q.1⟩ : RIx)) ⟨hR, hk⟩ (n := 1) (x5.gw.nl nl1) rfl (isI_runs fun _ _ _ => by rfl) (ev_var rfl (e1x _ x5.gw)) (ea_cons (ev_var rfl (mo_same y5.gs rb)) ea_nil)) fun v6 G6 H6 y6 h6 => ?_
        obtain ⟨l, Tn, hl6', RO⟩ := h6
        have x6 := x5.trans y6
        have gd5 : (del G5 dm) dm = none := del_same
        have gl6 := y6.av ll ⟨_, hl5, fun _ z => by cases z⟩ gl5
        have gd6 := y6.av dm ⟨_, hd5, fun _ z => by cases z⟩ gd5
        have hl6 := y6.same _ _ (fun z => by cases z) hl5
        have hd6 := y6.same _ _ (fun z => by cases z) hd5
        have lfew : l.length < 100000 := by
          have h1 := RO.round.few
          unfold keysOf at h1
          rw [List.length_map] at h1
          have h2 := hF.few
          dsimp only at h1
          omega
        have lsfew : (ls.map V.int).length < 100000 := by
          have h1 := paired_len R.pair
          have h2 := List.Nodup.length_le_of_subset R.nd (fun a ha => R.sub a ha)
          unfold keysOf at h2
          rw [List.length_map] at h2 ⊢
          have h3 := hF.few
          omega
        refine q_app (P := IntA (total l)) (.mk0 x6.sub) rfl hl6 (fun z => by cases z) lsfew (ev_sumI (l := l.map (·.2)) (ev_lcM (R := StA) (R' := IntA) (fun q : Pl × Int => q.2) (src_lst (ev_var rfl hl6')) lfew fun q hq xv G' H' gw fr rx Q' k2 => tg2 rx fr.sub fun a1 a2 ha1 ha2 => k2 _ rfl (ev_var rfl ha2))) fun v7 G7 H7 y7 h7 hl7 => ?_
        cases h7
        have x7a := x6.trans y7
        have gl7 := y7.av ll ⟨_, hl6, fun _ z => by cases z⟩ gl6
        have gd7 := y7.av dm ⟨_, hd6, fun _ z => by cases z⟩ gd6
        have hd7 := y7.same _ _ (fun z => by cases z) hd6
        have x7 := Ext.mutD (o := .lst (ls.map V.int ++ [.int (total l)])) x7a hll' gl7 (fun z => by cases z)
        have nld : dm ≠ ll := ne.symm
        have emap : ls.map V.int ++ [V.int (total l)] = (ls ++ [(Tn : Int)]).map V.int := by
          have ht : total l = (Tn : Int) := RO.tot
          rw [List.map_append, ht]
          rfl
        rw [emap] at x7 ⊢
        refine p_for (M := none) (l := l) (R := StA) (.mk0 x7.sub) (src_lst (ev_var rfl (mo_same y7.gs hl6'))) fun G8 H8 y8 => ?_
        have x8 := x7.trans y8
        have gl8 := y8.av ll ⟨_, upd_same, fun _ z => by cases z⟩ gl7
        have gd8 := y8.av dm ⟨.dT kvs, by rw [upd_ne nld]; exact hd7, fun _ z => by cases z⟩ gd7
        have hl8 := y8.same _ _ (fun z => by cases z) upd_same
        have hd8 : H8 dm = some (.dT kvs) := y8.same _ _ (fun z => by cases z) (by rw [upd_ne nld]; exact hd7)
        have gw8 : Gw G2 G8 := gw.trans ((((x4.trans y5).trans y6).trans y7).gw.trans y8.gw)
        refine ⟨fun j σ' H' => ∃ (Tb' : List (Pl × Unit)) (kvs' : List (List Key × V)) (s5 s6 : Option V) (G : Hp), σ' = [some (.ref aR), some (.ref ll), some (.ref dm), some xv, some v6, s5, s6] ∧ Ext none (upd G0 dg (.frz od (.dT kg))) (upd H dg (.frz od (.dT kg))) G H' ∧ Gw G2 G ∧ Gw G8 G ∧ G ll = none ∧ G dm = none ∧ H' ll = some (.lst ((ls ++ [(Tn : Int)]).map V.int)) ∧ H' dm = some (.dT kvs') ∧ DR pk (fun _ _ => True) Tb' kvs' ∧ (Tb'.map (·.1)).Nodup ∧ ∀ a, a ∈ Tb'.map (·.1) ↔ a ∈ Tb.map (·.1) ∨ a ∈ (l.take j).map (·.1),
          ⟨Tb, kvs, s5, s6, G8, rfl, x8, gw8, Gw.rfl' _, gl8, gd8, hl8, hd8, dr, R.mnd, fun a => ⟨.inl, fun h => h.elim id fun h => (nomatch h)⟩⟩, ?_, ?_, ?_⟩
        · rintro j σ' H' ⟨Tb', kvs', s5, s6, G, rfl, x, _, gw, _⟩
          exact gw.gs.trans x.sub
        · rintro j b σ1 H9 hb9 ⟨Tb', kvs', s5, s6, G, rfl, x, gw, gw', gl, gd, hl, hd, dr', nd', mem'⟩ xv9 H10 hy9
          obtain ⟨G10, x10, rb10⟩ := hy9 G gw' (.mk0 x.sub)
          refine tg2 rb10 x10.sub fun a1 a2 ha1 ha2 => ?_
          cases ha2
          have x10' := x.trans x10
          have gl10 := x10.av ll ⟨_, hl, fun _ z => by cases z⟩ gl
          have gd10 := x10.av dm ⟨_, hd, fun _ z => by cases z⟩ gd
          have hl10 := x10.same _ _ (fun z => by cases z) hl
          have hd10 := x10.same _ _ (fun z => by cases z) hd
          have kfew : kvs'.length < 100000 := by
            have h1 := paired_len dr'
            have h2 : (Tb'.map (·.1)).length ≤ (keysOf rd.fd.goals).length := List.Nodup.length_le_of_subset nd' fun a ha => by
              rcases (mem' a).mp ha with h | h
              · exact ((R.met a).mp h).1
              · refine ((RO.mem a).mp ?_).1
                obtain ⟨z, hz, rfl⟩ := List.mem_map.mp h
                exact List.mem_map.mpr ⟨z, List.mem_of_mem_take hz, rfl⟩
            unfold keysOf at h2
            rw [List.length_map, List.length_map] at h2
            have h3 := hF.few
            omega
          refine p_putT (P := Is (.bl true)) (.mk0 x10.sub) hd10 (fun z => by cases z) kfew ev_c (fun G11 H11 e11 Q q' => ⟨_, rfl, q'⟩) (ev_var rfl ha1) fun v11 G11 H11 y11 h11 hd11 => ?_
          have gl11 := y11.av ll ⟨_, hl10, fun _ z => by cases z⟩ gl10
          have gd11 := y11.av dm ⟨_, hd10, fun _ z => by cases z⟩ gd10
          refine ⟨pt Tb' b.1 (), _, _, _, G11, rfl, Ext.mutD (x10'.trans y11) hdm' gd11 (fun z => by cases z), gw.trans (x10.trans y11).gw, gw'.trans (x10.trans y11).gw, gl11, gd11, ?_, upd_same, DR.put pk_inj dr' trivial, pt_keys_nd nd' _ _, fun a => ?_⟩
          · rw [upd_ne ne]
            exact y11.same _ _ (fun z => by cases z) hl10
          · rw [keys_pt, mem', take_snoc hb9, List.map_append, List.mem_append]
            constructor
            · rintro (h | h | h)
              · exact .inr (.inr (by rw [h]; exact List.mem_cons_self))
              · exact .inl h
              · exact .inr (.inl h)
            · rintro (h | h | h)
              · exact .inr (.inl h)
              · exact .inr (.inr h)
              · left
                rcases List.mem_cons.mp h with h | h
                · exact h
                · cases h
        · rintro σ' H' ⟨Tb', kvs', s5, s6, G, rfl, x, gw, gw', gl, gd, hl, hd, dr', nd', mem'⟩
          rw [List.take_length] at mem'
          refine ⟨reps ++ [q.1], ls ++ [(Tn : Int)], Tb', kvs', _, _, _, _, G, rfl, x, gw, gl, gd, hl, hd, dr', ?_⟩
          rw [tkk]
          refine R.step hk nin RO.per (fun r hr => hF.form.bij.per (l := spotsL rd.fd.web.m) (fun s h => mem_spotsL.mpr h) (hF.form.toTells.spot (R.sub r hr))) nd' fun a => ?_
          rw [mem', RO.mem]
      · have inn : q.1 ∈ Tb.map (·.1) := by
          refine lk_some.mp fun z => ?_
          rw [z] at hb
          cases hb
        have y5 := y5'.hide gd4
        refine ⟨reps, ls, Tb, kvs, _, _, _, _, del G5 dm, rfl, x4'.trans y5, gw.trans (x4.trans y5).gw, y5.av ll ⟨_, hl4, fun _ z => by cases z⟩ gl4, del_same, y5.same _ _ (fun z => by cases z) hl4, y5.same _ _ (fun z => by cases z) hd4, dr, ?_⟩
        rw [tkk]
        exact R.skip inn
    · rintro σ' H' ⟨reps, ls, Tb, kvs, s3, s4, s5, s6, G, rfl, x, gw, gl, gd, hl, hd, dr, R⟩
      rw [List.take_length] at R
      obtain ⟨u1, u2, u3⟩ := Ext.unlock (G0 := G0) (H0 := H) f0 hdg trivial x
      rw [hn]
      refine ⟨u2, ?_⟩
      have gl' : (upd G dg (.dT kg)) ll = none := by rw [upd_ne nlg]; exact gl
      have hl' : (upd H' dg (.dT kg)) ll = some (.lst (ls.map V.int)) := by rw [upd_ne nlg]; exact hl
      have x9 := Ext.learn u1 hll gl' hl' (fun _ _ z => by cases z)
      have prs : ∀ (ls : List Int), Paired (fun b u => IntA b (upd (upd G dg (.dT kg)) ll (.lst (ls.map V.int))) u) ls (ls.map V.int) := fun ls => by
        generalize upd (upd G dg (.dT kg)) ll (.lst (ls.map V.int)) = GG
        induction ls with
        | nil => exact .nil
        | cons a l ih => exact .cons rfl ih
      refine s_ret (P := StrangeP ⟨rd, f, g, s0⟩) (.mk0 x9.sub) (ev_var rfl ⟨reps, ls, ⟨ll, _, rfl, upd_same, prs ls⟩, ⟨R.nd, R.sub, R.apart, fun a ha => R.all a ha⟩, R.pair, ?_⟩) fun v5 G5 H5 y5 h5 => k v5 G5 H5 (x9.trans y5) h5
      have h1 := paired_len R.pair
      have h2 := List.Nodup.length_le_of_subset R.nd (fun a ha => R.sub a ha)
      unfold keysOf at h2
      rw [List.length_map] at h2
      show ls.length ≤ rd.fd.goals.length
      omega
end
end MR
/-! Runs.__init__ -/
namespace MR
open PySem PySem.Spec PyProof.Rows L2 He
/-! ### the marks: a dict of dicts, filled -/
structure MEnt where
  lane : Pl
  ad : Addr
  tab : List (Int × Pl)
  kv : List (Key × V)
structure MarksI (B G H : Hp) (dm : Addr) (E : List MEnt) : Prop where
  at_ : H dm = some (.dT (E.map fun e => (pk e.lane, V.ref e.ad)))
  gd : G dm = none
  bd : B dm = none
  nd : (E.map (·.ad)).Nodup
  ent : ∀ e, e ∈ E → H e.ad = some (.dK e.kv) ∧ G e.ad = none ∧ B e.ad = none ∧ DR kI (fun b u => PlA b G u) e.tab e.kv
theorem paired_maps {α β γ : Type} {F : β → γ → Prop} {φ : α → β} {ψ : α → γ} : ∀ {l : List α}, (∀ a, a ∈ l → F (φ a) (ψ a)) → Paired F (l.map φ) (l.map ψ)
  | [], _ => .nil
  | x :: l, h => .cons (h x List.mem_cons_self) (paired_maps fun a ha => h a (List.mem_cons_of_mem _ ha))
def mT (E : List MEnt) : List (Pl × List (Int × Pl)) := E.map fun e => (e.lane, e.tab)
section
variable {B G G' H H' : Hp} {dm : Addr} {E : List MEnt}
theorem MarksI.ext (I : MarksI B G H dm E) (x : Ext none G H G' H') : MarksI B G' H' dm E :=
  ⟨x.same _ _ (fun z => by cases z) I.at_, x.av _ ⟨_, I.at_, fun _ z => by cases z⟩ I.gd, I.bd, I.nd, fun e he => by
    obtain ⟨h1, h2, h3, h4⟩ := I.ent e he
    exact ⟨x.same _ _ (fun z => by cases z) h1, x.av _ ⟨_, h1, fun _ z => by cases z⟩ h2, h3, DR.mo (sm_up x.gs) h4⟩⟩
theorem MarksI.val (I : MarksI B G H dm E) {l : Pl} : valV (E.map fun e => (pk e.lane, V.ref e.ad)) (pk l) = (E.find? fun e => decide (e.lane = l)).map fun e => V.ref e.ad := by
  clear I
  induction E with
  | nil => rfl
  | cons e E ih =>
    rw [List.map_cons, List.find?_cons]
    by_cases c : e.lane = l
    · rw [valV_pos (by rw [c]), decide_eq_true c]
      rfl
    · rw [valV_neg (show ¬ pk e.lane = pk l from fun z => c (pk_inj _ _ z)), decide_eq_false c]
      exact ih
theorem lk_mT {l : Pl} : lk (mT E) l = (E.find? fun e => decide (e.lane = l)).map (·.tab) := by
  unfold mT
  induction E with
  | nil => rfl
  | cons e E ih =>
    rw [List.map_cons, lk_cons, List.find?_cons]
    by_cases c : e.lane = l
    · rw [if_pos c, decide_eq_true c]
      rfl
    · rw [if_neg c, decide_eq_false c]
      exact ih
theorem MarksI.new (I : MarksI B G H dm E) {d : Addr} {l : Pl} (hd : H d = none) (gd : G d = none) (bd : B d = none) (hl : lk (mT E) l = none) :
    MarksI B G (upd (upd H d (.dK [])) dm (.dT (putK (E.map fun e => (pk e.lane, V.ref e.ad)) (pk l) (.ref d)))) dm (E ++ [⟨l, d, [], []⟩]) := by
  have nd : d ≠ dm := fun z => by rw [z, I.at_] at hd; cases hd
  have hv : valV (E.map fun e => (pk e.lane, V.ref e.ad)) (pk l) = none := by
    rw [I.val]
    rw [lk_mT] at hl
    cases c : E.find? fun e => decide (e.lane = l) with
    | none => rfl
    | some e => rw [c] at hl; cases hl
  refine ⟨?_, I.gd, I.bd, ?_, fun e he => ?_⟩
  · rw [upd_same, putK_new _ hv, List.map_append]
    rfl
  · rw [List.map_append]
    refine List.nodup_append.mpr ⟨I.nd, List.nodup_cons.mpr ⟨List.not_mem_nil, List.nodup_nil⟩, fun a ha b hb e => ?_⟩
    rw [List.map_cons, List.map_nil, List.mem_singleton] at hb
    obtain ⟨q, hq, rfl⟩ := List.mem_map.mp ha
    have h1 := (I.ent q hq).1
    rw [e, hb] at h1
    rw [h1] at hd
    cases hd
  · rcases List.mem_append.mp he with he | he
    · obtain ⟨h1, h2, h3, h4⟩ := I.ent e he
      have n1 : e.ad ≠ dm := fun z => by rw [z, I.at_] at h1; cases h1
      have n2 : e.ad ≠ d := ne_of_none h1 hd
      exact ⟨by rw [upd_ne n1, upd_ne n2]; exact h1, h2, h3, h4⟩
    · rw [List.mem_singleton] at he
      subst he
      exact ⟨by rw [upd_ne nd, upd_same], gd, bd, .nil⟩
def mPut (E : List MEnt) (l : Pl) (a : Int) (s : Pl) (v : V) : List MEnt := E.map fun e => if e.lane = l then ⟨e.lane, e.ad, pt e.tab a s, putK e.kv (kI a) v⟩ else e
theorem MarksI.put (I : MarksI B G H dm E) (lnd : (E.map (·.lane)).Nodup) {e0 : MEnt} (he0 : e0 ∈ E) {a : Int} {s : Pl} {v : V} (hv : PlA s G v) : MarksI B G (upd H e0.ad (.dK (putK e0.kv (kI a) v))) dm (mPut E e0.lane a s v) := by
  obtain ⟨g1, g2, g3, g4⟩ := I.ent e0 he0
  have nm : dm ≠ e0.ad := fun z => by rw [← z, I.at_] at g1; cases g1
  have uniq : ∀ e, e ∈ E → e.lane = e0.lane → e = e0 := fun e he el => by
    have : ∀ l : List MEnt, (l.map (·.lane)).Nodup → e ∈ l → e0 ∈ l → e = e0 := by
      intro l
      induction l with
      | nil => intro _ h; cases h
      | cons x l ih =>
        intro nd h1 h2
        have nd' := List.nodup_cons.mp nd
        rcases List.mem_cons.mp h1 with h1 | h1 <;> rcases List.mem_cons.mp h2 with h2 | h2
        · rw [h1, h2]
        · exact absurd (List.mem_map.mpr ⟨e0, h2, by rw [← el, h1]⟩) nd'.1
        · exact absurd (List.mem_map.mpr ⟨e, h1, by rw [el, h2]⟩) nd'.1
        · exact ih nd'.2 h1 h2
    exact this E lnd he he0
  refine ⟨?_, I.gd, I.bd, ?_, fun e he => ?_⟩
  · rw [upd_ne nm, I.at_]
    unfold mPut
    rw [List.map_map]
    congr 2
    refine List.map_congr_left fun e he => ?_
    show _ = (pk (if e.lane = e0.lane then (⟨e.lane, e.ad, pt e.tab a s, putK e.kv (kI a) v⟩ : MEnt) else e).lane, V.ref (if e.lane = e0.lane then (⟨e.lane, e.ad, pt e.tab a s, putK e.kv (kI a) v⟩ : MEnt) else e).ad)
    split <;> rfl
  · have : (mPut E e0.lane a s v).map (·.ad) = E.map (·.ad) := by
      unfold mPut
      rw [List.map_map]
      refine List.map_congr_left fun e he => ?_
      show (if e.lane = e0.lane then (⟨e.lane, e.ad, pt e.tab a s, putK e.kv (kI a) v⟩ : MEnt) else e).ad = e.ad
      split <;> rfl
    rw [this]
    exact I.nd
  · obtain ⟨q, hq, rfl⟩ := List.mem_map.mp he
    obtain ⟨h1, h2, h3, h4⟩ := I.ent q hq
    by_cases c : q.lane = e0.lane
    · have := uniq q hq c
      subst this
      rw [if_pos rfl]
      exact ⟨upd_same, h2, h3, DR.put kI_inj h4 hv⟩
    · rw [if_neg c]
      have n1 : q.ad ≠ e0.ad := fun z => c (by
        have : ∀ l : List MEnt, (l.map (·.ad)).Nodup → q ∈ l → e0 ∈ l → q = e0 := by
          intro l
          induction l with
          | nil => intro _ h; cases h
          | cons x l ih =>
            intro nd h1 h2
            have nd' := List.nodup_cons.mp nd
            rcases List.mem_cons.mp h1 with h1 | h1 <;> rcases List.mem_cons.mp h2 with h2 | h2
            · rw [h1, h2]
            · exact absurd (List.mem_map.mpr ⟨e0, h2, by rw [← z, h1]⟩) nd'.1
            · exact absurd (List.mem_map.mpr ⟨q, h1, by rw [z, h2]⟩) nd'.1
            · exact ih nd'.2 h1 h2
        rw [this E I.nd hq he0])
      exact ⟨by rw [upd_ne n1]; exact h1, h2, h3, h4⟩
theorem mPut_lane {l : Pl} {a : Int} {s : Pl} {v : V} : (mPut E l a s v).map (·.lane) = E.map (·.lane) := by
  unfold mPut
  rw [List.map_map]
  refine List.map_congr_left fun e he => ?_
  show (if e.lane = l then (⟨e.lane, e.ad, pt e.tab a s, putK e.kv (kI a) v⟩ : MEnt) else e).lane = e.lane
  split <;> rfl
theorem lk_mPut_ne {l : Pl} {a : Int} {s : Pl} {v : V} {j : Pl} (h : j ≠ l) : ∀ E : List MEnt, lk (E.map ((fun e : MEnt => (e.lane, e.tab)) ∘ fun e => if e.lane = l then (⟨e.lane, e.ad, pt e.tab a s, putK e.kv (kI a) v⟩ : MEnt) else e)) j = lk (E.map fun e => (e.lane, e.tab)) j
  | [] => rfl
  | e :: E => by
    rw [List.map_cons, List.map_cons, lk_cons, lk_cons, lk_mPut_ne h E]
    by_cases c : e.lane = l
    · have e1 : ((fun e : MEnt => (e.lane, e.tab)) ∘ fun e => if e.lane = l then (⟨e.lane, e.ad, pt e.tab a s, putK e.kv (kI a) v⟩ : MEnt) else e) e = (e.lane, pt e.tab a s) := by
        show ((if e.lane = l then (⟨e.lane, e.ad, pt e.tab a s, putK e.kv (kI a) v⟩ : MEnt) else e).lane, (if e.lane = l then (⟨e.lane, e.ad, pt e.tab a s, putK e.kv (kI a) v⟩ : MEnt) else e).tab) = _
        rw [if_pos c]
      have c3 : ¬ e.lane = j := fun z => h (z.symm.trans c)
      rw [e1, if_neg c3, if_neg c3]
    · have e1 : ((fun e : MEnt => (e.lane, e.tab)) ∘ fun e => if e.lane = l then (⟨e.lane, e.ad, pt e.tab a s, putK e.kv (kI a) v⟩ : MEnt) else e) e = (e.lane, e.tab) := by
        show ((if e.lane = l then (⟨e.lane, e.ad, pt e.tab a s, putK e.kv (kI a) v⟩ : MEnt) else e).lane, (if e.lane = l then (⟨e.lane, e.ad, pt e.tab a s, putK e.kv (kI a) v⟩ : MEnt) else e).tab) = _
        rw [if_neg c]
      rw [e1]
theorem lk_mPut {l : Pl} {a : Int} {s : Pl} {v : V} {t : List (Int × Pl)} (h : lk (mT E) l = some t) (j : Pl) : lk (mT (mPut E l a s v)) j = if j = l then some (pt t a s) else lk (mT E) j := by
  unfold mPut mT at *
  rw [List.map_map]
  induction E with
  | nil => cases h
  | cons e E ih =>
    rw [List.map_cons, lk_cons] at h ⊢
    rw [List.map_cons, lk_cons]
    by_cases c : e.lane = l
    · rw [if_pos c] at h
      cases h
      by_cases c2 : j = l
      · have e1 : ((fun e : MEnt => (e.lane, e.tab)) ∘ fun e => if e.lane = l then (⟨e.lane, e.ad, pt e.tab a s, putK e.kv (kI a) v⟩ : MEnt) else e) e = (e.lane, pt e.tab a s) := by
          show ((if e.lane = l then (⟨e.lane, e.ad, pt e.tab a s, putK e.kv (kI a) v⟩ : MEnt) else e).lane, (if e.lane = l then (⟨e.lane, e.ad, pt e.tab a s, putK e.kv (kI a) v⟩ : MEnt) else e).tab) = _
          rw [if_pos c]
        rw [e1, if_pos c2, if_pos (c.trans c2.symm)]
      · have e1 : ((fun e : MEnt => (e.lane, e.tab)) ∘ fun e => if e.lane = l then (⟨e.lane, e.ad, pt e.tab a s, putK e.kv (kI a) v⟩ : MEnt) else e) e = (e.lane, pt e.tab a s) := by
          show ((if e.lane = l then (⟨e.lane, e.ad, pt e.tab a s, putK e.kv (kI a) v⟩ : MEnt) else e).lane, (if e.lane = l then (⟨e.lane, e.ad, pt e.tab a s, putK e.kv (kI a) v⟩ : MEnt) else e).tab) = _
          rw [if_pos c]
        have c3 : ¬ e.lane = j := fun z => c2 (z.symm.trans c)
        rw [e1, if_neg c2, if_neg c3, if_neg c3]
        exact lk_mPut_ne c2 E
    · rw [if_neg c] at h
      have e1 : ((fun e : MEnt => (e.lane, e.tab)) ∘ fun e => if e.lane = l then (⟨e.lane, e.ad, pt e.tab a s, putK e.kv (kI a) v⟩ : MEnt) else e) e = (e.lane, e.tab) := by
        show ((if e.lane = l then (⟨e.lane, e.ad, pt e.tab a s, putK e.kv (kI a) v⟩ : MEnt) else e).lane, (if e.lane = l then (⟨e.lane, e.ad, pt e.tab a s, putK e.kv (kI a) v⟩ : MEnt) else e).tab) = _
        rw [if_neg c]
      rw [e1, ih h]
      by_cases c2 : j = l
      · rw [if_pos c2, if_pos c2, if_neg fun z => c (z.trans c2)]
      · rw [if_neg c2, if_neg c2]
end
/-- what the marks say: done are the places with their spots -/
structure MSem (N : LanesM Nm) (done : List (Pl × Pl)) (T : List (Pl × List (Int × Pl))) : Prop where
  iff_ : ∀ l a e, (∃ t, lk T l = some t ∧ lk t a = some e) ↔ ∃ p, (p, e) ∈ done ∧ N.lane p = l ∧ N.at_ p = a
  nd : (T.map (·.1)).Nodup
  ind : ∀ q, q ∈ T → (q.2.map (·.1)).Nodup ∧ q.2 ≠ [] ∧ q.2.length ≤ done.length
  few : T.length ≤ done.length
theorem MSem.start {N : LanesM Nm} : MSem N [] [] := ⟨fun l a e => ⟨fun ⟨_, h, _⟩ => (nomatch h), fun ⟨_, h, _⟩ => (nomatch h)⟩, List.nodup_nil, fun _ h => (nomatch h), Nat.le_refl _⟩
theorem MSem.step {N : LanesM Nm} {done : List (Pl × Pl)} {T T' : List (Pl × List (Int × Pl))} (M : MSem N done T) {p s : Pl} (uniq : ∀ p' s', (p', s') ∈ done → N.lane p' = N.lane p → N.at_ p' = N.at_ p → s' = s)
    (h : ∀ j, lk T' j = if j = N.lane p then some (pt ((lk T (N.lane p)).getD []) (N.at_ p) s) else lk T j) (nd : (T'.map (·.1)).Nodup) (few : T'.length ≤ T.length + 1) : MSem N (done ++ [(p, s)]) T' := by
  have t0 : ∀ a e, lk ((lk T (N.lane p)).getD []) a = some e ↔ ∃ p', (p', e) ∈ done ∧ N.lane p' = N.lane p ∧ N.at_ p' = a := fun a e => by
    rw [← M.iff_]
    cases c : lk T (N.lane p) with
    | none => exact ⟨fun z => (nomatch z), fun ⟨_, z, _⟩ => (nomatch z)⟩
    | some t => exact ⟨fun z => ⟨t, rfl, z⟩, fun ⟨_, z, y⟩ => by cases z; exact y⟩
  have ind0 : (((lk T (N.lane p)).getD []).map (·.1)).Nodup ∧ ((lk T (N.lane p)).getD []).length ≤ done.length := by
    cases c : lk T (N.lane p) with
    | none => exact ⟨List.nodup_nil, Nat.zero_le _⟩
    | some t => exact ⟨(M.ind _ (lk_mem c)).1, (M.ind _ (lk_mem c)).2.2⟩
  refine ⟨fun l a e => ?_, nd, fun q hq => ?_, ?_⟩
  · rw [h]
    by_cases c : l = N.lane p
    · rw [if_pos c]
      constructor
      · rintro ⟨t, ht, he⟩
        cases ht
        rw [lk_pt] at he
        by_cases c2 : a = N.at_ p
        · rw [if_pos c2] at he
          cases he
          exact ⟨p, List.mem_append_right _ List.mem_cons_self, c.symm, c2.symm⟩
        · rw [if_neg c2] at he
          obtain ⟨p', h1, h2, h3⟩ := (t0 a e).mp he
          exact ⟨p', List.mem_append_left _ h1, h2.trans c.symm, h3⟩
      · rintro ⟨p', h1, h2, h3⟩
        refine ⟨_, rfl, ?_⟩
        rw [lk_pt]
        rcases List.mem_append.mp h1 with h1 | h1
        · by_cases c2 : a = N.at_ p
          · rw [if_pos c2, uniq p' e h1 (h2.trans c) (h3.trans c2)]
          · rw [if_neg c2]
            exact (t0 a e).mpr ⟨p', h1, h2.trans c, h3⟩
        · rw [List.mem_singleton] at h1
          cases h1
          rw [if_pos h3.symm]
    · rw [if_neg c, M.iff_]
      constructor
      · rintro ⟨p', h1, h2, h3⟩
        exact ⟨p', List.mem_append_left _ h1, h2, h3⟩
      · rintro ⟨p', h1, h2, h3⟩
        rcases List.mem_append.mp h1 with h1 | h1
        · exact ⟨p', h1, h2, h3⟩
        · rw [List.mem_singleton] at h1
          cases h1
          exact absurd h2.symm c
  · have hq' := lk_of_mem nd hq
    rw [h] at hq'
    have e2 : (done ++ [(p, s)]).length = done.length + 1 := by rw [List.length_append]; rfl
    rw [e2]
    by_cases c : q.1 = N.lane p
    · rw [if_pos c] at hq'
      have e1 := Option.some.inj hq'
      rw [← e1]
      refine ⟨pt_keys_nd ind0.1 _ _, fun z => ?_, Nat.le_trans (pt_len _ _ _) (by omega)⟩
      have := lk_pt ((lk T (N.lane p)).getD []) (N.at_ p) (N.at_ p) s
      rw [z, if_pos rfl] at this
      cases this
    · rw [if_neg c] at hq'
      have := M.ind _ (lk_mem hq')
      exact ⟨this.1, this.2.1, by have := this.2.2; dsimp only at this ⊢; omega⟩
  · have := M.few
    rw [List.length_append, List.length_cons, List.length_nil]
    omega
section
variable {K : PySem.W.Frag} {M : Option Addr} {σ : L2.St} {H : Hp} {D : Ends} {tz : TS}
/-- self.f = {} -/
theorem q_fldNewK {x C dx : Addr} {fs : List (Str × V)} {m : Str} (h0 : σ[0]? = some (some (.ref x))) (hx : H x = some (.ins C dx fs)) (c : Cls K C) (n : NoAttr K C m) (hf : fs.length < 1000)
    (k : ∀ d, H d = none → tz D σ (upd (upd H d (.dK [])) x (.ins C dx (putF m (.ref d) fs)))) : tSeq (sFld K (tVar 0) tDNewK m) tz D σ H := fun d hd => ⟨_, h0, x, C, dx, fs, rfl, sm_new hd _ _ hx, c, n, hf, k d hd⟩
theorem q_fldNewT {x C dx : Addr} {fs : List (Str × V)} {m : Str} (h0 : σ[0]? = some (some (.ref x))) (hx : H x = some (.ins C dx fs)) (c : Cls K C) (n : NoAttr K C m) (hf : fs.length < 1000)
    (k : ∀ d, H d = none → tz D σ (upd (upd H d (.dT [])) x (.ins C dx (putF m (.ref d) fs)))) : tSeq (sFld K (tVar 0) tDNewT m) tz D σ H := fun d hd => ⟨_, h0, x, C, dx, fs, rfl, sm_new hd _ _ hx, c, n, hf, k d hd⟩
end
open Classical in
/-- several objects of one's own are known from here on -/
noncomputable def addS (S : Addr → Prop) (G H : Hp) : Hp := fun a => if S a then H a else G a
theorem Ext.learnS {M : Option Addr} {G H G' H' : Hp} (e : Ext M G H G' H') {S : Addr → Prop} (hS : ∀ a, S a → H a = none ∧ G' a = none ∧ ∃ o, H' a = some o ∧ NoFrz o) : Ext M G H (addS S G' H') H' := by
  refine ⟨e.same, fun a u z => ?_, fun a u z => ?_, fun a q z => ?_, fun a q u z => ?_, e.pot⟩
  · have z' := e.gs _ _ z
    unfold addS
    by_cases c : S a
    · rw [(hS a c).2.1] at z'
      cases z'
    · rw [if_neg c]
      exact z'
  · unfold addS at z
    by_cases c : S a
    · rw [if_pos c] at z
      exact z
    · rw [if_neg c] at z
      exact e.sub _ _ z
  · unfold addS
    by_cases c : S a
    · obtain ⟨u, q', n⟩ := q
      rw [(hS a c).1] at q'
      cases q'
    · rw [if_neg c]
      exact e.av a q z
  · unfold addS at z
    by_cases c : S a
    · rw [if_pos c] at z
      obtain ⟨_, _, o, h1, h2⟩ := hS a c
      rw [h1] at z
      cases z
      exact absurd rfl (h2 _ _)
    · rw [if_neg c] at z
      exact e.nf _ _ _ z
theorem addS_pos {S : Addr → Prop} {G H : Hp} {a : Addr} (h : S a) : addS S G H a = H a := if_pos h
theorem addS_neg {S : Addr → Prop} {G H : Hp} {a : Addr} (h : ¬ S a) : addS S G H a = G a := if_neg h
theorem same_addS {S : Addr → Prop} {G H : Hp} (h : ∀ a, S a → G a = none) : Same G (addS S G H) := fun a o z => by
  rw [addS_neg fun c => by rw [h a c] at z; cases z]
  exact z
theorem flat_len {wd : WebD} : ∀ l : List (Pl × Pl), (l.flatMap fun q => (wd.placesL q.1).map fun p => (p, q.1)).length ≤ 2 * l.length
  | [] => Nat.le_refl _
  | q :: l => by
    have := flat_len (wd := wd) l
    have h2 := placesL_few wd q.1
    rw [List.flatMap_cons, List.length_append, List.length_map, List.length_cons]
    omega
def SolP (p L : Int) : Hp → V → Prop := fun _ v => ∃ b, v = .int b ∧ LaneOk L p (cd p L) (L / cd p L) b
instance {p L : Int} : Mo (SolP p L) := ⟨fun _ h => h⟩
def LaneP (p L : Int) : Hp → V → Prop := fun H v => ∃ t : LaneT, LaneA t H v ∧ LaneOk L p t.1 t.2.1 t.2.2
instance {p L : Int} : Mo (LaneP p L) := ⟨fun e ⟨t, h, q⟩ => ⟨t, Mo.up e h, q⟩⟩
theorem laneP_of {p L : Int} : ∀ H v, TupP [IntA (cd p L), IntA (L / cd p L), SolP p L] H v → LaneP p L H v := fun H v ⟨a, vs, e, h, al⟩ => by
  obtain ⟨_, _, _, rfl, h1, h2, b, rfl, hb⟩ := al3 al
  exact ⟨(_, _, b), ⟨a, _, e, h, .cons h1 (.cons h2 (.cons rfl .nil))⟩, hb⟩
section
variable {P : Program} {w : World} {K : PySem.W.Frag} {mg : Str → Option Value} {base : Heap}
def RunsR (K : PySem.W.Frag) (fd : FormD) (f g : Pl → Pl) : Hp → V → Prop := fun H v => ∃ rd, RunsA K rd H v ∧ RunsGood rd f g ∧ rd.fd = fd
instance {fd : FormD} {f g : Pl → Pl} : Mo (RunsR K fd f g) := ⟨fun e ⟨r, h, q⟩ => ⟨r, Mo.up e h, q⟩⟩
def spRunsI (K : PySem.W.Frag) : Sp := spIni 2 (ga K "Runs") (ι := InvI) (fun i => FormGood i.a i.f i.g ∧ i.a.goals.length < 40000) (fun i => [FormA K i.a]) (fun i => RunsR K i.a i.f i.g)
theorem ok_RunsU_initU (T : Tx K mg) : Good P w K mg base 4 (ma K (ga K "Runs") "__init__") ["self", "form"] (spRunsI K) := by
  obtain ⟨⟨fd_Web_names, G_Web_names, b_Web_names⟩, k_Web_names⟩ := ok_Web_names (P := P) (w := w) (base := base) T
  obtain ⟨⟨fd_Web_places, G_Web_places, b_Web_places⟩, k_Web_places⟩ := ok_Web_places (P := P) (w := w) (base := base) T
  obtain ⟨⟨fd_common_divisor, G_common_divisor, b_common_divisor⟩, k_common_divisor⟩ := ok_common_divisor (P := P) (w := w) (base := base) T
  obtain ⟨⟨fd_solution, G_solution, b_solution⟩, k_solution⟩ := ok_solution (P := P) (w := w) (base := base) T
  obtain ⟨⟨fd_Runs_stand, G_Runs_stand, b_Runs_stand⟩, k_Runs_stand⟩ := ok_Runs_stand (P := P) (w := w) (base := base) T
  refine good_of T.d_RunsU_initU sc_RunsU_initU (fun fd F => FunD.bindsN F fun _ _ _ _ _ _ us hl => match us, hl with | [_, _], _ => rfl) (fun vs H Q E h => ?_) (fun cdv A outer s H vs Q E hr h => ?_)
  · obtain ⟨i, G, x, dx, rest, rfl, _, _, _, _, _, al, _⟩ := h
    exact congrArg Nat.succ (al_len al rfl)
  · obtain ⟨i, G0, x, dx, rest, rfl, hx, g0, hC, nl, sG, al, k⟩ := h
    have hu := hu_of hr
    have hmin := hr.units
    obtain ⟨v1, rfl, e1⟩ := al1 al
    obtain ⟨fd, f, g⟩ := i
    obtain ⟨hF, few⟩ := hC
    dsimp only at e1 hF few k
    have hW := hF.web
    have o := hW.ok
    have X0 : Ext none G0 (del H x) G0 H := ini_start sG g0
    have f0 : Fr none G0 H := .mk0 sG
    have nM : (none : Option Addr) ≠ some x := fun z => by cases z
    refine ⟨_, (pss_cons (ps_fld (pv 0) (pv 1) rfl)
    (pss_cons (ps_fld (pv 0) (pe_dnewK) rfl)
    (pss_cons (ps_for PassesOwn.never rfl (pi_list (pe_meth0 (pe_fld (pv 1) (by rfl)) T.c_Web T.m_Web_names G_Web_names (hr.mono (by decide)) b_Web_names .nil pass0)) (pg_name (i := 2) sc_RunsU_initU.nd rfl (Or.inl rfl))
    (pss_cons (ps_set (i := 3) sc_RunsU_initU.nd rfl (Or.inl rfl) (pe_dget hu (pe_fld (pe_fld (pv 1) (by rfl)) (by rfl)) (pv 2) (fun _ _ => rfl)))
    (pss_cons (ps_set (i := 4) sc_RunsU_initU.nd rfl (Or.inl rfl) (pe_call G_common_divisor (hr.mono (by decide)) (by rfl) T.g_common_divisor k_common_divisor b_common_divisor .nil pass0 (pa_cons (pe_dget hu (pe_fld (pv 1) (by rfl)) (pv 2) (fun _ _ => rfl)) (pa_cons (pv 3) pa_nil))))
    (pss_one (ps_dput hu (pe_fld (pv 0) (by rfl)) (pv 2) (pe_tup (pa_cons (pv 4) (pa_cons (pe_op op_fdivW (pv 3) (pv 4)) (pa_cons (pe_call G_solution (hr.mono (by decide)) (by rfl) T.g_solution k_solution b_solution .nil pass0 (pa_cons (pe_dget hu (pe_fld (pv 1) (by rfl)) (pv 2) (fun _ _ => rfl)) (pa_cons (pv 4) (pa_cons (pv 3) pa_nil)))) pa_nil)))) rfl)))))
    (pss_cons (ps_fld (pv 0) (pe_dnewT) rfl)
    (pss_one (ps_lock (ps_for PassesOwn.never rfl (pi_keys (pe_fld (pv 1) (by rfl))) (pg_name (i := 5) sc_RunsU_initU.nd rfl (Or.inl rfl))
    (pss_one (ps_for PassesOwn.never rfl (pi_list (pe_meth (pe_fld (pv 1) (by rfl)) T.c_Web T.m_Web_places G_Web_places (hr.mono (by decide)) b_Web_places .nil pass0 (pa_cons (pv 5) pa_nil))) (pg_name (i := 6) sc_RunsU_initU.nd rfl (Or.inl rfl))
    (pss_cons (ps_asg (pe_meth (pv 0) T.c_Runs T.m_Runs_stand G_Runs_stand (hr.mono (by decide)) b_Runs_stand .nil pass0 (pa_cons (pv 6) pa_nil)) (pg_tup rfl (pgs_cons (pg_name (i := 7) sc_RunsU_initU.nd rfl (Or.inl rfl)) (pgs_cons (pg_name (i := 8) sc_RunsU_initU.nd rfl (Or.inl rfl)) pgs_nil))))
    (pss_cons (ps_if (pt_cmp (pc_dnotin hu (pv 7) (pe_fld (pv 0) (by rfl)))) (pss_one (ps_dput hu (pe_fld (pv 0) (by rfl)) (pv 7) (pe_dnewK) rfl)) pss_nil)
    (pss_one (ps_dput hu (pe_dget hu (pe_fld (pv 0) (by rfl)) (pv 7) (fun _ _ => rfl)) (pv 8) (pv 5) rfl))))))))))))), ?_⟩
    refine q_fld0 (P := FormA K fd) f0 rfl hx g0 nM T.c_Runs T.n_Runs_form (by decide) (ev_var rfl e1) fun u1 G1 H1 y1 p1 g1 hx1 => ?_
    have X1 := X0.trans y1
    refine q_fldNewK rfl upd_same T.c_Runs T.n_Runs_lanes few1 fun dl hdl => ?_
    have nlx : dl ≠ x := fun z => by rw [z, upd_same] at hdl; cases hdl
    have hdl1 : H1 dl = none := by rw [upd_ne nlx] at hdl; exact hdl
    have hdl0 : (del H x) dl = none := by
      cases q : (del H x) dl with
      | none => rfl
      | some o => rw [X1.same _ _ (fun z => by cases z) q] at hdl1; cases hdl1
    have gl1 : G1 dl = none := X1.sub.free hdl1
    have X2 := Ext.mutD (o := .ins (ga K "Runs") dx (putF "lanes" (.ref dl) (putF "form" u1 []))) (Ext.mutD (o := .dK []) (Ext.mutD (o := .ins (ga K "Runs") dx (putF "form" u1 [])) X1 del_same g1 nM) hdl0 gl1 (fun z => by cases z)) del_same g1 nM
    have e1' := mo_same X2.gs e1
    have fewn : fd.web.names.length < 100000 := by
      have := hW.few
      unfold WebD.names
      rw [List.length_map]
      omega
    -- the lanes
    refine q_for' (l := fd.web.names) (R := StrA) (.mk0 X2.sub) (src_lst (ev_meth (i := fd.web) (n := 0) (by have := hW.few; show fd.web.rings.length < 100000; omega) trivial rfl (isI_web fun _ _ _ _ _ => by rfl) (ev_fld (fd_web T) (ev_var rfl e1')) ea_nil)) fun G2 H2 y2 => ?_
    have gx2 := y2.av x ⟨_, upd_same, fun _ z => by cases z⟩ g1
    have gl2 := y2.av dl ⟨.dK [], by rw [upd_ne nlx, upd_same], fun _ z => by cases z⟩ gl1
    refine ⟨fun i σ' H' => ∃ (L : List (Nm × LaneT)) (kvs : List (Key × V)) (s2 s3 s4 : Option V) (G : Hp), σ' = [some (.ref x), some v1, s2, s3, s4, none, none, none, none] ∧ Ext none G0 (del H x) G H' ∧ Gw G2 G ∧ G x = none ∧ G dl = none ∧ H' x = some (.ins (ga K "Runs") dx (putF "lanes" (.ref dl) (putF "form" u1 []))) ∧ H' dl = some (.dK kvs) ∧ DR kN (fun t u => LaneA t G u) L kvs ∧ L.map (·.1) = fd.web.names.take i ∧ ∀ n t, (n, t) ∈ L → LaneOk (fd.web.len n) (fd.ps n) t.1 t.2.1 t.2.2,
      ⟨[], [], none, none, none, G2, rfl, X2.trans y2, Gw.rfl' _, gx2, gl2, y2.same _ _ (fun z => by cases z) upd_same, y2.same _ _ (fun z => by cases z) (by rw [upd_ne nlx, upd_same]), .nil, rfl, fun _ _ h => (nomatch h)⟩, ?_, ?_, ?_⟩
    · rintro i σ' H' ⟨L, kvs, s2, s3, s4, G, rfl, X, gw, _⟩
      exact gw.gs.trans X.sub
    · rintro i n σ1 H3 hn ⟨L, kvs, s2, s3, s4, G, rfl, X, gw, gx, gl, hxx, hll, dr, hL1, hL2⟩ xv H4 hy
      obtain ⟨G4, x4, rb⟩ := hy G gw (.mk0 X.sub)
      cases rb
      have hnm : n ∈ fd.web.names := List.mem_of_getElem? hn
      have X4 := X.trans x4
      have rg := hF.push.range n hnm
      have Lp := len_bits hW hnm
      have Lb := hW.big n hnm
      refine g_name ?_
      refine q_asg (P := IntA (fd.web.len n)) (.mk0 x4.sub) (ev_getK (R := IntA) kN_inj n (hW.len n hnm) (ev_fld (fd_lengths T) (ev_fld (fd_web T) (ev_var rfl (mo_same X4.gs e1)))) (ev_var rfl rfl)) fun v5 G5 H5 y5 h5 => ?_
      cases h5
      have X5 := X4.trans y5
      refine q_asg (P := IntA (cd (fd.ps n) (fd.web.len n))) (.mk0 y5.sub) (ev_call (i := (fd.ps n, fd.web.len n)) ⟨rg.1, by dsimp only; omega⟩ (n := 0) trivial (ea_cons (P := IntA (fd.ps n)) (ev_getK (R := IntA) kN_inj n (hF.push.at_ hnm) (ev_fld (fd_push T) (ev_var rfl (mo_same X5.gs e1))) (ev_var rfl rfl)) (ea_cons (P := IntA (fd.web.len n)) (ev_var rfl rfl) ea_nil))) fun v6 G6 H6 y6 h6 => ?_
      cases h6
      have X6 := X5.trans y6
      have x46 := (x4.trans y5).trans y6
      have hx6 := x46.same _ _ (fun z => by cases z) hxx
      have hl6 := x46.same _ _ (fun z => by cases z) hll
      have gx6 := x46.av x ⟨_, hxx, fun _ z => by cases z⟩ gx
      have gl6 := x46.av dl ⟨_, hll, fun _ z => by cases z⟩ gl
      have gp : 0 < cd (fd.ps n) (fd.web.len n) := cd_pos Lp
      have gle : cd (fd.ps n) (fd.web.len n) ≤ fd.web.len n := Int.le_of_dvd Lp (cd_dvd_right _ _)
      have kfew : kvs.length < 100000 := by
        have h1 := paired_len dr
        have h2 : L.length = (fd.web.names.take i).length := by rw [← hL1, List.length_map]
        rw [List.length_take] at h2
        have := Nat.min_le_right i fd.web.names.length
        omega
      refine p_putK (P := LaneP (fd.ps n) (fd.web.len n)) (k := kN n) (.mk0 y6.sub) hl6 (fun z => by cases z) kfew (ev_imp (ev_tup (ea_cons (P := IntA (cd (fd.ps n) (fd.web.len n))) (ev_var rfl rfl) (ea_cons (P := IntA (fd.web.len n / cd (fd.ps n) (fd.web.len n))) (ev_i (i := fd.web.len n) (j := cd (fd.ps n) (fd.web.len n)) (ev_var rfl rfl) (ev_var rfl rfl) (wide_div gp (b := 104) (by omega) (by decide) (by decide))) (ea_cons (P := SolP (fd.ps n) (fd.web.len n)) (ev_call (i := (fd.ps n, cd (fd.ps n) (fd.web.len n), fd.web.len n)) ⟨rg.1, Lp, rfl, rg.2, by dsimp only; omega⟩ (n := 0) trivial (ea_cons (P := IntA (fd.ps n)) (ev_getK (R := IntA) kN_inj n (hF.push.at_ hnm) (ev_fld (fd_push T) (ev_var rfl (mo_same X6.gs e1))) (ev_var rfl rfl)) (ea_cons (P := IntA (cd (fd.ps n) (fd.web.len n))) (ev_var rfl rfl) (ea_cons (P := IntA (fd.web.len n)) (ev_var rfl rfl) ea_nil)))) ea_nil)))) laneP_of)
        (fun G7 H7 y7 Q q => ⟨.ref x, rfl, x, _, dx, _, .ref dl, rfl, y7.same _ _ (fun z => by cases z) hx6, T.c_Runs, T.n_Runs_lanes, by rfl, q⟩) (ev_var rfl rfl) fun v7 G7 H7 y7 h7 hl7 => ?_
      obtain ⟨t, ht, hok⟩ := h7
      have nin : lk L n = none := by
        refine lk_none.mpr fun z => ?_
        rw [hL1] at z
        obtain ⟨j, hj, e⟩ := List.getElem_of_mem z
        rw [List.length_take] at hj
        have e2 : fd.web.names[j]? = some n := by
          rw [List.getElem_take] at e
          rw [List.getElem?_eq_getElem (by omega), e]
        have hi : i < fd.web.names.length := (List.getElem?_eq_some_iff.mp hn).1
        have nd' : fd.web.names.Nodup := o.nd
        have := (List.getElem?_inj hi nd').mp (hn.trans e2.symm)
        omega
      refine ⟨L ++ [(n, t)], _, _, _, _, G7, rfl, Ext.mutD (X6.trans y7) hdl0 (y7.av dl ⟨_, hl6, fun _ z => by cases z⟩ gl6) (fun z => by cases z), gw.trans (x46.trans y7).gw, y7.av x ⟨_, hx6, fun _ z => by cases z⟩ gx6, y7.av dl ⟨_, hl6, fun _ z => by cases z⟩ gl6, ?_, upd_same, ?_, ?_, ?_⟩
      · rw [upd_ne nlx.symm]
        exact y7.same _ _ (fun z => by cases z) hx6
      · rw [← pt_new t nin]
        exact DR.put kN_inj (DR.mo (sm_up (x46.trans y7).gs) dr) ht
      · rw [List.map_append, hL1, take_snoc hn]
        rfl
      · intro m u hm
        rcases List.mem_append.mp hm with h | h
        · exact hL2 m u h
        · rw [List.mem_singleton] at h
          cases h
          exact hok
    · rintro σ' H3 ⟨L, kvs, s2, s3, s4, G, rfl, X, gw, gx, gl, hxx, hll, dr, hL1, hL2⟩
      rw [List.take_length] at hL1
      have lg : LanesGood fd.web fd.ps L := by
        have at0 : ∀ n, n ∈ fd.web.names → lk L n = some (laneOf L n) := fun n hn => by
          have := lk_some.mpr (show n ∈ L.map (·.1) by rw [hL1]; exact hn)
          unfold laneOf
          cases q : lk L n with
          | none => exact absurd q this
          | some t => rfl
        exact ⟨at0, fun n hn => hL2 n _ (lk_mem (at0 n hn))⟩
      have XL1 := Ext.learn X hdl0 gl hll (fun _ _ z => by cases z)
      have gxL : (upd G dl (.dK kvs)) x = none := by rw [upd_ne nlx.symm]; exact gx
      refine q_fldNewT rfl hxx T.c_Runs T.n_Runs_marks few2 fun dm hdm => ?_
      have nmx : dm ≠ x := fun z => by rw [z, hxx] at hdm; cases hdm
      have nml : dm ≠ dl := fun z => by rw [z, hll] at hdm; cases hdm
      have hdm0 : (del H x) dm = none := by
        cases q : (del H x) dm with
        | none => rfl
        | some o => rw [XL1.same _ _ (fun z => by cases z) q] at hdm; cases hdm
      have gmL : (upd G dl (.dK kvs)) dm = none := XL1.sub.free hdm
      have X3a := Ext.mutD (o := .ins (ga K "Runs") dx (fsRuns u1 (.ref dl) (.ref dm))) (Ext.mutD (o := .dT []) XL1 hdm0 gmL (fun z => by cases z)) del_same gxL nM
      have X3 := Ext.learn X3a del_same gxL upd_same (fun _ _ z => by cases z)
      have gm3 : (upd (upd G dl (.dK kvs)) x (.ins (ga K "Runs") dx (fsRuns u1 (.ref dl) (.ref dm)))) dm = none := by rw [upd_ne nmx]; exact gmL
      have pu1 : FormA K fd (upd (upd G dl (.dK kvs)) x (.ins (ga K "Runs") dx (fsRuns u1 (.ref dl) (.ref dm)))) u1 := mo_same (sm_new gxL) (mo_same (sm_new gl) (mo_same (y2.gs.trans gw.gs) p1))
      have dL : DcK kN LaneA L (upd (upd G dl (.dK kvs)) x (.ins (ga K "Runs") dx (fsRuns u1 (.ref dl) (.ref dm)))) (.ref dl) := ⟨dl, kvs, rfl, .inl (by rw [upd_ne nlx, upd_same]), DR.mo ((up_new gl).trans (up_new gxL)) dr⟩
      show tLock _ _ _ (upd (upd H3 dm (.dT [])) x (.ins (ga K "Runs") dx (fsRuns u1 (.ref dl) (.ref dm))))
      generalize hGX : upd (upd G dl (.dK kvs)) x (.ins (ga K "Runs") dx (fsRuns u1 (.ref dl) (.ref dm))) = GX at *
      generalize hHX : upd (upd H3 dm (.dT [])) x (.ins (ga K "Runs") dx (fsRuns u1 (.ref dl) (.ref dm))) = HX at *
      have hxX : GX x = some (.ins (ga K "Runs") dx (fsRuns u1 (.ref dl) (.ref dm))) := by rw [← hGX]; exact upd_same
      have hmX : HX dm = some (.dT []) := by rw [← hHX, upd_ne nmx, upd_same]
      have stX : StandP K L GX (.ref x) := ⟨x, dx, _, .ref dl, rfl, hxX, by rfl, by rfl, dL⟩
      obtain ⟨aF, dxF, wv, pv, gv, ov, rfl, hiF, _, _, hgF, _⟩ := id e1
      obtain ⟨dg, kg, rfl, kng, drg⟩ := hgF
      have hdg : G0 dg = some (.dT kg) := kng.t nl.2
      have isG : ∀ G', Up G0 G' → ∀ a b c d e h i : Option V, Ev none (tFld K (tVar 1) "goals") [some (.ref x), some (.ref aF), a, b, c, d, e, h, i] G' (Is (.ref dg)) := fun G' up a b c d e h i => by
        have fdg : Fd K "goals" (InsP aF (ga K "Form") dxF (fsForm wv pv (.ref dg) ov)) (Is (.ref dg)) := fun H v h => ⟨aF, _, dxF, _, _, h.1, h.2, T.c_Form, T.n_Form_goals, by rfl, rfl⟩
        exact ev_fld fdg (ev_var rfl ⟨rfl, up.ins hiF⟩)
      have fB : Fr none G0 (del H x) := .mk0 fun a o q => by rw [del_ne (ne_of_none q g0)]; exact sG a o q
      have hdgX := X3.gs _ _ hdg
      refine p_lock (.mk0 X3.sub) hdgX trivial fun od f1 up D' hn hr2 => ?_
      have XL := X3.lockIn (od := od) hdg
      have nmg : dm ≠ dg := fun z => by rw [z, hdgX] at gm3; cases gm3
      have hxg : x ≠ dg := fun z => by rw [z, hdg] at g0; cases g0
      refine p_for (M := none) (l := fd.goals) (R := fun b : Pl × Pl => PlA b.1) f1 (src_keT (isG _ ((sm_up X3.gs).trans up) _ _ _ _ _ _ _) upd_same drg) fun G2 H2 e2 => ?_
      have upX : Up GX G2 := up.trans (sm_up e2.gs)
      have hB : (upd (del H x) dg (.frz od (.dT kg))) dm = none := by rw [upd_ne nmg]; exact hdm0
      refine ⟨fun i σ' H' => ∃ (E : List MEnt) (s5 s6 s7 s8 : Option V) (G : Hp), σ' = [some (.ref x), some (.ref aF), s2, s3, s4, s5, s6, s7, s8] ∧ Ext none (upd G0 dg (.frz od (.dT kg))) (upd (del H x) dg (.frz od (.dT kg))) G H' ∧ Gw G2 G ∧ MarksI (upd (del H x) dg (.frz od (.dT kg))) G H' dm E ∧ (E.map (·.lane)).Nodup ∧ MSem (NOf L) ((fd.goals.take i).flatMap fun q => (fd.web.placesL q.1).map fun p => (p, q.1)) (mT E),
        ⟨[], none, none, none, none, G2, rfl, XL.trans e2, Gw.rfl' _, ⟨e2.same _ _ (fun z => by cases z) (by rw [upd_ne nmg]; exact hmX), e2.av _ ⟨.dT [], by rw [upd_ne nmg]; exact hmX, fun _ z => by cases z⟩ (by rw [upd_ne nmg]; exact gm3), hB, List.nodup_nil, fun _ h => (nomatch h)⟩, List.nodup_nil, MSem.start⟩, ?_, ?_, ?_⟩
      · rintro i σ' H' ⟨E, s5, s6, s7, s8, G, rfl, X, gw, _⟩
        exact gw.gs.trans X.sub
      · rintro i q σ1 H5 hq ⟨E, s5, s6, s7, s8, G, rfl, X, gw, MI, lnd, MS⟩ xv H6 hy
        obtain ⟨G6, x6, rb⟩ := hy G gw (.mk0 X.sub)
        have hsp : fd.web.m.Spot q.1 := hF.form.toTells.spot (List.mem_map.mpr ⟨q, List.mem_of_getElem? hq, rfl⟩)
        have X6 := X.trans x6
        have MI6 := MI.ext x6
        have e1x : ∀ G', Gw (upd G0 dg (.frz od (.dT kg))) G' → FormA K fd G' (.ref aF) := fun G' gw => mo_same gw.gs (Mo.up (Up.lock hdg trivial) e1)
        refine g_name ?_
        refine p_for (M := none) (l := fd.web.placesL q.1) (R := PlA) (.mk0 x6.sub) (src_lst (ev_meth (i := (fd.web, q.1)) ⟨hW, hsp.1⟩ (n := 0) trivial rfl (isI_web fun _ _ _ _ _ => by rfl) (ev_fld (fd_web T) (ev_var rfl (e1x _ X6.gw))) (ea_cons (ev_var rfl rb) ea_nil))) fun G7 H7 y7 => ?_
        have gw7 := gw.trans (x6.trans y7).gw
        refine ⟨fun j σ' H' => ∃ (E : List MEnt) (s6 s7 s8 : Option V) (G : Hp), σ' = [some (.ref x), some (.ref aF), s2, s3, s4, some xv, s6, s7, s8] ∧ Ext none (upd G0 dg (.frz od (.dT kg))) (upd (del H x) dg (.frz od (.dT kg))) G H' ∧ Gw G7 G ∧ MarksI (upd (del H x) dg (.frz od (.dT kg))) G H' dm E ∧ (E.map (·.lane)).Nodup ∧ MSem (NOf L) (((fd.goals.take i).flatMap fun q => (fd.web.placesL q.1).map fun p => (p, q.1)) ++ ((fd.web.placesL q.1).take j).map fun p => (p, q.1)) (mT E),
          ⟨E, s6, s7, s8, G7, rfl, X6.trans y7, Gw.rfl' _, MI6.ext y7, lnd, by rw [List.take_zero, List.map_nil, List.append_nil]; exact MS⟩, ?_, ?_, ?_⟩
        · rintro j σ' H' ⟨E, s6, s7, s8, G, rfl, X, gw, _⟩
          exact gw.gs.trans X.sub
        · rintro j p σ1 H8 hp ⟨E, s6, s7, s8, G, rfl, X, gwj, MI, lnd, MS⟩ yv H9 hy9
          obtain ⟨G9, x9, rb9⟩ := hy9 G gwj (.mk0 X.sub)
          have hpv := placesL_val hW hsp (List.mem_of_getElem? hp)
          have hn : p.1 ∈ fd.web.names := hpv.1.1
          have X9 := X.trans x9
          have gw9 : Gw G2 G9 := gw7.trans (gwj.trans x9.gw)
          have stG : ∀ G', Gw G2 G' → StandP K L G' (.ref x) := fun G' gw => mo_same gw.gs (Mo.up upX stX)
          have pb : p.2.natAbs < 2 ^ 104 := by
            have h1 := hpv.1.2.1
            have h2 := hpv.1.2.2
            have h3 := hW.big p.1 hn
            have h4 : fd.web.m.len p.1 = fd.web.len p.1 := rfl
            omega
          refine g_name ?_
          refine q_asgG (P := TupP [PlA ((NOf L).lane p), IntA ((NOf L).at_ p)]) (.mk0 x9.sub) (ev_meth (i := (L, p)) ⟨lg.at_ _ hn, lg.bits hW hn, pb⟩ (n := 0) trivial rfl isI_stand (ev_var rfl (stG _ gw9)) (ea_cons (ev_var rfl rb9) ea_nil)) fun v10 G10 H10 y10 h10 => tg2 h10 y10.sub fun v11 v12 h11 h12 => ?_
          cases h12
          have X10 := X9.trans y10
          have MI10 := (MI.ext x9).ext y10
          have gw10 := gw9.trans y10.gw
          have gwj10 := gwj.trans (x9.trans y10).gw
          have rb10 : PlA q.1 G10 xv := mo_same ((y7.gs.trans gwj.gs).trans (x9.trans y10).gs) rb
          -- the store
          have tk2 : (fd.web.placesL q.1).take (j + 1) = (fd.web.placesL q.1).take j ++ [p] := take_snoc hp
          have cont : ∀ (E' : List MEnt) (G' H' : Hp) (D : Ends) (t : List (Int × Pl)), Ext none (upd G0 dg (.frz od (.dT kg))) (upd (del H x) dg (.frz od (.dT kg))) G' H' → Gw G10 G' → MarksI (upd (del H x) dg (.frz od (.dT kg))) G' H' dm E' → (E'.map (·.lane)).Nodup → lk (mT E') ((NOf L).lane p) = some t → t = (lk (mT E) ((NOf L).lane p)).getD [] → (∀ l, l ≠ (NOf L).lane p → lk (mT E') l = lk (mT E) l) → E'.length ≤ E.length + 1 →
              (∀ (E'' : List MEnt) (G'' H'' : Hp), Ext none (upd G0 dg (.frz od (.dT kg))) (upd (del H x) dg (.frz od (.dT kg))) G'' H'' → Gw G10 G'' → MarksI (upd (del H x) dg (.frz od (.dT kg))) G'' H'' dm E'' → (E''.map (·.lane)).Nodup → MSem (NOf L) (((fd.goals.take i).flatMap fun q => (fd.web.placesL q.1).map fun p => (p, q.1)) ++ ((fd.web.placesL q.1).take (j + 1)).map fun p => (p, q.1)) (mT E'') → D.nx [some (.ref x), some (.ref aF), s2, s3, s4, some xv, some yv, some v11, some (.int ((NOf L).at_ p))] H'') →
              sDPut (tDGet (tFld K (tVar 0) "marks") (tVar 7)) (tVar 8) (tVar 5) D [some (.ref x), some (.ref aF), s2, s3, s4, some xv, some yv, some v11, some (.int ((NOf L).at_ p))] H' := by
            intro E' G' H' D t X' gw' MI' lnd' hlk ht hoth hlen fin
            rw [lk_mT] at hlk
            cases hf : E'.find? (fun e => decide (e.lane = (NOf L).lane p)) with
            | none => rw [hf] at hlk; cases hlk
            | some e0 =>
              rw [hf] at hlk
              have het : e0.tab = t := Option.some.inj hlk
              have hm0 : e0 ∈ E' := List.mem_of_find?_eq_some hf
              have hl0 : e0.lane = (NOf L).lane p := by simpa using List.find?_some hf
              obtain ⟨m1, m2, m3, m4⟩ := MI'.ent e0 hm0
              obtain ⟨av, rfl, hav⟩ := mo_same gw'.gs h11
              have hins : G' x = some (.ins (ga K "Runs") dx (fsRuns u1 (.ref dl) (.ref dm))) := (gw10.trans gw').gs _ _ (upX.ins hxX)
              have kfew : e0.kv.length < 100000 := by
                have h1 := paired_len m4
                have h2 : e0.tab.length ≤ 2 * 40000 + 2 := by
                  rw [het, ht]
                  cases c : lk (mT E) ((NOf L).lane p) with
                  | none => exact Nat.zero_le _
                  | some t' =>
                    have h3 := (MS.ind _ (lk_mem c)).2.2
                    have h4 := flat_len (wd := fd.web) (fd.goals.take i)
                    have h5 : (fd.goals.take i).length ≤ fd.goals.length := by rw [List.length_take]; exact Nat.min_le_right _ _
                    have h6 := placesL_few fd.web q.1
                    rw [List.length_append, List.length_map, List.length_take] at h3
                    have h7 := Nat.min_le_right j (fd.web.placesL q.1).length
                    show t'.length ≤ _
                    dsimp only at h3
                    omega
                omega
              refine p_putK (P := PlA q.1) (k := kI ((NOf L).at_ p)) (.mk0 X'.sub) m1 (fun z => by cases z) kfew (ev_var rfl (mo_same gw'.gs rb10)) (fun G1 H1 y1 Q qq => ?_) (ev_var rfl rfl) fun v13 G13 H13 y13 h13 hd13 => ?_
              · have MI1 := MI'.ext y1
                refine ⟨.ref x, rfl, x, _, dx, _, .ref dm, rfl, y1.same _ _ (fun z => by cases z) (X'.sub _ _ hins), T.c_Runs, T.n_Runs_marks, by rfl, .ref av, rfl, dm, .ref e0.ad, rfl, .inr ⟨_, pk ((NOf L).lane p), av, .inl MI1.at_, rfl, y1.same _ _ (fun z => by cases z) (X'.sub _ _ hav), ?_⟩, qq⟩
                rw [MI1.val, hf]
                rfl
              · have MI13 := (MI'.ext y13).put lnd' hm0 h13 (a := (NOf L).at_ p)
                refine fin _ _ _ (Ext.mutD (X'.trans y13) m3 (y13.av _ ⟨_, m1, fun _ z => by cases z⟩ m2) (fun z => by cases z)) (gw'.trans y13.gw) MI13 (by rw [mPut_lane]; exact lnd') ?_
                rw [tk2, List.map_append, ← List.append_assoc]
                have vals : ∀ p' s', (p', s') ∈ ((fd.goals.take i).flatMap fun q => (fd.web.placesL q.1).map fun p => (p, q.1)) ++ ((fd.web.placesL q.1).take j).map (fun p => (p, q.1)) → fd.web.m.Val p' ∧ fd.web.told p' = s' := fun p' s' hm => by
                  rcases List.mem_append.mp hm with h | h
                  · obtain ⟨r, hr, h⟩ := List.mem_flatMap.mp h
                    obtain ⟨z, hz, e⟩ := List.mem_map.mp h
                    cases e
                    exact placesL_val hW (hF.form.toTells.spot (List.mem_map.mpr ⟨r, List.mem_of_mem_take hr, rfl⟩)) hz
                  · obtain ⟨z, hz, e⟩ := List.mem_map.mp h
                    cases e
                    exact placesL_val hW hsp (List.mem_of_mem_take hz)
                refine MS.step (p := p) (s := q.1) (fun p' s' hm hl ha => ?_) (fun l => ?_) ?_ ?_
                · obtain ⟨v1', v2'⟩ := vals p' s' hm
                  have n1 : p'.1 = p.1 := (Prod.mk.inj hl).1
                  have n2 : p'.2 % (laneOf L p'.1).1 = p.2 % (laneOf L p.1).1 := (Prod.mk.inj hl).2
                  have ha' : atOf (laneOf L p'.1).1 (laneOf L p'.1).2.1 (laneOf L p'.1).2.2 p'.2 = atOf (laneOf L p.1).1 (laneOf L p.1).2.1 (laneOf L p.1).2.2 p.2 := ha
                  rw [n1] at n2 ha'
                  have r1 := v1'.2
                  rw [n1] at r1
                  have := (lg.ok p.1 hn).inj r1 hpv.1.2 n2 ha'
                  have ep : p' = p := Prod.ext n1 this
                  rw [← v2', ep]
                  exact hpv.2
                · have hlk2 : lk (mT E') e0.lane = some e0.tab := by
                    rw [lk_mT, hl0, hf]
                    rfl
                  rw [lk_mPut hlk2, hl0]
                  by_cases c : l = (NOf L).lane p
                  · rw [if_pos c, if_pos c, het, ht]
                  · rw [if_neg c, if_neg c]
                    exact hoth l c
                · have : (mT (mPut E' e0.lane ((NOf L).at_ p) q.1 v13)).map (·.1) = (mPut E' e0.lane ((NOf L).at_ p) q.1 v13).map (·.lane) := by
                    unfold mT
                    rw [List.map_map]
                    rfl
                  rw [this, mPut_lane]
                  exact lnd'
                · unfold mT mPut
                  rw [List.length_map, List.length_map, List.length_map]
                  exact hlen
          have fin2 : ∀ (E'' : List MEnt) (G'' H'' : Hp), Ext none (upd G0 dg (.frz od (.dT kg))) (upd (del H x) dg (.frz od (.dT kg))) G'' H'' → Gw G10 G'' → MarksI (upd (del H x) dg (.frz od (.dT kg))) G'' H'' dm E'' → (E''.map (·.lane)).Nodup → MSem (NOf L) (((fd.goals.take i).flatMap fun q => (fd.web.placesL q.1).map fun p => (p, q.1)) ++ ((fd.web.placesL q.1).take (j + 1)).map fun p => (p, q.1)) (mT E'') →
              ∃ (E : List MEnt) (s6 s7 s8 : Option V) (G : Hp), [some (.ref x), some (.ref aF), s2, s3, s4, some xv, some yv, some v11, some (.int ((NOf L).at_ p))] = [some (.ref x), some (.ref aF), s2, s3, s4, some xv, s6, s7, s8] ∧ Ext none (upd G0 dg (.frz od (.dT kg))) (upd (del H x) dg (.frz od (.dT kg))) G H'' ∧ Gw G7 G ∧ MarksI (upd (del H x) dg (.frz od (.dT kg))) G H'' dm E ∧ (E.map (·.lane)).Nodup ∧ MSem (NOf L) (((fd.goals.take i).flatMap fun q => (fd.web.placesL q.1).map fun p => (p, q.1)) ++ ((fd.web.placesL q.1).take (j + 1)).map fun p => (p, q.1)) (mT E) := fun E'' G'' H'' a b c d e => ⟨E'', _, _, _, G'', rfl, a, gwj10.trans b, c, d, e⟩
          have insG : ∀ G', Gw G10 G' → G' x = some (.ins (ga K "Runs") dx (fsRuns u1 (.ref dl) (.ref dm))) := fun G' gw' => (gw10.trans gw').gs _ _ (upX.ins hxX)
          have fany : Fd K "marks" (RunsV K x dx u1 (.ref dl) dm (E.map fun e => (pk e.lane, V.ref e.ad))) (DcT (fun _ : List (Int × Pl) => AnyP ()) (mT E)) := fun H v h => ⟨x, _, dx, _, _, h.1, h.2.1, T.c_Runs, T.n_Runs_marks, by rfl, dm, _, rfl, h.2.2, by
            exact paired_maps fun e _ => ⟨rfl, trivial⟩⟩
          refine q_when ((Fr.mk0 X10.sub).add MI10.at_ (fun z => by cases z)) (et_B (ev_ninT (R := fun _ => AnyP ()) ((NOf L).lane p) (ev_var rfl (mo_same (sm_new MI10.gd) h11)) (ev_fld fany (ev_var rfl ⟨rfl, sm_new MI10.gd _ _ (insG _ (Gw.rfl' _)), .inl upd_same⟩)))) (fun hb G12 H12 y12' => ?_) (fun hb G12 H12 y12' => ?_)
          · have y12 := y12'.hide MI10.gd
            have X12 := X10.trans y12
            have MI12 := MI10.ext y12
            have gw12 := y12.gw
            have hnone : lk (mT E) ((NOf L).lane p) = none := by
              cases c : lk (mT E) ((NOf L).lane p) with
              | none => rfl
              | some b => rw [c] at hb; cases hb
            obtain ⟨av, rfl, hav⟩ := mo_same gw12.gs h11
            refine fun d hd => ⟨.ref x, rfl, x, _, dx, _, .ref dm, rfl, sm_new hd _ _ (X12.sub _ _ (insG _ gw12)), T.c_Runs, T.n_Runs_marks, by rfl, .ref av, rfl, dm, _, rfl, .inr ⟨_, pk ((NOf L).lane p), av, sm_new hd _ _ MI12.at_, rfl, sm_new hd _ _ (X12.sub _ _ hav), ?_, rfl⟩, ?_⟩
            · have h1 := MS.few
              have h4 := flat_len (wd := fd.web) (fd.goals.take i)
              have h5 : (fd.goals.take i).length ≤ fd.goals.length := by rw [List.length_take]; exact Nat.min_le_right _ _
              have h6 := placesL_few fd.web q.1
              rw [List.length_append, List.length_map, List.length_take] at h1
              have h7 := Nat.min_le_right j (fd.web.placesL q.1).length
              have h8 : (mT E).length = E.length := List.length_map ..
              rw [List.length_map]
              exact sz_lt (by omega)
            · have gd12 : (del G12 dm) d = none := X12.sub.free hd
              have bd12 : (upd (del H x) dg (.frz od (.dT kg))) d = none := by
                cases c : (upd (del H x) dg (.frz od (.dT kg))) d with
                | none => rfl
                | some o => rw [X12.same _ _ (fun z => by cases z) c] at hd; cases hd
              have MIn := MI12.new hd gd12 bd12 hnone
              have e1 : mT (E ++ [⟨(NOf L).lane p, d, [], []⟩]) = mT E ++ [((NOf L).lane p, [])] := by
                unfold mT
                rw [List.map_append]
                rfl
              refine cont _ _ _ _ [] (Ext.mutD (Ext.mutD X12 bd12 gd12 (fun z => by cases z)) hB MI12.gd (fun z => by cases z)) gw12 MIn ?_ ?_ ?_ (fun l hl => ?_) ?_ fin2
              · rw [List.map_append]
                refine List.nodup_append.mpr ⟨lnd, List.nodup_cons.mpr ⟨List.not_mem_nil, List.nodup_nil⟩, fun a ha b hb e => ?_⟩
                rw [List.map_cons, List.map_nil, List.mem_singleton] at hb
                have : a ∈ (mT E).map (·.1) := by
                  unfold mT
                  rw [List.map_map]
                  exact ha
                have hb' : b = (NOf L).lane p := hb
                rw [e, hb'] at this
                exact lk_none.mp hnone this
              · rw [e1, lk_snoc _ _ _ _ hnone, if_pos rfl]
              · rw [hnone]
                rfl
              · rw [e1, lk_snoc _ _ _ _ hnone, if_neg hl]
              · rw [List.length_append]
                exact Nat.le_refl _
          · have y12 := y12'.hide MI10.gd
            have X12 := X10.trans y12
            have MI12 := MI10.ext y12
            obtain ⟨t, ht⟩ : ∃ t, lk (mT E) ((NOf L).lane p) = some t := by
              cases c : lk (mT E) ((NOf L).lane p) with
              | none => rw [c] at hb; cases hb
              | some b => exact ⟨b, rfl⟩
            exact cont E _ _ _ t X12 y12.gw MI12 lnd ht (by rw [ht]; rfl) (fun l _ => rfl) (Nat.le_succ _) fin2
        · rintro σ' H' ⟨E, s6, s7, s8, G, rfl, X, gwj, MI, lnd, MS⟩
          rw [List.take_length] at MS
          refine ⟨E, _, _, _, _, G, rfl, X, gw7.trans gwj, MI, lnd, ?_⟩
          rw [take_snoc hq, List.flatMap_append]
          have : ([q].flatMap fun q : Pl × Pl => (fd.web.placesL q.1).map fun p => (p, q.1)) = (fd.web.placesL q.1).map fun p => (p, q.1) := by simp
          rw [this]
          exact MS
      · rintro σ' H5 ⟨E, s5, s6, s7, s8, G, rfl, X, gw, MI, lnd, MS⟩
        rw [List.take_length] at MS
        have hSg : ∀ a, (a = dm ∨ a ∈ E.map (·.ad)) → (upd (del H x) dg (.frz od (.dT kg))) a = none ∧ G a = none ∧ ∃ o, H5 a = some o ∧ NoFrz o := fun a ha => by
          rcases ha with rfl | ha
          · exact ⟨MI.bd, MI.gd, _, MI.at_, fun _ _ z => by cases z⟩
          · obtain ⟨e, he, rfl⟩ := List.mem_map.mp ha
            obtain ⟨m1, m2, m3, m4⟩ := MI.ent e he
            exact ⟨m3, m2, _, m1, fun _ _ z => by cases z⟩
        have XS := X.learnS hSg
        obtain ⟨w1, w2, w3⟩ := Ext.unlock (G0 := G0) (H0 := H) fB hdg trivial XS
        have sa : Same G (addS (fun a => a = dm ∨ a ∈ E.map (·.ad)) G H5) := same_addS fun a ha => (hSg a ha).2.1
        have upS : Up GX (addS (fun a => a = dm ∨ a ∈ E.map (·.ad)) G H5) := (upX.trans (sm_up gw.gs)).trans (sm_up sa)
        rw [hn]
        refine ⟨w2, k _ _ (fun a o n q => w1.same a o (fun z => by cases z) (by rw [del_ne n]; exact q)) w1.gw w1.sub (fun a n q z => w1.av a ?_ z) ⟨⟨fd, L, mT E⟩, Mo.up w3 ⟨x, dx, u1, .ref dl, .ref dm, rfl, upS.ins hxX, Mo.up upS pu1, Mo.up upS dL, dm, _, rfl, .inl (by rw [addS_pos (.inl rfl)]; exact MI.at_), ?_⟩, ⟨hF, lg, fun l a e => ?_, MS.nd, fun q hq => ?_, ?_⟩, rfl⟩⟩
        · obtain ⟨o, q, m⟩ := q
          exact ⟨o, by rw [del_ne n]; exact q, m⟩
        · refine paired_maps fun e he => ⟨rfl, ?_⟩
          obtain ⟨m1, m2, m3, m4⟩ := MI.ent e he
          exact ⟨e.ad, e.kv, rfl, .inl (by rw [addS_pos (.inr (List.mem_map.mpr ⟨e, he, rfl⟩))]; exact m1), DR.mo (sm_up sa) m4⟩
        · show (∃ t, lk (mT E) l = some t ∧ lk t a = some e) ↔ Marked fd.web.m (NOf L) (keysOf fd.goals) l a e
          rw [MS.iff_]
          constructor
          · rintro ⟨p, h1, h2, h3⟩
            obtain ⟨r, hr, h⟩ := List.mem_flatMap.mp h1
            obtain ⟨z, hz, e'⟩ := List.mem_map.mp h
            cases e'
            have hk : r.1 ∈ keysOf fd.goals := List.mem_map.mpr ⟨r, hr, rfl⟩
            have hv := placesL_val hW (hF.form.toTells.spot hk) hz
            exact ⟨hk, p, hv.1, hv.2, h2, h3⟩
          · rintro ⟨hk, p, h1, h2, h3, h4⟩
            obtain ⟨b, hb⟩ := mem_keys hk
            exact ⟨p, List.mem_flatMap.mpr ⟨(e, b), hb, List.mem_map.mpr ⟨p, placesL_mem hW (hF.form.toTells.spot hk) h1 h2, rfl⟩⟩, h3, h4⟩
        · have h1 := MS.ind q hq
          have h2 := flat_len (wd := fd.web) fd.goals
          exact ⟨h1.1, h1.2.1, by have := h1.2.2; omega⟩
        · have h1 := MS.few
          have h2 := flat_len (wd := fd.web) fd.goals
          show (mT E).length < 100000
          omega
end
end MR
/-! rounds, period. -/
namespace MR
open PySem PySem.Spec PyProof.Rows L2 He
abbrev PA (q : Int × Int) : Hp → V → Prop := TupP [IntA q.1, IntA q.2]
section
variable {K : PySem.W.Frag} {M : Option Addr} {te : TE} {σ : L2.St} {G H : Hp}
theorem ev_items {d : Addr} {kvs : List (Key × V)} {C : List (Int × Int)} (hd : Ev M te σ G (Is (.ref d))) (hG : G d = some (.dK kvs)) (r : DR kI (fun b u => IntA b G u) C kvs) : Ev M (LiI.tListItems te) σ G (LsA PA C) := fun G1 H1 e f Q k =>
  hd G1 H1 e f _ fun v G2 H2 e2 p => by
    cases p
    have hG2 := (e.trans e2.gw).gs _ _ hG
    refine ⟨d, kvs, rfl, e2.sub _ _ hG2, fun H' p ts sm hp hts hpt hl pr => ?_⟩
    have f2 := f.ext e2
    have X : Ext M G2 H2 G2 H' := by
      refine ⟨fun a o _ q => sm a o q, Same.refl _, fun a o q => sm _ _ (f2.sub _ _ q), fun a _ g => g, fun _ _ _ q => q, fun q hq => ?_⟩
      obtain ⟨_, x, y, z⟩ := f2.pot q hq
      exact ⟨x, y, sm _ _ z⟩
    have hS : ∀ a, (a = p ∨ a ∈ ts) → H2 a = none ∧ G2 a = none ∧ ∃ o, H' a = some o ∧ NoFrz o := fun a ha => by
      rcases ha with rfl | ha
      · exact ⟨hp, f2.free hp, _, hl, fun _ _ z => by cases z⟩
      · obtain ⟨j, y, h1, h2, h3⟩ := LiI.paired_ix pr ha
        exact ⟨hts a ha, f2.free (hts a ha), _, h3, fun _ _ z => by cases z⟩
    refine k _ _ H' (e2.trans (X.learnS hS)) ⟨p, ts.map V.ref, rfl, by rw [addS_pos (.inl rfl)]; exact hl, ?_⟩
    have gen : ∀ {C : List (Int × Int)} {kvs : List (Key × V)} {ts' : List Addr}, DR kI (fun b u => IntA b G u) C kvs → Paired (fun (t : Addr) (q : Key × V) => H' t = some (.tup [kV q.1, q.2])) ts' kvs → (∀ t, t ∈ ts' → t ∈ ts) → Paired (fun q u => PA q (addS (fun a => a = p ∨ a ∈ ts) G2 H') u) C (ts'.map V.ref) := by
      intro C kvs ts' r
      induction r generalizing ts' with
      | nil => intro pr _; cases pr; exact .nil
      | cons a t ih =>
        intro pr hs
        cases pr with
        | cons b pr =>
          refine .cons ⟨_, _, rfl, ?_, .cons rfl (.cons rfl .nil)⟩ (ih pr fun t ht => hs t (List.mem_cons_of_mem _ ht))
          rw [addS_pos (.inr (hs _ List.mem_cons_self)), b, a.1, show _ = V.int _ from a.2]
          rfl
    exact gen r pr fun _ h => h
/-- sorted pairs -/
def SortP (C : List (Int × Int)) : Hp → V → Prop := fun H v => ∃ C', LsA PA C' H v ∧ C'.Perm C ∧ C'.Pairwise leP
def pairAt (H : Hp) (v : V) : Int × Int := match v with
  | .ref t => match H t with
    | some (.tup [.int a, .int b]) => (a, b)
    | _ => (0, 0)
  | _ => (0, 0)
theorem pairAt_of {q : Int × Int} {v : V} (h : PA q H v) : ∃ t, v = .ref t ∧ H t = some (.tup [.int q.1, .int q.2]) ∧ pairAt H v = q := by
  obtain ⟨a, vs, rfl, h, al⟩ := h
  obtain ⟨_, _, rfl, h1, h2⟩ := al2 al
  cases h1
  cases h2
  refine ⟨a, rfl, h, ?_⟩
  simp only [pairAt, h]
theorem ev_sortedP {C : List (Int × Int)} (h : Ev M te σ G (LsA PA C)) : Ev M (tCB (rSortedPO K) (tCons te tNil)) σ G (SortP C) := fun G1 H1 e f Q k =>
  h G1 H1 e f _ fun v G2 H2 e2 p => by
    obtain ⟨a, vs, rfl, h1, h2⟩ := p
    have f2 := f.ext e2
    have emap : ∀ {C : List (Int × Int)} {vs : List V}, Paired (fun q u => PA q G2 u) C vs → vs.map (pairAt G2) = C := by
      intro C vs r
      induction r with
      | nil => rfl
      | cons a t ih =>
        obtain ⟨_, _, _, e3⟩ := pairAt_of a
        rw [List.map_cons, ih, e3]
    have each : ∀ x, x ∈ vs → PA (pairAt G2 x) G2 x := fun x hx => by
      obtain ⟨i, hi⟩ := List.mem_iff_getElem?.mp hx
      obtain ⟨q, hq, rq⟩ := paired_at h2 hi
      obtain ⟨_, _, _, e3⟩ := pairAt_of rq
      rw [e3]
      exact rq
    refine ⟨a, vs, pairAt G2, rfl, SqL.of (e2.sub _ _ h1), fun x hx => ?_, fun ys p srt stb hp => ?_⟩
    · obtain ⟨t, e1, e2', _⟩ := pairAt_of (each x hx)
      exact ⟨t, e1, e2.sub _ _ e2'⟩
    · refine k _ _ _ (e2.trans (Ext.new f2 hp fun _ _ z => by cases z)) ⟨ys.map (pairAt G2), ⟨p, ys, rfl, upd_same, ?_⟩, ?_, ?_⟩
      · have : ∀ l : List V, (∀ y, y ∈ l → y ∈ vs) → Paired (fun q u => PA q (upd G2 p (.lst ys)) u) (l.map (pairAt G2)) l := by
          intro l
          induction l with
          | nil => intro _; exact .nil
          | cons y l ih => exact fun hl => .cons (mo_same (sm_new (f2.free hp)) (each y (hl y List.mem_cons_self))) (ih fun z hz => hl z (List.mem_cons_of_mem _ hz))
        exact this ys fun y hy => stb.perm.mem_iff.mp hy
      · have := stb.perm.map (pairAt G2)
        rw [emap h2] at this
        exact this
      · have srt' : ys.Pairwise fun x y => ltP (pairAt G2) y x = false := srt
        exact List.Pairwise.map _ (fun x y hxy => by
          have := SrtO.lexB_no.mp hxy
          unfold leP
          omega) srt'
/-- d[k] = e, where e looks at d: an int -/
theorem p_putK2 {D : Ends} {td tk tv : TE} {d : Addr} {kvs : List (Key × V)} {k : Key} {w : V} (f : Fr M G H) (gd : G d = none) (hd : H d = some (.dK kvs)) (nM : M ≠ some d) (hz : kvs.length < 100000) (hv : Ev M tv σ (upd G d (.dK kvs)) (Is w)) (htd : ∀ G1 H1, Ext M G H G1 H1 → ∀ Q : VK, Q (.ref d) H1 → td σ H1 Q) (hk : Ev M tk σ G (Is (kV k)))
    (q : ∀ G1 H1, Ext M G H G1 H1 → H1 d = some (.dK kvs) → G1 d = none → D.nx σ (upd H1 d (.dK (putK kvs k w)))) : sDPut td tk tv D σ H := hv _ H (Gw.rfl' _) (f.add hd nM) _ fun v G1 H1 e p => by
  cases p
  have e' := e.hide gd
  refine htd _ H1 e' _ (hk _ H1 e'.gw (f.ext e') _ fun y G2 H2 e2 hy => ?_)
  cases hy
  have hd2 := (e'.trans e2).same _ _ nM hd
  refine ⟨d, _, rfl, .inl ⟨kvs, k, hd2, rfl, sz_lt hz, rfl⟩, q _ H2 (e'.trans e2) hd2 ?_⟩
  exact e2.av d ⟨_, e'.same _ _ nM hd, fun _ z => by cases z⟩ del_same
end
section
variable {K : PySem.W.Frag} {M : Option Addr} {te : TE} {σ : L2.St} {G H : Hp} {β : Type} {R : β → Hp → V → Prop} {D : Ends} {tz tb' : TS}
/-- a for over a list of which only so much is known -/
theorem p_forX [∀ b, Mo (R b)] {g : TG} {Φ : List β → Prop} (f : Fr M G H) (h : Ev M te σ G fun H v => ∃ l, LsA R l H v ∧ Φ l)
    (k : ∀ l, Φ l → ∀ G2 H2, Ext M G H G2 H2 → ∃ Pv : Nat → L2.St → Hp → Prop, Pv 0 σ H2 ∧ (∀ i σ' H', Pv i σ' H' → Same G2 H') ∧
      (∀ i b σ1 H1, l[i]? = some b → Pv i σ1 H1 → ∀ x H', (∀ G3, Gw G2 G3 → Fr M G3 H1 → ∃ G4, Ext M G3 H1 G4 H' ∧ R b G4 x) → g x σ1 H' fun σ2 H3 => tb' { D with nx := Pv (i + 1), ct := Pv (i + 1), bk := D.nx } σ2 H3) ∧
      ∀ σ' H', Pv l.length σ' H' → D.nx σ' H') : tFor (iList K te) g tb' D σ H := h G H (Gw.rfl' _) f _ fun v G1 H1 e1 ⟨l, hl, hφ⟩ => by
  have ev : Ev M (fun _ H Q => Q v H) σ G1 (LsA R l) := fun G2 H2 e f2 Q q => q v G2 H2 (Ext.rfl' f2) (mo_same e.gs hl)
  have := p_for (tb' := tb') (g := g) (D := D) (f.ext e1) (src_lst (K := K) ev) fun G2 H2 e2 => k l hφ G2 H2 (e1.trans e2)
  exact this
theorem q_forX [∀ b, Mo (R b)] {g : TG} {Φ : List β → Prop} (f : Fr M G H) (h : Ev M te σ G fun H v => ∃ l, LsA R l H v ∧ Φ l)
    (k : ∀ l, Φ l → ∀ G2 H2, Ext M G H G2 H2 → ∃ Pv : Nat → L2.St → Hp → Prop, Pv 0 σ H2 ∧ (∀ i σ' H', Pv i σ' H' → Same G2 H') ∧
      (∀ i b σ1 H1, l[i]? = some b → Pv i σ1 H1 → ∀ x H', (∀ G3, Gw G2 G3 → Fr M G3 H1 → ∃ G4, Ext M G3 H1 G4 H' ∧ R b G4 x) → g x σ1 H' fun σ2 H3 => tb' { D with nx := Pv (i + 1), ct := Pv (i + 1), bk := tz D } σ2 H3) ∧
      ∀ σ' H', Pv l.length σ' H' → tz D σ' H') : tSeq (tFor (iList K te) g tb') tz D σ H := p_forX (D := { D with nx := tz D }) f h k
end
/-! ### counting -/
theorem CountsOk.start : CountsOk [] (fun _ => 0) := ⟨List.nodup_nil, fun l n => ⟨fun h => (nomatch h), fun h => absurd rfl h.2⟩, fun _ => Int.le_refl _⟩
theorem CountsOk.get {C : List (Int × Int)} {c : Int → Int} (h : CountsOk C c) (l : Int) : (lk C l).getD 0 = c l := by
  cases q : lk C l with
  | none =>
    show 0 = c l
    refine Classical.byContradiction fun z => lk_none.mp q (List.mem_map.mpr ⟨(l, c l), (h.mem l (c l)).mpr ⟨rfl, fun e => z e.symm⟩, rfl⟩)
  | some n => exact ((h.mem l n).mp (lk_mem q)).1
theorem CountsOk.put {C : List (Int × Int)} {c : Int → Int} (h : CountsOk C c) (l : Int) {m : Int} (hm : 0 < m) : CountsOk (pt C l ((lk C l).getD 0 + m)) (fun x => c x + if l = x then m else 0) := by
  have hp := h.pos
  refine ⟨pt_keys_nd h.nd _ _, fun x n => ?_, fun x => ?_⟩
  · rw [mem_pt h.nd, h.get]
    by_cases e : x = l
    · subst e
      rw [if_pos rfl]
      have := hp x
      constructor
      · rintro (⟨_, h2⟩ | ⟨h1, _⟩)
        · exact ⟨h2, by omega⟩
        · exact absurd rfl h1
      · rintro ⟨h1, _⟩
        exact .inl ⟨rfl, h1⟩
    · rw [if_neg fun z => e z.symm, Int.add_zero, ← h.mem]
      constructor
      · rintro (⟨h1, _⟩ | ⟨_, h2⟩)
        · exact absurd h1 e
        · exact h2
      · intro h2
        exact .inr ⟨e, h2⟩
  · have := hp x
    show 0 ≤ c x + _
    split <;> omega
theorem CountsOk.congr {C : List (Int × Int)} {c c' : Int → Int} (h : CountsOk C c) (e : ∀ l, c l = c' l) : CountsOk C c' := by
  have : c = c' := funext e
  rw [← this]
  exact h
def occ (ls : List Int) (l : Int) : Int := (ls.map fun x => if x = l then (1 : Int) else 0).sum
theorem occ_snoc (ls : List Int) (x l : Int) : occ (ls ++ [x]) l = occ ls l + if x = l then 1 else 0 := by
  unfold occ
  rw [List.map_append, List.sum_append]
  simp
theorem occ_reps {f : Pl → Pl} {reps : List Pl} {ls : List Int} (h : Paired (fun r L => ∃ n : Nat, L = (n : Int) ∧ Per f r n) reps ls) (l : Int) [DecidablePred fun r : Pl => ∃ T : Nat, (T : Int) = l ∧ Per f r T] : occ ls l = ((reps.filter fun r => decide (∃ T : Nat, (T : Int) = l ∧ Per f r T)).length : Nat) := by
  induction h with
  | nil => rfl
  | cons a t ih =>
    rename_i r L rs Ls
    obtain ⟨n, rfl, p⟩ := a
    have e1 : occ ((n : Int) :: Ls) l = (if (n : Int) = l then 1 else 0) + occ Ls l := by
      unfold occ
      rw [List.map_cons, List.sum_cons]
    rw [e1, ih, List.filter_cons]
    by_cases c : (n : Int) = l
    · rw [if_pos c, if_pos (decide_eq_true ⟨n, c, p⟩), List.length_cons]
      omega
    · have : ¬ ∃ T : Nat, (T : Int) = l ∧ Per f r T := fun ⟨T, h1, h2⟩ => c (by rw [p.uniq h2]; exact h1)
      rw [if_neg c, if_neg (by simpa using this)]
      omega
section
variable {P : Program} {w : World} {K : PySem.W.Frag} {mg : Str → Option Value} {base : Heap}
/-- rounds(form) -/
def DueP (wd : WebD) (f : Pl → Pl) : Hp → V → Prop := fun H v => ∃ due, LsA PA due H v ∧ DueOk wd.m f due ∧ due.length < 90000
instance {wd : WebD} {f : Pl → Pl} : Mo (DueP wd f) := ⟨fun e ⟨d, h, q⟩ => ⟨d, Mo.up e h, q⟩⟩
def spRounds (K : PySem.W.Frag) : Sp := spOf 2 (ι := InvI) (fun i => FormGood i.a i.f i.g ∧ i.a.goals.length < 40000) (fun i => [FormA K i.a]) (fun i => DueP i.a.web i.f)
theorem ok_rounds (T : Tx K mg) : Good P w K mg base 6 (ga K "rounds") ["form"] (spRounds K) := by
  obtain ⟨⟨fd_RunsU_initU, G_RunsU_initU, b_RunsU_initU⟩, k_RunsU_initU⟩ := ok_RunsU_initU (P := P) (w := w) (base := base) T
  obtain ⟨⟨fd_Runs_strange_lengths, G_Runs_strange_lengths, b_Runs_strange_lengths⟩, k_Runs_strange_lengths⟩ := ok_Runs_strange_lengths (P := P) (w := w) (base := base) T
  obtain ⟨⟨fd_Web_names, G_Web_names, b_Web_names⟩, k_Web_names⟩ := ok_Web_names (P := P) (w := w) (base := base) T
  obtain ⟨⟨fd_Runs_lone_count, G_Runs_lone_count, b_Runs_lone_count⟩, k_Runs_lone_count⟩ := ok_Runs_lone_count (P := P) (w := w) (base := base) T
  obtain ⟨⟨fd_Runs_lone_length, G_Runs_lone_length, b_Runs_lone_length⟩, k_Runs_lone_length⟩ := ok_Runs_lone_length (P := P) (w := w) (base := base) T
  refine good_of T.d_rounds sc_rounds (fun fd F => FunD.bindsN F fun _ _ _ _ _ _ us hl => match us, hl with | [_], _ => rfl) (fun vs H Q E h => ?_) (fun cdv A outer s H vs Q E hr h => ?_)
  · obtain ⟨i, G, _, _, _, al, _⟩ := h
    exact al_len al rfl
  · obtain ⟨i, G0, hC, nl, sG, al, k⟩ := h
    have hu := hu_of hr
    have hmin := hr.units
    have f0 : Fr none G0 H := .mk0 sG
    obtain ⟨v, rfl, e1⟩ := al1 al
    obtain ⟨fd, f, g⟩ := i
    obtain ⟨hF, few⟩ := hC
    dsimp only at hF few e1 k
    have hW := hF.web
    have o := hW.ok
    refine ⟨_, (pss_cons (ps_set (i := 1) sc_rounds.nd rfl (Or.inl rfl) (pe_make T.k_Runs G_RunsU_initU (hr.mono (by decide)) (by rfl) T.g_Runs b_RunsU_initU .nil pass0 (pa_cons (pv 0) pa_nil)))
    (pss_cons (ps_set (i := 2) sc_rounds.nd rfl (Or.inl rfl) (pe_dnewK))
    (pss_cons (ps_for PassesOwn.never rfl (pi_list (pe_meth0 (pv 1) T.c_Runs T.m_Runs_strange_lengths G_Runs_strange_lengths (hr.mono (by decide)) b_Runs_strange_lengths .nil pass0)) (pg_name (i := 3) sc_rounds.nd rfl (Or.inl rfl))
    (pss_one (ps_dput hu (pv 2) (pv 3) (pe_op op_add (pe_dget2 hu (pv 2) (pv 3) pe_int ⟨by rfl, by rfl, by rfl, by rfl⟩) pe_int) rfl)))
    (pss_cons (ps_for PassesOwn.never rfl (pi_list (pe_meth0 (pe_fld (pv 0) (by rfl)) T.c_Web T.m_Web_names G_Web_names (hr.mono (by decide)) b_Web_names .nil pass0)) (pg_name (i := 4) sc_rounds.nd rfl (Or.inl rfl))
    (pss_cons (ps_set (i := 5) sc_rounds.nd rfl (Or.inl rfl) (pe_meth (pv 1) T.c_Runs T.m_Runs_lone_count G_Runs_lone_count (hr.mono (by decide)) b_Runs_lone_count .nil pass0 (pa_cons (pv 4) pa_nil)))
    (pss_one (ps_if (pt_cmpR op_gt (pv 5) pe_int (nomark _)) (pss_cons (ps_set (i := 3) sc_rounds.nd rfl (Or.inl rfl) (pe_meth (pv 1) T.c_Runs T.m_Runs_lone_length G_Runs_lone_length (hr.mono (by decide)) b_Runs_lone_length .nil pass0 (pa_cons (pv 4) pa_nil)))
    (pss_one (ps_dput hu (pv 2) (pv 3) (pe_op op_add (pe_dget2 hu (pv 2) (pv 3) pe_int ⟨by rfl, by rfl, by rfl, by rfl⟩) (pv 5)) rfl))) pss_nil))))
    (pss_one (ps_ret (pe_callB cr_sortedPO (by rfl) T.f_sorted (by decide +kernel) (pa_cons (LiI.pe_listItems rfl (pv 2) (by rfl) T.f_list (by decide +kernel)) pa_nil)))))))), ?_⟩
    refine q_asg (P := RunsR K fd f g) f0 (ev_make (i := (⟨fd, f, g⟩ : InvI)) ⟨hF, few⟩ (n := 2) nl (ea_cons (ev_var rfl e1) ea_nil)) fun v1 G1 H1 x1 h1 => ?_
    obtain ⟨rd, hrd, hR, rfl⟩ := h1
    refine q_newK (.mk0 x1.sub) fun dc hdc => ?_
    have gc1 : G1 dc = none := x1.sub.free hdc
    have hdc0 : H dc = none := by
      cases q : H dc with
      | none => rfl
      | some o => rw [x1.same _ _ (fun z => by cases z) q] at hdc; cases hdc
    have x2 := Ext.mutD (o := .dK []) x1 hdc0 gc1 (fun z => by cases z)
    -- the lengths of the rounds through exceptions
    have nl2 := x2.gw.nl nl
    refine q_forX (R := IntA) (Φ := fun ls => ∃ reps, Reps (keysOf rd.fd.goals) f reps ∧ Paired (fun r L => ∃ n : Nat, L = (n : Int) ∧ Per f r n) reps ls ∧ ls.length ≤ rd.fd.goals.length) (.mk0 x2.sub) (ev_imp (ev_meth (i := (⟨rd, f, g, ("", 0)⟩ : RIx)) hR (n := 2) nl2 rfl (isI_runs fun _ _ _ => by rfl) (ev_var rfl hrd) ea_nil) fun H v h => ?_) fun ls hls G3 H3 x3 => ?_
    · obtain ⟨reps, ls, h1, h2⟩ := h
      exact ⟨ls, h1, reps, h2⟩
    obtain ⟨reps, hreps, hpair, hlen⟩ := hls
    have gc3 := x3.av dc ⟨_, upd_same, fun _ z => by cases z⟩ gc1
    have hc3 := x3.same _ _ (fun z => by cases z) upd_same
    refine ⟨fun i σ' H' => ∃ (C : List (Int × Int)) (kvs : List (Key × V)) (s3 : Option V) (G : Hp), σ' = [some v, some v1, some (.ref dc), s3, none, none] ∧ Ext none G0 H G H' ∧ Gw G3 G ∧ G dc = none ∧ H' dc = some (.dK kvs) ∧ DR kI (fun b u => IntA b G u) C kvs ∧ CountsOk C (occ (ls.take i)) ∧ C.length ≤ i,
      ⟨[], [], none, G3, rfl, x2.trans x3, Gw.rfl' _, gc3, hc3, .nil, CountsOk.start.congr fun l => rfl, Nat.le_refl _⟩, ?_, ?_, ?_⟩
    · rintro i σ' H' ⟨C, kvs, s3, G, rfl, X, gw, _⟩
      exact gw.gs.trans X.sub
    · rintro i L σ1 H4 hL ⟨C, kvs, s3, G, rfl, X, gw, gc, hc, dr, CO, hi⟩ xv H5 hy
      obtain ⟨G5, x5, rb⟩ := hy G gw (.mk0 X.sub)
      cases rb
      have X5 := X.trans x5
      have gc5 := x5.av dc ⟨_, hc, fun _ z => by cases z⟩ gc
      have hc5 := x5.same _ _ (fun z => by cases z) hc
      have iL : i < ls.length := (List.getElem?_eq_some_iff.mp hL).1
      have kl := paired_len dr
      refine g_name ?_
      refine p_putK2 (k := kI L) (w := .int ((lk C L).getD 0 + 1)) (.mk0 x5.sub) gc5 hc5 (fun z => by cases z) (by omega) (ev_i0 (i := (lk C L).getD 0) (j := 1) (ev_get2K (R := IntA) (P := IntA 0) (P' := IntA ((lk C L).getD 0)) kI_inj L (l := C) (ev_var rfl ⟨dc, kvs, rfl, .inl upd_same, DR.mo ((sm_up x5.gs).trans (up_new gc5)) dr⟩) (ev_var rfl rfl) ev_c (fun c hc H v h => by rw [hc]; exact h) (fun hn H v h => by rw [hn]; exact h)) ev_c) (fun G1 H1 y Q q => ⟨_, rfl, q⟩) (ev_var rfl rfl) fun G6 H6 x6 hc6 gc6 => ?_
      refine ⟨pt C L ((lk C L).getD 0 + 1), _, _, G6, rfl, Ext.mutD (X5.trans x6) hdc0 gc6 (fun z => by cases z), gw.trans (x5.trans x6).gw, gc6, upd_same, DR.put kI_inj (DR.mo (sm_up (x5.trans x6).gs) dr) rfl, (CO.put L (by decide)).congr fun l => ?_, Nat.le_trans (pt_len _ _ _) (by omega)⟩
      rw [take_snoc hL, occ_snoc]
    · rintro σ' H4 ⟨C, kvs, s3, G, rfl, X, gw, gc, hc, dr, CO, hi⟩
      rw [List.take_length] at CO
      have nl4 := X.gw.nl nl
      have upr : Gw G1 G := x3.gw.trans gw
      have e1' := mo_same X.gs e1
      have hrd' := mo_same upr.gs hrd
      -- the rings
      refine q_for' (l := rd.fd.web.names) (R := StrA) (.mk0 X.sub) (src_lst (ev_meth (i := rd.fd.web) (n := 0) (by have := hW.few; show rd.fd.web.rings.length < 100000; omega) trivial rfl (isI_web fun _ _ _ _ _ => by rfl) (ev_fld (fd_web T) (ev_var rfl e1')) ea_nil)) fun G5 H5 x5 => ?_
      refine ⟨fun i σ' H' => ∃ (C : List (Int × Int)) (kvs : List (Key × V)) (s3 s4 s5 : Option V) (G : Hp), σ' = [some v, some v1, some (.ref dc), s3, s4, s5] ∧ Ext none G0 H G H' ∧ Gw G5 G ∧ G dc = none ∧ H' dc = some (.dK kvs) ∧ DR kI (fun b u => IntA b G u) C kvs ∧ CountsOk C (fun l => occ ls l + ((rd.fd.web.names.take i).map fun n => if (NOf rd.lanes).sz n = l then (bareN rd n : Int) else 0).sum) ∧ C.length ≤ ls.length + i,
        ⟨C, kvs, s3, none, none, G5, rfl, X.trans x5, Gw.rfl' _, x5.av dc ⟨_, hc, fun _ z => by cases z⟩ gc, x5.same _ _ (fun z => by cases z) hc, DR.mo (sm_up x5.gs) dr, CO.congr fun l => by simp, hi⟩, ?_, ?_, ?_⟩
      · rintro i σ' H' ⟨C, kvs, s3, s4, s5, G, rfl, X, gw, _⟩
        exact gw.gs.trans X.sub
      · rintro i n σ1 H6 hn ⟨C, kvs, s3, s4, s5, G6, rfl, X6, gw6, gc6, hc6, dr6, CO6, hi6⟩ xv H7 hy
        obtain ⟨G7, x7, rb⟩ := hy G6 gw6 (.mk0 X6.sub)
        cases rb
        have hnm : n ∈ rd.fd.web.names := List.mem_of_getElem? hn
        have X7 := X6.trans x7
        have gw7 : Gw G1 G7 := (upr.trans x5.gw).trans (gw6.trans x7.gw)
        have hnl : i < rd.fd.web.names.length := (List.getElem?_eq_some_iff.mp hn).1
        have hnl2 : rd.fd.web.names.length ≤ 100 := by
          have := hW.few
          unfold WebD.names
          rw [List.length_map]
          exact this
        refine g_name ?_
        refine q_asg (P := IntA (bareN rd n : Nat)) (.mk0 x7.sub) (ev_meth (i := ((⟨rd, f, g, ("", 0)⟩ : RIx), n)) ⟨hR, hnm⟩ (n := 2) (X7.gw.nl nl) rfl (isI_runs fun _ _ _ => by rfl) (ev_var rfl (mo_same gw7.gs hrd)) (ea_cons (P := StrA n) (ev_var rfl rfl) ea_nil)) fun v8 G8 H8 x8 h8 => ?_
        cases h8
        have X8 := X7.trans x8
        have x68 := x7.trans x8
        have gc8 := x68.av dc ⟨_, hc6, fun _ z => by cases z⟩ gc6
        have hc8 := x68.same _ _ (fun z => by cases z) hc6
        have sumE : ∀ l, (((rd.fd.web.names.take (i + 1)).map fun n => if (NOf rd.lanes).sz n = l then (bareN rd n : Int) else 0).sum) = (((rd.fd.web.names.take i).map fun n => if (NOf rd.lanes).sz n = l then (bareN rd n : Int) else 0).sum) + if (NOf rd.lanes).sz n = l then (bareN rd n : Int) else 0 := fun l => by
          rw [take_snoc hn, List.map_append, List.sum_append]
          simp
        refine s_when (.mk0 x8.sub) (et_test (b := decide ((0 : Int) < (bareN rd n : Nat))) (ev_i0 (i := (bareN rd n : Nat)) (j := 0) (ev_var rfl rfl) ev_c)) (fun hb G9 H9 x9 => ?_) (fun hb G9 H9 x9 => ?_)
        · have hpos : (0 : Int) < (bareN rd n : Nat) := of_decide_eq_true hb
          have X9 := X8.trans x9
          refine q_asg (P := IntA ((NOf rd.lanes).sz n)) (.mk0 x9.sub) (ev_meth (i := (rd, n)) (hR.lanes.at_ n hnm) (n := 0) trivial rfl (isI_runs fun _ _ _ => by rfl) (ev_var rfl (mo_same (gw7.gs.trans (x8.gs.trans x9.gs)) hrd)) (ea_cons (P := StrA n) (ev_var rfl rfl) ea_nil)) fun v10 G10 H10 x10 h10 => ?_
          cases h10
          have x610 := (x68.trans x9).trans x10
          have gc10 := x610.av dc ⟨_, hc6, fun _ z => by cases z⟩ gc6
          have hc10 := x610.same _ _ (fun z => by cases z) hc6
          have kl := paired_len dr6
          refine p_putK2 (k := kI ((NOf rd.lanes).sz n)) (w := .int ((lk C ((NOf rd.lanes).sz n)).getD 0 + (bareN rd n : Nat))) (.mk0 x10.sub) gc10 hc10 (fun z => by cases z) (by omega) (ev_i0 (i := (lk C ((NOf rd.lanes).sz n)).getD 0) (j := (bareN rd n : Nat)) (ev_get2K (R := IntA) (P := IntA 0) (P' := IntA ((lk C ((NOf rd.lanes).sz n)).getD 0)) kI_inj ((NOf rd.lanes).sz n) (l := C) (ev_var rfl ⟨dc, kvs, rfl, .inl upd_same, DR.mo ((sm_up x610.gs).trans (up_new gc10)) dr6⟩) (ev_var rfl rfl) ev_c (fun c hc H v h => by rw [hc]; exact h) (fun hn H v h => by rw [hn]; exact h)) (ev_var rfl rfl)) (fun G1 H1 y Q q => ⟨_, rfl, q⟩) (ev_var rfl rfl) fun G11 H11 x11 hc11 gc11 => ?_
          refine ⟨pt C ((NOf rd.lanes).sz n) ((lk C ((NOf rd.lanes).sz n)).getD 0 + (bareN rd n : Nat)), _, _, _, _, G11, rfl, Ext.mutD ((X9.trans x10).trans x11) hdc0 gc11 (fun z => by cases z), gw6.trans (x610.trans x11).gw, gc11, upd_same, DR.put kI_inj (DR.mo (sm_up (x610.trans x11).gs) dr6) rfl, (CO6.put _ hpos).congr fun l => ?_, Nat.le_trans (pt_len _ _ _) (by omega)⟩
          rw [sumE]
          omega
        · have hz : bareN rd n = 0 := by
            have := of_decide_eq_false hb
            omega
          have x69 := x68.trans x9
          refine ⟨C, kvs, _, _, _, G9, rfl, X8.trans x9, gw6.trans x69.gw, x69.av dc ⟨_, hc6, fun _ z => by cases z⟩ gc6, x69.same _ _ (fun z => by cases z) hc6, DR.mo (sm_up x69.gs) dr6, CO6.congr fun l => ?_, by omega⟩
          rw [sumE, hz]
          split <;> omega
      · rintro σ' H6 ⟨C, kvs, s3, s4, s5, G6, rfl, X6, gw6, gc6, hc6, dr6, CO6, hi6⟩
        rw [List.take_length] at CO6
        have X7 := Ext.learn X6 hdc0 gc6 hc6 (fun _ _ z => by cases z)
        refine s_ret (P := SortP C) (.mk0 X7.sub) (ev_sortedP (ev_items (ev_var rfl rfl) upd_same (DR.mo (up_new gc6) dr6))) fun v8 G8 H8 x8 h8 => ?_
        obtain ⟨due, d1, d2, d3⟩ := h8
        refine k v8 G8 H8 (X7.trans x8) ⟨due, d1, due_of o hF.form.toTells hR.lanes.ok hreps CO6 (fun l => ?_) d3 d2, ?_⟩
        · show occ ls l + _ = _
          classical
          rw [occ_reps hpair]
          rfl
        · have h1 := d2.length_eq
          have h2 : rd.fd.web.names.length ≤ 100 := by
            have := hW.few
            unfold WebD.names
            rw [List.length_map]
            exact this
          omega
end
end MR
/-! period, back. -/
namespace MR
open PySem PySem.Spec PyProof.Rows L2 He
theorem passN {X : Cx} : Passes CX0 X E0 := pass0
theorem Steps.take0 {α : Type} [DecidableEq α] {W : WebM α} {push : α → Int} {keys : List (Place α)} {f : Place α → Place α} : ∀ {l : List (Place α × Int)} {s e : Place α} (i : Nat), Steps W push keys f s l e → 0 ≤ total (l.take i)
  | [], _, _, i, _ => by rw [List.take_nil]; unfold total; simp
  | _, _, _, 0, _ => by rw [List.take_zero]; unfold total; simp
  | (a, t) :: r, s, e, i + 1, h => by
    have := Steps.take0 i h.2.2.2.2
    have := h.2.2.1
    rw [List.take_succ_cons, total_cons]
    dsimp only
    omega
theorem spots_few {wd : WebD} (W : WebGood wd) : (spotsL wd.m).length < 2 ^ 111 := by
  have h1 : (spotsL wd.m).length ≤ (allPl wd.m).length := List.length_filter_le _ _
  have h2 : ∀ ns : List Nm, (∀ n, n ∈ ns → n ∈ wd.names) → (ns.flatMap (ringPl wd.m)).length ≤ ns.length * 2 ^ 104 := by
    intro ns
    induction ns with
    | nil => intro _; exact Nat.zero_le _
    | cons n ns ih =>
      intro h
      have := ih fun m hm => h m (List.mem_cons_of_mem _ hm)
      have hb := W.big n (h n List.mem_cons_self)
      have e : (ringPl wd.m n).length = (wd.len n).toNat := by
        unfold ringPl
        rw [List.length_map, List.length_range]
        rfl
      rw [List.flatMap_cons, List.length_append, e, List.length_cons, Nat.add_mul]
      omega
  have h3 := h2 wd.names fun _ h => h
  have h4 : wd.names.length ≤ 100 := by
    have := W.few
    unfold WebD.names
    rw [List.length_map]
    exact this
  have h5 : (allPl wd.m).length = (wd.names.flatMap (ringPl wd.m)).length := rfl
  omega
theorem due_bits {wd : WebD} (W : WebGood wd) {f : Pl → Pl} {due : List (Int × Int)} (D : DueOk wd.m f due) {x : Int × Int} (h : x ∈ due) : 0 < x.1 ∧ x.1 < 2 ^ 111 := by
  obtain ⟨h1, h2, h3⟩ := D.ok x h
  refine ⟨h1, ?_⟩
  have h4 : spotsOf wd.m f x.1.toNat ≤ (spotsL wd.m).length := List.length_filter_le _ _
  have h5 := spots_few W
  have h6 : 1 * x.1 ≤ x.2 * x.1 := Int.mul_le_mul_of_nonneg_right (by omega) (by omega)
  omega
theorem per_bits {wd : WebD} (W : WebGood wd) {f g : Pl → Pl} (b : Bij wd.m.Spot f g) {s : Pl} (hs : wd.m.Spot s) {T : Nat} (p : Per f s T) : T < 2 ^ 111 := by
  have h1 : ((List.range T).map fun k => itn f k s).length ≤ (spotsL wd.m).length := List.Nodup.length_le_of_subset (map_nodup (fun a ha c hc e => Per.eq_iff b hs p (List.mem_range.mp ha) (List.mem_range.mp hc) e) List.nodup_range) fun x hx => by
    obtain ⟨k, _, rfl⟩ := List.mem_map.mp hx
    exact mem_spotsL.mpr (b.itn_to k s hs)
  rw [List.length_map, List.length_range] at h1
  have := spots_few W
  omega
section
variable {P : Program} {w : World} {K : PySem.W.Frag} {mg : Str → Option Value} {base : Heap}
def PeriodP (wd : WebD) (f : Pl → Pl) : Hp → V → Prop := fun _ v => ∃ due, v = .int (lcmOf due) ∧ DueOk wd.m f due
instance {wd : WebD} {f : Pl → Pl} : Mo (PeriodP wd f) := ⟨fun _ h => h⟩
def spPeriod (K : PySem.W.Frag) : Sp := spOf 2 (ι := InvI) (fun i => FormGood i.a i.f i.g ∧ i.a.goals.length < 40000) (fun i => [FormA K i.a]) (fun i => PeriodP i.a.web i.f)
theorem lcm_snoc (l : List (Int × Int)) (x : Int × Int) : lcmOf (l ++ [x]) = lcmOf l / cd (lcmOf l) x.1 * x.1 := by
  unfold lcmOf
  rw [List.foldl_append]
  rfl
theorem ok_period (T : Tx K mg) : Good P w K mg base 7 (ga K "period") ["form"] (spPeriod K) := by
  obtain ⟨⟨fd_rounds, G_rounds, b_rounds⟩, k_rounds⟩ := ok_rounds (P := P) (w := w) (base := base) T
  obtain ⟨⟨fd_common_divisor, G_common_divisor, b_common_divisor⟩, k_common_divisor⟩ := ok_common_divisor (P := P) (w := w) (base := base) T
  refine good_of T.d_period sc_period (fun fd F => FunD.bindsN F fun _ _ _ _ _ _ us hl => match us, hl with | [_], _ => rfl) (fun vs H Q E h => ?_) (fun cdv A outer s H vs Q E hr h => ?_)
  · obtain ⟨i, G, _, _, _, al, _⟩ := h
    exact al_len al rfl
  · obtain ⟨i, G0, hC, nl, sG, al, k⟩ := h
    have hu := hu_of hr
    have hmin := hr.units
    have f0 : Fr none G0 H := .mk0 sG
    obtain ⟨v, rfl, e1⟩ := al1 al
    obtain ⟨fd, f, g⟩ := i
    obtain ⟨hF, few⟩ := hC
    dsimp only at hF few e1 k
    have hW := hF.web
    refine ⟨_, (pss_cons (ps_set (i := 1) sc_period.nd rfl (Or.inl rfl) pe_int)
    (pss_cons (ps_for PassesOwn.never rfl (pi_list (pe_call G_rounds (hr.mono (by decide)) (by rfl) T.g_rounds k_rounds b_rounds .nil pass0 (pa_cons (pv 0) pa_nil))) (pg_tup rfl (pgs_cons (pg_name (i := 2) sc_period.nd rfl (Or.inl rfl)) (pgs_cons (pg_name (i := 3) sc_period.nd rfl (Or.inl rfl)) pgs_nil)))
    (pss_one (ps_set (i := 1) sc_period.nd rfl (Or.inl rfl) (pe_op op_mulX (pe_op op_fdivW (pv 1) (pe_call G_common_divisor (hr.mono (by decide)) (by rfl) T.g_common_divisor k_common_divisor b_common_divisor .nil pass0 (pa_cons (pv 1) (pa_cons (pv 2) pa_nil)))) (pv 2)))))
    (pss_one (ps_ret (pv 1))))), ?_⟩
    refine q_asg (P := IntA 1) f0 ev_c fun v1 G1 H1 x1 h1 => ?_
    cases h1
    refine q_forX (R := PA) (Φ := fun due => DueOk fd.web.m f due ∧ due.length < 90000) (.mk0 x1.sub) (ev_call (i := (⟨fd, f, g⟩ : InvI)) ⟨hF, few⟩ (n := 2) (x1.gw.nl nl) (ea_cons (ev_var rfl (mo_same x1.gs e1)) ea_nil)) fun due hd G2 H2 x2 => ?_
    obtain ⟨hdue, hlen⟩ := hd
    refine ⟨fun i σ' H' => ∃ (s2 s3 : Option V) (G : Hp), σ' = [some v, some (.int (lcmOf (due.take i))), s2, s3] ∧ Ext none G0 H G H' ∧ Gw G2 G ∧ 0 < lcmOf (due.take i) ∧ (lcmOf (due.take i)).natAbs < 2 ^ (112 * i + 1),
      ⟨none, none, G2, rfl, x1.trans x2, Gw.rfl' _, (by decide : (0 : Int) < 1), (by decide : (1 : Int).natAbs < 2 ^ (112 * 0 + 1))⟩, ?_, ?_, ?_⟩
    · rintro i σ' H' ⟨s2, s3, G, rfl, X, gw, _⟩
      exact gw.gs.trans X.sub
    · rintro i q σ1 H3 hq ⟨s2, s3, G, rfl, X, gw, p0, bits⟩ xv H4 hy
      obtain ⟨G4, x4, rb⟩ := hy G gw (.mk0 X.sub)
      refine tg2 rb x4.sub fun a1 a2 ha1 ha2 => ?_
      cases ha1
      cases ha2
      obtain ⟨q0, qb⟩ := due_bits hW hdue (List.mem_of_getElem? hq)
      generalize hr' : lcmOf (due.take i) = r at *
      have c0 : 0 < cd r q.1 := cd_pos q0
      have cle : cd r q.1 ≤ q.1 := Int.le_of_dvd q0 (cd_dvd_right _ _)
      have st := lcm_step p0 q0
      have il : i < due.length := (List.getElem?_eq_some_iff.mp hq).1
      have dle : (r / cd r q.1).natAbs ≤ r.natAbs := Int.natAbs_ediv_le_natAbs _ _
      refine s_asg (P := IntA (r / cd r q.1 * q.1)) (.mk0 x4.sub) (ev_i (i := r / cd r q.1) (j := q.1) (ev_i (i := r) (j := cd r q.1) (ev_var rfl rfl) (ev_call (i := (r, q.1)) ⟨by dsimp only; omega, by dsimp only; omega⟩ (n := 0) trivial (ea_cons (P := IntA r) (ev_var rfl rfl) (ea_cons (P := IntA q.1) (ev_var rfl rfl) ea_nil))) (wide_div c0 (b := 112) (by omega) (by decide) (by decide))) (ev_var rfl rfl) (mulx_ok (a := 112 * i + 1) (b := 112) (Nat.lt_of_le_of_lt dle bits) (by omega) (by omega))) fun v5 G5 H5 x5 h5 => ?_
      cases h5
      refine ⟨_, _, G5, by rw [take_snoc hq, lcm_snoc, hr']; rfl, (X.trans x4).trans x5, gw.trans (x4.trans x5).gw, by rw [take_snoc hq, lcm_snoc, hr']; exact st.1, ?_⟩
      rw [take_snoc hq, lcm_snoc, hr', Int.natAbs_mul]
      have e2 : 112 * (i + 1) + 1 = 112 * i + 1 + 112 := by omega
      rw [e2, Nat.pow_add]
      exact Nat.mul_lt_mul'' (Nat.lt_of_le_of_lt dle bits) (by omega)
    · rintro σ' H3 ⟨s2, s3, G, rfl, X, gw, p0, bits⟩
      rw [List.take_length]
      exact s_ret (P := PeriodP fd.web f) (.mk0 X.sub) (ev_var rfl ⟨due, rfl, hdue⟩) fun v5 G5 H5 x5 h5 => k v5 G5 H5 (X.trans x5) h5
/-- sum of a comprehension over a list of which only so much is known -/
theorem ev_sumX {M : Option Addr} {te te' : TE} {σ : L2.St} {G : Hp} {β : Type} {R : β → Hp → V → Prop} [∀ b, Mo (R b)] {g : TG} {vs : List Nat} {Φ : List β → Prop} (φ : β → Int) (h : Ev M te σ G fun H v => ∃ l, LsA R l H v ∧ Φ l) (hl : ∀ l, Φ l → l.length < 100000)
    (hb : ∀ l, Φ l → ∀ G1, Gw G G1 → TurnC M G1 l R g σ vs fun b σ2 G' => Ev M te' σ2 G' (IntA (φ b))) :
    Ev M (tCB (rSum K) (tCons (tLc (iList K te) g tYes te' vs) tNil)) σ G fun H v => ∃ l, Φ l ∧ v = .int (l.map φ).sum := fun G1 H1 e f Q k => h G1 H1 e f _ fun v G2 H2 e2 ⟨l, hll, hφ⟩ => by
  have ev : Ev M (fun _ H Q => Q v H) σ G2 (LsA R l) := fun G3 H3 e f3 Q q => q v G3 H3 (Ext.rfl' f3) (mo_same e.gs hll)
  have := ev_sumI (K := K) (ev_lcM (te := te') (R := R) (R' := IntA) φ (src_lst (K := K) ev) (hl l hφ) (hb l hφ G2 (e.trans e2.gw)))
  exact this G2 H2 (Gw.rfl' _) (f.ext e2) Q fun v G3 H3 e3 p => k v G3 H3 (e2.trans e3) ⟨l, hφ, p⟩
/-- back(form, spot) -/
def BackP (f : Pl → Pl) (s : Pl) : Hp → V → Prop := fun _ v => ∃ T : Nat, v = .int (T : Int) ∧ Per f s T
instance {f : Pl → Pl} {s : Pl} : Mo (BackP f s) := ⟨fun _ h => h⟩
def spBack (K : PySem.W.Frag) : Sp := spOf 2 (ι := FIx) (fun i => FormGood i.fd i.f i.g ∧ i.fd.goals.length < 40000 ∧ i.fd.web.m.Val i.s) (fun i => [FormA K i.fd, PlA i.s]) (fun i => BackP i.f (i.fd.web.told i.s))
theorem ok_back (T : Tx K mg) : Good P w K mg base 6 (ga K "back") ["form", "spot"] (spBack K) := by
  obtain ⟨⟨fd_Web_checked, G_Web_checked, b_Web_checked⟩, k_Web_checked⟩ := ok_Web_checked (P := P) (w := w) (base := base) T
  obtain ⟨⟨fd_RunsU_initU, G_RunsU_initU, b_RunsU_initU⟩, k_RunsU_initU⟩ := ok_RunsU_initU (P := P) (w := w) (base := base) T
  obtain ⟨⟨fd_Runs_ahead, G_Runs_ahead, b_Runs_ahead⟩, k_Runs_ahead⟩ := ok_Runs_ahead (P := P) (w := w) (base := base) T
  obtain ⟨⟨fd_Runs_lone_length, G_Runs_lone_length, b_Runs_lone_length⟩, k_Runs_lone_length⟩ := ok_Runs_lone_length (P := P) (w := w) (base := base) T
  obtain ⟨⟨fd_Runs_round_from, G_Runs_round_from, b_Runs_round_from⟩, k_Runs_round_from⟩ := ok_Runs_round_from (P := P) (w := w) (base := base) T
  refine good_of T.d_back sc_back (fun fd F => FunD.bindsN F fun _ _ _ _ _ _ us hl => match us, hl with | [_, _], _ => rfl) (fun vs H Q E h => ?_) (fun cdv A outer s H vs Q E hr h => ?_)
  · obtain ⟨i, G, _, _, _, al, _⟩ := h
    exact al_len al rfl
  · obtain ⟨i, G0, hC, nl, sG, al, k⟩ := h
    have hu := hu_of hr
    have hmin := hr.units
    have f0 : Fr none G0 H := .mk0 sG
    obtain ⟨v, u, rfl, e1, e2⟩ := al2 al
    obtain ⟨fd, f, g, s⟩ := i
    obtain ⟨hF, few, hv⟩ := hC
    dsimp only at hF few hv e1 e2 k
    have hW := hF.web
    have o := hW.ok
    have hs : fd.web.m.Spot (fd.web.told s) := o.spot hv
    refine ⟨_, (pss_cons (ps_set (i := 2) sc_back.nd rfl (Or.inl rfl) (pe_meth (pe_fld (pv 0) (by rfl)) T.c_Web T.m_Web_checked G_Web_checked (hr.mono (by decide)) b_Web_checked .nil pass0 (pa_cons (pv 1) pa_nil)))
    (pss_cons (ps_set (i := 3) sc_back.nd rfl (Or.inl rfl) (pe_make T.k_Runs G_RunsU_initU (hr.mono (by decide)) (by rfl) T.g_Runs b_RunsU_initU .nil pass0 (pa_cons (pv 0) pa_nil)))
    (pss_cons (ps_set (i := 4) sc_back.nd rfl (Or.inl rfl) (pe_meth (pv 3) T.c_Runs T.m_Runs_ahead G_Runs_ahead (hr.mono (by decide)) b_Runs_ahead .nil pass0 (pa_cons (pv 2) pa_nil)))
    (pss_cons (ps_if (pt_cmpR op_isN1 (pv 4) pe_non (nomark _)) (pss_one (ps_ret (pe_meth (pv 3) T.c_Runs T.m_Runs_lone_length G_Runs_lone_length (hr.mono (by decide)) b_Runs_lone_length .nil pass0 (pa_cons (pe_ix ix_tup (pv 2) pe_int (fun _ _ => rfl)) pa_nil)))) pss_nil)
    (pss_one (ps_ret (pe_callB (cr_sum rfl) (by rfl) T.f_sum (by decide +kernel) (pa_cons (pe_lc (own := [("station", 5), ("count", 6)]) (g := (gTup K 2 (gCons (gName 5) (gCons (gName 6) gNil)))) (by rfl) sc_back.nd (pi_list (pe_meth (pv 3) T.c_Runs T.m_Runs_round_from G_Runs_round_from (hr.mono (by decide)) b_Runs_round_from .nil pass0 (pa_cons (pe_ix ix_tup (pv 4) pe_int (fun _ _ => rfl)) pa_nil))) (blkOk_by (N := N_back) (sc := defScope s_back) (by decide +kernel)) (fun _ _ _ _ _ => (pg_tup rfl (pgs_cons (pg_name (i := 5) sc_back.nd rfl (Or.inl rfl)) (pgs_cons (pg_name (i := 6) sc_back.nd rfl (Or.inl rfl)) pgs_nil)))) (fun _ _ _ _ _ => pts_nil) (fun _ _ _ _ _ => (pv 6))) pa_nil)))))))), ?_⟩
    refine q_asg (P := PlA (fd.web.told s)) f0 (ev_meth (i := (fd.web, s)) ⟨hW, hv⟩ (n := 0) trivial rfl (isI_web fun _ _ _ _ _ => by rfl) (ev_fld (fd_web T) (ev_var rfl e1)) (ea_cons (ev_var rfl e2) ea_nil)) fun v1 G1 H1 x1 h1 => ?_
    refine q_asg (P := RunsR K fd f g) (.mk0 x1.sub) (ev_make (i := (⟨fd, f, g⟩ : InvI)) ⟨hF, few⟩ (n := 2) (x1.gw.nl nl) (ea_cons (ev_var rfl (mo_same x1.gs e1)) ea_nil)) fun v2 G2 H2 y2 h2 => ?_
    obtain ⟨rd, hrd, hR, rfl⟩ := h2
    have x2 := x1.trans y2
    have nl2 := x2.gw.nl nl
    refine q_asg (P := AheadP ⟨rd, f, g, rd.fd.web.told s⟩) (.mk0 x2.sub) (ev_meth (i := (⟨rd, f, g, rd.fd.web.told s⟩ : RIx)) ⟨hR, hs⟩ (n := 1) (nl_le nl2 (by decide)) rfl (isI_runs fun _ _ _ => by rfl) (ev_var rfl hrd) (ea_cons (ev_var rfl (mo_same y2.gs h1)) ea_nil)) fun v3 G3 H3 y3 h3 => ?_
    have x3 := x2.trans y3
    have nl3 := x3.gw.nl nl
    rcases h3 with ⟨rfl, no⟩ | ⟨t, e, hq, hit⟩
    · have NH := noHit_of o hF.form.toTells hR.lanes.ok hs no
      refine q_when (.mk0 x3.sub) (et_test (b := true) (ev_isN' (P := Is .non) (ev_var rfl rfl) fun H v h => by rw [show v = V.non from h]; rfl)) (fun _ G4 H4 y4 => ?_) (fun hb => by cases hb)
      have x4 := x3.trans y4
      refine s_ret (P := IntA ((NOf rd.lanes).sz (rd.fd.web.told s).1)) (.mk0 x4.sub) (ev_meth (i := (rd, (rd.fd.web.told s).1)) (hR.lanes.at_ _ hs.1.1) (n := 0) trivial rfl (isI_runs fun _ _ _ => by rfl) (ev_var rfl (mo_same (y3.gs.trans y4.gs) hrd)) (ea_cons (P := StrA (rd.fd.web.told s).1) (ev_ixT (i := 0) (ev_imp (ev_var rfl (mo_same ((y2.gs.trans y3.gs).trans y4.gs) h1)) item_pl0) ev_c) ea_nil)) fun v5 G5 H5 y5 h5 => ?_
      have p := NH.pos
      exact k v5 G5 H5 (x4.trans y5) ⟨_, by rw [Int.toNat_of_nonneg (Int.le_of_lt p)]; exact h5, NH.per⟩
    · refine q_when (.mk0 x3.sub) (et_test (b := false) (ev_isN' (P := QA ((t : Int), e)) (ev_var rfl hq) fun H v h => by obtain ⟨a, _, rfl, _⟩ := h; exact ref_non)) (fun hb => by cases hb) (fun _ G4 H4 y4 => ?_)
      have x4 := x3.trans y4
      obtain ⟨T', p'⟩ := hF.form.bij.per (l := spotsL rd.fd.web.m) (fun s h => mem_spotsL.mpr h) hs
      have ev : Ev none (tMeth (ga K "Runs") "round_from" (spRound K) [] E0 (tVar 3) (tCons (tOp (rIxT K) (tVar 4) (tC (.int 1))) tNil)) [some v, some u, some v1, some v2, some v3, none, none] G4 (RoundP ⟨rd, f, g, e⟩) :=
        ev_meth (i := (⟨rd, f, g, e⟩ : RIx)) ⟨hR, hit.key⟩ (n := 1) (nl_le (x4.gw.nl nl) (by decide)) rfl (isI_runs fun _ _ _ => by rfl) (ev_var rfl (mo_same (y3.gs.trans y4.gs) hrd)) (ea_cons (P := PlA e) (ev_ixT (i := 1) (ev_imp (ev_var rfl (mo_same y4.gs hq)) item_t1) ev_c) ea_nil)
      refine s_ret (.mk0 x4.sub) (ev_sumX (R := StA) (Φ := fun l => ∃ T, RoundOk ⟨rd, f, g, e⟩ l T) (fun q : Pl × Int => q.2) (ev_imp ev fun H v ⟨l, T, h1, h2⟩ => ⟨l, h1, T, h2⟩) (fun l ⟨T, h⟩ => ?_) fun l hl G5 gw5 q hq xv G' H' gw fr rx Q' k2 => tg2 rx fr.sub fun a1 a2 ha1 ha2 => k2 _ rfl (ev_var rfl ha2)) fun v5 G5 H5 y5 h5 => ?_
      · have h1 := h.round.few
        unfold keysOf at h1
        rw [List.length_map] at h1
        have h2 := hF.few
        dsimp only at h1
        omega
      · obtain ⟨l, ⟨Tn, RO⟩, rfl⟩ := h5
        have tot : total l = (Tn : Int) := RO.tot
        have e1 : (l.map fun q : Pl × Int => q.2).sum = (Tn : Int) := tot
        refine k _ G5 H5 (x4.trans y5) ⟨Tn, by rw [e1], ?_⟩
        have pe : Per f e T' := by
          have := p'.step hF.form.bij hs t
          rw [hit.here] at this
          exact this
        have : Tn = T' := RO.per.uniq pe
        rw [this]
        exact p'
end
end MR
/-! after. -/
namespace MR
open PySem PySem.Spec PyProof.Rows L2 He
section
variable {M : Option Addr} {σ : L2.St} {G : Hp} {ta : TE} {t : TA}
theorem ev_prop {n : Nat} {ι : Type} {D : Addr} {C : ι → Prop} {Ps : ι → List (Hp → V → Prop)} {R : ι → Hp → V → Prop} {E : XK} {P0 : Hp → V → Prop} (i : ι) (c : C i) (hn : NL n G) (e0 : Ps i = [P0])
    (hi : ∀ H v, P0 H v → ∃ a dx fs, v = .ref a ∧ H a = some (.ins D dx fs)) (ha : Ev M ta σ G P0) : Ev M (tProp D (spOf n C Ps R) [] E ta) σ G (R i) := fun G1 H1 e f Q k =>
  ha G1 H1 e f _ fun x G2 H2 e2 p => by
    obtain ⟨a, dx, fs, rfl, h2⟩ := hi G2 x p
    refine ⟨a, dx, fs, rfl, e2.sub _ _ h2, i, G2, c, (e.trans e2.gw).nl hn, e2.sub, ?_, fun v G4 H4 e4 q => k v G4 H4 (e2.trans (e4.lift (f.ext e2))) q⟩
    rw [e0]
    exact .cons p .nil
theorem ev_callX {n : Nat} {ι : Type} {C : ι → Prop} {Ps : ι → List (Hp → V → Prop)} {R : ι → Hp → V → Prop} {E : XK} {Ps' : List (Hp → V → Prop)} {P' : Hp → V → Prop} (hn : NL n G) (h : EvA M t σ G Ps') (hx : ∀ G' vs, AllP G' Ps' vs → ∃ i, C i ∧ AllP G' (Ps i) vs ∧ ∀ H v, R i H v → P' H v) : Ev M (tCall (spOf n C Ps R) [] E t) σ G P' := fun G1 H1 e f Q k =>
  h G1 H1 e f _ fun vs G2 H2 e2 a => by
    obtain ⟨i, c, al, im⟩ := hx G2 vs a
    exact ⟨i, G2, c, (e.trans e2.gw).nl hn, e2.sub, by rw [List.append_nil]; exact al, fun v G3 H3 e3 p => k v G3 H3 (e2.trans (e3.lift (f.ext e2))) (im _ _ p)⟩
end
structure AfI where
  fd : FormD
  f : Pl → Pl
  g : Pl → Pl
  s : Pl
  t : Int
structure AfOk (i : AfI) : Prop where
  form : FormGood i.fd i.f i.g
  few : i.fd.goals.length < 40000
  val : i.fd.web.m.Val i.s
  bits : i.t.natAbs < 2 ^ 150
section
variable {P : Program} {w : World} {K : PySem.W.Frag} {mg : Str → Option Value} {base : Heap}
theorem form_ins {fd : FormD} : ∀ H v, FormA K fd H v → ∃ a dx fs, v = .ref a ∧ H a = some (.ins (ga K "Form") dx fs) := fun H v ⟨a, dx, w, p, g, o, e, h0, _⟩ => ⟨a, dx, _, e, h0⟩
def spAf (K : PySem.W.Frag) (C : AfI → Prop) : Sp := spOf 2 (ι := AfI) C (fun i => [FormA K i.fd, PlA i.s, IntA i.t]) (fun i => PlA (itz i.f i.g i.t (i.fd.web.told i.s)))
theorem itz_pos {f g : Pl → Pl} {t : Int} (h : 0 ≤ t) (s : Pl) : itz f g t s = itn f t.toNat s := if_pos h
theorem itz_lt {f g : Pl → Pl} {t : Int} (h : t < 0) (s : Pl) : itz f g t s = itn g (-t).toNat s := if_neg (by omega)
theorem after_gen {k0 k : Nat} (h8 : 8 ≤ k) (hk : k0 ≤ k) {CR C : AfI → Prop} (hC : ∀ i, C i → AfOk i)
    (hrec : ∀ i, C i → i.t < 0 → i.fd.goals.length + 300 < 90000 ∧ ∀ fd', FormGood fd' i.g i.f → fd'.web = i.fd.web → fd'.goals.length ≤ i.fd.goals.length + 300 → CR ⟨fd', i.g, i.f, i.fd.web.told i.s, -i.t⟩)
    (T : Tx K mg) (GA : Good P w K mg base k0 (ga K "after") ["form", "spot", "times"] (spAf K CR)) : Good P w K mg base (k + 1) (ga K "after") ["form", "spot", "times"] (spAf K C) := by
  obtain ⟨⟨fd_Web_checked, G_Web_checked, b_Web_checked⟩, k_Web_checked⟩ := ok_Web_checked (P := P) (w := w) (base := base) T
  obtain ⟨⟨fd_Form_inverse, G_Form_inverse, b_Form_inverse⟩, k_Form_inverse⟩ := ok_Form_inverse (P := P) (w := w) (base := base) T
  obtain ⟨⟨fd_RunsU_initU, G_RunsU_initU, b_RunsU_initU⟩, k_RunsU_initU⟩ := ok_RunsU_initU (P := P) (w := w) (base := base) T
  obtain ⟨⟨fd_Runs_ahead, G_Runs_ahead, b_Runs_ahead⟩, k_Runs_ahead⟩ := ok_Runs_ahead (P := P) (w := w) (base := base) T
  obtain ⟨⟨fd_Runs_round_from, G_Runs_round_from, b_Runs_round_from⟩, k_Runs_round_from⟩ := ok_Runs_round_from (P := P) (w := w) (base := base) T
  obtain ⟨⟨fd_Form_plain, G_Form_plain, b_Form_plain⟩, k_Form_plain⟩ := ok_Form_plain (P := P) (w := w) (base := base) T
  obtain ⟨⟨fd_Form_goal, G_Form_goal, b_Form_goal⟩, k_Form_goal⟩ := ok_Form_goal (P := P) (w := w) (base := base) T
  obtain ⟨⟨fd_after, G_after, b_after⟩, k_after⟩ := GA
  refine good_of T.d_after sc_after (fun fd F => FunD.bindsN F fun _ _ _ _ _ _ us hl => match us, hl with | [_, _, _], _ => rfl) (fun vs H Q E h => ?_) (fun cdv A outer s H vs Q E hr h => ?_)
  · obtain ⟨i, G, _, _, _, al, _⟩ := h
    exact al_len al rfl
  · obtain ⟨i, G0, hCi, nl, sG, al, kk⟩ := h
    have hu := hu_of hr
    have f0 : Fr none G0 H := .mk0 sG
    obtain ⟨v, u, u2, rfl, e1, e2, e3⟩ := al3 al
    have hOk := hC i hCi
    have hRc := hrec i hCi
    obtain ⟨fd, f, g, s, t⟩ := i
    obtain ⟨hF, few, hv, bits⟩ := hOk
    dsimp only at hF few hv bits e1 e2 e3 kk hRc
    cases e3
    have hW := hF.web
    have o := hW.ok
    have hs : fd.web.m.Spot (fd.web.told s) := o.spot hv
    refine ⟨_, (pss_cons (ps_set (i := 3) sc_after.nd rfl (Or.inl rfl) (pe_meth (pe_fld (pv 0) (by rfl)) T.c_Web T.m_Web_checked G_Web_checked (hr.mono (by omega)) b_Web_checked .nil pass0 (pa_cons (pv 1) pa_nil)))
    (pss_cons (ps_if (pt_cmpR op_lt (pv 2) pe_int (nomark _)) (pss_one (ps_ret (pe_call G_after (hr.mono (by omega)) (by rfl) T.g_after k_after b_after .nil pass0 (pa_cons (pe_prop (pv 0) T.c_Form T.p_inverse G_Form_inverse (hr.mono (by omega)) b_Form_inverse .nil passN (by rfl)) (pa_cons (pv 3) (pa_cons (pe_un un_neg (pv 2)) pa_nil)))))) pss_nil)
    (pss_cons (ps_set (i := 4) sc_after.nd rfl (Or.inl rfl) (pe_make T.k_Runs G_RunsU_initU (hr.mono (by omega)) (by rfl) T.g_Runs b_RunsU_initU .nil pass0 (pa_cons (pv 0) pa_nil)))
    (pss_cons (ps_set (i := 5) sc_after.nd rfl (Or.inl rfl) (pe_meth (pv 4) T.c_Runs T.m_Runs_ahead G_Runs_ahead (hr.mono (by omega)) b_Runs_ahead .nil pass0 (pa_cons (pv 3) pa_nil)))
    (pss_cons (ps_if (PW.pt (pw_or (pt_cmpR op_isN1 (pv 5) pe_non (nomark _)) (pw_or1 (pt_cmpR op_lt (pv 2) (pe_ix ix_tup (pv 5) pe_int (fun _ _ => rfl)) (nomark _))))) (pss_one (ps_ret (pe_meth (pv 0) T.c_Form T.m_Form_plain G_Form_plain (hr.mono (by omega)) b_Form_plain .nil pass0 (pa_cons (pv 3) (pa_cons (pv 2) pa_nil))))) pss_nil)
    (pss_cons (ps_set (i := 6) sc_after.nd rfl (Or.inl rfl) (pe_meth (pv 4) T.c_Runs T.m_Runs_round_from G_Runs_round_from (hr.mono (by omega)) b_Runs_round_from .nil pass0 (pa_cons (pe_ix ix_tup (pv 5) pe_int (fun _ _ => rfl)) pa_nil)))
    (pss_cons (ps_set (i := 7) sc_after.nd rfl (Or.inl rfl) (pe_op op_mod (pe_op op_sub (pv 2) (pe_ix ix_tup (pv 5) pe_int (fun _ _ => rfl))) (pe_callB (cr_sum rfl) (by rfl) T.f_sum (by decide +kernel) (pa_cons (pe_lc (own := [("station", 8), ("count", 9)]) (g := (gTup K 2 (gCons (gName 8) (gCons (gName 9) gNil)))) (by rfl) sc_after.nd (pi_list (pv 6)) (blkOk_by (N := N_after) (sc := defScope s_after) (by decide +kernel)) (fun _ _ _ _ _ => (pg_tup rfl (pgs_cons (pg_name (i := 8) sc_after.nd rfl (Or.inl rfl)) (pgs_cons (pg_name (i := 9) sc_after.nd rfl (Or.inl rfl)) pgs_nil)))) (fun _ _ _ _ _ => pts_nil) (fun _ _ _ _ _ => (pv 9))) pa_nil))))
    (pss_cons (ps_for PassesOwn.never rfl (pi_list (pv 6)) (pg_tup rfl (pgs_cons (pg_name (i := 8) sc_after.nd rfl (Or.inl rfl)) (pgs_cons (pg_name (i := 9) sc_after.nd rfl (Or.inl rfl)) pgs_nil)))
    (pss_cons (ps_if (pt_cmpR op_eq (pv 7) pe_int (nomark _)) (pss_one (ps_ret (pv 8))) pss_nil)
    (pss_cons (ps_if (pt_cmpR op_lt (pv 7) (pv 9) (nomark _)) (pss_one (ps_ret (pe_meth (pv 0) T.c_Form T.m_Form_plain G_Form_plain (hr.mono (by omega)) b_Form_plain .nil pass0 (pa_cons (pe_meth (pv 0) T.c_Form T.m_Form_goal G_Form_goal (hr.mono (by omega)) b_Form_goal .nil pass0 (pa_cons (pv 8) pa_nil)) (pa_cons (pe_op op_sub (pv 7) pe_int) pa_nil))))) pss_nil)
    (pss_one (ps_aug (i := 7) sc_after.nd rfl (Or.inl rfl) (pv 9) ip_sub)))))
    (pss_one (ps_ret (pe_ix ix_tup (pv 5) pe_int (fun _ _ => rfl)))))))))))), ?_⟩
    refine q_asg (P := PlA (fd.web.told s)) f0 (ev_meth (i := (fd.web, s)) ⟨hW, hv⟩ (n := 0) trivial rfl (isI_web fun _ _ _ _ _ => by rfl) (ev_fld (fd_web T) (ev_var rfl e1)) (ea_cons (ev_var rfl e2) ea_nil)) fun v1 G1 H1 x1 h1 => ?_
    have e1' := mo_same x1.gs e1
    have nl1 := x1.gw.nl nl
    refine q_when (.mk0 x1.sub) (et_test (b := decide (t < 0)) (ev_i0 (i := t) (j := 0) (ev_var rfl rfl) ev_c)) (fun hb G2 H2 x2 => ?_) (fun hb G2 H2 x2 => ?_)
    · have tn : t < 0 := of_decide_eq_true hb
      have x2' := x1.trans x2
      obtain ⟨fw, hR⟩ := hRc tn
      refine s_ret (P := PlA (itz f g t (fd.web.told s))) (.mk0 x2.sub) (ev_callX (n := 2) (x2'.gw.nl nl) (ea_cons (P := FormR K fd.web g f (fun n => (- fd.ps n) % fd.web.len n) (fd.goals.length + 300)) (ev_prop (i := (⟨fd, f, g⟩ : InvI)) ⟨hF, fw⟩ (n := 2) (x2'.gw.nl nl) rfl form_ins (ev_var rfl (mo_same x2'.gs e1))) (ea_cons (P := PlA (fd.web.told s)) (ev_var rfl (mo_same x2.gs h1)) (ea_cons (P := IntA (-t)) (ev_u (i := t) (ev_var rfl rfl)) ea_nil))) fun G' vs al => ?_) fun v3 G3 H3 x3 h3 => kk v3 G3 H3 (x2'.trans x3) h3
      obtain ⟨a1, a2, a3, rfl, b1, b2, b3⟩ := al3 al
      obtain ⟨fd', q1, q2, q3, q4, q5⟩ := b1
      refine ⟨⟨fd', g, f, fd.web.told s, -t⟩, hR fd' q2 q3 q5, .cons q1 (.cons b2 (.cons b3 .nil)), fun H v h => ?_⟩
      dsimp only at h
      have tt : fd'.web.told (fd.web.told s) = fd.web.told s := by
        rw [q3]
        exact o.told_told s
      rw [tt, itz_pos (by omega)] at h
      rw [itz_lt tn]
      exact h
    · have t0 : 0 ≤ t := by
        have := of_decide_eq_false hb
        omega
      have x2' := x1.trans x2
      rw [itz_pos t0] at kk
      refine q_asg (P := RunsR K fd f g) (.mk0 x2.sub) (ev_make (i := (⟨fd, f, g⟩ : InvI)) ⟨hF, few⟩ (n := 2) (x2'.gw.nl nl) (ea_cons (ev_var rfl (mo_same x2'.gs e1)) ea_nil)) fun v3 G3 H3 y3 h3 => ?_
      obtain ⟨rd, hrd, hR, rfl⟩ := h3
      have x3 := x2'.trans y3
      have h1' := mo_same (x2.gs.trans y3.gs) h1
      refine q_asg (P := AheadP ⟨rd, f, g, rd.fd.web.told s⟩) (.mk0 x3.sub) (ev_meth (i := (⟨rd, f, g, rd.fd.web.told s⟩ : RIx)) ⟨hR, hs⟩ (n := 1) (nl_le (x3.gw.nl nl) (by decide)) rfl (isI_runs fun _ _ _ => by rfl) (ev_var rfl hrd) (ea_cons (ev_var rfl h1') ea_nil)) fun v4 G4 H4 y4 h4 => ?_
      have x4 := x3.trans y4
      have plainE : ∀ (G' : Hp) (σ : L2.St), σ[0]? = some (some v) → σ[3]? = some (some v1) → σ[2]? = some (some (.int t)) → Same G4 G' → Ev none (tMeth (ga K "Form") "plain" (spPlain K) [] E0 (tVar 0) (tCons (tVar 3) (tCons (tVar 2) tNil))) σ G' (PlA (rd.fd.web.m.plain rd.fd.ps (rd.fd.web.told s) t)) := fun G' σ s0 s3 s2 sm =>
        ev_meth (i := (rd.fd.web, rd.fd.push, rd.fd.web.told s, t)) ⟨hW, hF.push, hs.1.1, by dsimp only; omega⟩ (n := 0) trivial rfl isI_plain (ev_imp (ev_var s0 (mo_same (x4.gs.trans sm) e1)) formP_of) (ea_cons (ev_var s3 (mo_same (y4.gs.trans sm) h1')) (ea_cons (P := IntA t) (ev_var s2 rfl) ea_nil))
      rcases h4 with ⟨rfl, no⟩ | ⟨tt, e, hq, hit⟩
      · have NH := noHit_of o hF.form.toTells hR.lanes.ok hs no
        refine q_when (b := true) (.mk0 x4.sub) (et_is (b := true || true) (et_or (et_test (b := true) (ev_isN' (P := Is .non) (ev_var rfl rfl) fun H v h => by rw [show v = V.non from h]; rfl)) fun h => by cases h) rfl) (fun _ G5 H5 y5 => ?_) (fun hb => by cases hb)
        have x5 := x4.trans y5
        refine s_ret (.mk0 x5.sub) (plainE _ _ rfl rfl rfl y5.gs) fun v6 G6 H6 y6 h6 => kk v6 G6 H6 (x5.trans y6) ?_
        have := NH.way t.toNat
        rw [Int.toNat_of_nonneg t0] at this
        rw [this]
        exact h6
      · refine q_when (b := decide (t < tt)) (.mk0 x4.sub) (et_is (b := false || decide (t < tt)) (et_or (et_test (b := false) (ev_isN' (P := QA ((tt : Int), e)) (ev_var rfl hq) fun H v h => by obtain ⟨a, _, rfl, _⟩ := h; exact ref_non)) fun _ => et_test (ev_i0 (i := t) (j := (tt : Int)) (ev_var rfl rfl) (ev_ixT (P := IntA tt) (i := 0) (ev_imp (ev_var rfl hq) item_t0) ev_c))) rfl) (fun hb2 G5 H5 y5 => ?_) (fun hb2 G5 H5 y5 => ?_)
        · have lt : t < tt := of_decide_eq_true hb2
          have x5 := x4.trans y5
          refine s_ret (.mk0 x5.sub) (plainE _ _ rfl rfl rfl y5.gs) fun v6 G6 H6 y6 h6 => kk v6 G6 H6 (x5.trans y6) ?_
          have := hit.way t.toNat (by omega)
          rw [Int.toNat_of_nonneg t0] at this
          dsimp only at this
          rw [this]
          exact h6
        · have ge : (tt : Int) ≤ t := by
            have := of_decide_eq_false hb2
            omega
          have x5 := x4.trans y5
          have hkE := hit.key
          dsimp only at hkE
          refine q_asg (P := RoundP ⟨rd, f, g, e⟩) (.mk0 x5.sub) (ev_meth (i := (⟨rd, f, g, e⟩ : RIx)) ⟨hR, hkE⟩ (n := 1) (nl_le (x5.gw.nl nl) (by decide)) rfl (isI_runs fun _ _ _ => by rfl) (ev_var rfl (mo_same (y4.gs.trans y5.gs) hrd)) (ea_cons (P := PlA e) (ev_ixT (i := 1) (ev_imp (ev_var rfl (mo_same y5.gs hq)) item_t1) ev_c) ea_nil)) fun v6 G6 H6 y6 h6 => ?_
          obtain ⟨l, Tn, hl, RO⟩ := h6
          have x6 := x5.trans y6
          have tot : total l = (Tn : Int) := RO.tot
          have Tpos : 0 < Tn := RO.per.pos
          have lfew : l.length < 100000 := by
            have h1 := RO.round.few
            unfold keysOf at h1
            rw [List.length_map] at h1
            dsimp only at h1
            omega
          refine q_asg (P := IntA ((t - tt) % total l)) (.mk0 x6.sub) (ev_i (i := t - tt) (j := total l) (ev_i0 (i := t) (j := (tt : Int)) (ev_var rfl rfl) (ev_ixT (P := IntA tt) (i := 0) (ev_imp (ev_var rfl (mo_same (y5.gs.trans y6.gs) hq)) item_t0) ev_c)) (ev_sumI (l := l.map (·.2)) (ev_lcM (R := StA) (R' := IntA) (fun q : Pl × Int => q.2) (src_lst (ev_var rfl hl)) lfew fun q hq xv G' H' gw fr rx Q' k2 => tg2 rx fr.sub fun a1 a2 ha1 ha2 => k2 _ rfl (ev_var rfl ha2))) (by rw [tot]; omega)) fun v7 G7 H7 y7 h7 => ?_
          cases h7
          have x7 := x6.trans y7
          have goalE : itn f t.toNat (rd.fd.web.told s) = itn f (t - tt).toNat e := by
            have h1 := hit.here
            dsimp only at h1
            rw [← h1, ← itn_add]
            congr 1
            omega
          have L0 := Left.start (keys := keysOf rd.fd.goals) (k := t - tt) (goal := itn f t.toNat (rd.fd.web.told s)) RO.round.steps tot Tpos (by omega) RO.per.back goalE.symm
          refine seq_ (p_for (M := none) (l := l) (R := StA) (.mk0 x7.sub) (src_lst (ev_var rfl (mo_same y7.gs hl))) fun G8 H8 x8 => ?_)
          refine ⟨fun i σ' H' => ∃ (left : Int) (s8 s9 : Option V) (G : Hp), σ' = [some v, some u, some (.int t), some v1, some v3, some v4, some v6, some (.int left), s8, s9] ∧ Ext none G0 H G H' ∧ Gw G8 G ∧ Left rd.fd.web.m rd.fd.ps (keysOf rd.fd.goals) f (itn f t.toNat (rd.fd.web.told s)) (l.drop i) left,
            ⟨_, none, none, G8, rfl, x7.trans x8, Gw.rfl' _, L0⟩, ?_, ?_, ?_⟩
          · rintro i σ' H' ⟨left, s8, s9, G, rfl, X, gw, _⟩
            exact gw.gs.trans X.sub
          · rintro i q σ1 H9 hq9 ⟨left, s8, s9, G, rfl, X, gw, LL⟩ xv H10 hy
            obtain ⟨G10, x10, rb⟩ := hy G gw (.mk0 X.sub)
            refine tg2 rb x10.sub fun a1 a2 ha1 ha2 => ?_
            cases ha2
            have X10 := X.trans x10
            have hdrop : l.drop i = (q.1, q.2) :: l.drop (i + 1) := by
              have hi := (List.getElem?_eq_some_iff.mp hq9)
              rw [List.drop_eq_getElem_cons hi.1, hi.2]
            rw [hdrop] at LL
            refine q_when (.mk0 x10.sub) (et_test (ev_eq (x := .int left) (y := .int 0) (ev_var rfl rfl) ev_c rfl)) (fun hb9 G11 H11 x11 => ?_) (fun hb9 G11 H11 x11 => ?_)
            · have l0 : left = 0 := V.int.inj (of_decide_eq_true hb9)
              rw [l0] at LL
              have X11 := X10.trans x11
              refine s_ret (P := PlA q.1) (.mk0 X11.sub) (ev_var rfl (mo_same x11.gs ha1)) fun v12 G12 H12 x12 h12 => kk v12 G12 H12 (X11.trans x12) ?_
              rw [← LL.stop]
              exact h12
            · have ln : left ≠ 0 := fun z => by
                rw [z] at hb9
                simp at hb9
              have X11 := X10.trans x11
              refine q_when (.mk0 X11.sub) (et_test (b := decide (left < q.2)) (ev_i0 (i := left) (j := q.2) (ev_var rfl rfl) (ev_var rfl rfl))) (fun hb12 G12 H12 x12 => ?_) (fun hb12 G12 H12 x12 => ?_)
              · have lq : left < q.2 := of_decide_eq_true hb12
                have X12 := X11.trans x12
                have hkq := (RO.mem q.1).mp (List.mem_map.mpr ⟨q, List.mem_of_getElem? hq9, rfl⟩)
                have hsq := hF.form.toTells.spot hkq.1
                have lb : (left - 1).natAbs < 2 ^ 200 := by
                  have h1 := LL.low
                  have h2 := per_bits hW hF.form.bij (hF.form.toTells.spot hkE) RO.per
                  have h3 : total l = total (l.take i) + total (l.drop i) := by
                    have : ∀ a b : List (Pl × Int), total (a ++ b) = total a + total b := fun a b => by
                      unfold total
                      rw [List.map_append, List.sum_append]
                    rw [← this, List.take_append_drop]
                  have h4 := LL.lt
                  have h5 : 0 ≤ total (l.take i) := RO.round.steps.take0 i
                  rw [hdrop] at h3
                  omega
                refine s_ret (P := PlA (rd.fd.web.m.plain rd.fd.ps (f q.1) (left - 1))) (.mk0 X12.sub) (ev_meth (i := (rd.fd.web, rd.fd.push, f q.1, left - 1)) ⟨hW, hF.push, (hF.form.bij.to _ hsq).1.1, lb⟩ (n := 0) trivial rfl isI_plain (ev_imp (ev_var rfl (mo_same X12.gs e1)) formP_of) (ea_cons (ev_meth (i := (⟨rd.fd, f, g, q.1⟩ : FIx)) ⟨hF, hsq⟩ (n := 0) trivial rfl (isI_form fun _ _ _ _ => by rfl) (ev_var rfl (mo_same X12.gs e1)) (ea_cons (ev_var rfl (mo_same (x11.gs.trans x12.gs) ha1)) ea_nil)) (ea_cons (P := IntA (left - 1)) (ev_i0 (i := left) (j := 1) (ev_var rfl rfl) ev_c) ea_nil))) fun v13 G13 H13 x13 h13 => kk v13 G13 H13 (X12.trans x13) ?_
                rw [← LL.on ln lq]
                exact h13
              · have nlq : ¬ left < q.2 := of_decide_eq_false hb12
                refine s_aug (m := left) (n := q.2) (.mk0 x12.sub) rfl (ev_var rfl rfl) fun G13 H13 x13 => ?_
                exact ⟨left - q.2, _, _, G13, rfl, (X11.trans x12).trans x13, gw.trans ((x10.trans x11).trans (x12.trans x13)).gw, LL.next nlq⟩
          · rintro σ' H9 ⟨left, s8, s9, G, rfl, X, gw, LL⟩
            rw [List.drop_length] at LL
            exact LL.nil.elim
def Af0 (i : AfI) : Prop := AfOk i ∧ 0 ≤ i.t
def Af1 (i : AfI) : Prop := AfOk i ∧ i.fd.goals.length + 300 < 40000
theorem ok_after (T : Tx K mg) : Good P w K mg base 10 (ga K "after") ["form", "spot", "times"] (spAf K Af1) := by
  have g0 : Good P w K mg base 1 (ga K "after") ["form", "spot", "times"] (spAf K fun _ => False) := by
    refine good_of T.d_after sc_after (fun fd F => FunD.bindsN F fun _ _ _ _ _ _ us hl => match us, hl with | [_, _, _], _ => rfl) (fun vs H Q E h => ?_) (fun cdv A outer s H vs Q E hr h => ?_)
    · obtain ⟨i, G, hC, _⟩ := h
      exact hC.elim
    · obtain ⟨i, G, hC, _⟩ := h
      exact hC.elim
  have g1 : Good P w K mg base 9 (ga K "after") ["form", "spot", "times"] (spAf K Af0) := after_gen (k := 8) (by decide) (by decide) (fun i h => h.1) (fun i h ht => by
    have := h.2
    omega) T g0
  refine after_gen (k := 9) (by decide) (by decide) (fun i h => h.1) (fun i h ht => ?_) T g1
  have h1 := h.1
  have h2 := h.2
  refine ⟨by omega, fun fd' q2 q3 q5 => ⟨⟨q2, ?_, ?_, ?_⟩, ?_⟩⟩
  · show fd'.goals.length < 40000
    omega
  · show fd'.web.m.Val (i.fd.web.told i.s)
    rw [q3]
    exact h1.form.web.ok.told_val h1.val
  · show (-i.t).natAbs < 2 ^ 150
    rw [Int.natAbs_neg]
    exact h1.bits
  · show 0 ≤ -i.t
    omega
end
end MR
/-! Scripts; told_goals. -/
namespace MR
open PySem PySem.Spec PyProof.Rows L2 He
abbrev TurnA (q : Nm × Int) : Hp → V → Prop := TupP [StrA q.1, IntA q.2]
def ScriptA (K : PySem.W.Frag) (wd : WebD) (turns : List (Nm × Int)) : Hp → V → Prop := fun H v => ∃ a dx w t, v = .ref a ∧ H a = some (.ins (ga K "Script") dx [("web", w), ("turns", t)]) ∧ WebA K wd H w ∧ TuA TurnA turns H t
instance {K : PySem.W.Frag} {wd : WebD} {turns : List (Nm × Int)} : Mo (ScriptA K wd turns) := ⟨fun e ⟨a, dx, w, t, h1, h2, h3, h4⟩ => ⟨a, dx, w, t, h1, e.ins h2, Mo.up e h3, Mo.up e h4⟩⟩
structure ScI where
  wd : WebD
  turns : List (Nm × Int)
section
variable {P : Program} {w : World} {K : PySem.W.Frag} {mg : Str → Option Value} {base : Heap} {wd : WebD} {turns : List (Nm × Int)}
theorem fsc_web (T : Tx K mg) : Fd K "web" (ScriptA K wd turns) (WebA K wd) := fun H v ⟨a, dx, w, t, e, h0, h1, h2⟩ => ⟨a, _, dx, _, w, e, h0, T.c_Script, T.n_Script_web, by rfl, h1⟩
theorem fsc_turns (T : Tx K mg) : Fd K "turns" (ScriptA K wd turns) (TuA TurnA turns) := fun H v ⟨a, dx, w, t, e, h0, h1, h2⟩ => ⟨a, _, dx, _, t, e, h0, T.c_Script, T.n_Script_turns, by rfl, h2⟩
theorem ev_tupleOf {M : Option Addr} {te : TE} {σ : L2.St} {G : Hp} {β : Type} {R : β → Hp → V → Prop} [∀ b, Mo (R b)] {l : List β} (h : Ev M te σ G (LsA R l)) : Ev M (tCB (fun xs H Q => ∃ p ys, xs = [.ref p] ∧ ((SqL K H p ys ∧ ∀ l, H l = none → Q (.ref l) (upd H l (.tup ys))) ∨ (SqT K H p ys ∧ Q (.ref p) H))) (tCons te tNil)) σ G (TuA R l) := fun G1 H1 e f Q k =>
  h G1 H1 e f _ fun v G2 H2 e2 p => by
    obtain ⟨a, vs, rfl, h1, h2⟩ := p
    refine ⟨a, vs, rfl, .inl ⟨SqL.of (e2.sub _ _ h1), fun l hl => k _ _ _ (e2.trans (Ext.new (f.ext e2) hl fun _ _ z => by cases z)) ⟨l, vs, rfl, upd_same, ?_⟩⟩⟩
    exact paired_imp (fun b u (z : R b G2 u) => Mo.up (P := R b) (up_new ((f.ext e2).free hl)) z) h2
def spScriptI (K : PySem.W.Frag) : Sp := spIni 2 (ga K "Script") (ι := ScI) (fun i => WebGood i.wd ∧ (∀ q, q ∈ i.turns → q.1 ∈ i.wd.names) ∧ i.turns.length < 100) (fun i => [WebA K i.wd, LsA TurnA i.turns]) (fun i => ScriptA K i.wd i.turns)
theorem ok_ScriptU_initU (T : Tx K mg) : Good P w K mg base 2 (ma K (ga K "Script") "__init__") ["self", "web", "turns"] (spScriptI K) := by
  obtain ⟨⟨fd_Web_check_name, G_Web_check_name, b_Web_check_name⟩, k_Web_check_name⟩ := ok_Web_check_name (P := P) (w := w) (base := base) T
  refine good_of T.d_ScriptU_initU sc_ScriptU_initU (fun fd F => binds_dfl F fun T _ _ _ _ _ _ us its hl hi => match us, hl, its, hi with | [_, _, _], _, [_], _ => ⟨_, rfl, rfl⟩) (fun vs H Q E h => ?_) (fun cdv A outer s H vs Q E hr h => ?_)
  · obtain ⟨i, G, x, dx, rest, rfl, _, _, _, _, _, al, _⟩ := h
    exact congrArg Nat.succ (al_len al rfl)
  · obtain ⟨i, G0, x, dx, rest, rfl, hx, g0, hC, nl, sG, al, k⟩ := h
    obtain ⟨v1, v2, rfl, e1, e2⟩ := al2 al
    obtain ⟨wd, turns⟩ := i
    obtain ⟨hW, hn, few⟩ := hC
    dsimp only at e1 e2 hW hn few k
    have X0 : Ext none G0 (del H x) G0 H := ini_start sG g0
    have f0 : Fr none G0 H := .mk0 sG
    have nM : (none : Option Addr) ≠ some x := fun z => by cases z
    refine ⟨_, (pss_cons (ps_for PassesOwn.never rfl (pi_list (pv 2)) (pg_tup rfl (pgs_cons (pg_name (i := 3) sc_ScriptU_initU.nd rfl (Or.inl rfl)) (pgs_cons (pg_name (i := 4) sc_ScriptU_initU.nd rfl (Or.inl rfl)) pgs_nil)))
    (pss_one (ps_expr (pe_meth (pv 1) T.c_Web T.m_Web_check_name G_Web_check_name (hr.mono (by decide)) b_Web_check_name .nil pass0 (pa_cons (pv 3) pa_nil)))))
    (pss_cons (ps_fld (pv 0) (pv 1) rfl)
    (pss_one (ps_fld (pv 0) (pe_callTy call_tuple_of (by rfl) T.f_tuple (by decide +kernel) (pa_cons (pe_lc (own := [("name", 3), ("k", 4)]) (g := (gTup K 2 (gCons (gName 3) (gCons (gName 4) gNil)))) (by rfl) sc_ScriptU_initU.nd (pi_list (pv 2)) (blkOk_by (N := N_ScriptU_initU) (sc := defScope s_ScriptU_initU) (by decide +kernel)) (fun _ _ _ _ _ => (pg_tup rfl (pgs_cons (pg_name (i := 3) sc_ScriptU_initU.nd rfl (Or.inl rfl)) (pgs_cons (pg_name (i := 4) sc_ScriptU_initU.nd rfl (Or.inl rfl)) pgs_nil)))) (fun _ _ _ _ _ => pts_nil) (fun _ _ _ _ _ => (pe_tup (pa_cons (pv 3) (pa_cons (pv 4) pa_nil))))) pa_nil)) rfl)))), ?_⟩
    refine q_for' (l := turns) (R := TurnA) f0 (src_lst (ev_var rfl e2)) fun G1 H1 x1 => ?_
    refine ⟨fun i σ' H' => ∃ (s3 s4 : Option V) (G : Hp), σ' = [some (.ref x), some v1, some v2, s3, s4] ∧ Ext none G0 (del H x) G H' ∧ Gw G1 G ∧ G x = none ∧ H' x = some (.ins (ga K "Script") dx []),
      ⟨none, none, G1, rfl, X0.trans x1, Gw.rfl' _, x1.av _ ⟨_, hx, fun _ z => by cases z⟩ g0, x1.same _ _ (fun z => by cases z) hx⟩, ?_, ?_, ?_⟩
    · rintro i σ' H' ⟨s3, s4, G, rfl, X, gw, _⟩
      exact gw.gs.trans X.sub
    · rintro i q σ1 H2 hq ⟨s3, s4, G, rfl, X, gw, gx, hxx⟩ xv H3 hy
      obtain ⟨G3, x3, rb⟩ := hy G gw (.mk0 X.sub)
      refine tg2 rb x3.sub fun a1 a2 ha1 ha2 => ?_
      cases ha1
      refine s_drop (P := Is .non) (.mk0 x3.sub) (ev_meth (i := (wd, q.1)) ⟨hW, hn q (List.mem_of_getElem? hq)⟩ (n := 0) trivial rfl (isI_web fun _ _ _ _ _ => by rfl) (ev_var rfl (mo_same (X.trans x3).gs e1)) (ea_cons (P := StrA q.1) (ev_var rfl rfl) ea_nil)) fun v4 G4 H4 x4 _ => ?_
      exact ⟨_, _, G4, rfl, (X.trans x3).trans x4, gw.trans (x3.trans x4).gw, (x3.trans x4).av _ ⟨_, hxx, fun _ z => by cases z⟩ gx, (x3.trans x4).same _ _ (fun z => by cases z) hxx⟩
    · rintro σ' H2 ⟨s3, s4, G, rfl, X, gw, gx, hxx⟩
      refine q_fld0 (P := WebA K wd) (.mk0 X.sub) rfl hxx gx nM T.c_Script T.n_Script_web (by decide) (ev_var rfl (mo_same X.gs e1)) fun u1 G3 H3 y3 p3 g3 hx3 => ?_
      have X3 := Ext.mutD (o := .ins (ga K "Script") dx (putF "web" u1 [])) (X.trans y3) del_same g3 nM
      refine p_fld0 (P := TuA TurnA turns) (.mk0 X3.sub) rfl upd_same g3 nM T.c_Script T.n_Script_turns few1 (ev_tupleOf (ev_cast (ev_lcM (R := TurnA) (R' := TurnA) (fun q : Nm × Int => q) (src_lst (ev_var rfl (mo_same X3.gs e2))) (by omega) fun q hq xv G' H' gw fr rx Q' k2 => tg2 rx fr.sub fun a1 a2 ha1 ha2 => k2 _ rfl (ev_tup (ea_cons (ev_var rfl ha1) (ea_cons (ev_var rfl ha2) ea_nil)))) (by rw [List.map_id']))) fun u2 G4 H4 y4 p4 g4 hx4 => ?_
      have X4 := Ext.mutD (o := .ins (ga K "Script") dx (putF "turns" u2 (putF "web" u1 []))) (X3.trans y4) del_same g4 nM
      obtain ⟨c1, c2, c3, c4, c5⟩ := ini_end X4 g4 upd_same
      have ups : Same G4 (upd G4 x (.ins (ga K "Script") dx (putF "turns" u2 (putF "web" u1 [])))) := sm_new g4
      exact k _ _ c1 c2 c3 c4 ⟨x, dx, u1, u2, rfl, upd_same, mo_same ups (mo_same y4.gs p3), mo_same ups p4⟩
end
end MR
/-! told_goals. -/
namespace MR
open PySem PySem.Spec PyProof.Rows L2 He
abbrev HeldA (t : List (Int × Pl)) : Hp → V → Prop := DcK kI PlA t
structure TgI where
  wd : WebD
  off : List (Nm × Int)
  cells : List (Nm × List (Int × Pl))
  sT : List (Pl × Pl)
def flatC (wd : WebD) (off : List (Nm × Int)) (cells : List (Nm × List (Int × Pl))) : List (Pl × Pl) := cells.flatMap fun c => c.2.map fun h => (h.2, wd.told (c.1, (h.1 + pOf off c.1) % wd.len c.1))
def tgT (i : TgI) : List (Pl × Pl) := puts (fun q => q.1) (fun q => q.2) (mkT (i.sT.map fun q : Pl × Pl => (q.2, q.1))) (flatC i.wd i.off i.cells)
structure TgOk (i : TgI) : Prop where
  web : WebGood i.wd
  nm : ∀ c, c ∈ i.cells → c.1 ∈ i.wd.names
  off : ∀ n, n ∈ i.wd.names → lk i.off n = some (pOf i.off n)
  few : i.sT.length + (flatC i.wd i.off i.cells).length < 80000
  fewc : i.cells.length < 1000
theorem flatC_app (wd : WebD) (off : List (Nm × Int)) (a b : List (Nm × List (Int × Pl))) : flatC wd off (a ++ b) = flatC wd off a ++ flatC wd off b := by
  unfold flatC
  rw [List.flatMap_append]
/-- the dicts within a dict, with where they stand -/
theorem DR.zipV {R : List (Int × Pl) → V → Prop} : ∀ {l : List (Nm × List (Int × Pl))} {kvs : List (Key × V)}, DR kN R l kvs → ∃ lz : List (Nm × (List (Int × Pl) × V)), lz.map (fun x => (x.1, x.2.1)) = l ∧ DR kN (fun c u => u = c.2) lz kvs ∧ ∀ x, x ∈ lz → R x.2.1 x.2.2
  | _, _, .nil => ⟨[], rfl, .nil, fun _ h => (nomatch h)⟩
  | x :: l, q :: kvs, .cons a t => by
    obtain ⟨lz, h1, h2, h3⟩ := DR.zipV t
    refine ⟨(x.1, x.2, q.2) :: lz, by rw [List.map_cons, h1], .cons ⟨a.1, rfl⟩ h2, fun y hy => ?_⟩
    rcases List.mem_cons.mp hy with rfl | hy
    · exact a.2
    · exact h3 y hy
theorem Gw.unlock {A B : Hp} {d : Addr} {o : Obj} {u : HO} (h : Gw (upd A d (.frz o u)) B) (hd : A d = some u) (hu : DicO u) : Gw A (upd B d u) := ⟨sm_unlock h.gs hd, fun a q w z => by
  by_cases c : a = d
  · subst c
    rw [upd_same] at z
    cases z
    exact absurd hu fun z => z
  · rw [upd_ne c] at z
    have := h.nf _ _ _ z
    rw [upd_ne c] at this
    exact this⟩
theorem keys_inl {R : Pl → V → Prop} : ∀ {l : List (Int × Pl)} {k : List (Key × V)}, DR kI R l k → ∀ q, q ∈ k → ∃ i : Int, q.1 = Sum.inl i
  | _, _, .nil, _, h => (nomatch h)
  | x :: _, _, .cons a t, q, h => by
    rcases List.mem_cons.mp h with rfl | h
    · exact ⟨x.1, a.1⟩
    · exact keys_inl t q h
theorem puts_app (κ ν : Pl × Pl → Pl) (T a b : List (Pl × Pl)) : puts κ ν T (a ++ b) = puts κ ν (puts κ ν T a) b := by
  unfold puts
  rw [List.foldl_append]
section
variable {P : Program} {w : World} {K : PySem.W.Frag} {mg : Str → Option Value} {base : Heap}
def spTold2 (K : PySem.W.Frag) : Sp := spOf 2 (ι := TgI) TgOk (fun i => [WebA K i.wd, DcK kN IntA i.off, DcK kN HeldA i.cells, DcT PlA i.sT]) (fun i => DcT PlA (tgT i))
theorem ok_told_goals (T : Tx K mg) : Good P w K mg base 2 (ga K "told_goals") ["web", "offsets", "cells", "shared"] (spTold2 K) := by
  obtain ⟨⟨fd_Web_told, G_Web_told, b_Web_told⟩, k_Web_told⟩ := ok_Web_told (P := P) (w := w) (base := base) T
  refine good_of T.d_told_goals sc_told_goals (fun fd F => FunD.bindsN F fun _ _ _ _ _ _ us hl => match us, hl with | [_, _, _, _], _ => rfl) (fun vs H Q E h => ?_) (fun cdv A outer s H vs Q E hr h => ?_)
  · obtain ⟨i, G, _, _, _, al, _⟩ := h
    exact al_len al rfl
  · obtain ⟨i, G0, hC, nl, sG, al, k⟩ := h
    have hu := hu_of hr
    have hmin := hr.units
    have f0 : Fr none G0 H := .mk0 sG
    obtain ⟨v, u, u2, u3, rfl, e1, e2, e3, e4⟩ := al4 al
    obtain ⟨wd, off, cells, sT⟩ := i
    obtain ⟨hW, hnm, hoff, few, fewc⟩ := hC
    dsimp only at hW hnm hoff few fewc e1 e2 e3 e4 k
    have o := hW.ok
    refine ⟨_, (pss_cons (ps_lock (ps_setDcTx (i := 4) (hu := hu) (own := [("spot", 5), ("origin", 6)]) (g := (gTup K 2 (gCons (gName 5) (gCons (gName 6) gNil)))) (by rfl) sc_told_goals.nd rfl rfl (swD_true rfl rfl rfl (by decide +kernel)) (pi_itemsT (pv 3)) (blkOk_by (N := N_told_goals) (sc := defScope s_told_goals) (by decide +kernel)) (fun _ _ _ _ _ => (pg_tup rfl (pgs_cons (pg_name (i := 5) sc_told_goals.nd rfl (Or.inl rfl)) (pgs_cons (pg_name (i := 6) sc_told_goals.nd rfl (Or.inl rfl)) pgs_nil)))) (fun _ _ _ _ _ => pts_nil) (fun _ _ _ _ _ => (pv 6)) (fun _ _ _ _ _ => (pv 5))))
    (pss_cons (ps_lock (ps_for PassesOwn.never rfl (pi_items (pv 2)) (pg_tup rfl (pgs_cons (pg_name (i := 7) sc_told_goals.nd rfl (Or.inl rfl)) (pgs_cons (pg_name (i := 8) sc_told_goals.nd rfl (Or.inl rfl)) pgs_nil)))
    (pss_one (ps_lock (ps_for PassesOwn.never rfl (pi_items (pv 8)) (pg_tup rfl (pgs_cons (pg_name (i := 9) sc_told_goals.nd rfl (Or.inl rfl)) (pgs_cons (pg_name (i := 6) sc_told_goals.nd rfl (Or.inl rfl)) pgs_nil)))
    (pss_one (ps_dput hu (pv 4) (pv 6) (pe_meth (pv 0) T.c_Web T.m_Web_told G_Web_told (hr.mono (by decide)) b_Web_told .nil pass0 (pa_cons (pe_tup (pa_cons (pv 7) (pa_cons (pe_op op_mod (pe_op op_add (pv 9) (pe_dget hu (pv 1) (pv 7) (fun _ _ => rfl))) (pe_dget hu (pe_fld (pv 0) (by rfl)) (pv 7) (fun _ _ => rfl))) pa_nil))) pa_nil)) rfl)))))))
    (pss_one (ps_ret (pv 4))))), ?_⟩
    obtain ⟨ds, ks, rfl, kns, drs⟩ := id e4
    have hds : G0 ds = some (.dT ks) := kns.t nl.2
    refine q_lock f0 hds trivial fun od f1 up D' hn hr2 => ?_
    refine dcT_own (R := fun b : Pl × Pl => TupP [PlA b.1, PlA b.2]) (R' := PlA) (fun q => some (q.2, q.1)) (src_itT (ev_var rfl rfl) upd_same (DR.mo up drs)) (by omega) (fun q hq xv G' H' gw fr rx Q' k2 => tg2 rx fr.sub fun a1 a2 ha1 ha2 => k2 _ rfl ⟨et_yes, fun c hc => by cases hc; exact ⟨ev_var rfl ha2, ev_var rfl ha1⟩⟩) _ _ (Gw.rfl' _) f1 _ fun dg G1 H1 kvs hdg gd1 x1 hd1 dr1 => ?_
    rw [fm_map] at dr1
    obtain ⟨u1, uf, uup⟩ := Ext.unlock (G0 := G0) (H0 := H) f0 hds trivial x1
    have ngs : dg ≠ ds := fun z => by rw [z, upd_same] at hdg; cases hdg
    have hdg0 : H dg = none := by rw [upd_ne ngs] at hdg; exact hdg
    show D'.nx _ _
    rw [hn]
    refine ⟨uf, ?_⟩
    have gd1' : (upd G1 ds (.dT ks)) dg = none := by rw [upd_ne ngs]; exact gd1
    have hd1' : (upd H1 ds (.dT ks)) dg = some (.dT kvs) := by rw [upd_ne ngs]; exact hd1
    have dr1' := DR.mo uup dr1
    generalize hG1 : upd G1 ds (.dT ks) = Ga at *
    generalize hH1 : upd H1 ds (.dT ks) = Ha at *
    have lenM : (mkT (sT.map fun q => (q.2, q.1))).length ≤ sT.length := by
      have := mkT_len (sT.map fun q : Pl × Pl => (q.2, q.1))
      rw [List.length_map] at this
      exact this
    -- the cells
    obtain ⟨dc, kc, rfl, knc, drc⟩ := id e3
    have hdc : G0 dc = some (.dK kc) := knc.k nl.1
    obtain ⟨lz, z1, z2, z3⟩ := DR.zipV drc
    have hdcA := u1.gs _ _ hdc
    refine q_lock (.mk0 u1.sub) hdcA trivial fun oc fc upc Dc hnc hrc => ?_
    have XL := u1.lockIn (od := oc) hdc
    have ngc : dg ≠ dc := fun z => by rw [z, hdcA] at gd1'; cases gd1'
    have hB : (upd H dc (.frz oc (.dK kc))) dg = none := by rw [upd_ne ngc]; exact hdg0
    refine p_for (M := none) (l := lz) (R := fun b : Nm × (List (Int × Pl) × V) => TupP [Is (kV (kN b.1)), Is b.2.2]) fc (src_itK (e := kN) (R := fun c : List (Int × Pl) × V => Is c.2) (ev_var rfl rfl) upd_same (paired_imp (fun x q z => z) z2)) fun G2 H2 e2' => ?_
    have gd2 : G2 dg = none := e2'.av _ ⟨.dT kvs, by rw [upd_ne ngc]; exact hd1', fun _ z => by cases z⟩ (by rw [upd_ne ngc]; exact gd1')
    have hd2 : H2 dg = some (.dT kvs) := e2'.same _ _ (fun z => by cases z) (by rw [upd_ne ngc]; exact hd1')
    have up0 : Up G0 (upd G0 dc (.frz oc (.dK kc))) := Up.lock hdc trivial
    refine ⟨fun i σ' H' => ∃ (s5 s6 s7 s8 s9 : Option V) (G : Hp) (kvs' : List (List Key × V)), σ' = [some v, some u, some (.ref dc), some (.ref ds), some (.ref dg), s5, s6, s7, s8, s9] ∧ Ext none (upd G0 dc (.frz oc (.dK kc))) (upd H dc (.frz oc (.dK kc))) G H' ∧ Gw G2 G ∧ G dg = none ∧ H' dg = some (.dT kvs') ∧ DR pk (fun b u => PlA b G u) (puts (fun q => q.1) (fun q => q.2) (mkT (sT.map fun q : Pl × Pl => (q.2, q.1))) (flatC wd off (cells.take i))) kvs',
      ⟨none, none, none, none, none, G2, kvs, rfl, XL.trans e2', Gw.rfl' _, gd2, hd2, DR.mo (upc.trans (sm_up e2'.gs)) dr1'⟩, ?_, ?_, ?_⟩
    · rintro i σ' H' ⟨s5, s6, s7, s8, s9, G, kvs', rfl, X, gw, _⟩
      exact gw.gs.trans X.sub
    · rintro i c σ1 H3 hc ⟨s5, s6, s7, s8, s9, G, kvs', rfl, X, gw, gd, hd, dr⟩ xv H4 hy
      obtain ⟨G4, x4, rb⟩ := hy G gw (.mk0 X.sub)
      refine tg2 rb x4.sub fun a1 a2 ha1 ha2 => ?_
      cases ha1
      cases ha2
      have X4 := X.trans x4
      have gd4 := x4.av dg ⟨_, hd, fun _ z => by cases z⟩ gd
      have hd4 := x4.same _ _ (fun z => by cases z) hd
      have hcm : c ∈ lz := List.mem_of_getElem? hc
      obtain ⟨dh, kh, ev, knh, drh⟩ := z3 c hcm
      have hci : cells[i]? = some (c.1, c.2.1) := by
        rw [← z1, List.getElem?_map, hc]
        rfl
      have hcn : c.1 ∈ wd.names := hnm _ (List.mem_of_getElem? hci)
      have hdh : G0 dh = some (.dK kh) := knh.k nl.1
      have ndh : dh ≠ dc := fun z => by
        rw [z, hdc] at hdh
        cases hdh
        cases z2 with
        | nil => cases hcm
        | cons a t =>
          obtain ⟨ii, hii⟩ := keys_inl drh _ List.mem_cons_self
          have h1 := a.1
          rw [hii] at h1
          cases h1
      have hdhL : (upd G0 dc (.frz oc (.dK kc))) dh = some (.dK kh) := by rw [upd_ne ndh]; exact hdh
      have hdh4 := X4.gs _ _ hdhL
      have ngh : dg ≠ dh := fun z => by rw [z, hdh4] at gd4; cases gd4
      have fB : Fr none (upd G0 dc (.frz oc (.dK kc))) (upd H dc (.frz oc (.dK kc))) := .mk0 (sm_both sG)
      refine p_lock (.mk0 X4.sub) hdh4 trivial fun oh fh uph Dh hnh hrh => ?_
      have XL2 := X4.lockIn (od := oh) hdhL
      have lenh : c.2.1.length < 80000 := by
        have h1 : (flatC wd off [(c.1, c.2.1)]).length ≤ (flatC wd off cells).length := by
          have hi := (List.getElem?_eq_some_iff.mp hci)
          have : cells = cells.take i ++ ((c.1, c.2.1) :: cells.drop (i + 1)) := by
            have h2 := List.take_append_drop i cells
            rw [List.drop_eq_getElem_cons hi.1, hi.2] at h2
            exact h2.symm
          rw [this, flatC_app, show ((c.1, c.2.1) :: cells.drop (i + 1)) = [(c.1, c.2.1)] ++ cells.drop (i + 1) from rfl, flatC_app, List.length_append, List.length_append]
          omega
        have h2 : (flatC wd off [(c.1, c.2.1)]).length = c.2.1.length := by
          unfold flatC
          simp
        omega
      refine p_for (M := none) (l := c.2.1) (R := fun b : Int × Pl => TupP [Is (kV (kI b.1)), PlA b.2]) fh (src_itK (e := kI) (R := PlA) (ev_var rfl ev) upd_same (DR.mo ((up0.trans (sm_up X4.gs)).trans uph) drh)) fun G5 H5 y5 => ?_
      have gd5 : G5 dg = none := y5.av _ ⟨.dT kvs', by rw [upd_ne ngh]; exact hd4, fun _ z => by cases z⟩ (by rw [upd_ne ngh]; exact gd4)
      have hd5 : H5 dg = some (.dT kvs') := y5.same _ _ (fun z => by cases z) (by rw [upd_ne ngh]; exact hd4)
      refine ⟨fun j σ' H' => ∃ (s6 s9 : Option V) (G : Hp) (kvs'' : List (List Key × V)), σ' = [some v, some u, some (.ref dc), some (.ref ds), some (.ref dg), s5, s6, some (kV (kN c.1)), some c.2.2, s9] ∧ Ext none (upd (upd G0 dc (.frz oc (.dK kc))) dh (.frz oh (.dK kh))) (upd (upd H dc (.frz oc (.dK kc))) dh (.frz oh (.dK kh))) G H' ∧ Gw G5 G ∧ G dg = none ∧ H' dg = some (.dT kvs'') ∧ DR pk (fun b u => PlA b G u) (puts (fun q => q.1) (fun q => q.2) (mkT (sT.map fun q : Pl × Pl => (q.2, q.1))) (flatC wd off (cells.take i) ++ (c.2.1.take j).map fun h => (h.2, wd.told (c.1, (h.1 + pOf off c.1) % wd.len c.1)))) kvs'',
        ⟨s6, s9, G5, kvs', rfl, XL2.trans y5, Gw.rfl' _, gd5, hd5, by rw [List.take_zero, List.map_nil, List.append_nil]; exact DR.mo ((sm_up x4.gs).trans (uph.trans (sm_up y5.gs))) dr⟩, ?_, ?_, ?_⟩
      · rintro j σ' H' ⟨s6, s9, G, kvs'', rfl, X, gw, _⟩
        exact gw.gs.trans X.sub
      · rintro j h σ1 H6 hh ⟨s6, s9, G, kvs'', rfl, X, gw5, gd, hd, dr⟩ xv6 H7 hy7
        obtain ⟨G7, x7, rb7⟩ := hy7 G gw5 (.mk0 X.sub)
        refine tg2 rb7 x7.sub fun b1 b2 hb1 hb2 => ?_
        cases hb1
        have X7 := X.trans x7
        have gd7 := x7.av dg ⟨_, hd, fun _ z => by cases z⟩ gd
        have hd7 := x7.same _ _ (fun z => by cases z) hd
        have up7 : Up G0 G7 := (up0.trans (Up.lock hdhL trivial)).trans (sm_up X7.gs)
        have ln := hW.len c.1 hcn
        have hjl : j < c.2.1.length := (List.getElem?_eq_some_iff.mp hh).1
        have klen : kvs''.length < 100000 := by
          have h1 := paired_len dr
          have h2 := puts_len (fun q : Pl × Pl => q.1) (fun q => q.2) (flatC wd off (cells.take i) ++ (c.2.1.take j).map fun h => (h.2, wd.told (c.1, (h.1 + pOf off c.1) % wd.len c.1))) (mkT (sT.map fun q => (q.2, q.1)))
          rw [List.length_append, List.length_map, List.length_take] at h2
          have h3 : (flatC wd off (cells.take i)).length + c.2.1.length ≤ (flatC wd off cells).length := by
            have hi := (List.getElem?_eq_some_iff.mp hci)
            have : cells = cells.take i ++ ((c.1, c.2.1) :: cells.drop (i + 1)) := by
              have h2 := List.take_append_drop i cells
              rw [List.drop_eq_getElem_cons hi.1, hi.2] at h2
              exact h2.symm
            have h4 : (flatC wd off [(c.1, c.2.1)]).length = c.2.1.length := by
              unfold flatC
              simp
            have h5 : (flatC wd off cells).length = (flatC wd off (cells.take i)).length + ((flatC wd off [(c.1, c.2.1)]).length + (flatC wd off (cells.drop (i + 1))).length) := by
              rw [← List.length_append, ← flatC_app, ← List.length_append, ← flatC_app]
              exact congrArg (fun l => (flatC wd off l).length) this
            omega
          omega
        refine p_putT (P := PlA (wd.told (c.1, (h.1 + pOf off c.1) % wd.len c.1))) (k := h.2) (.mk0 x7.sub) hd7 (fun z => by cases z) klen (ev_meth (i := (wd, (c.1, (h.1 + pOf off c.1) % wd.len c.1))) trivial (n := 0) trivial rfl (isI_web fun _ _ _ _ _ => by rfl) (ev_var rfl (Mo.up up7 e1)) (ea_cons (ev_imp (ev_tup (ea_cons (P := StrA c.1) (ev_var rfl rfl) (ea_cons (P := IntA ((h.1 + pOf off c.1) % wd.len c.1)) (ev_i (i := h.1 + pOf off c.1) (j := wd.len c.1) (ev_i0 (i := h.1) (j := pOf off c.1) (ev_var rfl rfl) (ev_getK (R := IntA) kN_inj c.1 (hoff _ hcn) (ev_var rfl (Mo.up up7 e2)) (ev_var rfl rfl))) (ev_getK (R := IntA) kN_inj c.1 ln (ev_fld (fd_lengths T) (ev_var rfl (Mo.up up7 e1))) (ev_var rfl rfl)) (len_bits hW hcn)) ea_nil))) fun H v h => plA_of h) ea_nil)) (fun G8 H8 e8 Q q' => ⟨_, rfl, q'⟩) (ev_var rfl hb2) fun v8 G8 H8 y8 h8 hd8 => ?_
        have gd8 := y8.av dg ⟨_, hd7, fun _ z => by cases z⟩ gd7
        have hB2 : (upd (upd H dc (.frz oc (.dK kc))) dh (.frz oh (.dK kh))) dg = none := by rw [upd_ne ngh]; exact hB
        refine ⟨_, _, G8, _, rfl, Ext.mutD (X7.trans y8) hB2 gd8 (fun z => by cases z), gw5.trans (x7.trans y8).gw, gd8, upd_same, ?_⟩
        rw [take_snoc hh, List.map_append, ← List.append_assoc]
        show DR pk _ (puts _ _ _ (_ ++ [(h.2, wd.told (c.1, (h.1 + pOf off c.1) % wd.len c.1))])) _
        rw [puts_snoc]
        exact DR.put pk_inj (DR.mo (sm_up (x7.trans y8).gs) dr) h8
      · rintro σ' H6 ⟨s6, s9, G, kvs'', rfl, X, gw5, gd, hd, dr⟩
        rw [List.take_length] at dr
        obtain ⟨w1, w2, w3⟩ := Ext.unlock (G0 := G0) (H0 := H) fB hdhL trivial X
        rw [hnh]
        refine ⟨w2, _, _, _, _, _, upd G dh (.dK kh), kvs'', rfl, w1, ?_, by rw [upd_ne ngh]; exact gd, by rw [upd_ne ngh]; exact hd, ?_⟩
        · exact (gw.trans x4.gw).trans ((y5.gw.trans gw5).unlock hdh4 trivial)
        · rw [take_snoc hci, flatC_app]
          have : flatC wd off [(c.1, c.2.1)] = c.2.1.map fun h => (h.2, wd.told (c.1, (h.1 + pOf off c.1) % wd.len c.1)) := by
            unfold flatC
            simp
          rw [this]
          exact DR.mo w3 dr
    · rintro σ' H3 ⟨s5, s6, s7, s8, s9, G, kvs', rfl, X, gw, gd, hd, dr⟩
      have el : lz.length = cells.length := by rw [← z1, List.length_map]
      rw [el, List.take_length] at dr
      obtain ⟨w1, w2, w3⟩ := Ext.unlock (G0 := G0) (H0 := H) f0 hdc trivial X
      rw [hnc]
      refine ⟨w2, ?_⟩
      have gd' : (upd G dc (.dK kc)) dg = none := by rw [upd_ne ngc]; exact gd
      have hd' : (upd H3 dc (.dK kc)) dg = some (.dT kvs') := by rw [upd_ne ngc]; exact hd
      have x9 := Ext.learn w1 hdg0 gd' hd' (fun _ _ z => by cases z)
      exact s_ret (P := DcT PlA (tgT ⟨wd, off, cells, sT⟩)) (.mk0 x9.sub) (ev_var rfl ⟨dg, kvs', rfl, .inl upd_same, DR.mo (w3.trans (up_new gd')) dr⟩) fun v5 G5 H5 y5 h5 => k v5 G5 H5 (x9.trans y5) h5
end
end MR
/-! form_of: one turn, in tables. -/
namespace MR
open PySem PySem.Spec PyProof.Rows L2 He
def doorsL (wd : WebD) (n : Nm) : List Int := wd.mates.filterMap fun q => if decide (q.1.1 = n) = true then some q.1.2 else none
theorem door_mem {wd : WebD} (W : WebGood wd) {n : Nm} {i : Int} : i ∈ doorsL wd n ↔ wd.m.mate (n, i) ≠ none := by
  unfold doorsL
  rw [List.mem_filterMap]
  show _ ↔ lk wd.mates (n, i) ≠ none
  rw [lk_some]
  constructor
  · rintro ⟨q, hq, h⟩
    by_cases c : q.1.1 = n
    · rw [if_pos (decide_eq_true c)] at h
      have h2 := Option.some.inj h
      exact List.mem_map.mpr ⟨q, hq, Prod.ext c h2⟩
    · rw [if_neg (by simpa using c)] at h
      cases h
  · intro h
    obtain ⟨q, hq, e⟩ := List.mem_map.mp h
    refine ⟨q, hq, ?_⟩
    rw [if_pos (decide_eq_true (by rw [e])), e]
theorem door_nd {wd : WebD} (W : WebGood wd) (n : Nm) : (doorsL wd n).Nodup := by
  unfold doorsL
  have : ∀ l : List (Pl × Pl), (l.map (·.1)).Nodup → (l.filterMap fun q => if decide (q.1.1 = n) = true then some q.1.2 else none).Nodup := by
    intro l
    induction l with
    | nil => intro _; exact List.nodup_nil
    | cons q l ih =>
      intro h
      have h' := List.nodup_cons.mp h
      rw [List.filterMap_cons]
      by_cases c : q.1.1 = n
      · rw [if_pos (decide_eq_true c)]
        refine List.nodup_cons.mpr ⟨fun hm => ?_, ih h'.2⟩
        obtain ⟨r, hr, e⟩ := List.mem_filterMap.mp hm
        by_cases c2 : r.1.1 = n
        · rw [if_pos (decide_eq_true c2)] at e
          exact h'.1 (List.mem_map.mpr ⟨r, hr, Prod.ext (c2.trans c.symm) (Option.some.inj e)⟩)
        · rw [if_neg (by simpa using c2)] at e
          cases e
      · rw [if_neg (by simpa using c)]
        exact ih h'.2
  exact this wd.mates W.mnd
theorem door_few {wd : WebD} (W : WebGood wd) (n : Nm) : (doorsL wd n).length ≤ 300 := Nat.le_trans (List.length_filterMap_le _ _) W.mfew
abbrev shOf (SH : List (Pl × Pl)) (m : Pl) : Pl := (lk SH m).getD m
/-- all at the doors goes into the ring's table -/
def fillT (wd : WebD) (n : Nm) (off : Int) (SH : List (Pl × Pl)) (ds : List Int) (T : List (Int × Pl)) : List (Int × Pl) := ds.foldl (fun T i => pt T ((i - off) % wd.len n) (shOf SH (wd.told (n, i)))) T
theorem fillT_snoc (wd : WebD) (n : Nm) (off : Int) (SH : List (Pl × Pl)) (ds : List Int) (T : List (Int × Pl)) (i : Int) : fillT wd n off SH (ds ++ [i]) T = pt (fillT wd n off SH ds T) ((i - off) % wd.len n) (shOf SH (wd.told (n, i))) := by
  unfold fillT
  rw [List.foldl_append]
  rfl
theorem fillT_len (wd : WebD) (n : Nm) (off : Int) (SH : List (Pl × Pl)) : ∀ (ds : List Int) (T : List (Int × Pl)), (fillT wd n off SH ds T).length ≤ T.length + ds.length
  | [], T => Nat.le_refl _
  | i :: ds, T => by
    have := fillT_len wd n off SH ds (pt T ((i - off) % wd.len n) (shOf SH (wd.told (n, i))))
    have h := pt_len T ((i - off) % wd.len n) (shOf SH (wd.told (n, i)))
    show (fillT wd n off SH ds (pt T ((i - off) % wd.len n) (shOf SH (wd.told (n, i))))).length ≤ _
    rw [List.length_cons]
    omega
theorem fillT_some (wd : WebD) (n : Nm) (off : Int) (SH : List (Pl × Pl)) : ∀ (ds : List Int) (T : List (Int × Pl)) (p : Int) (v : Pl), lk (fillT wd n off SH ds T) p = some v → lk T p = some v ∨ ∃ i, i ∈ ds ∧ p = (i - off) % wd.len n ∧ v = shOf SH (wd.told (n, i))
  | [], T, p, v, h => .inl h
  | i :: ds, T, p, v, h => by
    rcases fillT_some wd n off SH ds _ p v h with h1 | ⟨j, h1, h2⟩
    · rw [lk_pt] at h1
      by_cases c : p = (i - off) % wd.len n
      · rw [if_pos c] at h1
        exact .inr ⟨i, List.mem_cons_self, c, (Option.some.inj h1).symm⟩
      · rw [if_neg c] at h1
        exact .inl h1
    · exact .inr ⟨j, List.mem_cons_of_mem _ h1, h2⟩
theorem fillT_keep (wd : WebD) (n : Nm) (off : Int) (SH : List (Pl × Pl)) : ∀ (ds : List Int) (T : List (Int × Pl)) (p : Int), lk T p ≠ none → lk (fillT wd n off SH ds T) p ≠ none
  | [], T, p, h => h
  | i :: ds, T, p, h => fillT_keep wd n off SH ds _ p (by
      rw [lk_pt]
      split
      · exact fun z => by cases z
      · exact h)
theorem fillT_door (wd : WebD) (n : Nm) (off : Int) (SH : List (Pl × Pl)) : ∀ (ds : List Int) (T : List (Int × Pl)) (i : Int), i ∈ ds → lk (fillT wd n off SH ds T) ((i - off) % wd.len n) ≠ none
  | j :: ds, T, i, h => by
    rcases List.mem_cons.mp h with rfl | h
    · refine fillT_keep wd n off SH ds _ _ ?_
      rw [lk_pt, if_pos rfl]
      exact fun z => by cases z
    · exact fillT_door wd n off SH ds _ i h
/-- the ring has gone on: what is at its doors now is at the spots -/
structure EmptyI (wd : WebD) (n : Nm) (off : Int) (T1 : List (Int × Pl)) (SH : List (Pl × Pl)) (ds : List Int) (T : List (Int × Pl)) (S : List (Pl × Pl)) : Prop where
  gone : ∀ i, i ∈ ds → lk T ((i - off) % wd.len n) = none
  stay : ∀ p, (∀ i, i ∈ ds → p ≠ (i - off) % wd.len n) → lk T p = lk T1 p
  put : ∀ i, i ∈ ds → lk S (wd.told (n, i)) = some ((lk T1 ((i - off) % wd.len n)).getD (n, (i - off) % wd.len n))
  rest : ∀ m, (∀ i, i ∈ ds → m ≠ wd.told (n, i)) → lk S m = lk SH m
theorem EmptyI.start {wd : WebD} {n : Nm} {off : Int} {T1 : List (Int × Pl)} {SH : List (Pl × Pl)} : EmptyI wd n off T1 SH [] T1 SH := ⟨fun _ h => (nomatch h), fun _ _ => rfl, fun _ h => (nomatch h), fun _ _ => rfl⟩
theorem place_inj {wd : WebD} (W : WebGood wd) {n : Nm} (hn : n ∈ wd.names) (off : Int) {i j : Int} (hi : wd.m.Val (n, i)) (hj : wd.m.Val (n, j)) (e : (i - off) % wd.len n = (j - off) % wd.len n) : i = j := by
  have h1 : (i - off - (j - off)) % wd.len n = 0 := by
    rw [Int.sub_emod, e, Int.sub_self, Int.zero_emod]
  have h2 : i - off - (j - off) = i - j := by omega
  rw [h2] at h1
  have h3 := hi.2
  have h4 := hj.2
  have e1 : i % wd.len n = j % wd.len n := Int.emod_eq_emod_iff_emod_sub_eq_zero.mpr h1
  have i1 : i % wd.len n = i := Int.emod_eq_of_lt h3.1 h3.2
  have j1 : j % wd.len n = j := Int.emod_eq_of_lt h4.1 h4.2
  rw [i1, j1] at e1
  exact e1
theorem EmptyI.step {wd : WebD} (W : WebGood wd) {n : Nm} (hn : n ∈ wd.names) {off : Int} {T1 : List (Int × Pl)} {SH : List (Pl × Pl)} {ds : List Int} {T : List (Int × Pl)} {S : List (Pl × Pl)} (I : EmptyI wd n off T1 SH ds T S)
    {i : Int} (hi : wd.m.Val (n, i)) (hds : ∀ j, j ∈ ds → wd.m.Val (n, j)) (hni : i ∉ ds) {T' : List (Int × Pl)} (hT : ∀ p, lk T' p = if p = (i - off) % wd.len n then none else lk T p) :
    EmptyI wd n off T1 SH (ds ++ [i]) T' (pt S (wd.told (n, i)) ((lk T ((i - off) % wd.len n)).getD (n, (i - off) % wd.len n))) := by
  have nej : ∀ j, j ∈ ds → j ≠ i := fun j hj e => hni (e ▸ hj)
  have pne : ∀ j, j ∈ ds → (i - off) % wd.len n ≠ (j - off) % wd.len n := fun j hj e => nej j hj (place_inj W hn off hi (hds j hj) e).symm
  have tne : ∀ j, j ∈ ds → wd.told (n, j) ≠ wd.told (n, i) := fun j hj e => nej j hj (W.ok.ring_inj e)
  refine ⟨fun j hj => ?_, fun p hp => ?_, fun j hj => ?_, fun m hm => ?_⟩
  · rw [hT]
    rcases List.mem_append.mp hj with h | h
    · rw [if_neg fun z => pne j h z.symm]
      exact I.gone j h
    · rw [List.mem_singleton] at h
      rw [h, if_pos rfl]
  · rw [hT, if_neg (hp i (List.mem_append_right _ List.mem_cons_self))]
    exact I.stay p fun j hj => hp j (List.mem_append_left _ hj)
  · rw [lk_pt]
    rcases List.mem_append.mp hj with h | h
    · rw [if_neg (tne j h)]
      exact I.put j h
    · rw [List.mem_singleton] at h
      rw [h, if_pos rfl, I.stay _ pne]
  · rw [lk_pt, if_neg (hm i (List.mem_append_right _ List.mem_cons_self))]
    exact I.rest m fun j hj => hm j (List.mem_append_left _ hj)
/-- a turn of ring n, as form_of does it in its tables -/
theorem sim_step {wd : WebD} (W : WebGood wd) {off off' : Nm → Int} {cells cells' : Nm → Int → Option Pl} {SH S : List (Pl × Pl)} {cur goal : Pl → Pl} (I : Sim wd.m off cells (shOf SH) cur goal) {n : Nm} (hn : n ∈ wd.names)
    {T0 T : List (Int × Pl)} (h0 : ∀ p, cells n p = lk T0 p) (E : EmptyI wd n (off' n) (fillT wd n (off n) SH (doorsL wd n) T0) SH (doorsL wd n) T S)
    (ho : ∀ m, m ≠ n → off' m = off m) (hr : 0 ≤ off' n ∧ off' n < wd.len n) (hc : ∀ m, m ≠ n → cells' m = cells m) (hT : ∀ p, cells' n p = lk T p) : ∃ cur' goal', Sim wd.m off' cells' (shOf S) cur' goal' := by
  have o := W.ok
  have L0 : 0 < wd.len n := len_bits W hn
  have F : Full wd.m off cur n (fun p => lk (fillT wd n (off n) SH (doorsL wd n) T0) p) := I.full o hn (fun p v h => by
      rcases fillT_some _ _ _ _ _ _ _ _ h with h1 | ⟨i, h1, h2, h3⟩
      · exact .inl (by rw [h0]; exact h1)
      · exact .inr ⟨i, (door_mem W).mp h1, h2, h3⟩)
    (fun p h => fillT_keep _ _ _ _ _ _ _ (by rw [← h0]; exact h)) fun i h => fillT_door _ _ _ _ _ _ _ ((door_mem W).mpr h)
  have val : ∀ i, wd.m.mate (n, i) ≠ none → wd.m.Val (n, i) := fun i h => by
    cases c : wd.m.mate (n, i) with
    | none => exact absurd c h
    | some q => exact (o.mate_val _ _ c).1
  refine ⟨_, _, I.turn o hn F (off' := off') (cells' := cells') (shared' := shOf S) ho hr hc (fun p h => ?_) (fun p h1 h2 h => ?_) (fun p h => ?_) (fun i h => ?_) fun m hm1 hm2 hm => ?_⟩
  · rw [hT]
    refine E.stay p fun i hi e => ?_
    have hv := val i ((door_mem W).mp hi)
    have e2 : (p + off' n) % wd.len n = i := by
      rw [e, Int.emod_add_emod]
      have : i - off' n + off' n = i := by omega
      rw [this]
      exact Int.emod_eq_of_lt hv.2.1 hv.2.2
    have h' : wd.m.mate (n, (p + off' n) % wd.len n) = none := h
    rw [e2] at h'
    exact (door_mem W).mp hi h'
  · rw [hT]
    have := E.gone _ ((door_mem W).mpr h)
    have e : ((p + off' n) % wd.m.len n - off' n) % wd.len n = p := by
      show ((p + off' n) % wd.len n - off' n) % wd.len n = p
      rw [Int.emod_sub_emod]
      have : p + off' n - off' n = p := by omega
      rw [this]
      exact Int.emod_eq_of_lt h1 h2
    rw [e] at this
    exact this
  · rw [hT]
    by_cases c : ∃ i, i ∈ doorsL wd n ∧ p = (i - off' n) % wd.len n
    · obtain ⟨i, hi, e⟩ := c
      rw [e]
      exact E.gone i hi
    · rw [E.stay p fun i hi e => c ⟨i, hi, e⟩]
      cases q : lk (fillT wd n (off n) SH (doorsL wd n) T0) p with
      | none => rfl
      | some v => exact absurd (F.val p v q).1 h
  · show (lk S (wd.told (n, i))).getD _ = _
    rw [E.put i ((door_mem W).mpr h)]
    rfl
  · show (lk S m).getD m = (lk SH m).getD m
    rw [E.rest m fun i hi e => hm i e.symm |> fun z => (door_mem W).mp hi z]
end MR
/-! form_of: its tables on the heap. -/
namespace MR
open PySem PySem.Spec PyProof.Rows L2 He
section
variable {K : PySem.W.Frag} {M : Option Addr} {σ : L2.St} {G G' H H' B : Hp} {te td ty tv : TE} {P : Hp → V → Prop} {D : Ends}
/-- an expression run from here: a value of the kind -/
def Run (M : Option Addr) (te : TE) (σ : L2.St) (G H : Hp) (P : Hp → V → Prop) : Prop := ∀ Q : VK, (∀ v G1 H1, Ext M G H G1 H1 → P G1 v → Q v H1) → te σ H Q
theorem run_of (f : Fr M G H) (h : Ev M te σ G P) : Run M te σ G H P := fun Q k => h G H (Gw.rfl' _) f Q k
/-- facts that lean on tuples alone -/
class MoU (P : Hp → V → Prop) : Prop where
  up : ∀ {H H' : Hp} {v : V}, (∀ a xs, H a = some (.tup xs) → H' a = some (.tup xs)) → P H v → P H' v
instance {c : V} : MoU (Is c) := ⟨fun _ h => h⟩
instance {p : Pl} : MoU (PlA p) := ⟨fun e ⟨a, h1, h2⟩ => ⟨a, h1, e _ _ h2⟩⟩
open Classical in
noncomputable def delS (S : Addr → Prop) (G : Hp) : Hp := fun a => if S a then none else G a
theorem delS_pos {S : Addr → Prop} {a : Addr} (h : S a) : delS S G a = none := if_pos h
theorem delS_neg {S : Addr → Prop} {a : Addr} (h : ¬ S a) : delS S G a = G a := if_neg h
theorem Ext.hideS {S : Addr → Prop} {G2 H2 : Hp} (e : Ext M (addS S G H) H G2 H2) (hS : ∀ a, S a → G a = none) : Ext M G H (delS S G2) H2 := by
  refine ⟨e.same, fun a u k => ?_, fun a u k => ?_, fun a h k => ?_, fun a q u k => ?_, e.pot⟩
  · have c : ¬ S a := fun c => by rw [hS a c] at k; cases k
    rw [delS_neg c]
    exact e.gs _ _ (by rw [addS_neg c]; exact k)
  · by_cases c : S a
    · rw [delS_pos c] at k
      cases k
    · rw [delS_neg c] at k
      exact e.sub _ _ k
  · by_cases c : S a
    · exact delS_pos c
    · rw [delS_neg c]
      exact e.av a h (by rw [addS_neg c]; exact k)
  · by_cases c : S a
    · rw [delS_pos c] at k
      cases k
    · rw [delS_neg c] at k
      have := e.nf _ _ _ k
      rw [addS_neg c] at this
      exact this
theorem sub_addS {S : Addr → Prop} (s : Same G H) : Same (addS S G H) H := fun a u k => by
  by_cases c : S a
  · rw [addS_pos c] at k
    exact k
  · rw [addS_neg c] at k
    exact s _ _ k
/-- with what is one's own in sight -/
theorem run_own [MoU P] {S : Addr → Prop} (s : Same G H) (hS : ∀ a, S a → G a = none ∧ ∃ u, H a = some u ∧ ∀ xs, u ≠ .tup xs) (h : Ev none te σ (addS S G H) P) : Run none te σ G H P := fun Q k =>
  h _ H (Gw.rfl' _) (.mk0 (sub_addS s)) _ fun v G1 H1 e p => k v (delS S G1) H1 (e.hideS fun a ha => (hS a ha).1) (MoU.up (fun a xs z => by
    have c : ¬ S a := fun c => by
      obtain ⟨_, u, h1, h2⟩ := hS a c
      have := e.gs a u (by rw [addS_pos c]; exact h1)
      rw [z] at this
      cases this
      exact h2 _ rfl
    rw [delS_neg c]
    exact z) p)
theorem p_asgR {i : Nat} (h : Run M te σ G H P) (k : ∀ v G1 H1, Ext M G H G1 H1 → P G1 v → D.nx (σ.set i (some v)) H1) : tAsg te (gName i) D σ H := h _ k
theorem q_asgR {i : Nat} {tz : TS} (h : Run M te σ G H P) (k : ∀ v G1 H1, Ext M G H G1 H1 → P G1 v → tz D (σ.set i (some v)) H1) : tSeq (tAsg te (gName i)) tz D σ H := h _ k
theorem q_asgE {i : Nat} {tz : TS} (h : te σ H fun v H1 => tz D (σ.set i (some v)) H1) : tSeq (tAsg te (gName i)) tz D σ H := h
theorem p_putKR [Mo P] {d : Addr} {kvs : List (Key × V)} {k : Key} (hd : H d = some (.dK kvs)) (nM : M ≠ some d) (hz : kvs.length < 100000) (hv : Run M tv σ G H P) (htd : ∀ H1, ∀ Q : VK, Q (.ref d) H1 → td σ H1 Q) (hk : ∀ G1 H1, Ext M G H G1 H1 → Run M ty σ G1 H1 (Is (kV k)))
    (q : ∀ v G1 H1, Ext M G H G1 H1 → P G1 v → H1 d = some (.dK kvs) → D.nx σ (upd H1 d (.dK (putK kvs k v)))) : sDPut td ty tv D σ H := hv _ fun v G1 H1 e p => htd H1 _ (hk G1 H1 e _ fun y G2 H2 e2 hy => by
  cases hy
  have hd2 := (e.trans e2).same _ _ nM hd
  exact ⟨d, _, rfl, .inl ⟨kvs, k, hd2, rfl, sz_lt hz, rfl⟩, q v G2 H2 (e.trans e2) (mo_same e2.gs p) hd2⟩)
end
/-! ### several new dicts, in a dict -/
theorem dcK_news {σ : L2.St} {G : Hp} {R : Nm → Hp → V → Prop} {wi : TI} {g : TG} {tt : TT} {tk : TE} {vs : List Nat} {l : List Nm} (nd : l.Nodup) (hs : Src none wi σ G l R) (hl : l.length < 100000)
    (hb : TurnC none G l R g σ vs fun b σ2 G' => EvT none tt σ2 G' true ∧ Ev none tk σ2 G' (Is (kV (kN b)))) :
    ∀ G1 H1, Gw G G1 → Fr none G1 H1 → ∀ Q : VK, (∀ D G3 H3 (E : List (Nm × Addr)), H1 D = none → G3 D = none → Ext none G1 H1 G3 H3 → E.map (·.1) = l → (E.map (·.2)).Nodup → H3 D = some (.dK (E.map fun x => (kN x.1, V.ref x.2))) → (∀ x, x ∈ E → H1 x.2 = none ∧ G3 x.2 = none ∧ H3 x.2 = some (.dK []) ∧ x.2 ≠ D) → Q (.ref D) H3) →
      tDc wi g tt tk tDNewK vs σ H1 Q := fun G1 H1 e f Q k => hs G1 H1 e f _ fun J G2 H2 e2 hw D nD => by
  obtain ⟨Gp, Y, w, hG, hy⟩ := hw
  have f2 := f.ext e2
  have gD : G2 D = none := f2.free nD
  have nM := f2.notM nD
  refine ⟨fun i m H => ∃ G3 E, i + m = l.length ∧ G3 D = none ∧ Ext none G2 H2 G3 H ∧ E.map (·.1) = l.take i ∧ (E.map (·.2)).Nodup ∧ H D = some (.dK (E.map fun x => (kN x.1, V.ref x.2))) ∧ ∀ x : Nm × Addr, x ∈ E → H2 x.2 = none ∧ G3 x.2 = none ∧ H x.2 = some (.dK []) ∧ x.2 ≠ D,
    ⟨l.length, G2, [], by omega, gD, Ext.mutD (Ext.rfl' f2) nD gD nM, rfl, List.nodup_nil, upd_same, fun _ h => (nomatch h)⟩, fun i m H hP => ?_⟩
  obtain ⟨G3, E, him, d3, x3, hE, hnd, hD, ent⟩ := hP
  have sG := hG _ (x3.gs.trans x3.sub)
  by_cases hi : i < l.length
  · refine .inr ⟨w.goes i H hi sG, fun H' => ∃ G3 E, G3 D = none ∧ Ext none G2 H2 G3 H' ∧ E.map (·.1) = l.take (i + 1) ∧ (E.map (·.2)).Nodup ∧ H' D = some (.dK (E.map fun x => (kN x.1, V.ref x.2))) ∧ ∀ x : Nm × Addr, x ∈ E → H2 x.2 = none ∧ G3 x.2 = none ∧ H' x.2 = some (.dK []) ∧ x.2 ≠ D, fun H' ⟨a, b, c⟩ => ⟨m - 1, by omega, a, b, by omega, c⟩, fun x H' hyy => ?_⟩
    have hY := w.yields i H x H' hi sG hyy
    have f3 : Fr none G3 H := f2.ext x3
    obtain ⟨b, G4, hbi, x4, rb⟩ := hy i H x H' G3 x3.gw f3 hY
    have hmem : b ∈ l := List.mem_of_getElem? hbi
    have f4 := f3.ext x4
    refine hb b hmem x G4 H' ((e.trans e2.gw).trans (x3.gw.trans x4.gw)) f4 rb _ fun σ2 hσ hh => ⟨hσ, hh.1 G4 H' (Gw.rfl' _) f4 _ fun G5 H5 x5 => ?_⟩
    rw [if_pos rfl]
    have f5 := f4.ext x5
    refine hh.2 G5 H5 x5.gw f5 _ fun y G6 H6 x6 ry d hd => ?_
    have x36 := (x4.trans x5).trans x6
    have X := x3.trans x36
    have hD6 := x36.same _ _ nM hD
    have nd6 : d ≠ D := fun z => by rw [z, hD6] at hd; cases hd
    have d6 := x36.av D ⟨_, hD, fun _ z => by cases z⟩ d3
    have h2d : H2 d = none := by
      cases q : H2 d with
      | none => rfl
      | some o => rw [X.same _ _ (fun z => by cases z) q] at hd; cases hd
    have g6d : G6 d = none := X.sub.free hd
    have el : E.length = i := by
      have := congrArg List.length hE
      rw [List.length_map, List.length_take] at this
      omega
    have nin : b ∉ E.map (·.1) := fun z => by
      rw [hE] at z
      obtain ⟨j, hj, ej⟩ := List.getElem_of_mem z
      rw [List.length_take] at hj
      rw [List.getElem_take] at ej
      have e2 : l[j]? = some b := by rw [List.getElem?_eq_getElem (by omega), ej]
      have := (List.getElem?_inj hi nd).mp (hbi.trans e2.symm)
      omega
    have hv : valV (E.map fun x => (kN x.1, V.ref x.2)) (kN b) = none := by
      clear hE hnd hD ent hD6 el
      induction E with
      | nil => rfl
      | cons q E ih =>
        rw [List.map_cons] at nin ⊢
        rw [valV_neg (show ¬ kN q.1 = kN b from fun z => nin (by rw [kN_inj _ _ z]; exact List.mem_cons_self))]
        exact ih fun z => nin (List.mem_cons_of_mem _ z)
    refine ⟨_, kN b, ry, by rw [upd_ne nd6.symm]; exact hD6, sz_lt (by rw [List.length_map, el]; omega), G6, E ++ [(b, d)], d6, Ext.mutD (Ext.mutD X h2d g6d (fun z => by cases z)) nD d6 nM, ?_, ?_, ?_, ?_⟩
    · rw [List.map_append, hE, take_snoc hbi]
      rfl
    · rw [List.map_append]
      refine List.nodup_append.mpr ⟨hnd, List.nodup_cons.mpr ⟨List.not_mem_nil, List.nodup_nil⟩, fun a ha c hc e => ?_⟩
      rw [List.map_cons, List.map_nil, List.mem_singleton] at hc
      obtain ⟨q, hq, rfl⟩ := List.mem_map.mp ha
      have h1 := x36.same _ _ (fun z => by cases z) (ent q hq).2.2.1
      rw [e, hc] at h1
      rw [h1] at hd
      cases hd
    · rw [upd_same, putK_new _ hv, List.map_append]
      rfl
    · intro q hq
      rcases List.mem_append.mp hq with hq | hq
      · obtain ⟨h1, h2, h3, h4⟩ := ent q hq
        have h3' := x36.same _ _ (fun z => by cases z) h3
        refine ⟨h1, x36.av _ ⟨_, h3, fun _ z => by cases z⟩ h2, ?_, h4⟩
        rw [upd_ne h4, upd_ne (ne_of_none h3' hd)]
        exact h3'
      · rw [List.mem_singleton] at hq
        subst hq
        exact ⟨h2d, g6d, by rw [upd_ne nd6, upd_same], nd6⟩
  · have hi' : i = l.length := by omega
    subst hi'
    rw [List.take_length] at hE
    have dn : ∀ {a : Addr}, H2 a = none → H1 a = none := fun {a} h => by
      cases q : H1 a with
      | none => rfl
      | some o =>
        rw [e2.same _ _ (fun z => by cases z) q] at h
        cases h
    exact .inl ⟨w.stops H sG, k D G3 H E (dn nD) d3 (e2.trans x3) hE hnd hD fun x hx => ⟨dn (ent x hx).1, (ent x hx).2⟩⟩
/-! ### the tables -/
def FoS (ad : Nm → Addr) (names : List Nm) (d2 d5 : Addr) : Addr → Prop := fun a => a = d2 ∨ a = d5 ∨ ∃ n, n ∈ names ∧ a = ad n
structure FoI (B G H : Hp) (ad : Nm → Addr) (names : List Nm) (d2 d5 : Addr) (OFF : List (Nm × Int)) (ko : List (Key × V)) (SH : List (Pl × Pl)) (ks : List (List Key × V)) (tb : Nm → List (Int × Pl)) (kv : Nm → List (Key × V)) : Prop where
  oh : H d2 = some (.dK ko)
  og : G d2 = none
  ob : B d2 = none
  od : DR kN (fun i u => IntA i G u) OFF ko
  sh : H d5 = some (.dT ks)
  sg : G d5 = none
  sb : B d5 = none
  sd : DR pk (fun b u => PlA b G u) SH ks
  ch : ∀ n, n ∈ names → H (ad n) = some (.dK (kv n)) ∧ G (ad n) = none ∧ B (ad n) = none ∧ DR kI (fun b u => PlA b G u) (tb n) (kv n)
  inj : ∀ n m, n ∈ names → m ∈ names → ad n = ad m → n = m
  ne : ∀ n, n ∈ names → ad n ≠ d2
section
variable {B G H G' H' : Hp} {ad : Nm → Addr} {names : List Nm} {d2 d5 : Addr} {OFF : List (Nm × Int)} {ko : List (Key × V)} {SH : List (Pl × Pl)} {ks : List (List Key × V)} {tb : Nm → List (Int × Pl)} {kv : Nm → List (Key × V)}
theorem FoI.ext (I : FoI B G H ad names d2 d5 OFF ko SH ks tb kv) (x : Ext none G H G' H') : FoI B G' H' ad names d2 d5 OFF ko SH ks tb kv :=
  ⟨x.same _ _ (fun z => by cases z) I.oh, x.av _ ⟨_, I.oh, fun _ z => by cases z⟩ I.og, I.ob, DR.mo (sm_up x.gs) I.od, x.same _ _ (fun z => by cases z) I.sh, x.av _ ⟨_, I.sh, fun _ z => by cases z⟩ I.sg, I.sb, DR.mo (sm_up x.gs) I.sd, fun n hn => by
    obtain ⟨h1, h2, h3, h4⟩ := I.ch n hn
    exact ⟨x.same _ _ (fun z => by cases z) h1, x.av _ ⟨_, h1, fun _ z => by cases z⟩ h2, h3, DR.mo (sm_up x.gs) h4⟩, I.inj, I.ne⟩
theorem FoI.own (I : FoI B G H ad names d2 d5 OFF ko SH ks tb kv) : ∀ a, FoS ad names d2 d5 a → G a = none ∧ ∃ u, H a = some u ∧ ∀ xs, u ≠ .tup xs := by
  rintro a (rfl | rfl | ⟨n, hn, rfl⟩)
  · exact ⟨I.og, _, I.oh, fun _ z => by cases z⟩
  · exact ⟨I.sg, _, I.sh, fun _ z => by cases z⟩
  · exact ⟨(I.ch n hn).2.1, _, (I.ch n hn).1, fun _ z => by cases z⟩
theorem FoI.same (I : FoI B G H ad names d2 d5 OFF ko SH ks tb kv) : Same G (addS (FoS ad names d2 d5) G H) := same_addS fun a ha => (I.own a ha).1
theorem FoI.d25 (I : FoI B G H ad names d2 d5 OFF ko SH ks tb kv) : d2 ≠ d5 := fun z => by
  have := I.oh
  rw [z, I.sh] at this
  cases this
theorem FoI.n5 (I : FoI B G H ad names d2 d5 OFF ko SH ks tb kv) {n : Nm} (hn : n ∈ names) : ad n ≠ d5 := fun z => by
  have := (I.ch n hn).1
  rw [z, I.sh] at this
  cases this
theorem FoI.offA (I : FoI B G H ad names d2 d5 OFF ko SH ks tb kv) : DcK kN IntA OFF (addS (FoS ad names d2 d5) G H) (.ref d2) := ⟨d2, ko, rfl, .inl (by rw [addS_pos (.inl rfl)]; exact I.oh), DR.mo (sm_up I.same) I.od⟩
theorem FoI.shA (I : FoI B G H ad names d2 d5 OFF ko SH ks tb kv) : DcT PlA SH (addS (FoS ad names d2 d5) G H) (.ref d5) := ⟨d5, ks, rfl, .inl (by rw [addS_pos (.inr (.inl rfl))]; exact I.sh), DR.mo (sm_up I.same) I.sd⟩
theorem FoI.putO (I : FoI B G H ad names d2 d5 OFF ko SH ks tb kv) (n : Nm) (i : Int) : FoI B G (upd H d2 (.dK (putK ko (kN n) (.int i)))) ad names d2 d5 (pt OFF n i) (putK ko (kN n) (.int i)) SH ks tb kv :=
  { I with
    oh := upd_same
    od := DR.put kN_inj I.od rfl
    sh := by rw [upd_ne I.d25.symm]; exact I.sh
    ch := fun m hm => by rw [upd_ne (I.ne m hm)]; exact I.ch m hm }
theorem FoI.putS (I : FoI B G H ad names d2 d5 OFF ko SH ks tb kv) (p : Pl) {b : Pl} {v : V} (hv : PlA b G v) : FoI B G (upd H d5 (.dT (putK ks (pk p) v))) ad names d2 d5 OFF ko (pt SH p b) (putK ks (pk p) v) tb kv :=
  { I with
    sh := upd_same
    sd := DR.put pk_inj I.sd hv
    oh := by rw [upd_ne I.d25]; exact I.oh
    ch := fun m hm => by rw [upd_ne (I.n5 hm)]; exact I.ch m hm }
def stN {β : Type} (f : Nm → β) (n : Nm) (b : β) : Nm → β := fun m => if m = n then b else f m
theorem stN_same {β : Type} {f : Nm → β} {n : Nm} {b : β} : stN f n b n = b := if_pos rfl
theorem stN_ne {β : Type} {f : Nm → β} {n m : Nm} {b : β} (h : m ≠ n) : stN f n b m = f m := if_neg h
theorem FoI.putC (I : FoI B G H ad names d2 d5 OFF ko SH ks tb kv) {n : Nm} (hn : n ∈ names) {t : List (Int × Pl)} {k : List (Key × V)} (h : DR kI (fun b u => PlA b G u) t k) : FoI B G (upd H (ad n) (.dK k)) ad names d2 d5 OFF ko SH ks (stN tb n t) (stN kv n k) :=
  { I with
    oh := by rw [upd_ne (I.ne n hn).symm]; exact I.oh
    sh := by rw [upd_ne (I.n5 hn).symm]; exact I.sh
    ch := fun m hm => by
      by_cases c : m = n
      · subst c
        rw [stN_same, stN_same, upd_same]
        exact ⟨rfl, (I.ch m hm).2.1, (I.ch m hm).2.2.1, h⟩
      · rw [stN_ne c, stN_ne c, upd_ne fun z => c (I.inj m n hm hn z)]
        exact I.ch m hm }
theorem sum_stN {l : List Nm} (nd : l.Nodup) (f : Nm → Nat) (n : Nm) (a : Nat) (h : a ≤ f n + 300) : (l.map (stN f n a)).sum ≤ (l.map f).sum + 300 := by
  by_cases hn : n ∈ l
  · have : ∀ l : List Nm, l.Nodup → (l.map (stN f n a)).sum ≤ (l.map f).sum + (if n ∈ l then 300 else 0) := by
      intro l
      induction l with
      | nil => intro _; simp
      | cons x l ih =>
        intro nd
        have nd' := List.nodup_cons.mp nd
        have := ih nd'.2
        rw [List.map_cons, List.map_cons, List.sum_cons, List.sum_cons]
        by_cases c : x = n
        · subst c
          rw [stN_same, if_pos List.mem_cons_self]
          rw [if_neg nd'.1] at this
          omega
        · rw [stN_ne c]
          by_cases hm : n ∈ l
          · rw [if_pos hm] at this
            rw [if_pos (List.mem_cons_of_mem _ hm)]
            omega
          · rw [if_neg hm] at this
            rw [if_neg fun z => (List.mem_cons.mp z).elim (fun e => c e.symm) hm]
            omega
    have := this l nd
    rw [if_pos hn] at this
    exact this
  · have : l.map (stN f n a) = l.map f := List.map_congr_left fun x hx => stN_ne fun z => hn (z ▸ hx)
    rw [this]
    omega
theorem pt_old {κ β : Type} [DecidableEq κ] {l : List (κ × β)} {k : κ} (b : β) (h : lk l k ≠ none) : (pt l k b).map (·.1) = l.map (·.1) := by
  unfold pt
  rw [if_pos (by cases c : lk l k with
    | none => exact absurd c h
    | some v => rfl), List.map_map]
  refine List.map_congr_left fun x _ => ?_
  show (if x.1 = k then (x.1, b) else x).1 = x.1
  split <;> rfl
theorem stN_id {β : Type} {f : Nm → β} {n : Nm} : stN f n (f n) = f := funext fun m => by
  unfold stN
  split
  · rename_i h
    rw [h]
  · rfl
theorem stN_stN {β : Type} {f : Nm → β} {n : Nm} {a b : β} : stN (stN f n a) n b = stN f n b := funext fun m => by
  unfold stN
  split
  · rfl
  · rfl
theorem le_sum {α : Type} (f : α → Nat) : ∀ {l : List α} {a : α}, a ∈ l → f a ≤ (l.map f).sum
  | x :: l, a, h => by
    rw [List.map_cons, List.sum_cons]
    rcases List.mem_cons.mp h with rfl | h
    · omega
    · have := le_sum f h
      omega
theorem snd_inj {α β : Type} : ∀ {l : List (α × β)}, (l.map (·.2)).Nodup → ∀ {a b : α} {c : β}, (a, c) ∈ l → (b, c) ∈ l → a = b
  | x :: l, nd, a, b, c, h1, h2 => by
    have nd' := List.nodup_cons.mp nd
    rcases List.mem_cons.mp h1 with e1 | h1 <;> rcases List.mem_cons.mp h2 with e2 | h2
    · exact congrArg Prod.fst (e1.trans e2.symm)
    · exact absurd (List.mem_map.mpr ⟨_, h2, (congrArg Prod.snd e1 : c = x.2)⟩) nd'.1
    · exact absurd (List.mem_map.mpr ⟨_, h1, (congrArg Prod.snd e2 : c = x.2)⟩) nd'.1
    · exact snd_inj nd'.2 h1 h2
theorem dp_len {κ β : Type} [DecidableEq κ] (l : List (κ × β)) (k : κ) : (dp l k).length ≤ l.length := List.length_filter_le _ _
/-- what the tables say after some turns -/
structure FoSem (wd : WebD) (OFF : List (Nm × Int)) (SH : List (Pl × Pl)) (tb : Nm → List (Int × Pl)) (i : Nat) : Prop where
  sim : ∃ cur goal, Sim wd.m (pOf OFF) (fun n p => lk (tb n) p) (shOf SH) cur goal
  off : OFF.map (·.1) = wd.names
  shk : ∀ b, b ∈ SH.map (·.1) ↔ wd.m.Spot b ∧ wd.m.mate b ≠ none
  shn : (SH.map (·.1)).Nodup
  shl : SH.length ≤ 300
  tn : ∀ n, n ∈ wd.names → ((tb n).map (·.1)).Nodup
  tl : (wd.names.map fun n => (tb n).length).sum ≤ 300 * i
theorem FoSem.at_ {wd : WebD} {OFF : List (Nm × Int)} {SH : List (Pl × Pl)} {tb : Nm → List (Int × Pl)} {i : Nat} (S : FoSem wd OFF SH tb i) {n : Nm} (hn : n ∈ wd.names) : lk OFF n = some (pOf OFF n) := by
  rw [← S.off] at hn
  have := lk_some.mpr hn
  unfold pOf
  cases c : lk OFF n with
  | none => exact absurd c this
  | some v => rfl
theorem FoSem.sh {wd : WebD} {OFF : List (Nm × Int)} {SH : List (Pl × Pl)} {tb : Nm → List (Int × Pl)} {i : Nat} (S : FoSem wd OFF SH tb i) {m : Pl} (hm : m ∈ SH.map (·.1)) : lk SH m = some (shOf SH m) := by
  have := lk_some.mpr hm
  unfold shOf
  cases c : lk SH m with
  | none => exact absurd c this
  | some v => rfl
theorem FoSem.start {wd : WebD} (W : WebGood wd) {SH : List (Pl × Pl)} (hS : SH = mkT (wd.mates.map fun q => (wd.told q.1, wd.told q.1))) : FoSem wd (wd.names.map fun n => (n, (0 : Int))) SH (fun _ => []) 0 := by
  have o := W.ok
  have hp : SH = puts (fun q => q.1) (fun q => q.2) [] (wd.mates.map fun q => (wd.told q.1, wd.told q.1)) := hS
  have all : ∀ a b, (a, b) ∈ SH → a = b := by
    rw [hp]
    refine puts_all (Φ := fun a b => a = b) _ _ _ _ List.nodup_nil (fun _ _ h => (nomatch h)) fun q hq => ?_
    obtain ⟨r, _, rfl⟩ := List.mem_map.mp hq
    rfl
  have sh : shOf SH = fun m => m := funext fun m => by
    unfold shOf
    cases c : lk SH m with
    | none => rfl
    | some v => exact (all _ _ (lk_mem c)).symm
  have of0 : pOf (wd.names.map fun n => (n, (0 : Int))) = fun _ => 0 := funext fun n => by
    unfold pOf
    cases c : lk (wd.names.map fun n => (n, (0 : Int))) n with
    | none => rfl
    | some v =>
      obtain ⟨m, _, e⟩ := List.mem_map.mp (lk_mem c)
      cases e
      rfl
  refine ⟨⟨_, _, by rw [sh, of0]; exact Sim.start o⟩, map_fst_tab _ _, fun b => ?_, by rw [hp]; exact puts_nd _ _ _ _ List.nodup_nil, ?_, fun _ _ => List.nodup_nil, ?_⟩
  · rw [hp, puts_key]
    constructor
    · rintro (h | ⟨q, hq, rfl⟩)
      · cases h
      · obtain ⟨r, hr, rfl⟩ := List.mem_map.mp hq
        have hm : wd.m.mate r.1 ≠ none := lk_some.mpr (List.mem_map.mpr ⟨r, hr, rfl⟩)
        have hv : wd.m.Val r.1 := by
          cases c : wd.m.mate r.1 with
          | none => exact absurd c hm
          | some q => exact (o.mate_val _ _ c).1
        exact ⟨o.spot hv, fun z => hm ((o.mate_told _).mp z)⟩
    · rintro ⟨hs, hm⟩
      obtain ⟨r, hr, e⟩ := List.mem_map.mp (lk_some.mp (show lk wd.mates b ≠ none from hm))
      exact .inr ⟨_, List.mem_map.mpr ⟨r, hr, rfl⟩, by show wd.told r.1 = b; rw [e]; exact hs.2⟩
  · rw [hS]
    refine Nat.le_trans (mkT_len _) ?_
    rw [List.length_map]
    exact W.mfew
  · have : ∀ l : List Nm, (l.map fun _ => ([] : List (Int × Pl)).length).sum = 0 := by
      intro l
      induction l with
      | nil => rfl
      | cons x l ih => rw [List.map_cons, List.sum_cons, ih]; rfl
    rw [this]
    omega
theorem paired_maps' {G : Hp} : ∀ E : List (Nm × Addr), DR kN (fun (a : Addr) u => Is (.ref a) G u) E (E.map fun x => (kN x.1, V.ref x.2))
  | [] => .nil
  | _ :: E => .cons ⟨rfl, rfl⟩ (paired_maps' E)
theorem take_nin {α : Type} {l : List α} (nd : l.Nodup) {j : Nat} {a : α} (h : l[j]? = some a) : a ∉ l.take j := fun z => by
  obtain ⟨m, hm, e⟩ := List.getElem_of_mem z
  have hj := (List.getElem?_eq_some_iff.mp h).1
  rw [List.length_take] at hm
  rw [List.getElem_take] at e
  have e2 : l[m]? = some a := by rw [List.getElem?_eq_getElem (by omega), e]
  have := (List.getElem?_inj hj nd).mp (h.trans e2.symm)
  omega
theorem p_popPut {σ : L2.St} {D : Ends} {G0 : Hp} {i5 i6 i12 : Nat} {tx tk : TE} {n : Nm} {pl : Int} {m : Pl} (I : FoI B G H ad names d2 d5 OFF ko SH ks tb kv) (X : Ext none G0 B G H) (hn : n ∈ names) (h12 : σ[i12]? = some (some (.ref (ad n)))) (h6 : σ[i6]? = some (some (.int pl))) (h5 : σ[i5]? = some (some (.ref d5))) (hz : ks.length < 100000)
    (hx : Ev none tx σ G (PlA (n, pl))) (hk : Ev none tk σ G (PlA m))
    (q : ∀ G' H' T' kn' ks', Ext none G0 B G' H' → Gw G G' → FoI B G' H' ad names d2 d5 OFF ko (pt SH m ((lk (tb n) pl).getD (n, pl))) ks' (stN tb n T') (stN kv n kn') → (∀ p, lk T' p = if p = pl then none else lk (tb n) p) → (((tb n).map (·.1)).Nodup → (T'.map (·.1)).Nodup) → T'.length ≤ (tb n).length → D.nx σ H') :
    sDPut (tVar i5) tk (tDPop2 (tVar i12) (tVar i6) tx) D σ H := by
  have hc := I.ch n hn
  refine ⟨_, h12, ad n, rfl, .inl ⟨kv n, .inl hc.1⟩, _, h6, run_of (.mk0 X.sub) hx _ fun z G1 H1 x1 hz1 => ?_⟩
  have I1 := I.ext x1
  have hc1 := I1.ch n hn
  have X1 := X.trans x1
  have fin : ∀ (w : V) (kn' : List (Key × V)) (T' : List (Int × Pl)) (Hn : Hp), FoI B G1 Hn ad names d2 d5 OFF ko SH ks (stN tb n T') (stN kv n kn') → Ext none G0 B G1 Hn → PlA ((lk (tb n) pl).getD (n, pl)) G1 w → (∀ p, lk T' p = if p = pl then none else lk (tb n) p) → (((tb n).map (·.1)).Nodup → (T'.map (·.1)).Nodup) → T'.length ≤ (tb n).length →
      tVar i5 σ Hn fun x H2 => tk σ H2 fun y H3 => ∃ a H4, x = .ref a ∧ DPut H3 a y w H4 ∧ D.nx σ H4 := fun w kn' T' Hn In Xn hw hT nT lT => by
    refine ⟨_, h5, hk G1 Hn x1.gw (.mk0 Xn.sub) _ fun y G2 H2 x2 hy => ?_⟩
    obtain ⟨a, rfl, ha⟩ := hy
    have I2 := In.ext x2
    exact ⟨d5, _, rfl, .inr ⟨ks, pk m, a, I2.sh, rfl, x2.sub _ _ ha, sz_lt hz, rfl⟩, q G2 _ T' kn' _ (Ext.mutD (Xn.trans x2) I2.sb I2.sg (fun z => by cases z)) (x1.gw.trans x2.gw) (I2.putS m (mo_same x2.gs hw)) hT nT lT⟩
  refine ⟨kv n, kI pl, hc1.1, rfl, fun w hw => ?_, fun hw => ?_⟩
  · have hd := I1.putC hn (DR.drop kI_inj hc1.2.2.2 pl)
    refine fin w _ _ _ hd (Ext.mutD X1 hc1.2.2.1 hc1.2.1 fun z => by cases z) ?_ (fun p => lk_dp _ _ _) (fun h => dp_nd h _) (dp_len _ _)
    cases c : lk (tb n) pl with
    | none =>
      rw [DR.none_ kI_inj hc1.2.2.2 c] at hw
      cases hw
    | some b =>
      obtain ⟨v, h1, h2⟩ := DR.some_ kI_inj hc1.2.2.2 c
      rw [h1] at hw
      cases hw
      exact h2
  · refine fin z (kv n) (tb n) H1 (by rw [stN_id, stN_id]; exact I1) X1 ?_ (fun p => ?_) id (Nat.le_refl _)
    · cases c : lk (tb n) pl with
      | none => exact hz1
      | some b =>
        obtain ⟨v, h1, h2⟩ := DR.some_ kI_inj hc1.2.2.2 c
        rw [h1] at hw
        cases hw
    · by_cases e : p = pl
      · rw [if_pos e, e]
        cases c : lk (tb n) pl with
        | none => rfl
        | some b =>
          obtain ⟨v, h1, h2⟩ := DR.some_ kI_inj hc1.2.2.2 c
          rw [h1] at hw
          cases hw
      · rw [if_neg e]
end
end MR
/-! is_name. -/
namespace MR
open PySem PySem.Spec PyProof.Rows L2 He
section
variable {K : PySem.W.Frag} {M : Option Addr} {σ : L2.St} {G : Hp} {ta tb te : TE}
def occS (j i : Str) : Bool := !(Builtin.Str.occurrences j i 0 j.length 1).isEmpty
theorem ev_inS {i j : Str} (h1 : Ev M ta σ G (Is (.str i))) (h2 : Ev M tb σ G (Is (.str j))) : Ev M (tOp (fun x y H Q => ∃ i j, x = .str i ∧ y = .str j ∧ Q (.bl (!(Builtin.Str.occurrences j i 0 j.length 1).isEmpty)) H) ta tb) σ G (Is (.bl (occS j i))) :=
  ev_op h1 h2 fun G1 H1 x y _ f hx hy Q k => ⟨i, j, hx, hy, k _ G1 H1 (Ext.rfl' f) rfl⟩
theorem ev_ninS {i j : Str} (h1 : Ev M ta σ G (Is (.str i))) (h2 : Ev M tb σ G (Is (.str j))) : Ev M (tOp (fun x y H Q => ∃ i j, x = .str i ∧ y = .str j ∧ Q (.bl (!(!(Builtin.Str.occurrences j i 0 j.length 1).isEmpty))) H) ta tb) σ G (Is (.bl (!occS j i))) :=
  ev_op h1 h2 fun G1 H1 x y _ f hx hy Q k => ⟨i, j, hx, hy, k _ G1 H1 (Ext.rfl' f) rfl⟩
theorem ev_lenS {z : Str} (h : Ev M te σ G (Is (.str z))) (hl : z.length ≤ sizeLine) : Ev M (tCB (fun xs H Q => ∃ z, xs = [.str z] ∧ z.length ≤ sizeLine ∧ Q (.int z.length) H) (tCons te tNil)) σ G (Is (.int (z.length : Nat))) :=
  ev_cb (ea_cons h ea_nil) fun G1 H1 vs _ f al Q k => by
    obtain ⟨_, rfl, h1⟩ := al1 al
    cases h1
    exact ⟨z, rfl, hl, k _ G1 H1 (Ext.rfl' f) rfl⟩
theorem ev_ixS {z : Str} {i : Int} {c : Nat} (h : Ev M ta σ G (Is (.str z))) (hi : Ev M tb σ G (Is (.int i))) (hl : z.length ≤ sizeLine) (hc : atI z.cps.toList i = some c) : Ev M (tOp rIxS ta tb) σ G (Is (.str ⟨#[c]⟩)) :=
  ev_op h hi fun G1 H1 x y _ f hx hy Q k => ⟨z, i, c, hx, hy, hl, hc, k _ G1 H1 (Ext.rfl' f) rfl⟩
theorem src_str {x : Str} (h : Ev M te σ G (Is (.str x))) : Src M (iStr te) σ G x.cps.toList (fun c => Is (.str ⟨#[c]⟩)) := fun G1 H1 e f Rk k => h G1 H1 e f _ fun v G2 H2 e2 p => by
  cases p
  refine ⟨x, rfl, k (Its x) G2 H2 e2 ⟨fun _ => True, fun i H v H' => H' = H ∧ ∃ c, x.cps[i]? = some c ∧ v = .str ⟨#[c]⟩, ?_, fun _ _ => trivial, fun i H3 y H4 G3 s3 f3 q => ?_⟩⟩
  · rw [Array.length_toList]
    exact walk_str
  · obtain ⟨rfl, c, hc, rfl⟩ := q
    exact ⟨c, G3, by rw [Array.getElem?_toList]; exact hc, Ext.rfl' f3, rfl⟩
end
structure NmOk (n : Str) : Prop where
  l1 : 1 ≤ n.length
  l2 : n.length ≤ 8
  hd : ∃ c, atI n.cps.toList 0 = some c ∧ occS "abcdefghijklmnopqrstuvwxyz" ⟨#[c]⟩ = true
  all : n.cps.toList.all (fun c => occS "abcdefghijklmnopqrstuvwxyz" ⟨#[c]⟩ || occS "0123456789" ⟨#[c]⟩) = true
section
variable {P : Program} {w : World} {K : PySem.W.Frag} {mg : Str → Option Value} {base : Heap}
def spIsN (K : PySem.W.Frag) : Sp := spOf 0 (ι := Str) NmOk (fun n => [StrA n]) (fun _ => Is (.bl true))
theorem ok_is_name (T : Tx K mg) : Good P w K mg base 1 (ga K "is_name") ["name"] (spIsN K) := by
  refine good_of T.d_is_name sc_is_name (fun fd F => FunD.bindsN F fun _ _ _ _ _ _ us hl => match us, hl with | [_], _ => rfl) (fun vs H Q E h => ?_) (fun cdv A outer s H vs Q E hr h => ?_)
  · obtain ⟨i, G, _, _, _, al, _⟩ := h
    exact al_len al rfl
  · obtain ⟨i, G0, hC, nl, sG, al, k⟩ := h
    have hu := hu_of hr
    have hmin := hr.units
    have f0 : Fr none G0 H := .mk0 sG
    obtain ⟨v, rfl, e1⟩ := al1 al
    cases e1
    have hN : NmOk i := hC
    have hz : i.length ≤ sizeLine := sz_small (Nat.le_trans hN.l2 (by decide))
    obtain ⟨c0, hc0, hs0⟩ := hN.hd
    obtain ⟨_, v_LONGEST_NAME⟩ := T.v_LONGEST_NAME
    obtain ⟨_, v_SMALL⟩ := T.v_SMALL
    obtain ⟨_, v_FIGURES⟩ := T.v_FIGURES
    refine ⟨_, (pss_cons (ps_if (PW.pt (pw_or (pt_not (pt_chain op_le op_le pe_int (pe_callB call_len_str (by rfl) T.f_len PySem.boot_len (pa_cons (pv 0) pa_nil)) (pe_glob (v := .int 8) (by rfl) v_LONGEST_NAME ⟨_, rfl⟩))) (pw_or1 (pt_cmpR op_notIn_str (pe_ix ix_str (pv 0) pe_int (fun _ _ => rfl)) (pe_glob (v := .str "abcdefghijklmnopqrstuvwxyz") (by rfl) v_SMALL ⟨_, rfl⟩) (by rfl))))) (pss_one (ps_ret pe_bl)) pss_nil)
    (pss_one (ps_ret (pe_callB (cr_all rfl) (by rfl) T.f_all (by decide +kernel) (pa_cons (pe_lc (own := [("sign", 1)]) (g := (gName 1)) (by rfl) sc_is_name.nd (pi_str (pv 0)) (blkOk_by (N := N_is_name) (sc := defScope s_is_name) (by decide +kernel)) (fun _ _ _ _ _ => (pg_name (i := 1) sc_is_name.nd rfl (Or.inl rfl))) (fun _ _ _ _ _ => pts_nil) (fun _ _ _ _ _ => (pe_or (pe_cmpR op_in_str (pv 1) (pe_glob (v := .str "abcdefghijklmnopqrstuvwxyz") (by rfl) v_SMALL ⟨_, rfl⟩) (by rfl)) (pe_one (pe_cmpR op_in_str (pv 1) (pe_glob (v := .str "0123456789") (by rfl) v_FIGURES ⟨_, rfl⟩) (by rfl)))))) pa_nil))))), ?_⟩
    refine q_when f0 (et_or (et_not (et_test (ev_chain (i := 1) (j := (i.length : Nat)) (l := 8) (b := decide ((1 : Int) ≤ (i.length : Nat))) (c := decide (((i.length : Nat) : Int) ≤ 8)) ev_c (ev_lenS (ev_var rfl rfl) hz) (fun _ => ev_c) rfl fun _ => rfl))) fun _ => et_test (ev_ninS (ev_ixS (i := 0) (ev_var rfl rfl) ev_c hz hc0) ev_c)) (fun hb => ?_) fun _ G1 H1 x1 => ?_
    · have l1 := hN.l1
      have l2 := hN.l2
      rw [hs0, decide_eq_true (show (1 : Int) ≤ (i.length : Nat) by omega), decide_eq_true (show ((i.length : Nat) : Int) ≤ 8 by omega)] at hb
      cases hb
    · have hall := hN.all
      refine s_ret (P := Is (.bl true)) (.mk0 x1.sub) (ev_is (ev_all (φ := fun b : Bool => b) (ev_lcM (R' := fun b : Bool => Is (.bl b)) (fun c => occS "abcdefghijklmnopqrstuvwxyz" ⟨#[c]⟩ || occS "0123456789" ⟨#[c]⟩) (src_str (ev_var rfl rfl)) (by rw [Array.length_toList]; have := hN.l2; unfold Str.length at this; omega) fun c hc xv G' H' gw fr rx Q' k2 => ?_)) ?_) fun v G2 H2 x2 h2 => k v G2 H2 (x1.trans x2) h2
      · cases rx
        exact k2 ((wipe _ _).set 1 (some (.str ⟨#[c]⟩))) rfl (ev_orV (ev_inS (ev_var rfl rfl) ev_c) fun _ => ev_inS (ev_var rfl rfl) ev_c)
      · congr 2
        rw [List.all_map]
        exact hall
end
end MR
/-! in_order, ring_fault. -/
namespace MR
open PySem PySem.Spec PyProof.Rows L2 He
theorem paired_take {β γ : Type} {F : β → γ → Prop} : ∀ (i : Nat) {l : List β} {m : List γ}, Paired F l m → Paired F (l.take i) (m.take i)
  | 0, _, _, _ => .nil
  | _ + 1, _, _, .nil => .nil
  | i + 1, _, _, .cons a t => .cons a (paired_take i t)
section
variable {P : Program} {w : World} {K : PySem.W.Frag} {mg : Str → Option Value} {base : Heap} {M : Option Addr} {σ : L2.St} {G : Hp} {ta tb te : TE}
def ltS (a b : Str) : Bool := decide (a.cps.toList < b.cps.toList)
theorem ev_ltS {i j : Str} (h1 : Ev M ta σ G (Is (.str i))) (h2 : Ev M tb σ G (Is (.str j))) : Ev M (tOp (fun x y H Q => ∃ i j, x = .str i ∧ y = .str j ∧ Q (.bl (decide (i.cps.toList < j.cps.toList))) H) ta tb) σ G (Is (.bl (ltS i j))) :=
  ev_op h1 h2 fun G1 H1 x y _ f hx hy Q k => ⟨i, j, hx, hy, k _ G1 H1 (Ext.rfl' f) rfl⟩
def ordJ (m : Nm × Int × Nm × Int) : Nm × Int × Nm × Int := if ltS m.1 m.2.2.1 = true then m else (m.2.2.1, m.2.2.2, m.1, m.2.1)
def spIO (K : PySem.W.Frag) : Sp := spOf 0 (ι := Nm × Int × Nm × Int) (fun _ => True) (fun n => [JointA n]) (fun m => JointA (ordJ m))
theorem ok_in_order (T : Tx K mg) : Good P w K mg base 1 (ga K "in_order") ["meeting"] (spIO K) := by
  refine good_of T.d_in_order sc_in_order (fun fd F => FunD.bindsN F fun _ _ _ _ _ _ us hl => match us, hl with | [_], _ => rfl) (fun vs H Q E h => ?_) (fun cdv A outer s H vs Q E hr h => ?_)
  · obtain ⟨i, G, _, _, _, al, _⟩ := h
    exact al_len al rfl
  · obtain ⟨i, G0, hC, nl, sG, al, k⟩ := h
    have hu := hu_of hr
    have hmin := hr.units
    have f0 : Fr none G0 H := .mk0 sG
    obtain ⟨v, rfl, e1⟩ := al1 al
    obtain ⟨n, a, m, b⟩ := i
    dsimp only at k
    refine ⟨_, (pss_cons (ps_asg (pv 0) (pg_tup rfl (pgs_cons (pg_name (i := 1) sc_in_order.nd rfl (Or.inl rfl)) (pgs_cons (pg_name (i := 2) sc_in_order.nd rfl (Or.inl rfl)) (pgs_cons (pg_name (i := 3) sc_in_order.nd rfl (Or.inl rfl)) (pgs_cons (pg_name (i := 4) sc_in_order.nd rfl (Or.inl rfl)) pgs_nil))))))
    (pss_one (ps_ret (pe_ifExp (pt_cmpR op_lt_str (pv 1) (pv 3) (nomark _)) (pe_tup (pa_cons (pv 1) (pa_cons (pv 2) (pa_cons (pv 3) (pa_cons (pv 4) pa_nil))))) (pe_tup (pa_cons (pv 3) (pa_cons (pv 4) (pa_cons (pv 1) (pa_cons (pv 2) pa_nil))))))))), ?_⟩
    refine q_asgG f0 (ev_var rfl e1) fun v1 G1 H1 x1 h1 => tg4 h1 x1.sub fun v2 v3 v4 v5 h2 h3 h4 h5 => ?_
    refine s_ret (.mk0 x1.sub) (ev_if (et_test (ev_ltS (i := n) (j := m) (ev_var rfl h2) (ev_var rfl h4))) (fun hb => ?_) fun hb => ?_) fun v G2 H2 x2 h2 => k v G2 H2 (x1.trans x2) h2
    · have e : ordJ (n, a, m, b) = (n, a, m, b) := if_pos hb
      rw [e]
      exact ev_tup (ea_cons (ev_var rfl h2) (ea_cons (ev_var rfl h3) (ea_cons (ev_var rfl h4) (ea_cons (ev_var rfl h5) ea_nil))))
    · have e : ordJ (n, a, m, b) = (m, b, n, a) := if_neg (by rw [show ltS (n, a, m, b).1 (n, a, m, b).2.2.1 = ltS n m from rfl, hb]; exact Bool.false_ne_true)
      rw [e]
      exact ev_tup (ea_cons (ev_var rfl h4) (ea_cons (ev_var rfl h5) (ea_cons (ev_var rfl h2) (ea_cons (ev_var rfl h3) ea_nil))))
theorem ev_takeL {β : Type} {R : β → Hp → V → Prop} [∀ b, Mo (R b)] {ti : TE} {l : List β} {i : Nat} (h : Ev M te σ G (LsA R l)) (hi : Ev M ti σ G (Is (.int (i : Nat)))) : Ev M (tSl (rSlL K) te tNoPart (tPart ti)) σ G (LsA R (l.take i)) := fun G1 H1 e f Q k =>
  h G1 H1 e f _ fun x G2 H2 e2 hx => hi G2 H2 (e.trans e2.gw) (f.ext e2) _ fun y G3 H3 e3 hy => by
    cases hy
    obtain ⟨a, xs, rfl, h1, h2⟩ := hx
    have e23 := e2.trans e3
    refine ⟨_, rfl, a, xs, rfl, SqL.of (e3.sub _ _ (e3.gs _ _ h1)), fun p hp => ?_⟩
    have f3 := f.ext e23
    have ec : cutV xs none (some ((i : Nat) : Int)) = xs.take i := by
      unfold cutV
      rw [HT.sIx_nat, HT.sIx_none, List.drop_zero, Nat.sub_zero, ← List.take_take, List.take_of_length_le (Nat.le_refl xs.length)]
    rw [ec]
    refine k _ _ _ (e23.trans (Ext.new f3 hp fun _ _ z => by cases z)) ⟨p, _, rfl, upd_same, ?_⟩
    refine paired_take i (paired_imp (fun b u (z : R b G2 u) => Mo.up (P := R b) ((sm_up e3.gs).trans (up_new (f3.free hp))) z) h2)
theorem can_list {l : List PyData} (h : ∀ d, d ∈ l → PyData.canLay0 d = true ∧ d.depth ≤ 1) : SeqAt.shaped (.list l) = true := by
  unfold SeqAt.shaped
  have h1 : PyData.canLayAll0 l = true ∧ PyData.depthAll l ≤ 1 := by
    induction l with
    | nil => exact ⟨by rw [PyData.canLayAll0], by rw [PyData.depthAll]; omega⟩
    | cons x l ih =>
      have a := h x List.mem_cons_self
      have b := ih fun d hd => h d (List.mem_cons_of_mem _ hd)
      exact ⟨by rw [PyData.canLayAll0, a.1, b.1]; rfl, by rw [PyData.depthAll]; omega⟩
  rw [PyData.canLay0, h1.1, PyData.depth]
  simp
  omega
theorem ev_inD {β : Type} {R : β → Hp → V → Prop} [∀ b, Mo (R b)] {P : Hp → V → Prop} [Mo P] {l : List β} {D : β → PyData} {d : PyData} (hx : Ev M ta σ G P) (h : Ev M tb σ G (LsA R l)) (px : ∀ H v, P H v → Dp K H v d) (hD : ∀ b H v, R b H v → Dp K H v (D b)) (s1 : SeqAt.shaped d = true) (s2 : SeqAt.shaped (.list (l.map D)) = true) :
    Ev M (tOp (rInD K) ta tb) σ G (Is (.bl ((l.map D).any fun z => PyData.eqv z d))) := ev_op hx h fun G1 H1 x y _ f hx hy Q k => by
  obtain ⟨a, vs, rfl, h1, h2⟩ := mo_same (P := LsA R l) f.sub hy
  exact ⟨d, l.map D, px _ _ (mo_same f.sub hx), .lst (SqL.of h1) (dp_all (fun b v hb => hD b _ v hb) h2), s1, s2, k _ G1 H1 (Ext.rfl' f) rfl⟩
structure RingsOk (l : List (Nm × Int × Int)) : Prop where
  nm : ∀ r, r ∈ l → NmOk r.1
  nd : (l.map (·.1)).Nodup
  pos : ∀ r, r ∈ l → 1 ≤ r.2.1 ∧ 1 ≤ r.2.2
  one : 1 ≤ l.length
  few : l.length ≤ 12
  str : ∀ r, r ∈ l → PyData.strOk r.1 = true
def spRF (K : PySem.W.Frag) : Sp := spOf 0 (ι := List (Nm × Int × Int)) RingsOk (fun n => [LsA RingA n]) (fun _ => Is .non)
theorem ok_ring_fault (T : Tx K mg) : Good P w K mg base 2 (ga K "ring_fault") ["rings"] (spRF K) := by
  obtain ⟨⟨fd_is_name, G_is_name, b_is_name⟩, k_is_name⟩ := ok_is_name (P := P) (w := w) (base := base) T
  refine good_of T.d_ring_fault sc_ring_fault (fun fd F => FunD.bindsN F fun _ _ _ _ _ _ us hl => match us, hl with | [_], _ => rfl) (fun vs H Q E h => ?_) (fun cdv A outer s H vs Q E hr h => ?_)
  · obtain ⟨i, G, _, _, _, al, _⟩ := h
    exact al_len al rfl
  · obtain ⟨i, G0, hC, nl, sG, al, k⟩ := h
    have hu := hu_of hr
    have hmin := hr.units
    have f0 : Fr none G0 H := .mk0 sG
    have hmin1 : (A.deeper (envOfC "ring_fault" (defScope s_ring_fault) s.heap.objs.size (ga K "ring_fault") cdv)).units + 65 < cLine := by
      have := hr.un
      omega
    obtain ⟨v, rfl, e1⟩ := al1 al
    have hR : RingsOk i := hC
    obtain ⟨_, v_MOST_RINGS⟩ := T.v_MOST_RINGS
    refine ⟨_, (pss_cons (ps_setLc (i := 1) (own := [("name", 2), ("length", 3), ("step", 4)]) (g := (gTup K 3 (gCons (gName 2) (gCons (gName 3) (gCons (gName 4) gNil))))) (by rfl) sc_ring_fault.nd rfl rfl (sw_true rfl rfl rfl (by decide +kernel)) (pi_list (pv 0)) (blkOk_by (N := N_ring_fault) (sc := defScope s_ring_fault) (by decide +kernel)) (fun _ _ _ _ _ => (pg_tup rfl (pgs_cons (pg_name (i := 2) sc_ring_fault.nd rfl (Or.inl rfl)) (pgs_cons (pg_name (i := 3) sc_ring_fault.nd rfl (Or.inl rfl)) (pgs_cons (pg_name (i := 4) sc_ring_fault.nd rfl (Or.inl rfl)) pgs_nil))))) (fun _ _ _ _ _ => pts_nil) (fun _ _ _ _ _ => (pv 2)))
    (pss_cons (ps_for PassesOwn.never rfl (pi_enum (by rfl) T.f_enumerate (pa_cons (pv 0) pa_nil)) (pg_tup rfl (pgs_cons (pg_name (i := 5) sc_ring_fault.nd rfl (Or.inl rfl)) (pgs_cons (pg_name (i := 6) sc_ring_fault.nd rfl (Or.inl rfl)) pgs_nil)))
    (pss_cons (ps_asg (pv 6) (pg_tup rfl (pgs_cons (pg_name (i := 2) sc_ring_fault.nd rfl (Or.inl rfl)) (pgs_cons (pg_name (i := 3) sc_ring_fault.nd rfl (Or.inl rfl)) (pgs_cons (pg_name (i := 4) sc_ring_fault.nd rfl (Or.inl rfl)) pgs_nil)))))
    (pss_one (ps_if (PW.pt (pw_or (pt_not (pt_val (pe_call G_is_name (hr.mono (by decide)) (by rfl) T.g_is_name k_is_name b_is_name .nil pass0 (pa_cons (pv 2) pa_nil)))) (pw_or (pt_cmpR (op_inDK (K := K) (by rfl) hmin1) (pv 2) (pe_slice sl_list (pv 1) po_none (po_some (pv 5))) (by rfl)) (pw_or (pt_cmpR op_lt (pv 3) pe_int (nomark _)) (pw_or1 (pt_cmpR op_lt (pv 4) pe_int (nomark _))))))) (pss_one (ps_ret (pv 5))) pss_nil))))
    (pss_one (ps_ret (pe_ifExp (pt_chain op_le op_le pe_int (pe_callB call_len_seq (by rfl) T.f_len PySem.boot_len (pa_cons (pv 0) pa_nil)) (pe_glob (v := .int 12) (by rfl) v_MOST_RINGS ⟨_, rfl⟩)) pe_non (pe_callB call_len_seq (by rfl) T.f_len PySem.boot_len (pa_cons (pv 0) pa_nil))))))), ?_⟩
    refine q_asg (P := LsA StrA (i.map (·.1))) f0 (ev_lcM (R := RingA) (R' := StrA) (fun r : Nm × Int × Int => r.1) (src_lst (ev_var rfl e1)) (by have := hR.few; omega) fun r hr x G' H' g f rx Q k2 => tg3 rx f.sub fun v1 v2 v3 h1 h2 h3 => k2 _ rfl (ev_var rfl h1)) fun v1 G1 H1 x1 h1 => ?_
    refine q_for' (l := i.zipIdx) (R := fun b : (Nm × Int × Int) × Nat => TupP [Is (.int (b.2 : Nat)), RingA b.1]) (.mk0 x1.sub) (src_enum (ev_var rfl (mo_same x1.gs e1))) fun G2 H2 x2 => ?_
    refine ⟨fun j σ' H' => ∃ (s2 s3 s4 s5 s6 : Option V) (G : Hp), σ' = [some v, some v1, s2, s3, s4, s5, s6] ∧ Ext none G0 H G H' ∧ Gw G2 G, ⟨none, none, none, none, none, G2, rfl, x1.trans x2, Gw.rfl' _⟩, ?_, ?_, ?_⟩
    · rintro j σ' H' ⟨s2, s3, s4, s5, s6, G, rfl, X, gw⟩
      exact gw.gs.trans X.sub
    · rintro j ⟨⟨n, L, st⟩, ix⟩ σ1 H3 hq ⟨s2, s3, s4, s5, s6, G, rfl, X, gw⟩ xv H4 hy
      obtain ⟨G4, x4, rb⟩ := hy G gw (.mk0 X.sub)
      have hzi := List.getElem?_zipIdx (l := i) (i := 0) (j := j)
      rw [hq] at hzi
      obtain ⟨r, hr1, hr2⟩ := Option.map_eq_some_iff.mp hzi.symm
      cases hr2
      have hm : (n, L, st) ∈ i := List.mem_of_getElem? hr1
      refine tg2 rb x4.sub fun a1 a2 ha1 ha2 => ?_
      cases ha1
      refine q_asgG (.mk0 x4.sub) (ev_var rfl ha2) fun v6 G5 H5 x5 h5 => tg3 h5 x5.sub fun b1 b2 b3 hb1 hb2 hb3 => ?_
      cases hb1
      cases hb2
      cases hb3
      have X5 := (X.trans x4).trans x5
      have v1' := mo_same (P := LsA StrA (i.map (·.1))) (x2.gs.trans (gw.trans (x4.trans x5).gw).gs) h1
      have hp : 1 ≤ L ∧ 1 ≤ st := hR.pos _ hm
      have hnm : NmOk n := hR.nm _ hm
      have hst : PyData.strOk n = true := hR.str _ hm
      have nin : (((i.map (·.1)).take (0 + j)).map PyData.str).any (fun z => PyData.eqv z (.str n)) = false := by
        rw [Nat.zero_add]
        refine Bool.eq_false_iff.mpr fun z => ?_
        obtain ⟨d, hd, e⟩ := List.any_eq_true.mp z
        obtain ⟨m, hm2, rfl⟩ := List.mem_map.mp hd
        rw [PyData.eqv, str_beq] at e
        have e2 := of_decide_eq_true e
        subst e2
        refine take_nin hR.nd (j := j) (a := m) ?_ hm2
        rw [List.getElem?_map, hr1]
        rfl
      have shL : SeqAt.shaped (.list (((i.map (·.1)).take (0 + j)).map PyData.str)) = true := can_list fun d hd => by
        obtain ⟨m, hm2, rfl⟩ := List.mem_map.mp hd
        obtain ⟨r, hr, rfl⟩ := List.mem_map.mp (List.mem_of_mem_take hm2)
        have := hR.str r hr
        simp [PyData.canLay0, PyData.depth, this]
      have shS : SeqAt.shaped (.str n) = true := by
        unfold SeqAt.shaped
        simp [PyData.canLay0, PyData.depth, hst]
      refine s_when (.mk0 x5.sub) (et_or (et_not (et_B (ev_call (i := n) hnm (n := 0) trivial (ea_cons (P := StrA n) (ev_var rfl rfl) ea_nil)))) fun _ => et_or (et_test (ev_inD (P := StrA n) (R := StrA) (D := PyData.str) (d := .str n) (ev_var rfl rfl) (ev_takeL (R := StrA) (ev_var rfl v1') (ev_var rfl rfl)) (fun H v h => by cases h; exact .str _) (fun b H v h => by cases h; exact .str _) shS shL)) fun _ => et_or (et_test (b := decide (L < 1)) (ev_i0 (i := L) (j := 1) (ev_var rfl rfl) ev_c)) fun _ => et_test (b := decide (st < 1)) (ev_i0 (i := st) (j := 1) (ev_var rfl rfl) ev_c)) (fun hb => ?_) fun hb G6 H6 x6 => ⟨_, _, _, _, _, G6, rfl, X5.trans x6, gw.trans ((x4.trans x5).trans x6).gw⟩
      rw [nin, decide_eq_false (show ¬ L < 1 by omega), decide_eq_false (show ¬ st < 1 by omega)] at hb
      cases hb
    · rintro σ' H3 ⟨s2, s3, s4, s5, s6, G, rfl, X, gw⟩
      have o1 := hR.one
      have o2 := hR.few
      have el := ev_len (K := K) (ev_imp (ev_var (M := none) (σ := [some v, some v1, s2, s3, s4, s5, s6]) (i := 0) rfl (mo_same X.gs e1)) seqN_ls)
      refine s_ret (P := Is .non) (.mk0 X.sub) (ev_if (et_test (ev_chain (i := 1) (j := (i.length : Nat)) (l := 12) (b := decide ((1 : Int) ≤ (i.length : Nat))) (c := decide (((i.length : Nat) : Int) ≤ 12)) ev_c el (fun _ => ev_c) rfl fun _ => rfl)) (fun _ => ev_c) fun hb => ?_) fun v G2 H2 x2 h2 => k v G2 H2 (X.trans x2) h2
      rw [decide_eq_true (show (1 : Int) ≤ (i.length : Nat) by omega), decide_eq_true (show ((i.length : Nat) : Int) ≤ 12 by omega)] at hb
      cases hb
end
end MR
/-! meeting_fault. -/
namespace MR
open PySem PySem.Spec PyProof.Rows L2 He
abbrev Joint := Nm × Int × Nm × Int
def endsJ (l : List Joint) : List Pl := l.flatMap fun m => [(m.1, m.2.1), (m.2.2.1, m.2.2.2)]
def pairsJ (l : List Joint) : List (Nm × Nm) := l.flatMap fun m => [(m.1, m.2.2.1), (m.2.2.1, m.1)]
/-- the meetings are as a web takes them -/
structure MeetOk (lens : List (Nm × Int)) (l : List Joint) : Prop where
  at1 : ∀ m, m ∈ l → ∃ L, lk lens m.1 = some L ∧ 0 ≤ m.2.1 ∧ m.2.1 < L
  at2 : ∀ m, m ∈ l → ∃ L, lk lens m.2.2.1 = some L ∧ 0 ≤ m.2.2.2 ∧ m.2.2.2 < L
  ne : ∀ m, m ∈ l → m.1 ≠ m.2.2.1
  ends : (endsJ l).Nodup
  pairs : (pairsJ l).Nodup
  str : ∀ m, m ∈ l → PyData.strOk m.1 = true ∧ PyData.strOk m.2.2.1 = true
  few : l.length ≤ 150
section
variable {P : Program} {w : World} {K : PySem.W.Frag} {mg : Str → Option Value} {base : Heap}
abbrev PrA (p : Nm × Nm) : Hp → V → Prop := TupP [StrA p.1, StrA p.2]
def prD (p : Nm × Nm) : PyData := .tuple [.str p.1, .str p.2]
theorem pr_dp {p : Nm × Nm} {H : Hp} {v : V} (h : PrA p H v) : Dp K H v (prD p) := by
  obtain ⟨a, vs, rfl, h, al⟩ := h
  obtain ⟨_, _, rfl, h1, h2⟩ := al2 al
  cases h1
  cases h2
  exact .tup (SqT.of h) (.cons (.str _) (.cons (.str _) .nil))
theorem pr_eqv (p q : Nm × Nm) : PyData.eqv (prD p) (prD q) = decide (p = q) := by
  unfold prD
  rw [PyData.eqv, PyData.eqvAll, PyData.eqvAll, PyData.eqvAll, PyData.eqv, PyData.eqv, str_beq, str_beq]
  obtain ⟨a, i⟩ := p
  obtain ⟨b, j⟩ := q
  by_cases c1 : a = b
  · by_cases c2 : i = j <;> simp [c1, c2]
  · simp [c1]
theorem pr_ok {p : Nm × Nm} (h1 : PyData.strOk p.1 = true) (h2 : PyData.strOk p.2 = true) : PyData.canLay0 (prD p) = true ∧ (prD p).depth ≤ 1 := by
  unfold prD
  simp [PyData.canLay0, PyData.canLayAll0, PyData.depth, PyData.depthAll, h1, h2]
theorem plD_ok {p : Pl} (h1 : PyData.strOk p.1 = true) : PyData.canLay0 (plD p) = true ∧ (plD p).depth ≤ 1 := by
  unfold plD
  simp [PyData.canLay0, PyData.canLayAll0, PyData.depth, PyData.depthAll, h1]
theorem shaped_of {d : PyData} (h : PyData.canLay0 d = true ∧ d.depth ≤ 1) : SeqAt.shaped d = true := by
  unfold SeqAt.shaped
  rw [h.1]
  simp
  omega
theorem any_no {α : Type} [DecidableEq α] {D : α → PyData} (he : ∀ a b, PyData.eqv (D a) (D b) = decide (a = b)) {l : List α} {a : α} (h : a ∉ l) : ((l.map D).any fun z => PyData.eqv z (D a)) = false := by
  refine Bool.eq_false_iff.mpr fun z => ?_
  obtain ⟨d, hd, e⟩ := List.any_eq_true.mp z
  obtain ⟨m, hm, rfl⟩ := List.mem_map.mp hd
  rw [he] at e
  exact h (of_decide_eq_true e ▸ hm)
theorem ev_lstStar {M : Option Addr} {σ : L2.St} {G : Hp} {ta : TE} {t : TA} {β : Type} {R : β → Hp → V → Prop} [∀ b, Mo (R b)] {l : List β} {x y : β} (ha : Ev M ta σ G (LsA R l)) (h : EvA M t σ G [R x, R y]) (hl : l.length + 2 ≤ 100000) : Ev M (tLst (StX.tStar K ta t)) σ G (LsA R (l ++ [x, y])) := fun G1 H1 e f Q k =>
  ha G1 H1 e f _ fun v G2 H2 e2 hv => by
    obtain ⟨a, xs, rfl, h1, h2⟩ := hv
    refine ⟨a, xs, rfl, .inr (SqL.of (e2.sub _ _ h1)), h G2 H2 (e.trans e2.gw) (f.ext e2) _ fun ys G3 H3 e3 al => ?_⟩
    obtain ⟨y1, y2, rfl, p1, p2⟩ := al2 al
    have e23 := e2.trans e3
    have f3 := f.ext e23
    have n := paired_len h2
    refine ⟨sz_small (by rw [List.length_append, n]; exact hl), fun p hp => k _ _ _ (e23.trans (Ext.new f3 hp fun _ _ z => by cases z)) ⟨p, _, rfl, upd_same, ?_⟩⟩
    have u3 : Up G3 (upd G3 p (.lst (xs ++ [y1, y2]))) := up_new (f3.free hp)
    exact paired_app (paired_imp (fun b u (z : R b G2 u) => Mo.up (P := R b) ((sm_up e3.gs).trans u3) z) h2) (.cons (Mo.up u3 p1) (.cons (Mo.up u3 p2) .nil))
structure MfI where
  lens : List (Nm × Int)
  l : List Joint
def spMF (K : PySem.W.Frag) : Sp := spOf 0 (ι := MfI) (fun i => MeetOk i.lens i.l) (fun i => [DcK kN IntA i.lens, LsA JointA i.l]) (fun _ => Is .non)
theorem ok_meeting_fault (T : Tx K mg) : Good P w K mg base 1 (ga K "meeting_fault") ["lengths", "meetings"] (spMF K) := by
  refine good_of T.d_meeting_fault sc_meeting_fault (fun fd F => FunD.bindsN F fun _ _ _ _ _ _ us hl => match us, hl with | [_, _], _ => rfl) (fun vs H Q E h => ?_) (fun cdv A outer s H vs Q E hr h => ?_)
  · obtain ⟨i, G, _, _, _, al, _⟩ := h
    exact al_len al rfl
  · obtain ⟨i, G0, hC, nl, sG, al, k⟩ := h
    have hu := hu_of hr
    have hmin := hr.units
    have f0 : Fr none G0 H := .mk0 sG
    have hmin1 : (A.deeper (envOfC "meeting_fault" (defScope s_meeting_fault) s.heap.objs.size (ga K "meeting_fault") cdv)).units + 65 < cLine := by
      have := hr.un
      omega
    obtain ⟨v, u, rfl, e1, e2⟩ := al2 al
    obtain ⟨lens, l⟩ := i
    have hM : MeetOk lens l := hC
    dsimp only at e1 e2
    refine ⟨_, (pss_cons (ps_set (i := 2) sc_meeting_fault.nd rfl (Or.inl rfl) (pe_lst pa_nil))
    (pss_cons (ps_set (i := 3) sc_meeting_fault.nd rfl (Or.inl rfl) (pe_lst pa_nil))
    (pss_cons (ps_for PassesOwn.never rfl (pi_enum (by rfl) T.f_enumerate (pa_cons (pv 1) pa_nil)) (pg_tup rfl (pgs_cons (pg_name (i := 4) sc_meeting_fault.nd rfl (Or.inl rfl)) (pgs_cons (pg_name (i := 5) sc_meeting_fault.nd rfl (Or.inl rfl)) pgs_nil)))
    (pss_cons (ps_asg (pv 5) (pg_tup rfl (pgs_cons (pg_name (i := 6) sc_meeting_fault.nd rfl (Or.inl rfl)) (pgs_cons (pg_name (i := 7) sc_meeting_fault.nd rfl (Or.inl rfl)) (pgs_cons (pg_name (i := 8) sc_meeting_fault.nd rfl (Or.inl rfl)) (pgs_cons (pg_name (i := 9) sc_meeting_fault.nd rfl (Or.inl rfl)) pgs_nil))))))
    (pss_cons (ps_if (PW.pt (pw_or (pt_cmp (pc_dnotin hu (pv 6) (pv 0))) (pw_or (pt_cmp (pc_dnotin hu (pv 8) (pv 0))) (pw_or1 (pt_cmpR op_eq (pv 6) (pv 8) (nomark _)))))) (pss_one (ps_ret (pv 4))) pss_nil)
    (pss_cons (ps_if (PW.pt (pw_or (pt_not (pt_chain op_le op_lt pe_int (pv 7) (pe_dget hu (pv 0) (pv 6) (fun _ _ => rfl)))) (pw_or1 (pt_not (pt_chain op_le op_lt pe_int (pv 9) (pe_dget hu (pv 0) (pv 8) (fun _ _ => rfl))))))) (pss_one (ps_ret (pv 4))) pss_nil)
    (pss_cons (ps_if (PW.pt (pw_or (pt_cmpR (op_inDK (K := K) (by rfl) hmin1) (pe_tup (pa_cons (pv 6) (pa_cons (pv 7) pa_nil))) (pv 2) (by rfl)) (pw_or (pt_cmpR (op_inDK (K := K) (by rfl) hmin1) (pe_tup (pa_cons (pv 8) (pa_cons (pv 9) pa_nil))) (pv 2) (by rfl)) (pw_or1 (pt_cmpR (op_inDK (K := K) (by rfl) hmin1) (pe_tup (pa_cons (pv 6) (pa_cons (pv 8) pa_nil))) (pv 3) (by rfl)))))) (pss_one (ps_ret (pv 4))) pss_nil)
    (pss_cons (ps_set (i := 2) sc_meeting_fault.nd rfl (Or.inl rfl) (pe_lst (StX.pa_star (pv 2) (pa_cons (pe_tup (pa_cons (pv 6) (pa_cons (pv 7) pa_nil))) (pa_cons (pe_tup (pa_cons (pv 8) (pa_cons (pv 9) pa_nil))) pa_nil)))))
    (pss_one (ps_set (i := 3) sc_meeting_fault.nd rfl (Or.inl rfl) (pe_lst (StX.pa_star (pv 3) (pa_cons (pe_tup (pa_cons (pv 6) (pa_cons (pv 8) pa_nil))) (pa_cons (pe_tup (pa_cons (pv 8) (pa_cons (pv 6) pa_nil))) pa_nil))))))))))))
    (pss_one (ps_ret pe_non))))), ?_⟩
    refine q_asg (P := LsA PlA []) f0 (fun G1 H1 e f Q k => ⟨Nat.zero_le _, fun p hp => k _ _ _ (Ext.new f hp fun _ _ z => by cases z) ⟨p, [], rfl, upd_same, .nil⟩⟩) fun vp G1 H1 x1 hp1 => ?_
    refine q_asg (P := LsA PrA []) (.mk0 x1.sub) (fun G1 H1 e f Q k => ⟨Nat.zero_le _, fun p hp => k _ _ _ (Ext.new f hp fun _ _ z => by cases z) ⟨p, [], rfl, upd_same, .nil⟩⟩) fun vq G2 H2 x2 hq1 => ?_
    have X2 := x1.trans x2
    refine q_for' (l := l.zipIdx) (R := fun b : Joint × Nat => TupP [Is (.int (b.2 : Nat)), JointA b.1]) (.mk0 x2.sub) (src_enum (ev_var rfl (mo_same X2.gs e2))) fun G3 H3 x3 => ?_
    refine ⟨fun t σ' H' => ∃ (vp vq : V) (s4 s5 s6 s7 s8 s9 : Option V) (G : Hp), σ' = [some v, some u, some vp, some vq, s4, s5, s6, s7, s8, s9] ∧ Ext none G0 H G H' ∧ Gw G3 G ∧ LsA PlA (endsJ (l.take t)) G vp ∧ LsA PrA (pairsJ (l.take t)) G vq, ⟨vp, vq, none, none, none, none, none, none, G3, rfl, X2.trans x3, Gw.rfl' _, mo_same (x2.trans x3).gs hp1, mo_same x3.gs hq1⟩, ?_, ?_, ?_⟩
    · rintro j σ' H' ⟨vp, vq, s4, s5, s6, s7, s8, s9, G, rfl, X, gw, _⟩
      exact gw.gs.trans X.sub
    · rintro t ⟨⟨n, i, o, j⟩, ix⟩ σ1 Ha hq ⟨vp, vq, s4, s5, s6, s7, s8, s9, G, rfl, X, gw, hp, hq'⟩ xv Hb hy
      obtain ⟨G4, x4, rb⟩ := hy G gw (.mk0 X.sub)
      have hzi := List.getElem?_zipIdx (l := l) (i := 0) (j := t)
      rw [hq] at hzi
      obtain ⟨r, hr1, hr2⟩ := Option.map_eq_some_iff.mp hzi.symm
      cases hr2
      have hm : (n, i, o, j) ∈ l := List.mem_of_getElem? hr1
      have htl := (List.getElem?_eq_some_iff.mp hr1).1
      refine tg2 rb x4.sub fun a1 a2 ha1 ha2 => ?_
      cases ha1
      refine q_asgG (.mk0 x4.sub) (ev_var rfl ha2) fun v6 G5 H5 x5 h5 => tg4 h5 x5.sub fun b1 b2 b3 b4 hb1 hb2 hb3 hb4 => ?_
      cases hb1
      cases hb2
      cases hb3
      cases hb4
      have X5 := (X.trans x4).trans x5
      obtain ⟨L1, l1, i0, iL⟩ : ∃ L, lk lens n = some L ∧ 0 ≤ i ∧ i < L := hM.at1 _ hm
      obtain ⟨Lb, l2, j0, jL⟩ : ∃ L, lk lens o = some L ∧ 0 ≤ j ∧ j < L := hM.at2 _ hm
      have hne : n ≠ o := hM.ne _ hm
      obtain ⟨st1, st2⟩ : PyData.strOk n = true ∧ PyData.strOk o = true := hM.str _ hm
      have spl : l = l.take t ++ ((n, i, o, j) :: l.drop (t + 1)) := by
        have h2 := List.take_append_drop t l
        rw [List.drop_eq_getElem_cons htl, (List.getElem?_eq_some_iff.mp hr1).2] at h2
        exact h2.symm
      have ends_app : ∀ a b : List Joint, endsJ (a ++ b) = endsJ a ++ endsJ b := fun a b => List.flatMap_append
      have pairs_app : ∀ a b : List Joint, pairsJ (a ++ b) = pairsJ a ++ pairsJ b := fun a b => List.flatMap_append
      have d5 : DcK kN IntA lens G5 v := mo_same X5.gs e1
      have nE : (n, i) ∉ endsJ (l.take t) ∧ (o, j) ∉ endsJ (l.take t) := by
        have h := hM.ends
        rw [spl, ends_app] at h
        have h3 := (List.nodup_append.mp h).2.2
        exact ⟨fun z => h3 _ z _ List.mem_cons_self rfl, fun z => h3 _ z _ (List.mem_cons_of_mem _ List.mem_cons_self) rfl⟩
      have nP : (n, o) ∉ pairsJ (l.take t) := by
        have h := hM.pairs
        rw [spl, pairs_app] at h
        exact fun z => (List.nodup_append.mp h).2.2 _ z _ List.mem_cons_self rfl
      have few := hM.few
      have lenE : (endsJ (l.take t)).length ≤ 300 := by
        have : ∀ a : List Joint, (endsJ a).length = 2 * a.length := by
          intro a
          induction a with
          | nil => rfl
          | cons x a ih =>
            show ([(x.1, x.2.1), (x.2.2.1, x.2.2.2)] ++ endsJ a).length = _
            rw [List.length_append, ih, List.length_cons]
            simp
            omega
        rw [this, List.length_take]
        have := Nat.min_le_right t l.length
        omega
      have lenP : (pairsJ (l.take t)).length ≤ 300 := by
        have : ∀ a : List Joint, (pairsJ a).length = 2 * a.length := by
          intro a
          induction a with
          | nil => rfl
          | cons x a ih =>
            show ([(x.1, x.2.2.1), (x.2.2.1, x.1)] ++ pairsJ a).length = _
            rw [List.length_append, ih, List.length_cons]
            simp
            omega
        rw [this, List.length_take]
        have := Nat.min_le_right t l.length
        omega
      refine q_when (.mk0 x5.sub) (et_or (et_B (ev_ninK (R := IntA) kN_inj n (ev_var rfl rfl) (ev_var rfl d5))) fun _ => et_or (et_B (ev_ninK (R := IntA) kN_inj o (ev_var rfl rfl) (ev_var rfl d5))) fun _ => et_test (ev_eq (x := .str n) (y := .str o) (ev_var rfl rfl) (ev_var rfl rfl) rfl)) (fun hb => ?_) fun _ G6 H6 x6 => ?_
      · rw [l1, l2, decide_eq_false (show ¬ V.str n = V.str o from fun z => hne (V.str.inj z))] at hb
        cases hb
      have d6 := mo_same x6.gs d5
      refine q_when (.mk0 x6.sub) (et_or (et_not (et_test (ev_chain (i := 0) (j := i) (l := L1) (b := decide (0 ≤ i)) (c := decide (i < L1)) ev_c (ev_var rfl rfl) (fun _ => ev_getK (R := IntA) kN_inj n l1 (ev_var rfl d6) (ev_var rfl rfl)) rfl fun _ => rfl))) fun _ => et_not (et_test (ev_chain (i := 0) (j := j) (l := Lb) (b := decide (0 ≤ j)) (c := decide (j < Lb)) ev_c (ev_var rfl rfl) (fun _ => ev_getK (R := IntA) kN_inj o l2 (ev_var rfl d6) (ev_var rfl rfl)) rfl fun _ => rfl))) (fun hb => ?_) fun _ G7 H7 x7 => ?_
      · rw [decide_eq_true i0, decide_eq_true iL, decide_eq_true j0, decide_eq_true jL] at hb
        cases hb
      have gx : Same G G7 := ((x4.trans x5).trans (x6.trans x7)).gs
      have p7 := mo_same gx hp
      have q7 := mo_same gx hq'
      have pl : ∀ (σ : L2.St) (G : Hp) (a b : Nat) (m : Nm) (c : Int), σ[a]? = some (some (.str m)) → σ[b]? = some (some (.int c)) → Ev none (tTup (tCons (tVar a) (tCons (tVar b) tNil))) σ G (PlA (m, c)) := fun σ G a b m c h1 h2 => ev_imp (ev_tup (ea_cons (P := StrA m) (ev_var h1 rfl) (ea_cons (P := IntA c) (ev_var h2 rfl) ea_nil))) fun H v h => plA_of h
      have pr : ∀ (σ : L2.St) (G : Hp) (a b : Nat) (m c : Nm), σ[a]? = some (some (.str m)) → σ[b]? = some (some (.str c)) → Ev none (tTup (tCons (tVar a) (tCons (tVar b) tNil))) σ G (PrA (m, c)) := fun σ G a b m c h1 h2 => ev_tup (ea_cons (P := StrA m) (ev_var h1 rfl) (ea_cons (P := StrA c) (ev_var h2 rfl) ea_nil))
      have shE : SeqAt.shaped (.list ((endsJ (l.take t)).map plD)) = true := can_list fun d hd => by
        obtain ⟨p, hp, rfl⟩ := List.mem_map.mp hd
        obtain ⟨m, hm2, h⟩ := List.mem_flatMap.mp hp
        have st := hM.str m (List.mem_of_mem_take hm2)
        rcases List.mem_cons.mp h with rfl | h
        · exact plD_ok st.1
        · rw [List.mem_singleton] at h
          subst h
          exact plD_ok st.2
      have shP : SeqAt.shaped (.list ((pairsJ (l.take t)).map prD)) = true := can_list fun d hd => by
        obtain ⟨p, hp, rfl⟩ := List.mem_map.mp hd
        obtain ⟨m, hm2, h⟩ := List.mem_flatMap.mp hp
        have st := hM.str m (List.mem_of_mem_take hm2)
        rcases List.mem_cons.mp h with rfl | h
        · exact pr_ok st.1 st.2
        · rw [List.mem_singleton] at h
          subst h
          exact pr_ok st.2 st.1
      refine q_when (.mk0 x7.sub) (et_or (et_test (ev_inD (R := PlA) (D := plD) (d := plD (n, i)) (pl _ _ 6 7 n i rfl rfl) (ev_var rfl p7) (fun H v h => pl_dp (Same.refl _) h) (fun b H v h => pl_dp (Same.refl _) h) (shaped_of (plD_ok st1)) shE)) fun _ => et_or (et_test (ev_inD (R := PlA) (D := plD) (d := plD (o, j)) (pl _ _ 8 9 o j rfl rfl) (ev_var rfl p7) (fun H v h => pl_dp (Same.refl _) h) (fun b H v h => pl_dp (Same.refl _) h) (shaped_of (plD_ok st2)) shE)) fun _ => et_test (ev_inD (R := PrA) (D := prD) (d := prD (n, o)) (pr _ _ 6 8 n o rfl rfl) (ev_var rfl q7) (fun H v h => pr_dp h) (fun b H v h => pr_dp h) (shaped_of (pr_ok st1 st2)) shP)) (fun hb => ?_) fun _ G8 H8 x8 => ?_
      · rw [any_no pl_eqv nE.1, any_no pl_eqv nE.2, any_no pr_eqv nP] at hb
        cases hb
      have p8 := mo_same x8.gs p7
      have q8 := mo_same x8.gs q7
      refine q_asg (.mk0 x8.sub) (ev_lstStar (R := PlA) (x := (n, i)) (y := (o, j)) (ev_var rfl p8) (ea_cons (P := PlA (n, i)) (pl _ _ 6 7 n i rfl rfl) (ea_cons (P := PlA (o, j)) (pl _ _ 8 9 o j rfl rfl) ea_nil)) (by omega)) fun vp' G9 H9 x9 p9 => ?_
      refine s_asg (.mk0 x9.sub) (ev_lstStar (R := PrA) (x := (n, o)) (y := (o, n)) (ev_var rfl (mo_same x9.gs q8)) (ea_cons (P := PrA (n, o)) (pr _ _ 6 8 n o rfl rfl) (ea_cons (P := PrA (o, n)) (pr _ _ 8 6 o n rfl rfl) ea_nil)) (by omega)) fun vq' Gz Hz xz qz => ?_
      refine ⟨vp', vq', _, _, _, _, _, _, Gz, rfl, X5.trans (((x6.trans x7).trans (x8.trans x9)).trans xz), gw.trans ((x4.trans x5).trans (((x6.trans x7).trans (x8.trans x9)).trans xz)).gw, ?_, ?_⟩
      · rw [take_snoc hr1, ends_app]
        exact mo_same xz.gs p9
      · rw [take_snoc hr1, pairs_app]
        exact qz
    · rintro σ' Ha ⟨vp, vq, s4, s5, s6, s7, s8, s9, G, rfl, X, gw, _⟩
      exact s_ret (P := Is .non) (.mk0 X.sub) ev_c fun v G2 H2 x2 h2 => k v G2 H2 (X.trans x2) h2
end
end MR
/-! The mathematics of a web made of rings and meetings. -/
namespace MR
open PySem PySem.Spec PyProof.Rows L2 He
def endJ (m : Joint) : Pl × Pl := ((m.1, m.2.1), (m.2.2.1, m.2.2.2))
def endsP (jl : List Joint) : List (Pl × Pl) := jl.map endJ ++ (jl.map endJ).map fun q => (q.2, q.1)
theorem endsP_keys (jl : List Joint) : ((endsP jl).map (·.1)).Perm (endsJ jl) := by
  induction jl with
  | nil => exact List.Perm.refl _
  | cons m jl ih =>
    have e : (endsP (m :: jl)).map (·.1) = (m.1, m.2.1) :: ((jl.map endJ).map (·.1) ++ (m.2.2.1, m.2.2.2) :: ((jl.map endJ).map fun q => (q.2, q.1)).map (·.1)) := by
      unfold endsP
      simp [endJ]
    rw [e]
    have e2 : endsJ (m :: jl) = (m.1, m.2.1) :: (m.2.2.1, m.2.2.2) :: endsJ jl := rfl
    rw [e2]
    refine List.Perm.cons _ (List.perm_middle.trans (List.Perm.cons _ ?_))
    have e3 : (endsP jl).map (·.1) = (jl.map endJ).map (·.1) ++ ((jl.map endJ).map fun q => (q.2, q.1)).map (·.1) := by
      unfold endsP
      rw [List.map_append]
    rw [← e3]
    exact ih
theorem str_total {a b : Str} (h : a ≠ b) : (decide (a.cps.toList < b.cps.toList) = true ∧ decide (b.cps.toList < a.cps.toList) = false) ∨ (decide (a.cps.toList < b.cps.toList) = false ∧ decide (b.cps.toList < a.cps.toList) = true) := by
  have ne : a.cps.toList ≠ b.cps.toList := fun z => h (by
    obtain ⟨x⟩ := a
    obtain ⟨y⟩ := b
    congr 1
    exact Array.ext' z)
  by_cases c : a.cps.toList < b.cps.toList
  · exact .inl ⟨decide_eq_true c, decide_eq_false (List.lt_asymm c)⟩
  · refine .inr ⟨decide_eq_false c, decide_eq_true ?_⟩
    rcases List.le_iff_lt_or_eq.mp (List.not_lt.mp c) with d | d
    · exact d
    · exact absurd d.symm ne
theorem minPl_comm {p q : Pl} (h : p.1 ≠ q.1) : minPl p q = minPl q p := by
  have e : ∀ p q : Pl, p.1 ≠ q.1 → PySem.W.dataLt (plD p) (plD q) = decide (p.1.cps.toList < q.1.cps.toList) := fun p q h => by
    unfold plD
    rw [PySem.W.dataLt_pair (by rfl) (by rfl), show PyData.eqv (.str p.1) (.str q.1) = false from by rw [PyData.eqv, str_beq, decide_eq_false h], if_neg Bool.false_ne_true, PySem.W.dataLt_str]
  unfold minPl
  rw [e q p h.symm, e p q h]
  rcases str_total h with ⟨a, b⟩ | ⟨a, b⟩
  · rw [a, b, if_neg Bool.false_ne_true, if_pos rfl]
  · rw [a, b, if_pos rfl, if_neg Bool.false_ne_true]
theorem minPl_cases (p q : Pl) : minPl p q = p ∨ minPl p q = q := by
  unfold minPl
  split
  · exact .inr rfl
  · exact .inl rfl
structure Made (wd : WebD) : Prop where
  nd : wd.names.Nodup
  lens : ∀ r, r ∈ wd.rings → lk wd.lens r.1 = some r.2.1
  key : ∀ n, (lk wd.lens n).isSome = true → n ∈ wd.names
  pos : ∀ r, r ∈ wd.rings → 1 ≤ r.2.1 ∧ r.2.1 < 2 ^ 104
  step : ∀ n, n ∈ wd.names → ∃ s : Int, lk wd.steps n = some s ∧ s.natAbs < 2 ^ 104
  str : ∀ n, n ∈ wd.names → PyData.strOk n = true
  few : wd.rings.length ≤ 100
  mates : wd.mates = endsP wd.joints
  jfew : wd.joints.length ≤ 150
  at1 : ∀ m, m ∈ wd.joints → m.1 ∈ wd.names ∧ 0 ≤ m.2.1 ∧ m.2.1 < wd.len m.1
  at2 : ∀ m, m ∈ wd.joints → m.2.2.1 ∈ wd.names ∧ 0 ≤ m.2.2.2 ∧ m.2.2.2 < wd.len m.2.2.1
  ne : ∀ m, m ∈ wd.joints → m.1 ≠ m.2.2.1
  ends : (endsJ wd.joints).Nodup
section
variable {wd : WebD}
theorem Made.mnd (M : Made wd) : (wd.mates.map (·.1)).Nodup := by
  rw [M.mates]
  exact (endsP_keys wd.joints).nodup_iff.mpr M.ends
theorem Made.mate (M : Made wd) {p q : Pl} : lk wd.mates p = some q ↔ ∃ m, m ∈ wd.joints ∧ ((p, q) = endJ m ∨ (q, p) = endJ m) := by
  constructor
  · intro h
    have h := lk_mem h
    rw [M.mates] at h
    rcases List.mem_append.mp h with h | h
    · obtain ⟨m, hm, e⟩ := List.mem_map.mp h
      exact ⟨m, hm, .inl e.symm⟩
    · obtain ⟨r, hr, e⟩ := List.mem_map.mp h
      obtain ⟨m, hm, rfl⟩ := List.mem_map.mp hr
      cases e
      exact ⟨m, hm, .inr rfl⟩
  · rintro ⟨m, hm, e | e⟩
    · refine lk_of_mem M.mnd ?_
      rw [M.mates, e]
      exact List.mem_append_left _ (List.mem_map.mpr ⟨m, hm, rfl⟩)
    · refine lk_of_mem M.mnd ?_
      rw [M.mates]
      refine List.mem_append_right _ (List.mem_map.mpr ⟨endJ m, List.mem_map.mpr ⟨m, hm, rfl⟩, ?_⟩)
      rw [← e]
theorem Made.leneq (M : Made wd) {r : Nm × Int × Int} (hr : r ∈ wd.rings) : wd.len r.1 = r.2.1 := by
  unfold WebD.len
  rw [M.lens r hr]
  rfl
theorem Made.ok (M : Made wd) : WebOk wd.m where
  nd := M.nd
  pos := fun n hn => by
    obtain ⟨r, hr, rfl⟩ := List.mem_map.mp hn
    show 0 < wd.len r.1
    rw [M.leneq hr]
    have := (M.pos r hr).1
    omega
  mate_val := fun p q h => by
    obtain ⟨m, hm, e | e⟩ := M.mate.mp h
    · cases e
      exact ⟨M.at1 m hm, M.at2 m hm⟩
    · cases e
      exact ⟨M.at2 m hm, M.at1 m hm⟩
  mate_symm := fun p q h => by
    obtain ⟨m, hm, e⟩ := M.mate.mp h
    exact M.mate.mpr ⟨m, hm, e.symm⟩
  mate_ne := fun p q h => by
    obtain ⟨m, hm, e | e⟩ := M.mate.mp h
    · cases e
      exact M.ne m hm
    · cases e
      exact (M.ne m hm).symm
  told_none := fun p h => by
    show wd.told p = p
    unfold WebD.told
    rw [show lk wd.mates p = none from h]
  told_some := fun p q h => by
    show wd.told p = p ∨ wd.told p = q
    unfold WebD.told
    rw [show lk wd.mates p = some q from h]
    exact minPl_cases p q
  told_eq := fun p q h => by
    have hp : lk wd.mates p = some q := h
    have hn : p.1 ≠ q.1 ∧ lk wd.mates q = some p := by
      obtain ⟨m, hm, e⟩ := M.mate.mp hp
      refine ⟨?_, M.mate.mpr ⟨m, hm, e.symm⟩⟩
      rcases e with e | e
      · cases e
        exact M.ne m hm
      · cases e
        exact (M.ne m hm).symm
    show wd.told p = wd.told q
    unfold WebD.told
    rw [hp, hn.2]
    exact minPl_comm hn.1
noncomputable def farJ (wd : WebD) (m : Joint) : Pl := if wd.told (endJ m).1 = (endJ m).1 then (endJ m).2 else (endJ m).1
theorem far_nd (wd : WebD) : ∀ jl : List Joint, (endsJ jl).Nodup → (jl.map (farJ wd)).Nodup
  | [], _ => List.nodup_nil
  | m :: jl, h => by
    have e2 : endsJ (m :: jl) = (m.1, m.2.1) :: (m.2.2.1, m.2.2.2) :: endsJ jl := rfl
    rw [e2] at h
    have h1 := List.nodup_cons.mp h
    have h2 := List.nodup_cons.mp h1.2
    have fe : ∀ m : Joint, farJ wd m = (endJ m).1 ∨ farJ wd m = (endJ m).2 := fun m => by
      unfold farJ
      split
      · exact .inr rfl
      · exact .inl rfl
    have inE : ∀ jl : List Joint, ∀ p, p ∈ jl.map (farJ wd) → p ∈ endsJ jl := fun jl p hp => by
      obtain ⟨a, ha, rfl⟩ := List.mem_map.mp hp
      refine List.mem_flatMap.mpr ⟨a, ha, ?_⟩
      rcases fe a with e | e
      · rw [e]
        exact List.mem_cons_self
      · rw [e]
        exact List.mem_cons_of_mem _ List.mem_cons_self
    rw [List.map_cons]
    refine List.nodup_cons.mpr ⟨fun z => ?_, far_nd wd jl h2.2⟩
    have z' := inE jl _ z
    rcases fe m with e | e
    · rw [e] at z'
      exact h1.1 (List.mem_cons_of_mem _ z')
    · rw [e] at z'
      exact h2.1 z'
theorem filter_two {α : Type} (p : α → Bool) : ∀ l : List α, (l.filter p).length + (l.filter fun x => !p x).length = l.length
  | [] => rfl
  | x :: l => by
    have := filter_two p l
    rw [List.filter_cons, List.filter_cons, List.length_cons]
    cases p x
    · rw [if_neg Bool.false_ne_true, if_pos (show (!false) = true from rfl), List.length_cons]
      omega
    · rw [if_pos rfl, if_neg (by simp), List.length_cons]
      omega
open Classical in
theorem Made.cnt (M : Made wd) : (wd.rings.map (·.2.1)).sum - (wd.joints.length : Int) = ((spotsL wd.m).length : Nat) := by
  have o := M.ok
  have hall : ((allPl wd.m).length : Int) = (wd.rings.map (·.2.1)).sum := by
    have e : allPl wd.m = (wd.rings.map (·.1)).flatMap (ringPl wd.m) := rfl
    rw [e]
    have : ∀ l : List (Nm × Int × Int), (∀ r, r ∈ l → r ∈ wd.rings) → ((((l.map (·.1)).flatMap (ringPl wd.m)).length : Nat) : Int) = (l.map (·.2.1)).sum := by
      intro l
      induction l with
      | nil => intro _; rfl
      | cons r l ih =>
        intro h
        have hr := h r List.mem_cons_self
        have := ih fun x hx => h x (List.mem_cons_of_mem _ hx)
        rw [List.map_cons, List.flatMap_cons, List.length_append, List.map_cons, List.sum_cons, ← this]
        have e1 : ((ringPl wd.m r.1).length : Int) = r.2.1 := by
          unfold ringPl
          rw [List.length_map, List.length_range]
          have e2 : wd.m.len r.1 = r.2.1 := M.leneq hr
          rw [e2]
          have := (M.pos r hr).1
          omega
        omega
    exact this _ fun _ h => h
  have two := filter_two (fun p => decide (wd.m.told p = p)) (allPl wd.m)
  have nds := nodup_allPl o
  have perm : ((allPl wd.m).filter fun p => !decide (wd.m.told p = p)).Perm (wd.joints.map (farJ wd)) := by
    refine (List.perm_ext_iff_of_nodup (List.Nodup.sublist List.filter_sublist nds) (far_nd wd _ M.ends)).mpr fun p => ?_
    rw [List.mem_filter]
    constructor
    · rintro ⟨hp, hd⟩
      have ht' : ¬ wd.m.told p = p := by simpa using hd
      have ht : ¬ wd.told p = p := ht'
      cases c : wd.m.mate p with
      | none => exact absurd (o.told_none p c) ht
      | some q =>
        have tq : wd.told p = q := (o.told_some p q c).resolve_left ht
        have tqq : wd.told q = q := (o.told_eq p q c).symm.trans tq
        obtain ⟨m, hm, e | e⟩ := M.mate.mp (show lk wd.mates p = some q from c)
        · refine List.mem_map.mpr ⟨m, hm, ?_⟩
          unfold farJ
          rw [← e, if_neg ht]
        · refine List.mem_map.mpr ⟨m, hm, ?_⟩
          unfold farJ
          rw [← e, if_pos tqq]
    · intro h
      obtain ⟨m, hm, rfl⟩ := List.mem_map.mp h
      have c : wd.m.mate (endJ m).1 = some (endJ m).2 := M.mate.mpr ⟨m, hm, .inl rfl⟩
      have hv := o.mate_val _ _ c
      have ne : (endJ m).1 ≠ (endJ m).2 := fun z => M.ne m hm (congrArg Prod.fst z)
      unfold farJ
      by_cases d : wd.told (endJ m).1 = (endJ m).1
      · rw [if_pos d]
        refine ⟨mem_allPl.mpr hv.2, ?_⟩
        have e : wd.told (endJ m).2 = (endJ m).1 := (o.told_eq _ _ c).symm.trans d
        have : ¬ wd.m.told (endJ m).2 = (endJ m).2 := fun z => ne (e.symm.trans z)
        simpa using this
      · rw [if_neg d]
        exact ⟨mem_allPl.mpr hv.1, by simpa using (show ¬ wd.m.told (endJ m).1 = (endJ m).1 from d)⟩
  have pl := perm.length_eq
  rw [List.length_map] at pl
  have es : (spotsL wd.m).length = ((allPl wd.m).filter fun p => decide (wd.m.told p = p)).length := by
    unfold spotsL
    congr 2
  omega
theorem Made.good (M : Made wd) : WebGood wd where
  ok := M.ok
  len := fun n hn => by
    obtain ⟨r, hr, rfl⟩ := List.mem_map.mp hn
    rw [M.lens r hr, M.leneq hr]
  key := M.key
  step := M.step
  str := M.str
  big := fun n hn => by
    obtain ⟨r, hr, rfl⟩ := List.mem_map.mp hn
    rw [M.leneq hr]
    exact (M.pos r hr).2
  few := M.few
  mfew := by
    rw [M.mates]
    unfold endsP
    rw [List.length_append, List.length_map, List.length_map, List.length_map]
    have := M.jfew
    omega
  jfew := M.jfew
  mnd := M.mnd
  cnt := M.cnt
  jstr := fun m hm => ⟨M.str _ (M.at1 m hm).1, M.str _ (M.at2 m hm).1⟩
end
end MR
/-! A web made of rings and meetings: what __init__ makes is good; sorted, dict of pairs. -/
namespace MR
open PySem PySem.Spec PyProof.Rows L2 He
theorem endsJ_cons (m : Joint) (l : List Joint) : endsJ (m :: l) = (m.1, m.2.1) :: (m.2.2.1, m.2.2.2) :: endsJ l := rfl
theorem ordJ_cases (m : Joint) : ordJ m = m ∨ ordJ m = (m.2.2.1, m.2.2.2, m.1, m.2.1) := by
  unfold ordJ
  split
  · exact .inl rfl
  · exact .inr rfl
theorem endsJ_ord : ∀ l : List Joint, (endsJ (l.map ordJ)).Perm (endsJ l)
  | [] => .refl _
  | m :: l => by
    rw [List.map_cons, endsJ_cons, endsJ_cons]
    rcases ordJ_cases m with e | e
    · rw [e]
      exact ((endsJ_ord l).cons _).cons _
    · rw [e]
      exact (((endsJ_ord l).cons _).cons _).trans (.swap _ _ _)
theorem endsJ_perm {l l' : List Joint} (p : l.Perm l') : (endsJ l).Perm (endsJ l') := p.flatMap_right _
structure WiI where
  rings : List (Nm × Int × Int)
  meets : List Joint
def lensOf (l : List (Nm × Int × Int)) : List (Nm × Int) := l.map fun r => (r.1, r.2.1)
structure WiOk (i : WiI) : Prop where
  r : RingsOk i.rings
  m : MeetOk (lensOf i.rings) i.meets
  big : ∀ r, r ∈ i.rings → r.2.1 < 2 ^ 104
def ringW (r : Nm × Int × Int) : Nm × Int × Int := (r.1, r.2.1, r.2.2 % r.2.1)
theorem lens_at {l : List (Nm × Int × Int)} (nd : (l.map (·.1)).Nodup) {r : Nm × Int × Int} (h : r ∈ l) : lk (lensOf l) r.1 = some r.2.1 := by
  refine lk_of_mem ?_ (List.mem_map.mpr ⟨r, h, rfl⟩)
  unfold lensOf
  rw [List.map_map]
  exact nd
theorem lens_mem {l : List (Nm × Int × Int)} {n : Nm} {L : Int} (h : lk (lensOf l) n = some L) : ∃ r, r ∈ l ∧ r.1 = n ∧ r.2.1 = L := by
  obtain ⟨r, hr, e⟩ := List.mem_map.mp (lk_mem h)
  cases e
  exact ⟨r, hr, rfl, rfl⟩
/-- what __init__ makes -/
def wdOf (i : WiI) (rl : List (Nm × Int × Int)) (jl : List Joint) : WebD := ⟨rl, jl, lensOf i.rings, rl.map fun r => (r.1, r.2.2), endsP jl⟩
theorem made_of {i : WiI} (h : WiOk i) {rl : List (Nm × Int × Int)} {jl : List Joint} (p : rl.Perm (i.rings.map ringW)) (q : jl.Perm (i.meets.map ordJ)) : Made (wdOf i rl jl) := by
  have pn : (rl.map (·.1)).Perm (i.rings.map (·.1)) := by
    have := p.map (·.1)
    rw [List.map_map] at this
    exact this
  have ndn : (rl.map (·.1)).Nodup := pn.nodup_iff.mpr h.r.nd
  have mem : ∀ r, r ∈ rl → ∃ s, s ∈ i.rings ∧ r = ringW s := fun r hr => by
    obtain ⟨s, hs, e⟩ := List.mem_map.mp (p.mem_iff.mp hr)
    exact ⟨s, hs, e.symm⟩
  have nmem : ∀ {n : Nm}, n ∈ i.rings.map (·.1) → n ∈ (wdOf i rl jl).names := fun hn => pn.mem_iff.mpr hn
  have lenE : ∀ {n : Nm} {L : Int}, lk (lensOf i.rings) n = some L → n ∈ (wdOf i rl jl).names ∧ (wdOf i rl jl).len n = L := fun {n L} e => by
    obtain ⟨r, hr, rfl, rfl⟩ := lens_mem e
    refine ⟨nmem (List.mem_map.mpr ⟨r, hr, rfl⟩), ?_⟩
    show (lk (lensOf i.rings) r.1).getD 0 = r.2.1
    rw [lens_at h.r.nd hr]
    rfl
  have jm : ∀ m, m ∈ jl → ∃ s, s ∈ i.meets ∧ (m = s ∨ m = (s.2.2.1, s.2.2.2, s.1, s.2.1)) := fun m hm => by
    obtain ⟨s, hs, e⟩ := List.mem_map.mp (q.mem_iff.mp hm)
    refine ⟨s, hs, ?_⟩
    rcases ordJ_cases s with c | c
    · exact .inl (e.symm.trans c)
    · exact .inr (e.symm.trans c)
  have w1 : ∀ s, s ∈ i.meets → s.1 ∈ (wdOf i rl jl).names ∧ 0 ≤ s.2.1 ∧ s.2.1 < (wdOf i rl jl).len s.1 := fun s hs => by
    obtain ⟨L, e, a, b⟩ := h.m.at1 s hs
    obtain ⟨c, d⟩ := lenE e
    exact ⟨c, a, by rw [d]; exact b⟩
  have w2 : ∀ s, s ∈ i.meets → s.2.2.1 ∈ (wdOf i rl jl).names ∧ 0 ≤ s.2.2.2 ∧ s.2.2.2 < (wdOf i rl jl).len s.2.2.1 := fun s hs => by
    obtain ⟨L, e, a, b⟩ := h.m.at2 s hs
    obtain ⟨c, d⟩ := lenE e
    exact ⟨c, a, by rw [d]; exact b⟩
  exact {
    nd := ndn
    lens := fun r hr => by
      obtain ⟨s, hs, rfl⟩ := mem r hr
      exact lens_at (r := s) h.r.nd hs
    key := fun n hn => by
      obtain ⟨L, e⟩ := Option.isSome_iff_exists.mp hn
      exact (lenE e).1
    pos := fun r hr => by
      obtain ⟨s, hs, rfl⟩ := mem r hr
      exact ⟨(h.r.pos s hs).1, h.big s hs⟩
    step := fun n hn => by
      obtain ⟨r, hr, rfl⟩ := List.mem_map.mp hn
      refine ⟨r.2.2, lk_of_mem ?_ (List.mem_map.mpr ⟨r, hr, rfl⟩), ?_⟩
      · show ((rl.map fun r => (r.1, r.2.2)).map (·.1)).Nodup
        rw [List.map_map]
        exact ndn
      · obtain ⟨s, hs, rfl⟩ := mem r hr
        have a := (h.r.pos s hs).1
        have b := h.big s hs
        have c := Int.emod_nonneg s.2.2 (show s.2.1 ≠ 0 by omega)
        have d := Int.emod_lt_of_pos s.2.2 (show 0 < s.2.1 by omega)
        show (s.2.2 % s.2.1).natAbs < 2 ^ 104
        omega
    str := fun n hn => by
      obtain ⟨r, hr, rfl⟩ := List.mem_map.mp hn
      obtain ⟨s, hs, rfl⟩ := mem r hr
      exact h.r.str s hs
    few := by
      have a := p.length_eq
      rw [List.length_map] at a
      have := h.r.few
      show rl.length ≤ 100
      omega
    mates := rfl
    jfew := by
      have a := q.length_eq
      rw [List.length_map] at a
      have := h.m.few
      show jl.length ≤ 150
      omega
    at1 := fun m hm => by
      obtain ⟨s, hs, rfl | rfl⟩ := jm m hm
      · exact w1 _ hs
      · exact w2 _ hs
    at2 := fun m hm => by
      obtain ⟨s, hs, rfl | rfl⟩ := jm m hm
      · exact w2 _ hs
      · exact w1 _ hs
    ne := fun m hm => by
      obtain ⟨s, hs, rfl | rfl⟩ := jm m hm
      · exact h.m.ne _ hs
      · exact (h.m.ne _ hs).symm
    ends := (((endsJ_perm q).trans (endsJ_ord i.meets)).nodup_iff).mpr h.m.ends }
/-- the rings are the web's -/
structure WebFor (wd : WebD) (rl : List (Nm × Int × Int)) : Prop where
  good : WebGood wd
  at_ : ∀ r, r ∈ rl → r.1 ∈ wd.names ∧ wd.len r.1 = r.2.1
  one : 1 ≤ wd.names.length
  few : wd.names.length ≤ 12
theorem made_for {i : WiI} (h : WiOk i) {rl : List (Nm × Int × Int)} {jl : List Joint} (p : rl.Perm (i.rings.map ringW)) (q : jl.Perm (i.meets.map ordJ)) : WebFor (wdOf i rl jl) i.rings := by
  have M := made_of h p q
  have hl : (wdOf i rl jl).names.length = i.rings.length := by
    show (rl.map (·.1)).length = _
    rw [List.length_map, p.length_eq, List.length_map]
  refine ⟨M.good, fun r hr => ?_, by rw [hl]; exact h.r.one, by rw [hl]; exact h.r.few⟩
  have hm : ringW r ∈ rl := p.mem_iff.mpr (List.mem_map.mpr ⟨r, hr, rfl⟩)
  exact ⟨List.mem_map.mpr ⟨_, hm, rfl⟩, M.leneq (r := ringW r) hm⟩
section
variable {P : Program} {w : World} {K : PySem.W.Frag} {mg : Str → Option Value} {base : Heap} {M : Option Addr} {σ : L2.St} {G H : Hp} {te : TE} {β : Type} {R : β → Hp → V → Prop}
/-- sorted(xs): some arrangement -/
theorem ev_sortD [∀ b, Mo (R b)] {l : List β} {D : β → PyData} (h : Ev M te σ G (LsA R l)) (hD : ∀ b H H' v, Same H H' → R b H v → Dp K H' v (D b)) (ha : PySem.W.AllAlike (l.map D)) (hs : PySem.W.Sortable (l.map D)) (hd : ∀ d, d ∈ l.map D → d.depth ≤ 60) :
    Ev M (tCB (rSortD K) (tCons te tNil)) σ G fun H v => ∃ l', LsA R l' H v ∧ l'.Perm l := fun G1 H1 e f Q k => h G1 H1 e f _ fun v G2 H2 e2 p => by
  obtain ⟨a, vs, rfl, h1, h2⟩ := p
  have f2 := f.ext e2
  refine ⟨a, vs, l.map D, rfl, SqL.of (e2.sub _ _ h1), dpa_all (fun b v hb => hD b _ _ v e2.sub hb) h2, ha, hs, hd, fun ys p pm hp => ?_⟩
  obtain ⟨l', pl, pr⟩ := paired_perm pm.symm h2
  refine k _ _ _ (e2.trans (Ext.new f2 hp fun _ _ z => by cases z)) ⟨l', ⟨p, ys, rfl, upd_same, ?_⟩, pl.symm⟩
  exact paired_imp (fun b u (z : R b G2 u) => Mo.up (P := R b) (up_new (f2.free hp)) z) pr
theorem ev_tupleX [∀ b, Mo (R b)] {Φ : List β → Prop} (h : Ev M te σ G fun H v => ∃ l, LsA R l H v ∧ Φ l) : Ev M (tCB (fun xs H Q => ∃ p ys, xs = [.ref p] ∧ ((SqL K H p ys ∧ ∀ l, H l = none → Q (.ref l) (upd H l (.tup ys))) ∨ (SqT K H p ys ∧ Q (.ref p) H))) (tCons te tNil)) σ G fun H v => ∃ l, TuA R l H v ∧ Φ l := fun G1 H1 e f Q k =>
  h G1 H1 e f _ fun v G2 H2 e2 p => by
    obtain ⟨l, ⟨a, vs, rfl, h1, h2⟩, hφ⟩ := p
    refine ⟨a, vs, rfl, .inl ⟨SqL.of (e2.sub _ _ h1), fun q hq => k _ _ _ (e2.trans (Ext.new (f.ext e2) hq fun _ _ z => by cases z)) ⟨l, ⟨q, vs, rfl, upd_same, ?_⟩, hφ⟩⟩⟩
    exact paired_imp (fun b u (z : R b G2 u) => Mo.up (P := R b) (up_new ((f.ext e2).free hq)) z) h2
abbrev EndA (q : Pl × Pl) : Hp → V → Prop := TupP [PlA q.1, PlA q.2]
theorem pairs_of {G H : Hp} (s : Same G H) : ∀ {l : List (Pl × Pl)} {vs : List V}, Paired (fun q u => EndA q G u) l vs → ∃ (ps : List Addr) (kvs : List (List Key × V)), vs = ps.map V.ref ∧ Paired (PairT K H) ps kvs ∧ DR pk (fun b u => PlA b G u) l kvs
  | _, _, .nil => ⟨[], [], rfl, .nil, .nil⟩
  | _, _, .cons a t => by
    obtain ⟨ps, kvs, rfl, h1, h2⟩ := pairs_of s t
    obtain ⟨p, us, rfl, hp, al⟩ := a
    obtain ⟨u1, u2, rfl, q1, q2⟩ := al2 al
    obtain ⟨b, rfl, hb⟩ := q1
    exact ⟨p :: ps, (pk _, u2) :: kvs, rfl, .cons ⟨b, SqT.of (s _ _ hp), s _ _ hb⟩ h1, .cons ⟨rfl, q2⟩ h2⟩
theorem merge_DR {R : Pl → V → Prop} : ∀ {l : List (Pl × Pl)} {kvs : List (List Key × V)}, DR pk R l kvs → ∀ {acc : List (Pl × Pl)} {akv : List (List Key × V)}, DR pk R acc akv → DR pk R (l.foldl (fun t q => pt t q.1 q.2) acc) (mergeT akv kvs)
  | _, _, .nil, _, _, r => r
  | x :: l, q :: kvs, .cons a t, acc, akv, r => by
    have e := DR.put pk_inj r (k := x.1) a.2
    rw [← a.1] at e
    exact merge_DR t e
/-- dict(pairs) -/
theorem ev_dictP {l : List (Pl × Pl)} (h : Ev M te σ G (LsA EndA l)) : Ev M (tCB (rDictPT K) (tCons te tNil)) σ G (DcT PlA (mkT l)) := fun G1 H1 e f Q k => h G1 H1 e f _ fun v G2 H2 e2 p => by
  obtain ⟨a, vs, rfl, h1, h2⟩ := p
  have f2 := f.ext e2
  obtain ⟨ps, kvs, rfl, p1, p2⟩ := pairs_of (K := K) e2.sub h2
  refine ⟨a, ps, kvs, rfl, SqL.of (e2.sub _ _ h1), p1, fun q hq => ?_⟩
  refine k _ _ _ (e2.trans (Ext.new f2 hq fun _ _ z => by cases z)) ⟨q, _, rfl, .inl upd_same, ?_⟩
  exact DR.mo (up_new (f2.free hq)) (merge_DR p2 .nil)
/-- xs + ys -/
theorem ev_cat {tb : TE} [∀ b, Mo (R b)] {l l' : List β} (h : Ev M te σ G (LsA R l)) (h' : Ev M tb σ G (LsA R l')) (hl : l.length + l'.length ≤ 100000) : Ev M (tOp rCat te tb) σ G (LsA R (l ++ l')) :=
  ev_op h h' fun G1 H1 x y _ f hx hy Q k => by
    obtain ⟨a, xs, rfl, h1, h2⟩ := hx
    obtain ⟨b, ys, rfl, h3, h4⟩ := hy
    refine ⟨a, b, xs, ys, rfl, rfl, f.sub _ _ h1, f.sub _ _ h3, sz_small (by rw [paired_len h2, paired_len h4]; exact hl), fun p hp => ?_⟩
    have u := up_new (o := .lst (xs ++ ys)) (f.free hp)
    exact k _ _ _ (Ext.new f hp fun _ _ z => by cases z) ⟨p, _, rfl, upd_same, paired_app (paired_imp (fun b u' (z : R b G1 u') => Mo.up (P := R b) u z) h2) (paired_imp (fun b u' (z : R b G1 u') => Mo.up (P := R b) u z) h4)⟩
/-- name = e, where self is known while e is asked -/
theorem q_asgS {P : Hp → V → Prop} {D : Ends} {tz : TS} {x C dx : Addr} {fs : List (Str × V)} {i : Nat} [MoD P] (f : Fr M G H) (hx : H x = some (.ins C dx fs)) (g : G x = none) (nM : M ≠ some x) (hv : Ev M te σ (upd G x (.ins C dx fs)) P)
    (k : ∀ v G1 H1, Ext M G H G1 H1 → P G1 v → G1 x = none → H1 x = some (.ins C dx fs) → tz D (σ.set i (some v)) H1) : tSeq (tAsg te (gName i)) tz D σ H := hv _ H (Gw.rfl' _) (f.add hx nM) _ fun v G1 H1 e p =>
  k v (del G1 x) H1 (e.hide g) (MoD.up (updD_del (e.gs _ _ upd_same)) p) del_same (e.same _ _ nM hx)
end
end MR
/-! Web.__init__. -/
namespace MR
open PySem PySem.Spec PyProof.Rows L2 He
section
variable {P : Program} {w : World} {K : PySem.W.Frag} {mg : Str → Option Value} {base : Heap}
def WebX (K : PySem.W.Frag) (rl : List (Nm × Int × Int)) : Hp → V → Prop := fun H v => ∃ wd, WebA K wd H v ∧ WebFor wd rl
instance {rl : List (Nm × Int × Int)} : Mo (WebX K rl) := ⟨fun e ⟨wd, h, q⟩ => ⟨wd, Mo.up e h, q⟩⟩
def spWebI (K : PySem.W.Frag) : Sp := spIni 2 (ga K "Web") (ι := WiI) WiOk (fun i => [LsA RingA i.rings, LsA JointA i.meets]) (fun i => WebX K i.rings)
/-- what is known of self halfway -/
def SelfR (K : PySem.W.Frag) (x dx : Addr) (fs : List (Str × V)) (rl : List (Nm × Int × Int)) : Hp → V → Prop := fun H v => ∃ u, v = .ref x ∧ H x = some (.ins (ga K "Web") dx fs) ∧ fs.lookup ("rings" : Str) = some u ∧ TuA RingA rl H u
instance {x dx : Addr} {fs : List (Str × V)} {rl : List (Nm × Int × Int)} : Mo (SelfR K x dx fs rl) := ⟨fun e ⟨u, h1, h2, h3, h4⟩ => ⟨u, h1, e.ins h2, h3, Mo.up e h4⟩⟩
def SelfJ (K : PySem.W.Frag) (x dx : Addr) (fs : List (Str × V)) (jl : List Joint) : Hp → V → Prop := fun H v => ∃ u, v = .ref x ∧ H x = some (.ins (ga K "Web") dx fs) ∧ fs.lookup ("joints" : Str) = some u ∧ TuA JointA jl H u
instance {x dx : Addr} {fs : List (Str × V)} {jl : List Joint} : Mo (SelfJ K x dx fs jl) := ⟨fun e ⟨u, h1, h2, h3, h4⟩ => ⟨u, h1, e.ins h2, h3, Mo.up e h4⟩⟩
theorem fs_rings (T : Tx K mg) {x dx : Addr} {fs : List (Str × V)} {rl : List (Nm × Int × Int)} : Fd K "rings" (SelfR K x dx fs rl) (TuA RingA rl) := fun H v ⟨u, h1, h2, h3, h4⟩ => ⟨x, _, dx, fs, u, h1, h2, T.c_Web, T.n_Web_rings, h3, h4⟩
theorem fs_joints (T : Tx K mg) {x dx : Addr} {fs : List (Str × V)} {jl : List Joint} : Fd K "joints" (SelfJ K x dx fs jl) (TuA JointA jl) := fun H v ⟨u, h1, h2, h3, h4⟩ => ⟨x, _, dx, fs, u, h1, h2, T.c_Web, T.n_Web_joints, h3, h4⟩
theorem alikeR (l : List (Nm × Int × Int)) : PySem.W.AllAlike (l.map ringD) := fun d hd e he => by
  obtain ⟨a, _, rfl⟩ := List.mem_map.mp hd
  obtain ⟨b, _, rfl⟩ := List.mem_map.mp he
  rfl
theorem alikeJ (l : List Joint) : PySem.W.AllAlike (l.map jointD) := fun d hd e he => by
  obtain ⟨a, _, rfl⟩ := List.mem_map.mp hd
  obtain ⟨b, _, rfl⟩ := List.mem_map.mp he
  rfl
theorem ok_WebU_initU (T : Tx K mg) : Good P w K mg base 3 (ma K (ga K "Web") "__init__") ["self", "rings", "meetings"] (spWebI K) := by
  obtain ⟨⟨fd_ring_fault, G_ring_fault, b_ring_fault⟩, k_ring_fault⟩ := ok_ring_fault (P := P) (w := w) (base := base) T
  obtain ⟨⟨fd_meeting_fault, G_meeting_fault, b_meeting_fault⟩, k_meeting_fault⟩ := ok_meeting_fault (P := P) (w := w) (base := base) T
  obtain ⟨⟨fd_in_order, G_in_order, b_in_order⟩, k_in_order⟩ := ok_in_order (P := P) (w := w) (base := base) T
  refine good_of T.d_WebU_initU sc_WebU_initU (fun fd F => binds_dfl F fun T _ _ _ _ _ _ us its hl hi => match us, hl, its, hi with | [_, _, _], _, [_], _ => ⟨_, rfl, rfl⟩) (fun vs H Q E h => ?_) (fun cdv A outer s H vs Q E hr h => ?_)
  · obtain ⟨i, G, x, dx, rest, rfl, _, _, _, _, _, al, _⟩ := h
    exact congrArg Nat.succ (al_len al rfl)
  · obtain ⟨i, G0, x, dx, rest, rfl, hx, g0, hC, nl, sG, al, k⟩ := h
    have hu := hu_of hr
    have hmin := hr.units
    obtain ⟨v1, v2, rfl, e1, e2⟩ := al2 al
    obtain ⟨rings, meets⟩ := i
    dsimp only at e1 e2 k
    have hR : RingsOk rings := hC.r
    have hM : MeetOk (lensOf rings) meets := hC.m
    have fewR := hR.few
    have fewM := hM.few
    have X0 : Ext none G0 (del H x) G0 H := ini_start sG g0
    have f0 : Fr none G0 H := .mk0 sG
    have nM : (none : Option Addr) ≠ some x := fun z => by cases z
    refine ⟨_, (pss_cons (ps_set (i := 3) sc_WebU_initU.nd rfl (Or.inl rfl) (pe_call G_ring_fault (hr.mono (by decide)) (by rfl) T.g_ring_fault k_ring_fault b_ring_fault .nil pass0 (pa_cons (pv 1) pa_nil)))
    (pss_cons (ps_if (pt_cmpR op_notN1 (pv 3) pe_non (nomark _)) (pss_one ps_never) pss_nil)
    (pss_cons (ps_setDcx (i := 4) (own := [("name", 5), ("length", 6), ("step", 7)]) (g := (gTup K 3 (gCons (gName 5) (gCons (gName 6) (gCons (gName 7) gNil))))) (by rfl) sc_WebU_initU.nd rfl rfl (swD_true rfl rfl rfl (by decide +kernel)) (pi_list (pv 1)) (blkOk_by (N := N_WebU_initU) (sc := defScope s_WebU_initU) (by decide +kernel)) (fun _ _ _ _ _ => (pg_tup rfl (pgs_cons (pg_name (i := 5) sc_WebU_initU.nd rfl (Or.inl rfl)) (pgs_cons (pg_name (i := 6) sc_WebU_initU.nd rfl (Or.inl rfl)) (pgs_cons (pg_name (i := 7) sc_WebU_initU.nd rfl (Or.inl rfl)) pgs_nil))))) (fun _ _ _ _ _ => pts_nil) (fun _ _ _ _ _ => (pv 5)) (fun _ _ _ _ _ => (pv 6)))
    (pss_cons (ps_set (i := 3) sc_WebU_initU.nd rfl (Or.inl rfl) (pe_call G_meeting_fault (hr.mono (by decide)) (by rfl) T.g_meeting_fault k_meeting_fault b_meeting_fault .nil pass0 (pa_cons (pv 4) (pa_cons (pv 2) pa_nil))))
    (pss_cons (ps_if (pt_cmpR op_notN1 (pv 3) pe_non (nomark _)) (pss_one ps_never) pss_nil)
    (pss_cons (ps_fld (pv 0) (pe_callTy call_tuple_of (by rfl) T.f_tuple (by decide +kernel) (pa_cons (pe_callB (cr_sortD hmin) (by rfl) T.f_sorted (by decide +kernel) (pa_cons (pe_lc (own := [("name", 5), ("length", 6), ("step", 7)]) (g := (gTup K 3 (gCons (gName 5) (gCons (gName 6) (gCons (gName 7) gNil))))) (by rfl) sc_WebU_initU.nd (pi_list (pv 1)) (blkOk_by (N := N_WebU_initU) (sc := defScope s_WebU_initU) (by decide +kernel)) (fun _ _ _ _ _ => (pg_tup rfl (pgs_cons (pg_name (i := 5) sc_WebU_initU.nd rfl (Or.inl rfl)) (pgs_cons (pg_name (i := 6) sc_WebU_initU.nd rfl (Or.inl rfl)) (pgs_cons (pg_name (i := 7) sc_WebU_initU.nd rfl (Or.inl rfl)) pgs_nil))))) (fun _ _ _ _ _ => pts_nil) (fun _ _ _ _ _ => (pe_tup (pa_cons (pv 5) (pa_cons (pv 6) (pa_cons (pe_op op_mod (pv 7) (pv 6)) pa_nil)))))) pa_nil)) pa_nil)) rfl)
    (pss_cons (ps_fld (pv 0) (pe_callTy call_tuple_of (by rfl) T.f_tuple (by decide +kernel) (pa_cons (pe_callB (cr_sortD hmin) (by rfl) T.f_sorted (by decide +kernel) (pa_cons (pe_lc (own := [("meeting", 8)]) (g := (gName 8)) (by rfl) sc_WebU_initU.nd (pi_list (pv 2)) (blkOk_by (N := N_WebU_initU) (sc := defScope s_WebU_initU) (by decide +kernel)) (fun _ _ _ _ _ => (pg_name (i := 8) sc_WebU_initU.nd rfl (Or.inl rfl))) (fun _ _ _ _ _ => pts_nil) (fun _ _ _ _ _ => (pe_call G_in_order (hr.mono (by decide)) (by rfl) T.g_in_order k_in_order b_in_order .nil pass0 (pa_cons (pv 8) pa_nil)))) pa_nil)) pa_nil)) rfl)
    (pss_cons (ps_fld (pv 0) (pv 4) rfl)
    (pss_cons (ps_fld (pv 0) (pe_dc (own := [("name", 5), ("length", 6), ("step", 7)]) (g := (gTup K 3 (gCons (gName 5) (gCons (gName 6) (gCons (gName 7) gNil))))) (by rfl) sc_WebU_initU.nd (pi_tup (pe_fld (pv 0) (by rfl))) (blkOk_by (N := N_WebU_initU) (sc := defScope s_WebU_initU) (by decide +kernel)) (fun _ _ _ _ _ => (pg_tup rfl (pgs_cons (pg_name (i := 5) sc_WebU_initU.nd rfl (Or.inl rfl)) (pgs_cons (pg_name (i := 6) sc_WebU_initU.nd rfl (Or.inl rfl)) (pgs_cons (pg_name (i := 7) sc_WebU_initU.nd rfl (Or.inl rfl)) pgs_nil))))) (fun _ _ _ _ _ => pts_nil) (fun _ _ _ _ _ => (pv 5)) (fun _ _ _ _ _ => (pv 7))) rfl)
    (pss_cons (ps_setLc (i := 9) (own := [("name", 5), ("i", 10), ("other", 11), ("j", 12)]) (g := (gTup K 4 (gCons (gName 5) (gCons (gName 10) (gCons (gName 11) (gCons (gName 12) gNil)))))) (by rfl) sc_WebU_initU.nd rfl rfl (sw_true rfl rfl rfl (by decide +kernel)) (pi_tup (pe_fld (pv 0) (by rfl))) (blkOk_by (N := N_WebU_initU) (sc := defScope s_WebU_initU) (by decide +kernel)) (fun _ _ _ _ _ => (pg_tup rfl (pgs_cons (pg_name (i := 5) sc_WebU_initU.nd rfl (Or.inl rfl)) (pgs_cons (pg_name (i := 10) sc_WebU_initU.nd rfl (Or.inl rfl)) (pgs_cons (pg_name (i := 11) sc_WebU_initU.nd rfl (Or.inl rfl)) (pgs_cons (pg_name (i := 12) sc_WebU_initU.nd rfl (Or.inl rfl)) pgs_nil)))))) (fun _ _ _ _ _ => pts_nil) (fun _ _ _ _ _ => (pe_tup (pa_cons (pe_tup (pa_cons (pv 5) (pa_cons (pv 10) pa_nil))) (pa_cons (pe_tup (pa_cons (pv 11) (pa_cons (pv 12) pa_nil))) pa_nil)))))
    (pss_one (ps_fld (pv 0) (pe_callTy (call_dictPT rfl hmin) (by rfl) T.f_dict (by decide +kernel) (pa_cons (pe_op op_cat (pv 9) (pe_lc (own := [("first", 13), ("second", 14)]) (g := (gTup K 2 (gCons (gName 13) (gCons (gName 14) gNil)))) (by rfl) sc_WebU_initU.nd (pi_list (pv 9)) (blkOk_by (N := N_WebU_initU) (sc := defScope s_WebU_initU) (by decide +kernel)) (fun _ _ _ _ _ => (pg_tup rfl (pgs_cons (pg_name (i := 13) sc_WebU_initU.nd rfl (Or.inl rfl)) (pgs_cons (pg_name (i := 14) sc_WebU_initU.nd rfl (Or.inl rfl)) pgs_nil)))) (fun _ _ _ _ _ => pts_nil) (fun _ _ _ _ _ => (pe_tup (pa_cons (pv 14) (pa_cons (pv 13) pa_nil)))))) pa_nil)) rfl)))))))))))), ?_⟩
    refine q_asg (P := Is .non) f0 (ev_call (i := rings) hR (n := 0) trivial (ea_cons (ev_var rfl e1) ea_nil)) fun u1 G1 H1 y1 p1 => ?_
    have X1 := X0.trans y1
    refine q_when (.mk0 X1.sub) (et_test (ev_notN' (b := true) (ev_var (P := Is .non) rfl p1) fun H v h => by cases h; rfl)) (fun hb => by cases hb) fun _ G2 H2 y2 => ?_
    have X2 := X1.trans y2
    refine q_asg (P := DcK kN IntA (lensOf rings)) (.mk0 X2.sub) (ev_cast (ev_dcK (R := RingA) (R' := IntA) (l := rings) kN_inj (fun r => some (r.1, r.2.1)) (src_lst (ev_var rfl (mo_same X2.gs e1))) (by omega) fun r hr xv G' H' gw fr rx Q' k2 => tg3 rx fr.sub fun a1 a2 a3 h1 h2 h3 => k2 _ rfl ⟨et_yes, fun c hc => ?_⟩) ?_) fun u3 G3 H3 y3 p3 => ?_
    · cases hc
      exact ⟨ev_var rfl h1, ev_var rfl h2⟩
    · rw [fm_map, mkT_nd _ (by rw [List.map_map]; exact hR.nd)]
      rfl
    have X3 := X2.trans y3
    refine q_asg (P := Is .non) (.mk0 X3.sub) (ev_call (i := (⟨lensOf rings, meets⟩ : MfI)) hM (n := 0) trivial (ea_cons (ev_var rfl p3) (ea_cons (ev_var rfl (mo_same X3.gs e2)) ea_nil))) fun u4 G4 H4 y4 p4 => ?_
    have X4 := X3.trans y4
    refine q_when (.mk0 X4.sub) (et_test (ev_notN' (b := true) (ev_var (P := Is .non) rfl p4) fun H v h => by cases h; rfl)) (fun hb => by cases hb) fun _ G5 H5 y5 => ?_
    have X5 := X4.trans y5
    have g5 : G5 x = none := (y1.trans (y2.trans (y3.trans (y4.trans y5)))).av x ⟨_, hx, fun _ z => by cases z⟩ g0
    have hx5 := (y1.trans (y2.trans (y3.trans (y4.trans y5)))).same _ _ nM hx
    have p3' : DcK kN IntA (lensOf rings) G5 u3 := mo_same (y4.trans y5).gs p3
    refine (show tSeq _ _ _ ([some (.ref x), some v1, some v2, some u4, some u3, none, none, none, none, none, none, none, none, none, none] : L2.St) H5 from ?_)
    -- self.rings
    have ringK : ∀ b ∈ rings, 0 < b.2.1 := fun b hb => by
      have := (hR.pos b hb).1
      omega
    refine q_fld0 (P := fun H v => ∃ l, TuA RingA l H v ∧ l.Perm (rings.map ringW)) (.mk0 X5.sub) rfl hx5 g5 nM T.c_Web T.n_Web_rings (by show 0 < 1000; decide) (ev_tupleX (ev_sortD (D := ringD) (ev_lcM (R := RingA) (R' := RingA) ringW (src_lst (ev_var rfl (mo_same X5.gs e1))) (by omega) fun r hr xv G' H' gw fr rx Q' k2 => tg3 rx fr.sub fun a1 a2 a3 h1 h2 h3 => k2 _ rfl (ev_tup (ea_cons (P := StrA r.1) (ev_var rfl h1) (ea_cons (P := IntA r.2.1) (ev_var rfl h2) (ea_cons (P := IntA (r.2.2 % r.2.1)) (ev_i (i := r.2.2) (j := r.2.1) (ev_var rfl h3) (ev_var rfl h2) (ringK r hr)) ea_nil))))) ?_ ?_ ?_ ?_)) fun u6 G6 H6 y6 p6 g6 hx6 => ?_
    · exact fun b Ha Hb v s h => ring_dp b (mo_same s h)
    · exact alikeR _
    · exact .inl fun d hd => by
        obtain ⟨r, _, rfl⟩ := List.mem_map.mp hd
        exact ⟨_, _, rfl⟩
    · intro d hd
      obtain ⟨r, _, rfl⟩ := List.mem_map.mp hd
      unfold ringD
      simp [PyData.depth, PyData.depthAll]
    obtain ⟨rl, prl, perR⟩ := p6
    have X6 := Ext.mutD (o := .ins (ga K "Web") dx (putF "rings" u6 [])) (X5.trans y6) del_same g6 nM
    -- self.joints
    refine q_fld0 (P := fun H v => ∃ l, TuA JointA l H v ∧ l.Perm (meets.map ordJ)) (.mk0 X6.sub) rfl upd_same g6 nM T.c_Web T.n_Web_joints few1 (ev_tupleX (ev_sortD (D := jointD) (ev_lcM (R := JointA) (R' := JointA) ordJ (src_lst (ev_var rfl (mo_same X6.gs e2))) (by omega) fun m hm xv G' H' gw fr rx Q' k2 => k2 _ rfl (ev_call (i := m) trivial (n := 0) trivial (ea_cons (ev_var rfl rx) ea_nil))) ?_ ?_ ?_ ?_)) fun u7 G7 H7 y7 p7 g7 hx7 => ?_
    · exact fun b Ha Hb v s h => joint_dp b (mo_same s h)
    · exact alikeJ _
    · exact .inl fun d hd => by
        obtain ⟨r, _, rfl⟩ := List.mem_map.mp hd
        exact ⟨_, _, rfl⟩
    · intro d hd
      obtain ⟨r, _, rfl⟩ := List.mem_map.mp hd
      unfold jointD
      simp [PyData.depth, PyData.depthAll]
    obtain ⟨jl, pjl, perJ⟩ := p7
    have X7 := Ext.mutD (o := .ins (ga K "Web") dx (putF "joints" u7 (putF "rings" u6 []))) (X6.trans y7) del_same g7 nM
    have M := made_of hC perR perJ
    -- self.lengths
    refine q_fld0 (P := DcK kN IntA (lensOf rings)) (.mk0 X7.sub) rfl upd_same g7 nM T.c_Web T.n_Web_lengths few2 (ev_var rfl (mo_same (y6.gs.trans y7.gs) p3')) fun u8 G8 H8 y8 p8 g8 hx8 => ?_
    have X8 := Ext.mutD (o := .ins (ga K "Web") dx (putF "lengths" u8 (putF "joints" u7 (putF "rings" u6 [])))) (X7.trans y8) del_same g8 nM
    have prl8 : TuA RingA rl G8 u6 := mo_same (y7.gs.trans y8.gs) prl
    have pjl8 : TuA JointA jl G8 u7 := mo_same y8.gs pjl
    have lr : rl.length ≤ 100 := M.few
    have lj : jl.length ≤ 150 := M.jfew
    -- self.steps
    refine q_fld (P := DcK kN IntA (rl.map fun r => (r.1, r.2.2))) (.mk0 X8.sub) rfl upd_same g8 nM T.c_Web T.n_Web_steps few3 (ev_cast (ev_dcK (R := RingA) (R' := IntA) (l := rl) kN_inj (fun r => some (r.1, r.2.2)) (src_tup (ev_fld (fs_rings T (x := x) (dx := dx) (fs := putF "lengths" u8 (putF "joints" u7 (putF "rings" u6 [])))) (ev_var rfl ⟨u6, rfl, upd_same, by rfl, mo_same (sm_new g8) prl8⟩))) (by omega) fun r hr xv G' H' gw fr rx Q' k2 => tg3 rx fr.sub fun a1 a2 a3 h1 h2 h3 => k2 _ rfl ⟨et_yes, fun c hc => ?_⟩) ?_) fun u9 G9 H9 y9 p9 g9 hx9 => ?_
    · cases hc
      exact ⟨ev_var rfl h1, ev_var rfl h3⟩
    · rw [fm_map, mkT_nd _ (by rw [List.map_map]; exact M.nd)]
    have X9 := Ext.mutD (o := .ins (ga K "Web") dx (putF "steps" u9 (putF "lengths" u8 (putF "joints" u7 (putF "rings" u6 []))))) (X8.trans y9) del_same g9 nM
    have pjl9 : TuA JointA jl G9 u7 := mo_same y9.gs pjl8
    -- ends
    refine q_asgS (P := LsA EndA (jl.map endJ)) (.mk0 X9.sub) upd_same g9 nM (ev_lcM (R := JointA) (R' := EndA) endJ (src_tup (ev_fld (fs_joints T (x := x) (dx := dx) (fs := putF "steps" u9 (putF "lengths" u8 (putF "joints" u7 (putF "rings" u6 []))))) (ev_var rfl ⟨u7, rfl, upd_same, by rfl, mo_same (sm_new g9) pjl9⟩))) (by omega) fun m hm xv G' H' gw fr rx Q' k2 => tg4 rx fr.sub fun a1 a2 a3 a4 h1 h2 h3 h4 => k2 _ rfl (ev_tup (ea_cons (P := PlA (m.1, m.2.1)) (ev_imp (ev_tup (ea_cons (P := StrA m.1) (ev_var rfl h1) (ea_cons (P := IntA m.2.1) (ev_var rfl h2) ea_nil))) fun H v h => plA_of h) (ea_cons (P := PlA (m.2.2.1, m.2.2.2)) (ev_imp (ev_tup (ea_cons (P := StrA m.2.2.1) (ev_var rfl h3) (ea_cons (P := IntA m.2.2.2) (ev_var rfl h4) ea_nil))) fun H v h => plA_of h) ea_nil)))) fun u10 G10 H10 y10 p10 g10 hx10 => ?_
    have X10 := X9.trans y10
    -- self.mates
    have le : ((jl.map endJ) : List (Pl × Pl)).length = jl.length := List.length_map _
    refine p_fld0 (P := DcT PlA (endsP jl)) (.mk0 X10.sub) rfl hx10 g10 nM T.c_Web T.n_Web_mates few4 (ev_cast (ev_dictP (l := jl.map endJ ++ (jl.map endJ).map fun q => (q.2, q.1)) (ev_cat (R := EndA) (ev_var rfl p10) (ev_lcM (R := EndA) (R' := EndA) (fun q : Pl × Pl => (q.2, q.1)) (src_lst (ev_var rfl p10)) (by omega) fun m hm xv G' H' gw fr rx Q' k2 => tg2 rx fr.sub fun a1 a2 h1 h2 => k2 _ rfl (ev_tup (ea_cons (P := PlA m.2) (ev_var rfl h2) (ea_cons (P := PlA m.1) (ev_var rfl h1) ea_nil)))) (by rw [List.length_map, List.length_map]; omega))) ?_) fun u11 G11 H11 y11 p11 g11 hx11 => ?_
    · rw [mkT_nd]
      · rfl
      · exact ((endsP_keys jl).nodup_iff).mpr M.ends
    have X11 := Ext.mutD (o := .ins (ga K "Web") dx (putF "mates" u11 (putF "steps" u9 (putF "lengths" u8 (putF "joints" u7 (putF "rings" u6 [])))))) (X10.trans y11) del_same g11 nM
    obtain ⟨c1, c2, c3, c4, c5⟩ := ini_end X11 g11 upd_same
    have ups : Same G11 (upd G11 x (.ins (ga K "Web") dx (putF "mates" u11 (putF "steps" u9 (putF "lengths" u8 (putF "joints" u7 (putF "rings" u6 []))))))) := sm_new g11
    have y911 := y10.trans y11
    refine k _ _ c1 c2 c3 c4 ⟨wdOf ⟨rings, meets⟩ rl jl, ⟨x, dx, u6, u7, u8, u9, u11, rfl, upd_same, mo_same ups (mo_same (y9.gs.trans y911.gs) prl8), mo_same ups (mo_same y911.gs pjl9), mo_same ups (mo_same (y9.gs.trans y911.gs) p8), mo_same ups (mo_same y911.gs p9), mo_same ups p11⟩, made_for hC perR perJ⟩
end
end MR
/-! cls(..) in a classmethod; two fors in a list comprehension; f-strings of a text and an int. -/
namespace L2
open PySem PySem.Spec PyProof.Rows
theorem FnOk.fnR {P : Program} {w : World} {K : PySem.W.Frag} {mg : Str → Option Value} {base : Heap} {CX : CXT} {k : Nat} {f : Addr} {fd : FuncData} {ps : List Str} {sp : Sp} (F : FnOk P w K mg base CX k f fd ps sp) (hb : Binds K fd ps []) : FnR P w K mg base CX k f sp := by
  intro A outer s H us vs Q E hr e0 r hs
  have := F.raw hb .nil A outer s H us vs Q E hr e0 r (by show sp (vs ++ []) H Q E; rw [List.append_nil]; exact hs)
  exact this
section
variable {X : Cx} {CX : CXT} {k i : Nat} {C f : Addr} {fd : FuncData} {ps : List Str} {sp : Sp} {dvs : List V} {ds : List Value} {E : XK} {x : Str} {p pos : Pos} {e : Expr} {es : List Expr} {t : TA}
/-- a call of a local name that holds a class -/
def tMakeL (i : Nat) (C : Addr) (sp : Sp) (dvs : List V) (E : XK) (t : TA) : TE := fun σ H Q => σ[i]? = some (some (.ref C)) ∧ tMake C sp dvs E t σ H Q
theorem pe_makeL (M : Mk X.K C f) (F : FnOk X.prog X.w X.K X.mg X.base CX k f fd ps sp) (hr : Room (k + 1) X.A) (hN : X.N[i]? = some x) (hv : Vis X.env.scope x) (hb : Binds X.K fd ps ds) (hd : Vals dvs ds) (hx : Passes CX X E) (ha : PA X (e :: es) t)
    (hdb : (x == ("__debug__" : Str)) = false := by decide) (hcd : (x == ("__classdict__" : Str)) = false := by decide)
    (he : starEach (e :: es) X.env = (false, eval e X.env) :: starEach es X.env := by rfl) (hpl : (backTo pos (starEach es X.env)).any (·.1) = false := by rfl) : PE X (.Call (.Name x p) (e :: es) [] pos) (tMakeL i C sp dvs E t) := by
  refine ⟨fun pins s σ H Q I h => ?_⟩
  obtain ⟨hs, ht⟩ := h
  refine wpAny_Call_Name_kw (thn ((pe_var (pos := p) hN hv hdb hcd).run pins s σ H (fun v H1 => v = .ref C ∧ H1 = H) I ⟨.ref C, hs, rfl, rfl⟩) fun u s1 ⟨v, H1, I1, r1, q1⟩ => ?_)
  obtain ⟨rfl, rfl⟩ := q1
  cases r1
  refine PySem.W.callWith_K (h₀ := X.base) I.ok.mod.kin M.kp (thn (ha.run pos pins s1 σ _ _ I1 ht) fun us s2 ⟨vs, H2, I2, r, q⟩ => ⟨I2.kIn, ?_⟩) he hpl
  exact run_make M F hr hb hd hx I2 r q
end
end L2
namespace MR
open PySem L2
section
variable {K : PySem.W.Frag} {M : Option Addr} {σ : L2.St} {G G' H H' : Hp} {ta tb te : TE} {P P' : Hp → V → Prop}
theorem ev_makeL {n j : Nat} {ι : Type} {D : Addr} {C : ι → Prop} {Ps : ι → List (Hp → V → Prop)} {R : ι → Hp → V → Prop} {E : XK} {t : TA} (i : ι) (c : C i) (hn : NL n G) (hj : σ[j]? = some (some (.ref D))) (h : EvA M t σ G (Ps i)) : Ev M (tMakeL j D (spIni n D C Ps R) [] E t) σ G (R i) := fun G1 H1 e f Q k =>
  ⟨hj, ev_make (E := E) i c hn h G1 H1 e f Q k⟩
/-- [e for x in l for y in l1] -/
theorem ev_lc2 {β γ δ : Type} {R : β → Hp → V → Prop} {R1 : γ → Hp → V → Prop} {R' : δ → Hp → V → Prop} [∀ c, Mo (R' c)] {wi wi1 : TI} {g g1 : TG} {te : TE} {vs vs1 : List Nat} {l : List β} {l1 : List γ} (φ : β → γ → δ) (hs : Src M wi σ G l R) (hl : l.length * l1.length + l1.length < 100000)
    (hb : TurnC M G l R g σ vs fun b σ2 G' => Src M wi1 σ2 G' l1 R1 ∧ TurnC M G' l1 R1 g1 σ2 vs1 fun c σ3 G'' => Ev M te σ3 G'' (R' (φ b c))) :
    Ev M (tLc2 wi g tYes wi1 g1 tYes te vs vs1) σ G (LsA R' (l.flatMap fun b => l1.map (φ b))) := fun G1 H1 e f Q k => hs G1 H1 e f _ fun J G2 H2 e2 hw D nD => by
  obtain ⟨Gp, Y, w, hG, hy⟩ := hw
  have f2 := f.ext e2
  have gD : G2 D = none := f2.free nD
  have nM := f2.notM nD
  have len : ∀ L : List β, ((L.flatMap fun b => l1.map (φ b))).length = L.length * l1.length := by
    intro L
    induction L with
    | nil => simp
    | cons b L ih => rw [List.flatMap_cons, List.length_append, ih, List.length_map, List.length_cons, Nat.succ_mul, Nat.add_comm]
  refine ⟨fun i m H => ∃ G3 acc, i + m = l.length ∧ G3 D = none ∧ Ext M G2 H2 G3 H ∧ H D = some (.lst acc) ∧ Paired (fun c u => R' c G3 u) ((l.take i).flatMap fun b => l1.map (φ b)) acc, ⟨l.length, G2, [], by omega, gD, Ext.mutD (Ext.rfl' f2) nD gD nM, upd_same, .nil⟩, fun i m H hP => ?_⟩
  obtain ⟨G3, acc, him, d3, x3, hD, pr⟩ := hP
  have sG := hG _ (x3.gs.trans x3.sub)
  by_cases hi : i < l.length
  · refine .inr ⟨w.goes i H hi sG, fun H' => ∃ G3 acc, G3 D = none ∧ Ext M G2 H2 G3 H' ∧ H' D = some (.lst acc) ∧ Paired (fun c u => R' c G3 u) ((l.take (i + 1)).flatMap fun b => l1.map (φ b)) acc, fun H' ⟨a, b, c⟩ => ⟨m - 1, by omega, a, b, by omega, c⟩, fun x H' hyy => ?_⟩
    have hY := w.yields i H x H' hi sG hyy
    have f3 : Fr M G3 H := f2.ext x3
    obtain ⟨b, G4, hbi, x4, rb⟩ := hy i H x H' G3 x3.gw f3 hY
    have hmem : b ∈ l := List.mem_of_getElem? hbi
    have f4 := f3.ext x4
    have tk : ((l.take (i + 1)).flatMap fun b => l1.map (φ b)) = ((l.take i).flatMap fun b => l1.map (φ b)) ++ l1.map (φ b) := by
      rw [List.take_add_one, hbi, List.flatMap_append]
      congr 1
      exact List.append_nil _
    refine hb b hmem x G4 H' ((e.trans e2.gw).trans (x3.gw.trans x4.gw)) f4 rb _ fun σ2 hσ hh => ⟨hσ, ?_⟩
    unfold tYes
    dsimp only
    rw [if_pos rfl]
    refine hh.1 G4 H' (Gw.rfl' _) f4 _ fun J1 G5 H5 x5 hw1 => ?_
    obtain ⟨Gp1, Y1, w1, hG1, hy1⟩ := hw1
    have x45 := x4.trans x5
    have hD5 := x45.same _ _ nM hD
    have d5 := x45.av D ⟨_, hD, fun _ z => by cases z⟩ d3
    refine ⟨fun j m H => ∃ G6 acc, j + m = l1.length ∧ G6 D = none ∧ Ext M G2 H2 G6 H ∧ Gw G5 G6 ∧ H D = some (.lst acc) ∧ Paired (fun c u => R' c G6 u) (((l.take i).flatMap fun b => l1.map (φ b)) ++ (l1.take j).map (φ b)) acc,
      ⟨l1.length, G5, acc, by omega, d5, x3.trans x45, Gw.rfl' _, hD5, ?_⟩, fun j m H hP1 => ?_⟩
    · rw [List.take_zero, List.map_nil, List.append_nil]
      exact paired_imp (fun c u z => mo_same (P := R' c) x45.gs z) pr
    obtain ⟨G6, acc6, hjm, d6, x6, gw6, hD6, pr6⟩ := hP1
    have sG1 := hG1 _ (gw6.gs.trans x6.sub)
    have f6 := f2.ext x6
    by_cases hj : j < l1.length
    · refine .inr ⟨w1.goes j H hj sG1, fun H' => ∃ G7 acc, G7 D = none ∧ Ext M G2 H2 G7 H' ∧ Gw G5 G7 ∧ H' D = some (.lst acc) ∧ Paired (fun c u => R' c G7 u) (((l.take i).flatMap fun b => l1.map (φ b)) ++ (l1.take (j + 1)).map (φ b)) acc, fun H' ⟨a, b, c⟩ => ⟨m - 1, by omega, a, b, by omega, c⟩, fun x1 H7 hyy1 => ?_⟩
      have hY1 := w1.yields j H x1 H7 hj sG1 hyy1
      obtain ⟨c, G7, hcj, x7, rc⟩ := hy1 j H x1 H7 G6 gw6 f6 hY1
      have hmem1 : c ∈ l1 := List.mem_of_getElem? hcj
      refine hh.2 c hmem1 x1 G7 H7 (x5.gw.trans (gw6.trans x7.gw)) (f6.ext x7) rc _ fun σ3 hσ3 he => ⟨hσ3, ?_⟩
      rw [if_pos rfl]
      refine he G7 H7 (Gw.rfl' _) (f6.ext x7) _ fun y G8 H8 x8 ry => ?_
      have x78 := x7.trans x8
      have hD8 := x78.same _ _ nM hD6
      have d8 := x78.av D ⟨_, hD6, fun _ z => by cases z⟩ d6
      have pl := paired_len pr6
      refine ⟨acc6, hD8, ?_, G8, acc6 ++ [y], d8, Ext.mutD (x6.trans x78) nD d8 nM, gw6.trans x78.gw, upd_same, ?_⟩
      · rw [pl, List.length_append, len, List.length_map, List.length_take, List.length_take]
        refine sz_lt (Nat.lt_of_le_of_lt ?_ hl)
        exact Nat.add_le_add (Nat.mul_le_mul_right _ (Nat.min_le_right _ _)) (Nat.min_le_right _ _)
      · have tk1 : (l1.take (j + 1)).map (φ b) = (l1.take j).map (φ b) ++ [φ b c] := by
          rw [List.take_add_one, hcj, List.map_append]
          rfl
        rw [tk1, ← List.append_assoc]
        exact paired_snoc (paired_imp (fun c u z => mo_same (P := R' c) x78.gs z) pr6) ry
    · have hj' : j = l1.length := by omega
      subst hj'
      rw [List.take_length, ← tk] at pr6
      exact .inl ⟨w1.stops H sG1, G6, acc6, d6, x6, hD6, pr6⟩
  · have hi' : i = l.length := by omega
    subst hi'
    refine .inl ⟨w.stops H sG, ?_⟩
    rw [List.take_length] at pr
    refine k _ (upd G3 D (.lst acc)) H (e2.trans (Ext.learn x3 nD d3 hD fun _ _ z => by cases z)) ⟨D, acc, rfl, upd_same, ?_⟩
    exact paired_imp (fun c u z => Mo.up (P := R' c) (up_new d3) z) pr
/-- f'a{i}' -/
def fName (a : Str) (i : Int) : Str := (Str.empty ++ a) ++ Str.ofString (toString i)
theorem ev_fName {a : Str} {i : Int} (h : Ev M te σ G (Is (.int i))) (hi : i.natAbs.log2 < 1920) (h1 : (Str.empty ++ a).length ≤ sizeLine) (h2 : (fName a i).length ≤ sizeLine) :
    Ev M (fun σ H Q => tJs [tC (.str a), tFmt te] Str.empty σ H fun out H1 => Q (.str out) H1) σ G (Is (.str (fName a i))) := fun G1 H1 e f Q k => by
  refine ⟨a, rfl, h1, h G1 H1 e f _ fun v G2 H2 e2 p => ?_⟩
  cases p
  exact .inr ⟨i, rfl, hi, _, rfl, h2, k _ G2 H2 e2 rfl⟩
/-- a tuple of two of one kind -/
theorem tuA2 {β : Type} {R : β → Hp → V → Prop} {a b : β} {H : Hp} {v : V} (h : TupP [R a, R b] H v) : TuA R [a, b] H v := by
  obtain ⟨p, vs, rfl, h1, al⟩ := h
  cases al with
  | cons h2 al =>
    cases al with
    | cons h3 al =>
      cases al
      exact ⟨p, _, rfl, h1, .cons h2 (.cons h3 .nil)⟩
theorem lsA_of {β : Type} {R : β → Hp → V → Prop} {H : Hp} : ∀ {l : List β} {vs : List V}, AllP H (l.map R) vs → Paired (fun b u => R b H u) l vs
  | [], _, .nil => .nil
  | _ :: _, _, .cons a t => .cons a (lsA_of t)
theorem lsA_lst {β : Type} {R : β → Hp → V → Prop} {l : List β} {H : Hp} {v : V} (h : LstP (l.map R) H v) : LsA R l H v := by
  obtain ⟨p, vs, rfl, h1, al⟩ := h
  exact ⟨p, vs, rfl, h1, lsA_of al⟩
end
end MR
/-! board. -/
namespace MR
open PySem PySem.Spec PyProof.Rows L2 He
/-! ### a name, rings, meetings checked by reckoning -/
def nmB (n : Str) : Bool := decide (1 ≤ n.length) && (decide (n.length ≤ 8) && ((match n.cps.toList with
  | c :: _ => occS "abcdefghijklmnopqrstuvwxyz" ⟨#[c]⟩
  | [] => false) && (n.cps.toList.all (fun c => occS "abcdefghijklmnopqrstuvwxyz" ⟨#[c]⟩ || occS "0123456789" ⟨#[c]⟩) && PyData.strOk n)))
theorem nmB_ok {n : Str} (h : nmB n = true) : NmOk n ∧ PyData.strOk n = true := by
  unfold nmB at h
  simp only [Bool.and_eq_true, decide_eq_true_eq] at h
  obtain ⟨h1, h2, h3, h4, h5⟩ := h
  refine ⟨⟨h1, h2, ?_, h4⟩, h5⟩
  cases q : n.cps.toList with
  | nil =>
    rw [q] at h3
    cases h3
  | cons c t =>
    rw [q] at h3
    exact ⟨c, atI_nat (j := 0) rfl, h3⟩
def ringsB (l : List (Nm × Int × Int)) : Bool := l.all (fun r => nmB r.1 && (decide (1 ≤ r.2.1) && (decide (1 ≤ r.2.2) && decide (r.2.1 < 2 ^ 104)))) && (decide (l.map (·.1)).Nodup && (decide (1 ≤ l.length) && decide (l.length ≤ 12)))
def inB (lens : List (Nm × Int)) (n : Nm) (i : Int) : Bool := match lk lens n with
  | some L => decide (0 ≤ i) && decide (i < L)
  | none => false
theorem inB_ok {lens : List (Nm × Int)} {n : Nm} {i : Int} (h : inB lens n i = true) : ∃ L, lk lens n = some L ∧ 0 ≤ i ∧ i < L := by
  unfold inB at h
  cases q : lk lens n with
  | none =>
    rw [q] at h
    cases h
  | some L =>
    rw [q] at h
    simp only [Bool.and_eq_true, decide_eq_true_eq] at h
    exact ⟨L, rfl, h⟩
def meetsB (lens : List (Nm × Int)) (l : List Joint) : Bool := l.all (fun m => inB lens m.1 m.2.1 && (inB lens m.2.2.1 m.2.2.2 && (decide (m.1 ≠ m.2.2.1) && (PyData.strOk m.1 && PyData.strOk m.2.2.1)))) && (decide (endsJ l).Nodup && (decide (pairsJ l).Nodup && decide (l.length ≤ 150)))
def wiB (i : WiI) : Bool := ringsB i.rings && meetsB (lensOf i.rings) i.meets
theorem wiB_ok {i : WiI} (h : wiB i = true) : WiOk i := by
  unfold wiB ringsB meetsB at h
  simp only [Bool.and_eq_true, decide_eq_true_eq, List.all_eq_true] at h
  obtain ⟨⟨a1, a2, a3, a4⟩, b1, b2, b3, b4⟩ := h
  exact {
    r := ⟨fun r hr => (nmB_ok (a1 r hr).1).1, a2, fun r hr => ⟨(a1 r hr).2.1, (a1 r hr).2.2.1⟩, a3, a4, fun r hr => (nmB_ok (a1 r hr).1).2⟩
    m := ⟨fun m hm => inB_ok (b1 m hm).1, fun m hm => inB_ok (b1 m hm).2.1, fun m hm => (b1 m hm).2.2.1, b2, b3, fun m hm => (b1 m hm).2.2.2, b4⟩
    big := fun r hr => (a1 r hr).2.2.2 }
def boardR (m n : Nat) : List (Nm × Int × Int) := (List.range m).map (fun (i : Nat) => (fName "r" (i : Int), ((n : Nat) : Int), (1 : Int))) ++ (List.range n).map fun (j : Nat) => (fName "c" (j : Int), ((m : Nat) : Int), (1 : Int))
def boardM (m n : Nat) : List Joint := (List.range m).flatMap fun (i : Nat) => (List.range n).map fun (j : Nat) => (fName "r" (i : Int), (j : Int), fName "c" (j : Int), (i : Int))
theorem board_wi : ∀ m, m < 2 → ∀ n, n < 5 → wiB ⟨boardR (2 + m) (2 + n), boardM (2 + m) (2 + n)⟩ = true := by decide +kernel
theorem board_ok {m n : Nat} (h1 : 2 ≤ m) (h2 : m ≤ 3) (h3 : 2 ≤ n) (h4 : n ≤ 6) : WiOk ⟨boardR m n, boardM m n⟩ := by
  have := board_wi (m - 2) (by omega) (n - 2) (by omega)
  rw [show 2 + (m - 2) = m by omega, show 2 + (n - 2) = n by omega] at this
  exact wiB_ok this
theorem fName_sz : ∀ i, i < 6 → (fName "r" (i : Nat)).length ≤ 100 ∧ (fName "c" (i : Nat)).length ≤ 100 ∧ ((i : Nat) : Int).natAbs.log2 < 1920 := by decide +kernel
section
variable {P : Program} {w : World} {K : PySem.W.Frag} {mg : Str → Option Value} {base : Heap}
structure BoI where
  m : Nat
  n : Nat
def spBoard (K : PySem.W.Frag) : Sp := spOf 2 (ι := BoI) (fun i => 2 ≤ i.m ∧ i.m ≤ 3 ∧ 2 ≤ i.n ∧ i.n ≤ 6) (fun i => [Is (.ref (ga K "Web")), IntA (i.m : Nat), IntA (i.n : Nat)]) (fun i => WebX K (boardR i.m i.n))
theorem ok_Web_board (T : Tx K mg) : Good P w K mg base 5 (He5.wf K (ga K "Web") "classmethod" "board") ["cls", "rows", "columns"] (spBoard K) := by
  obtain ⟨⟨fd_WebU_initU, G_WebU_initU, b_WebU_initU⟩, k_WebU_initU⟩ := ok_WebU_initU (P := P) (w := w) (base := base) T
  refine good_of T.d_Web_board sc_Web_board (fun fd F => FunD.bindsN F fun _ _ _ _ _ _ us hl => match us, hl with | [_, _, _], _ => rfl) (fun vs H Q E h => ?_) (fun cdv A outer s H vs Q E hr h => ?_)
  · obtain ⟨i, G, _, _, _, al, _⟩ := h
    exact al_len al rfl
  · obtain ⟨i, G0, hC, nl, sG, al, k⟩ := h
    have hu := hu_of hr
    have hmin := hr.units
    have f0 : Fr none G0 H := .mk0 sG
    obtain ⟨v, u1, u2, rfl, e1, e2, e3⟩ := al3 al
    obtain ⟨m, n⟩ := i
    obtain ⟨m2, m3, n2, n6⟩ := hC
    dsimp only at m2 m3 n2 n6 e2 e3 k
    cases e1
    cases e2
    cases e3
    obtain ⟨_, v_MOST_RINGS⟩ := T.v_MOST_RINGS
    refine ⟨_, (pss_cons (ps_for PassesOwn.never rfl (pi_tup (pe_tup (pa_cons (pv 1) (pa_cons (pv 2) pa_nil)))) (pg_name (i := 3) sc_Web_board.nd rfl (Or.inl rfl))
    (pss_one (ps_if (pt_not (pt_chain op_le op_le pe_int (pv 3) (pe_op op_fdivW (pe_glob (v := .int 12) (by rfl) v_MOST_RINGS ⟨_, rfl⟩) pe_int))) (pss_one ps_never) pss_nil)))
    (pss_cons (ps_setLc (i := 4) (own := [("i", 5)]) (g := (gName 5)) (by rfl) sc_Web_board.nd rfl rfl (sw_true rfl rfl rfl (by decide +kernel)) (pi_range1 rfl T.f_range (pa_cons (pv 1) pa_nil)) (blkOk_by (N := N_Web_board) (sc := defScope s_Web_board) (by decide +kernel)) (fun _ _ _ _ _ => (pg_name (i := 5) sc_Web_board.nd rfl (Or.inl rfl))) (fun _ _ _ _ _ => pts_nil) (fun _ _ _ _ _ => (pe_tup (pa_cons (pe_joined (PJ.cons pe_str (PJ.cons (pe_fmt (pv 5)) PJ.nil))) (pa_cons (pv 2) (pa_cons pe_int pa_nil))))))
    (pss_cons (ps_set (i := 4) sc_Web_board.nd rfl (Or.inl rfl) (pe_op op_cat (pv 4) (pe_lc (own := [("j", 6)]) (g := (gName 6)) (by rfl) sc_Web_board.nd (pi_range1 rfl T.f_range (pa_cons (pv 2) pa_nil)) (blkOk_by (N := N_Web_board) (sc := defScope s_Web_board) (by decide +kernel)) (fun _ _ _ _ _ => (pg_name (i := 6) sc_Web_board.nd rfl (Or.inl rfl))) (fun _ _ _ _ _ => pts_nil) (fun _ _ _ _ _ => (pe_tup (pa_cons (pe_joined (PJ.cons pe_str (PJ.cons (pe_fmt (pv 6)) PJ.nil))) (pa_cons (pv 1) (pa_cons pe_int pa_nil))))))))
    (pss_one (ps_ret (pe_makeL (i := 0) T.k_Web G_WebU_initU (hr.mono (by decide)) rfl (Or.inl rfl) b_WebU_initU .nil pass0 (pa_cons (pv 4) (pa_cons (pe_lc2 (own := [("i", 5), ("j", 6)]) (vs1 := [6]) (g := (gName 5)) (g1 := (gName 6)) (by rfl) sc_Web_board.nd (pi_range1 rfl T.f_range (pa_cons (pv 1) pa_nil)) (blkOk_by (N := N_Web_board) (sc := defScope s_Web_board) (by decide +kernel)) (by decide) (fun _ _ _ _ _ => (pg_name (i := 5) sc_Web_board.nd rfl (Or.inl rfl))) (fun _ _ _ _ _ => pts_nil) (fun _ _ _ _ _ => (pi_range1 rfl T.f_range (pa_cons (pv 2) pa_nil))) (fun _ _ _ _ _ => (pg_name (i := 6) sc_Web_board.nd rfl (Or.inl rfl))) (fun _ _ _ _ _ => pts_nil) (fun _ _ _ _ _ => (pe_tup (pa_cons (pe_joined (PJ.cons pe_str (PJ.cons (pe_fmt (pv 5)) PJ.nil))) (pa_cons (pv 6) (pa_cons (pe_joined (PJ.cons pe_str (PJ.cons (pe_fmt (pv 6)) PJ.nil))) (pa_cons (pv 5) pa_nil))))))) pa_nil)))))))), ?_⟩
    refine q_for' (l := [(m : Int), (n : Int)]) (R := IntA) f0 (src_tup (ev_imp (ev_tup (ea_cons (P := IntA (m : Int)) (ev_var rfl rfl) (ea_cons (P := IntA (n : Int)) (ev_var rfl rfl) ea_nil))) fun H v h => tuA2 h)) fun G1 H1 x1 => ?_
    refine ⟨fun i σ' H' => ∃ (s3 : Option V) (G : Hp), σ' = [some (.ref (ga K "Web")), some (.int (m : Int)), some (.int (n : Int)), s3, none, none, none] ∧ Ext none G0 H G H' ∧ Gw G1 G, ⟨none, G1, rfl, x1, Gw.rfl' _⟩, ?_, ?_, ?_⟩
    · rintro i σ' H' ⟨s3, G, rfl, X, gw⟩
      exact gw.gs.trans X.sub
    · rintro i b σ1 H2 hq ⟨s3, G, rfl, X, gw⟩ xv H3 hy
      obtain ⟨G3, x3, rb⟩ := hy G gw (.mk0 X.sub)
      cases rb
      have hb : b = m ∨ b = n := by
        have := List.mem_of_getElem? hq
        simpa using this
      refine g_name ?_
      refine s_when (.mk0 x3.sub) (et_not (et_test (ev_chain (i := 2) (j := b) (l := 6) (b := decide ((2 : Int) ≤ b)) (c := decide (b ≤ 6)) ev_c (ev_var rfl rfl) (fun _ => ev_is (ev_i (i := 12) (j := 2) ev_c ev_c ⟨by decide, by decide⟩) rfl) rfl fun _ => rfl))) (fun hb' => ?_) fun _ G4 H4 x4 => ⟨_, G4, rfl, (X.trans x3).trans x4, gw.trans (x3.trans x4).gw⟩
      rw [decide_eq_true (show (2 : Int) ≤ b by omega), decide_eq_true (show b ≤ 6 by omega)] at hb'
      cases hb'
    · rintro σ' H2 ⟨s3, G, rfl, X, gw⟩
      have nameR : ∀ (i : Nat), i < 6 → ∀ (σ : L2.St) (G : Hp) (q : Nat), σ[q]? = some (some (.int (i : Nat))) → Ev none (fun σ H Q => tJs [tC (.str "r"), tFmt (tVar q)] Str.empty σ H fun out H1 => Q (.str out) H1) σ G (StrA (fName "r" (i : Nat))) := fun i hi σ G q hq => ev_fName (ev_var hq rfl) (fName_sz i hi).2.2 (by decide +kernel) (sz_small (Nat.le_trans (fName_sz i hi).1 (by decide)))
      have nameC : ∀ (i : Nat), i < 6 → ∀ (σ : L2.St) (G : Hp) (q : Nat), σ[q]? = some (some (.int (i : Nat))) → Ev none (fun σ H Q => tJs [tC (.str "c"), tFmt (tVar q)] Str.empty σ H fun out H1 => Q (.str out) H1) σ G (StrA (fName "c" (i : Nat))) := fun i hi σ G q hq => ev_fName (ev_var hq rfl) (fName_sz i hi).2.2 (by decide +kernel) (sz_small (Nat.le_trans (fName_sz i hi).2.1 (by decide)))
      refine q_asg (P := LsA RingA ((List.range m).map fun (i : Nat) => (fName "r" (i : Int), ((n : Nat) : Int), (1 : Int)))) (.mk0 X.sub) (ev_lcM (R := fun i : Nat => Is (.int (i : Nat))) (R' := RingA) (fun (i : Nat) => (fName "r" (i : Int), ((n : Nat) : Int), (1 : Int))) (src_rng (ev_var rfl rfl) (by omega)) (by rw [List.length_range]; omega) fun i hi xv G' H' gw fr rx Q' k2 => ?_) fun v3 G3 H3 x3 p3 => ?_
      · cases rx
        have hi' : i < m := List.mem_range.mp hi
        exact k2 _ rfl (ev_tup (ea_cons (P := StrA (fName "r" (i : Nat))) (nameR i (by omega) _ _ 5 rfl) (ea_cons (P := IntA (n : Int)) (ev_var rfl rfl) (ea_cons (P := IntA 1) ev_c ea_nil))))
      have X3 := X.trans x3
      refine q_asg (P := LsA RingA (boardR m n)) (.mk0 X3.sub) (ev_cat (R := RingA) (ev_var rfl p3) (ev_lcM (R := fun i : Nat => Is (.int (i : Nat))) (R' := RingA) (fun (i : Nat) => (fName "c" (i : Int), ((m : Nat) : Int), (1 : Int))) (src_rng (ev_var rfl rfl) (by omega)) (by rw [List.length_range]; omega) fun i hi xv G' H' gw fr rx Q' k2 => ?_) (by rw [List.length_map, List.length_map, List.length_range, List.length_range]; omega)) fun v4 G4 H4 x4 p4 => ?_
      · cases rx
        have hi' : i < n := List.mem_range.mp hi
        exact k2 _ rfl (ev_tup (ea_cons (P := StrA (fName "c" (i : Nat))) (nameC i (by omega) _ _ 6 rfl) (ea_cons (P := IntA (m : Int)) (ev_var rfl rfl) (ea_cons (P := IntA 1) ev_c ea_nil))))
      have X4 := X3.trans x4
      have hmn : m * n ≤ 3 * 6 := Nat.mul_le_mul m3 n6
      refine s_ret (P := WebX K (boardR m n)) (.mk0 X4.sub) (ev_makeL (i := (⟨boardR m n, boardM m n⟩ : WiI)) (board_ok m2 m3 n2 n6) (n := 2) (X4.gw.nl nl) rfl (ea_cons (P := LsA RingA (boardR m n)) (ev_var rfl p4) (ea_cons (P := LsA JointA (boardM m n)) (ev_lc2 (R := fun i : Nat => Is (.int (i : Nat))) (R1 := fun i : Nat => Is (.int (i : Nat))) (R' := JointA) (l := List.range m) (l1 := List.range n) (fun (i j : Nat) => (fName "r" (i : Int), (j : Int), fName "c" (j : Int), (i : Int))) (src_rng (ev_var rfl rfl) (by omega)) (by rw [List.length_range, List.length_range]; omega) fun i hi xv G' H' gw fr rx Q' k2 => ?_) ea_nil))) fun v5 G5 H5 x5 p5 => k v5 G5 H5 (X4.trans x5) p5
      cases rx
      have hi' : i < m := List.mem_range.mp hi
      refine k2 _ rfl ⟨src_rng (ev_var rfl rfl) (by omega), fun j hj xv G' H' gw fr rx Q' k3 => ?_⟩
      cases rx
      have hj' : j < n := List.mem_range.mp hj
      exact k3 _ rfl (ev_tup (ea_cons (P := StrA (fName "r" (i : Nat))) (nameR i (by omega) _ _ 5 rfl) (ea_cons (P := IntA (j : Int)) (ev_var rfl rfl) (ea_cons (P := StrA (fName "c" (j : Nat))) (nameC j (by omega) _ _ 6 rfl) (ea_cons (P := IntA (i : Int)) (ev_var rfl rfl) ea_nil)))))
end
end MR
/-! The pot that the law draws from: how much is drawn is counted. -/
namespace MR
open PySem L2
/-- the pot at p has been drawn from y times -/
def Pot (p : Addr) (H : Hp) (y : Int) : Prop := ∃ x : Int, H p = some (.lst [.int x, .int y]) ∧ 0 ≤ x ∧ 0 ≤ y
abbrev CAP : Int := 1000000
/-- a value as an expression -/
def cst (v : V) : TE := fun _ H Q => Q v H
def csts (vs : List V) : TA := fun _ H Q => Q vs H
section
variable {K : PySem.W.Frag} {p : Addr} {c d : Nat} {σ : L2.St} {G G' H H' : Hp} {ta tb te : TE} {t : TA} {tt : TT} {P P' Pa Pb : Hp → V → Prop} {Ps Ps' : List (Hp → V → Prop)} {y : Int} {v : V} {vs : List V}
theorem Pot.same {G' : Hp} (h : Pot p H y) (e : Ext none G H G' H') : Pot p H' y := by
  obtain ⟨x, h1, h2⟩ := h
  exact ⟨x, e.same _ _ (fun z => by cases z) h1, h2⟩
theorem Pot.ne {l : Addr} {o : HO} (h : Pot p H y) (hl : H l = some o) (n : ∀ a b, o ≠ .lst [.int a, .int b]) : p ≠ l := fun z => by
  obtain ⟨x, h1, h2⟩ := h
  subst z
  rw [hl] at h1
  cases h1
  exact n _ _ rfl
theorem ev_cst {M : Option Addr} [Mo P] (h : P G v) : Ev M (cst v) σ G P := fun G1 H1 e f Q k => k v G1 H1 (Ext.rfl' f) (mo_same e.gs h)
theorem ea_csts {M : Option Addr} [MoL Ps] (h : AllP G Ps vs) : EvA M (csts vs) σ G Ps := fun G1 H1 e f Q k => k vs G1 H1 (Ext.rfl' f) (al_same e.gs h)
def EvP (p : Addr) (c : Nat) (te : TE) (σ : L2.St) (G : Hp) (P : Hp → V → Prop) : Prop := ∀ G1 H1 y, Gw G G1 → Fr (some p) G1 H1 → Pot p H1 y → y + c ≤ CAP → ∀ Q : VK, (∀ v G2 H2 z, Ext (some p) G1 H1 G2 H2 → Pot p H2 z → z ≤ y + c → P G2 v → Q v H2) → te σ H1 Q
def EvPA (p : Addr) (c : Nat) (t : TA) (σ : L2.St) (G : Hp) (Ps : List (Hp → V → Prop)) : Prop := ∀ G1 H1 y, Gw G G1 → Fr (some p) G1 H1 → Pot p H1 y → y + c ≤ CAP → ∀ Q : List V → Hp → Prop, (∀ vs G2 H2 z, Ext (some p) G1 H1 G2 H2 → Pot p H2 z → z ≤ y + c → AllP G2 Ps vs → Q vs H2) → t σ H1 Q
def EvPT (p : Addr) (c : Nat) (t : TT) (σ : L2.St) (G : Hp) (φ : Bool → Prop) : Prop := ∀ G1 H1 y, Gw G G1 → Fr (some p) G1 H1 → Pot p H1 y → y + c ≤ CAP → ∀ Q : Bool → Hp → Prop, (∀ b G2 H2 z, Ext (some p) G1 H1 G2 H2 → Pot p H2 z → z ≤ y + c → φ b → Q b H2) → t σ H1 Q
theorem evp_of (h : Ev none te σ G P) : EvP p c te σ G P := fun G1 H1 y e f hp hy Q k => h G1 H1 e f.no Q fun v G2 H2 e2 q => k v G2 H2 y (e2.lift f) (hp.same e2) (by omega) q
theorem evp_imp (h : EvP p c te σ G P) (i : ∀ H v, P H v → P' H v) : EvP p c te σ G P' := fun G1 H1 y e f hp hy Q k => h G1 H1 y e f hp hy Q fun v G2 H2 z e2 hz l q => k v G2 H2 z e2 hz l (i _ _ q)
theorem evp_le (h : EvP p c te σ G P) (l : c ≤ d) : EvP p d te σ G P := fun G1 H1 y e f hp hy Q k => h G1 H1 y e f hp (by omega) Q fun v G2 H2 z e2 hz l2 q => k v G2 H2 z e2 hz (by omega) q
theorem evpa_nil : EvPA p 0 tNil σ G [] := fun G1 H1 y _ f hp _ Q k => k [] G1 H1 y (Ext.rfl' f) hp (by omega) .nil
theorem evpa_cons [Mo P] (h : EvP p c te σ G P) (hr : EvPA p d t σ G Ps) : EvPA p (c + d) (tCons te t) σ G (P :: Ps) := fun G1 H1 y e f hp hy Q k =>
  h G1 H1 y e f hp (by omega) _ fun x G2 H2 z e2 hz lz px => hr G2 H2 z (e.trans e2.gw) (f.ext e2) hz (by omega) _ fun vs G3 H3 u e3 hu lu a => k _ G3 H3 u (e2.trans e3) hu (by omega) (.cons (mo_same e3.gs px) a)
theorem evpa_of (h : EvA none t σ G Ps) : EvPA p c t σ G Ps := fun G1 H1 y e f hp hy Q k => h G1 H1 e f.no Q fun v G2 H2 e2 q => k v G2 H2 y (e2.lift f) (hp.same e2) (by omega) q
/-- what is done with a drawn value, with drawn arguments -/
theorem evp_b1 {f : TE → TE} (hf : ∀ t σ H Q, (t σ H fun x H1 => f (cst x) σ H1 Q) → f t σ H Q) (h : EvP p c te σ G P) (hk : ∀ G' x, Gw G G' → P G' x → Ev none (f (cst x)) σ G' P') : EvP p c (f te) σ G P' := fun G1 H1 y e fr hp hy Q k =>
  hf _ _ _ _ (h G1 H1 y e fr hp hy _ fun x G2 H2 z e2 hz lz px => hk G2 x (e.trans e2.gw) px G2 H2 (Gw.rfl' _) (fr.ext e2).no Q fun v G3 H3 e3 q => k v G3 H3 z (e2.trans (e3.lift (fr.ext e2))) (hz.same e3) lz q)
theorem evp_bA {f : TA → TE} (hf : ∀ t σ H Q, (t σ H fun xs H1 => f (csts xs) σ H1 Q) → f t σ H Q) (h : EvPA p c t σ G Ps) (hk : ∀ G' xs, Gw G G' → AllP G' Ps xs → Ev none (f (csts xs)) σ G' P') : EvP p c (f t) σ G P' := fun G1 H1 y e fr hp hy Q k =>
  hf _ _ _ _ (h G1 H1 y e fr hp hy _ fun x G2 H2 z e2 hz lz px => hk G2 x (e.trans e2.gw) px G2 H2 (Gw.rfl' _) (fr.ext e2).no Q fun v G3 H3 e3 q => k v G3 H3 z (e2.trans (e3.lift (fr.ext e2))) (hz.same e3) lz q)
/-- an operator of two drawn values -/
theorem evp_op {r : R2} [Mo Pa] [Mo Pb] (ha : EvP p c ta σ G Pa) (hb : EvP p d tb σ G Pb) (hk : ∀ G' x y, Gw G G' → Pa G' x → Pb G' y → Ev none (tOp r (cst x) (cst y)) σ G' P) : EvP p (c + d) (tOp r ta tb) σ G P := fun G1 H1 y e fr hp hy Q k =>
  ha G1 H1 y e fr hp (by omega) _ fun x G2 H2 z e2 hz lz px => hb G2 H2 z (e.trans e2.gw) (fr.ext e2) hz (by omega) _ fun w G3 H3 u e3 hu lu py =>
    hk G3 x w ((e.trans e2.gw).trans e3.gw) (mo_same e3.gs px) py G3 H3 (Gw.rfl' _) ((fr.ext e2).ext e3).no Q fun v G4 H4 e4 q => k v G4 H4 u ((e2.trans e3).trans (e4.lift ((fr.ext e2).ext e3))) (hu.same e4) (by omega) q
/-! ### ints of which something is known -/
def IntQ (φ : Int → Prop) : Hp → V → Prop := fun _ v => ∃ i : Int, v = .int i ∧ φ i
instance {φ : Int → Prop} : Mo (IntQ φ) := ⟨fun _ h => h⟩
abbrev DigP (n : Int) : Hp → V → Prop := IntQ fun i => 0 ≤ i ∧ i < n
theorem evp_i {φ ψ χ : Int → Prop} {C : Int → Int → Prop} {g : Int → Int → Int} (ha : EvP p c ta σ G (IntQ φ)) (hb : EvP p d tb σ G (IntQ ψ)) (hc : ∀ i j, φ i → ψ j → C i j ∧ χ (g i j)) : EvP p (c + d) (tOp (rI C fun i j => .int (g i j)) ta tb) σ G (IntQ χ) :=
  evp_op ha hb fun G' x y _ ⟨i, hx, h1⟩ ⟨j, hy, h2⟩ => by
    cases hx
    cases hy
    exact ev_imp (ev_i (i := i) (j := j) (ev_cst (P := Is (.int i)) rfl) (ev_cst (P := Is (.int j)) rfl) (hc i j h1 h2).1) fun H v h => ⟨_, h, (hc i j h1 h2).2⟩
theorem evp_i0 {φ ψ χ : Int → Prop} {g : Int → Int → Int} (ha : EvP p c ta σ G (IntQ φ)) (hb : EvP p d tb σ G (IntQ ψ)) (hc : ∀ i j, φ i → ψ j → χ (g i j)) : EvP p (c + d) (tOp (rI0 fun i j => .int (g i j)) ta tb) σ G (IntQ χ) :=
  evp_op ha hb fun G' x y _ ⟨i, hx, h1⟩ ⟨j, hy, h2⟩ => by
    cases hx
    cases hy
    exact ev_imp (ev_i0 (i := i) (j := j) (ev_cst (P := Is (.int i)) rfl) (ev_cst (P := Is (.int j)) rfl)) fun H v h => ⟨_, h, hc i j h1 h2⟩
theorem evp_c {φ : Int → Prop} {i : Int} (h : φ i) : EvP p 0 (tC (.int i)) σ G (IntQ φ) := evp_imp (evp_of ev_c) fun H v e => ⟨i, e, h⟩
theorem evp_v {φ : Int → Prop} {i : Int} {j : Nat} (hj : σ[j]? = some (some (.int i))) (h : φ i) : EvP p 0 (tVar j) σ G (IntQ φ) := evp_imp (evp_of (ev_var (P := Is (.int i)) hj rfl)) fun H v e => ⟨i, e, h⟩
theorem ev_iq {M : Option Addr} {φ : Int → Prop} (h : Ev M te σ G fun H v => ∃ i : Int, Is (.int i) H v ∧ φ i) : Ev M te σ G (IntQ φ) := h
/-- x == 0, .. -/
theorem evp_eqI {φ ψ : Int → Prop} (ha : EvP p c ta σ G (IntQ φ)) (hb : EvP p d tb σ G (IntQ ψ)) : EvP p (c + d) (tOp rEq ta tb) σ G fun _ v => ∃ b : Bool, v = .bl b :=
  evp_op ha hb fun G' x y _ ⟨i, hx, h1⟩ ⟨j, hy, h2⟩ => by
    cases hx
    cases hy
    exact ev_imp (ev_eq (x := .int i) (y := .int j) (ev_cst rfl) (ev_cst rfl) rfl) fun H v h => ⟨_, h⟩
theorem evpt_test {φ : Bool → Prop} (h : EvP p c te σ G fun _ v => ∃ b : Bool, v = .bl b ∧ φ b) : EvPT p c (tTest te) σ G φ := fun G1 H1 y e f hp hy Q k => h G1 H1 y e f hp hy _ fun v G2 H2 z e2 hz lz ⟨b, hb, q⟩ => ⟨b, hb, k b G2 H2 z e2 hz lz q⟩
theorem evpt_B {φ : Bool → Prop} (h : EvP p c te σ G fun _ v => ∃ b : Bool, v = .bl b ∧ φ b) : EvPT p c (tB te) σ G φ := fun G1 H1 y e f hp hy Q k => h G1 H1 y e f hp hy _ fun v G2 H2 z e2 hz lz ⟨b, hb, q⟩ => ⟨b, hb, k b G2 H2 z e2 hz lz q⟩
theorem evpt_not {φ : Bool → Prop} (h : EvPT p c tt σ G φ) : EvPT p c (tNot tt) σ G fun b => φ (!b) := fun G1 H1 y e f hp hy Q k => h G1 H1 y e f hp hy _ fun b G2 H2 z e2 hz lz q => k (!b) G2 H2 z e2 hz lz (by show φ (!!b); rw [Bool.not_not]; exact q)
/-! ### xs[i] -/
theorem allP_ix {H : Hp} : ∀ {Ps : List (Hp → V → Prop)} {vs : List V}, AllP H Ps vs → ∀ {i : Nat}, i < Ps.length → ∃ v P, vs[i]? = some v ∧ P ∈ Ps ∧ P H v
  | _, _, .nil, i, h => by cases h
  | _, _, .cons a t, 0, _ => ⟨_, _, rfl, List.mem_cons_self, a⟩
  | _, _, .cons a t, i + 1, h => by
    obtain ⟨v, P, h1, h2, h3⟩ := allP_ix t (i := i) (Nat.lt_of_succ_lt_succ h)
    exact ⟨v, P, h1, List.mem_cons_of_mem _ h2, h3⟩
theorem evp_ixL {β : Type} {R : β → Hp → V → Prop} [∀ b, Mo (R b)] {l : List β} (h : Ev none ta σ G (LsA R l)) (hi : EvP p c tb σ G (DigP l.length)) : EvP p c (tOp (rIxL K) ta tb) σ G fun H v => ∃ b, b ∈ l ∧ R b H v := by
  have := evp_op (p := p) (c := 0) (r := rIxL K) (P := fun H v => ∃ b, b ∈ l ∧ R b H v) (evp_of h) hi fun G' x y _ hx ⟨i, hy, h1, h2⟩ => by
    cases hy
    obtain ⟨n, rfl⟩ := Int.eq_ofNat_of_zero_le h1
    have hn : n < l.length := by omega
    have hb : l[n]? = some l[n] := List.getElem?_eq_getElem hn
    exact ev_imp (ev_ix (P := R l[n]) (i := (n : Int)) (ev_cst (P := ItemP (n : Int) (R l[n])) (item_ls hb _ _ hx)) (ev_cst (P := Is (.int n)) rfl)) fun H v q => ⟨_, List.getElem_mem hn, q⟩
  rw [Nat.zero_add] at this
  exact this
theorem evp_ixD [Mo P] [MoL Ps] (h : EvPA p c t σ G Ps) (all : ∀ Q, Q ∈ Ps → ∀ H v, Q H v → P H v) (hl : Ps.length ≤ 100000) (hi : EvP p d tb σ G (DigP Ps.length)) : EvP p (c + d) (tOp (rIxL K) (tLst t) tb) σ G P := fun G1 H1 y e fr hp hy Q k =>
  h G1 H1 y e fr hp (by omega) _ fun xs G2 H2 z e2 hz lz al => by
    have f2 := fr.ext e2
    refine ⟨by rw [al.length]; exact sz_small hl, fun q hq => ?_⟩
    have x3 := Ext.new f2 hq (o := .lst xs) fun _ _ z => by cases z
    have nq : p ≠ q := fun w => by
      obtain ⟨x, h1, _⟩ := hz
      rw [← w, h1] at hq
      cases hq
    have hz3 : Pot p (upd H2 q (.lst xs)) z := by
      obtain ⟨x, h1, h2⟩ := hz
      exact ⟨x, by rw [upd_ne nq]; exact h1, h2⟩
    refine hi _ _ z ((e.trans e2.gw).trans x3.gw) (f2.ext x3) hz3 (by omega) _ fun w G4 H4 u e4 hu lu ⟨i, hw, h1, h2⟩ => ?_
    cases hw
    obtain ⟨n, rfl⟩ := Int.eq_ofNat_of_zero_le h1
    have al4 : AllP G4 Ps xs := MoL.up ((up_new (f2.free hq)).trans (sm_up e4.gs)) al
    obtain ⟨v, P0, g1, g2, g3⟩ := allP_ix al4 (i := n) (by omega)
    exact ⟨q, xs, (n : Int), v, rfl, rfl, SqL.of (e4.same _ _ (fun z => nq (Option.some.inj z)) upd_same), atI_nat g1, k v G4 H4 u ((e2.trans x3).trans e4) hu (by omega) (all _ g2 _ _ g3)⟩
/-! ### promises of what draws -/
def spPo (cc : Nat) {ι : Type} (C : ι → Prop) (Ps : ι → List (Hp → V → Prop)) (R : ι → Hp → V → Prop) : Sp := fun vs H Q _ =>
  ∃ i p rest G y, vs = .ref p :: rest ∧ C i ∧ NL 2 G ∧ Fr (some p) G H ∧ Pot p H y ∧ y + (cc : Nat) ≤ CAP ∧ AllP G (Ps i) rest ∧ ∀ v G' H' z, Ext (some p) G H G' H' → Pot p H' z → z ≤ y + (cc : Nat) → R i G' v → Q v H'
theorem evp_call {cc j : Nat} {ι : Type} {C : ι → Prop} {Ps0 : ι → List (Hp → V → Prop)} {R : ι → Hp → V → Prop} {E : XK} (hn : NL 2 G) (hj : σ[j]? = some (some (.ref p))) (h : EvPA p c t σ G Ps) (hx : ∀ G' vs, AllP G' Ps vs → ∃ i, C i ∧ AllP G' (Ps0 i) vs ∧ ∀ H v, R i H v → P H v) :
    EvP p (c + cc) (tCall (spPo cc C Ps0 R) [] E (tCons (tVar j) t)) σ G P := fun G1 H1 y e f hp hy Q k =>
  ⟨_, hj, h G1 H1 y e f hp (by omega) _ fun vs G2 H2 z e2 hz lz a => by
    obtain ⟨i, ci, al, im⟩ := hx G2 vs a
    exact ⟨i, p, vs, G2, z, by rw [List.append_nil], ci, (e.trans e2.gw).nl hn, f.ext e2, hz, by omega, al, fun v G3 H3 u e3 hu lu q => k v G3 H3 u (e2.trans e3) hu (by omega) (im _ _ q)⟩⟩
/-! ### statements -/
variable {D : Ends} {tu tw tz tb' : TS} {g : TG}
theorem q_asgP {i : Nat} (f : Fr (some p) G H) (hp : Pot p H y) (hy : y + c ≤ CAP) (h : EvP p c te σ G P) (k : ∀ v G1 H1 z, Ext (some p) G H G1 H1 → Pot p H1 z → z ≤ y + c → P G1 v → tz D (σ.set i (some v)) H1) : tSeq (tAsg te (gName i)) tz D σ H := h G H y (Gw.rfl' _) f hp hy _ k
theorem s_asgP {i : Nat} (f : Fr (some p) G H) (hp : Pot p H y) (hy : y + c ≤ CAP) (h : EvP p c te σ G P) (k : ∀ v G1 H1 z, Ext (some p) G H G1 H1 → Pot p H1 z → z ≤ y + c → P G1 v → D.nx (σ.set i (some v)) H1) : tAsg te (gName i) D σ H := h G H y (Gw.rfl' _) f hp hy _ k
theorem s_retP (f : Fr (some p) G H) (hp : Pot p H y) (hy : y + c ≤ CAP) (h : EvP p c te σ G P) (k : ∀ v G1 H1 z, Ext (some p) G H G1 H1 → Pot p H1 z → z ≤ y + c → P G1 v → D.rt v H1) : tRet te D σ H := h G H y (Gw.rfl' _) f hp hy _ k
theorem q_ifP {φ : Bool → Prop} (f : Fr (some p) G H) (hp : Pot p H y) (hy : y + c ≤ CAP) (h : EvPT p c tt σ G φ) (k1 : φ true → ∀ G1 H1 z, Ext (some p) G H G1 H1 → Pot p H1 z → z ≤ y + c → tu { D with nx := tz D } σ H1) (k2 : φ false → ∀ G1 H1 z, Ext (some p) G H G1 H1 → Pot p H1 z → z ≤ y + c → tw { D with nx := tz D } σ H1) : tSeq (tIfS tt tu tw) tz D σ H := h G H y (Gw.rfl' _) f hp hy _ fun b G1 H1 z e hz lz q => by
  cases b with
  | true => rw [if_pos rfl]; exact k1 q G1 H1 z e hz lz
  | false => rw [if_neg Bool.false_ne_true]; exact k2 q G1 H1 z e hz lz
theorem q_whenP {φ : Bool → Prop} (f : Fr (some p) G H) (hp : Pot p H y) (hy : y + c ≤ CAP) (h : EvPT p c tt σ G φ) (k1 : φ true → ∀ G1 H1 z, Ext (some p) G H G1 H1 → Pot p H1 z → z ≤ y + c → tu { D with nx := tz D } σ H1) (k2 : φ false → ∀ G1 H1 z, Ext (some p) G H G1 H1 → Pot p H1 z → z ≤ y + c → tz D σ H1) : tSeq (tIfS tt tu tNext) tz D σ H := q_ifP f hp hy h k1 k2
theorem s_whenP {φ : Bool → Prop} (f : Fr (some p) G H) (hp : Pot p H y) (hy : y + c ≤ CAP) (h : EvPT p c tt σ G φ) (k1 : φ true → ∀ G1 H1 z, Ext (some p) G H G1 H1 → Pot p H1 z → z ≤ y + c → tu D σ H1) (k2 : φ false → ∀ G1 H1 z, Ext (some p) G H G1 H1 → Pot p H1 z → z ≤ y + c → D.nx σ H1) : tIfS tt tu tNext D σ H := h G H y (Gw.rfl' _) f hp hy _ fun b G1 H1 z e hz lz q => by
  cases b with
  | true => rw [if_pos rfl]; exact k1 q G1 H1 z e hz lz
  | false => rw [if_neg Bool.false_ne_true]; exact k2 q G1 H1 z e hz lz
/-- if t: x = e -/
theorem q_setIfP {φ : Int → Prop} {ψ : Bool → Prop} {i : Nat} {L0 : Int} (f : Fr (some p) G H) (hp : Pot p H y) (hy : y + c ≤ CAP) (h : EvPT p c tt σ G ψ) (he : ∀ G', Gw G G' → Ev none te σ G' (IntQ φ)) (hs : σ.set i (some (.int L0)) = σ) (h0 : φ L0)
    (k : ∀ L G1 H1 z, φ L → Ext (some p) G H G1 H1 → Pot p H1 z → z ≤ y + c → tz D (σ.set i (some (.int L))) H1) : tSeq (tIfS tt (tAsg te (gName i)) tNext) tz D σ H := by
  refine q_whenP f hp hy h (fun _ G1 H1 z e hz lz => s_asg (M := none) (f.ext e).no (he G1 e.gw) fun v G2 H2 e2 hv => ?_) fun _ G1 H1 z e hz lz => ?_
  · obtain ⟨L, rfl, hφ⟩ := hv
    exact k L G2 H2 z hφ (e.trans (e2.lift (f.ext e))) (hz.same e2) lz
  · have := k L0 G1 H1 z h0 e hz lz
    rwa [hs] at this
/-- xs.append(e) -/
theorem s_appP {l : Addr} {acc : List V} {i : Nat} (f : Fr (some p) G H) (hp : Pot p H y) (hy : y + c ≤ CAP) (hi : σ[i]? = some (some (.ref l))) (hl : H l = some (.lst acc)) (nl : p ≠ l) (hz : acc.length < 100000) (h : EvP p c te σ G P)
    (k : ∀ v G1 H1 z, Ext (some p) G H G1 H1 → Pot p H1 z → z ≤ y + c → P G1 v → H1 l = some (.lst acc) → D.nx σ (upd H1 l (.lst (acc ++ [v])))) : tDrop (tBM K "list" rAppend (tVar i) (tCons te tNil)) D σ H :=
  ⟨_, hi, .inl ⟨rfl, _, SqL.of hl⟩, h G H y (Gw.rfl' _) f hp hy _ fun v G1 H1 z e hz' lz q => ⟨l, acc, v, rfl, rfl, e.same _ _ (fun w => nl (Option.some.inj w)) hl, sz_lt hz, k v G1 H1 z e hz' lz q (e.same _ _ (fun w => nl (Option.some.inj w)) hl)⟩⟩
theorem q_forRngP (f : Fr (some p) G H) (hp : Pot p H y) (hy : y + c ≤ CAP) (h : EvP p c te σ G P) (k : ∀ v G1 H1 z, Ext (some p) G H G1 H1 → Pot p H1 z → z ≤ y + c → P G1 v → tSeq (tFor (iRng1 (tCons (cst v) tNil)) g tb') tz D σ H1) : tSeq (tFor (iRng1 (tCons te tNil)) g tb') tz D σ H := h G H y (Gw.rfl' _) f hp hy _ k
theorem q_forLstP (f : Fr (some p) G H) (hp : Pot p H y) (hy : y + c ≤ CAP) (h : EvP p c te σ G P) (k : ∀ v G1 H1 z, Ext (some p) G H G1 H1 → Pot p H1 z → z ≤ y + c → P G1 v → tSeq (tFor (iList K (cst v)) g tb') tz D σ H1) : tSeq (tFor (iList K te) g tb') tz D σ H := h G H y (Gw.rfl' _) f hp hy _ k
theorem s_forLstP (f : Fr (some p) G H) (hp : Pot p H y) (hy : y + c ≤ CAP) (h : EvP p c te σ G P) (k : ∀ v G1 H1 z, Ext (some p) G H G1 H1 → Pot p H1 z → z ≤ y + c → P G1 v → tFor (iList K (cst v)) g tb' D σ H1) : tFor (iList K te) g tb' D σ H := h G H y (Gw.rfl' _) f hp hy _ k
/-- the pot itself is written -/
theorem Ext.grow {M : Option Addr} (f : Fr M G H) (s : ∀ a o, H a = some o → H' a = some o) : Ext M G H G H' := ⟨fun a o _ h => s a o h, Same.refl _, fun a o h => s _ _ (f.sub _ _ h), fun _ _ h => h, fun _ _ _ h => h, fun q hq => by
  obtain ⟨_, x, y, z⟩ := f.pot q hq
  exact ⟨x, y, s _ _ z⟩⟩
theorem Ext.potSet {G1 H1 : Hp} (e : Ext (some p) G H G1 H1) (g : G1 p = none) {a b : Int} : Ext (some p) G H G1 (upd H1 p (.lst [.int a, .int b])) :=
  ⟨fun q o n h => by
    rw [upd_ne (fun z => n (by rw [z]))]
    exact e.same q o n h, e.gs, sm_mut e.sub g, e.av, e.nf, fun q hq => by
    cases hq
    exact ⟨a, b, upd_same⟩⟩
end
end MR
/-! The law's helpers: source, take, number. -/
namespace MR
open PySem PySem.Spec PyProof.Rows L2 He
section
variable {P : Program} {w : World} {K : PySem.W.Frag} {mg : Str → Option Value} {base : Heap}
/-- _law_source: from the script to a pot -/
def spSource (K : PySem.W.Frag) : Sp := fun vs H Q _ => ∃ (a : Addr) (ns : List Int) (pl : Int), vs = [.ref a, .int pl] ∧ SqL K H a (ns.map V.int) ∧ 0 ≤ pl ∧ pl ≤ 2 ∧ ∀ p H' x, H p = none → (∀ b o, H b = some o → H' b = some o) → H' p = some (.lst [.int x, .int (1000 * pl)]) → 0 ≤ x → Q (.ref p) H'
theorem ok__law_source (T : Tx K mg) : Good P w K mg base 1 (ga K "_law_source") ["_law_script", "_law_place"] (spSource K) := by
  refine good_of T.d__law_source sc__law_source (fun fd F => FunD.bindsN F fun _ _ _ _ _ _ us hl => match us, hl with | [_, _], _ => rfl) (fun vs H Q E h => ?_) (fun cdv A outer s H vs Q E hr h => ?_)
  · obtain ⟨a, ns, pl, rfl, _⟩ := h
    rfl
  · obtain ⟨a, ns, pl, rfl, hS, p0, p2, k⟩ := h
    refine ⟨_, (pss_cons (ps_set (i := 2) sc__law_source.nd rfl (Or.inl rfl) pe_int)
    (pss_cons (ps_if (pt_cmpR op_gt (pe_callB call_len_seq (by rfl) T.f_len PySem.boot_len (pa_cons (pv 0) pa_nil)) pe_int (nomark _)) (pss_one (ps_set (i := 2) sc__law_source.nd rfl (Or.inl rfl) (pe_ix ix_list (pv 0) (pe_op op_mod (pv 1) (pe_callB call_len_seq (by rfl) T.f_len PySem.boot_len (pa_cons (pv 0) pa_nil))) (fun _ _ => rfl)))) pss_nil)
    (pss_one (ps_ret (pe_lst (pa_cons (pe_op op_add (pe_callB call_abs (by rfl) T.f_abs (by decide +kernel) (pa_cons (pv 2) pa_nil)) (pe_callTy call_int1 (by rfl) T.f_int (by decide +kernel) (pa_cons (pe_cmpR op_lt (pv 2) pe_int (nomark _)) pa_nil))) (pa_cons (pe_op op_mulX pe_int (pv 1)) pa_nil))))))), ?_⟩
    have fin : ∀ c : Int, ∀ D : Ends, D.rt = Q → (tRet (tLst (tCons (tOp (rI0 fun i j => V.int (i + j)) (tCB (fun xs H Q => ∃ i, xs = [V.int i] ∧ Q (V.int (if i < 0 then -i else i)) H) (tCons (tVar 2) tNil))
              (tCB (fun xs H Q => (∃ i, xs = [V.int i] ∧ Q (V.int i) H) ∨ ∃ k, xs = [V.bl k] ∧ Q (V.int (if k = true then 1 else 0)) H) (tCons (tOp (rI0 fun i j => V.bl (decide (i < j))) (tVar 2) (tC (V.int 0))) tNil)))
            (tCons (tOp (rI CMulX fun i j => V.int (i * j)) (tC (V.int 1000)) (tVar 1)) tNil)))) D [some (.ref a), some (.int pl), some (.int c)] H := fun c D hD => by
      refine ⟨_, rfl, c, rfl, _, rfl, _, _, rfl, rfl, Or.inr ⟨_, rfl, _, _, rfl, rfl, _, rfl, _, _, rfl, rfl, mulx_ok (a := 10) (b := 2) (by decide) (by omega) (by decide), by show 2 ≤ sizeLine; decide, fun p hp => ?_⟩⟩
      rw [hD]
      refine k p _ _ hp (sm_new hp) upd_same ?_
      by_cases h : c < 0
      · rw [if_pos h, if_pos (decide_eq_true h)]
        omega
      · rw [if_neg h, if_neg (by simpa using h)]
        omega
    refine (show tSeq _ _ _ ([some (.ref a), some (.int pl), some (.int 0)] : L2.St) H from ?_)
    refine ⟨_, rfl, a, _, rfl, .inl hS, _, _, rfl, rfl, _, rfl, ?_⟩
    rw [List.length_map]
    dsimp only
    by_cases hl : ns.length = 0
    · rw [if_neg (fun z => by have := of_decide_eq_true z; omega)]
      exact fin 0 _ rfl
    · rw [if_pos (decide_eq_true (by omega))]
      have m0 := Int.emod_nonneg pl (show ((ns.length : Nat) : Int) ≠ 0 by omega)
      have m1 := Int.emod_lt_of_pos pl (show (0 : Int) < (ns.length : Nat) by omega)
      obtain ⟨j, hj⟩ := Int.eq_ofNat_of_zero_le m0
      have hjl : j < ns.length := by omega
      have hat : (ns.map V.int)[j]? = some (V.int ns[j]) := by
        rw [List.getElem?_map, List.getElem?_eq_getElem hjl]
        rfl
      refine ⟨_, rfl, _, rfl, _, rfl, a, _, rfl, .inl hS, _, _, rfl, rfl, ?_, ?_⟩
      · rw [List.length_map]
        omega
      · refine ⟨a, _, _, V.int ns[j], rfl, rfl, hS, ?_, fin _ _ rfl⟩
        rw [List.length_map, hj]
        exact atI_nat hat
def spTake (K : PySem.W.Frag) : Sp := spPo 1 (ι := Int) (fun n => 0 < n ∧ n.natAbs < 2 ^ 200) (fun n => [IntA n]) (fun n => DigP n)
theorem ok__law_take (T : Tx K mg) : Good P w K mg base 1 (ga K "_law_take") ["_law_pot", "_law_size"] (spTake K) := by
  refine good_of T.d__law_take sc__law_take (fun fd F => FunD.bindsN F fun _ _ _ _ _ _ us hl => match us, hl with | [_, _], _ => rfl) (fun vs H Q E h => ?_) (fun cdv A outer s H vs Q E hr h => ?_)
  · obtain ⟨i, p, rest, G, y, rfl, _, _, _, _, _, al, _⟩ := h
    exact congrArg Nat.succ (al_len al rfl)
  · obtain ⟨n, p, rest, G, y, rfl, hC, nl, fr, hp, hy, al, k⟩ := h
    obtain ⟨u, rfl, e1⟩ := al1 al
    cases e1
    refine ⟨_, (pss_cons (ps_asg (pe_op op_add (pe_ix ix_list (pv 0) pe_int (fun _ _ => rfl)) pe_int) (pg_sub (pv 0) pe_int set_list))
    (pss_cons (ps_if (pt_cmpR op_ge (pe_ix ix_list (pv 0) pe_int (fun _ _ => rfl)) (pe_op op_powW pe_int pe_int) (nomark _)) (pss_cons (ps_set (i := 2) sc__law_take.nd rfl (Or.inl rfl) (pe_op op_mod (pe_ix ix_list (pv 0) pe_int (fun _ _ => rfl)) (pv 1)))
    (pss_cons (ps_asg (pe_op op_fdivW (pe_ix ix_list (pv 0) pe_int (fun _ _ => rfl)) (pv 1)) (pg_sub (pv 0) pe_int set_list))
    (pss_one (ps_ret (pv 2))))) pss_nil)
    (pss_cons (ps_set (i := 3) sc__law_take.nd rfl (Or.inl rfl) (pe_op op_mod (pe_op op_powW (pe_op op_add (pe_op op_add (pe_op op_mulX (pe_ix ix_list (pv 0) pe_int (fun _ _ => rfl)) pe_int) (pe_op op_mulX (pe_ix ix_list (pv 0) pe_int (fun _ _ => rfl)) pe_int)) pe_int) pe_int) pe_int))
    (pss_cons (ps_set (i := 4) sc__law_take.nd rfl (Or.inl rfl) (pe_op op_mod (pe_op op_powW (pe_op op_add (pe_op op_add (pe_op op_mulX (pv 3) pe_int) (pe_op op_mulX (pe_ix ix_list (pv 0) pe_int (fun _ _ => rfl)) pe_int)) pe_int) pe_int) pe_int))
    (pss_one (ps_ret (pe_op op_mod (pv 4) (pv 1)))))))), ?_⟩
    obtain ⟨n0, nb⟩ := hC
    obtain ⟨x, hx, x0, y0⟩ := hp
    have gp := (fr.pot p rfl).1
    have one : ∀ (H : Hp) (o : HO), H p = some o → Fr none (upd (fun _ => none) p o) H := fun H o h => .mk0 (sm_add (fun _ _ z => by cases z) h)
    have k0 : ∀ (x y : Int) (σ : L2.St), σ[0]? = some (some (.ref p)) → Ev none (tOp (rIxL K) (tVar 0) (tC (.int 0))) σ (upd (fun _ => none) p (.lst [.int x, .int y])) (Is (.int x)) := fun x y σ h => ev_ix (P := Is (.int x)) (i := 0) (ev_var (P := ItemP 0 (Is (.int x))) h ⟨p, _, _, rfl, upd_same, atI_nat (j := 0) rfl, rfl⟩) ev_c
    have k1 : ∀ (x y : Int) (σ : L2.St), σ[0]? = some (some (.ref p)) → Ev none (tOp (rIxL K) (tVar 0) (tC (.int 1))) σ (upd (fun _ => none) p (.lst [.int x, .int y])) (Is (.int y)) := fun x y σ h => ev_ix (P := Is (.int y)) (i := 1) (ev_var (P := ItemP 1 (Is (.int y))) h ⟨p, _, _, rfl, upd_same, atI_nat (j := 1) rfl, rfl⟩) ev_c
    refine q_asgG (one H _ hx) (ev_i0 (i := y) (j := 1) (k1 x y _ rfl) ev_c) fun v1 G1 H1 x1 h1 => ?_
    cases h1
    have hx1 := x1.same _ _ (fun z => by cases z) hx
    refine ⟨_, rfl, p, _, 1, 1, rfl, rfl, hx1, rfl, ?_⟩
    have E1 : Ext (some p) G H G (upd H1 p (.lst [.int x, .int (y + 1)])) := (Ext.grow fr fun a o h => x1.same a o (fun z => by cases z) h).potSet gp
    have F1 := one (upd H1 p (.lst [.int x, .int (y + 1)])) _ upd_same
    have grow : ∀ {Ha Ga Gb Hb : Hp}, Ext (some p) G H G Ha → Ext none Ga Ha Gb Hb → Ext (some p) G H G Hb := fun e x => e.trans (Ext.grow (fr.ext e) fun a o h => x.same a o (fun z => by cases z) h)
    refine q_when F1 (et_test (b := decide ((10 : Int) ^ 18 ≤ x)) (ev_i0 (i := x) (j := 10 ^ 18) (k0 x (y + 1) _ rfl) (ev_is (ev_i (i := 10) (j := 18) ev_c ev_c ⟨by decide, by decide +kernel⟩) rfl))) (fun hb G2 H2 x2 => ?_) (fun hb G2 H2 x2 => ?_)
    · have E2 := grow E1 x2
      have hp2 := x2.same _ _ (fun z => by cases z) upd_same
      refine q_asg (P := Is (.int (x % n))) (one H2 _ hp2) (ev_i (i := x) (j := n) (k0 x (y + 1) _ rfl) (ev_var rfl rfl) n0) fun v3 G3 H3 x3 h3 => ?_
      cases h3
      have E3 := grow E2 x3
      have hp3 := x3.same _ _ (fun z => by cases z) hp2
      refine q_asgG (one H3 _ hp3) (ev_i (i := x) (j := n) (k0 x (y + 1) _ rfl) (ev_var rfl rfl) (wide_div n0 nb (by decide) (by decide))) fun v4 G4 H4 x4 h4 => ?_
      cases h4
      have E4 := grow E3 x4
      have hp4 := x4.same _ _ (fun z => by cases z) hp3
      refine ⟨_, rfl, p, _, 0, 0, rfl, rfl, hp4, rfl, ?_⟩
      have E5 := E4.potSet gp (a := x / n) (b := y + 1)
      exact ⟨_, rfl, k _ G _ (y + 1) E5 ⟨x / n, upd_same, Int.ediv_nonneg x0 (Int.le_of_lt n0), by omega⟩ (by omega) ⟨_, rfl, Int.emod_nonneg _ (by omega), Int.emod_lt_of_pos _ n0⟩⟩
    · have E2 := grow E1 x2
      have hp2 := x2.same _ _ (fun z => by cases z) upd_same
      have hx18 : x < 10 ^ 18 := by
        have := of_decide_eq_false hb
        omega
      have cap : y + 1 ≤ 1000000 := by
        have : y + ((1 : Nat) : Int) ≤ 1000000 := hy
        omega
      have b1 : (x * 48271 + (y + 1) * 40503 + 12345).natAbs < 2 ^ 80 := by omega
      refine q_asg (P := DigP 2147483647) (one H2 _ hp2) (ev_imp (ev_i (i := (x * 48271 + (y + 1) * 40503 + 12345) ^ 5) (j := 2147483647) (ev_is (ev_i (i := x * 48271 + (y + 1) * 40503 + 12345) (j := 5) (ev_i0 (i := x * 48271 + (y + 1) * 40503) (j := 12345) (ev_i0 (i := x * 48271) (j := (y + 1) * 40503) (ev_i (i := x) (j := 48271) (k0 x (y + 1) _ rfl) ev_c (mulx_ok (a := 64) (b := 20) (by omega) (by decide) (by decide))) (ev_i (i := y + 1) (j := 40503) (k1 x (y + 1) _ rfl) ev_c (mulx_ok (a := 64) (b := 20) (by omega) (by decide) (by decide)))) ev_c) ev_c ⟨by decide, ?_⟩) rfl) ev_c (by decide)) fun H v h => ⟨_, h, Int.emod_nonneg _ (by decide), Int.emod_lt_of_pos _ (by decide)⟩) fun v3 G3 H3 x3 h3 => ?_
      · have := PyProof.Rows.intBits_le b1
        omega
      obtain ⟨f, rfl, f0, f1⟩ := h3
      have E3 := grow E2 x3
      have hp3 := x3.same _ _ (fun z => by cases z) hp2
      have b2 : (f * 69621 + (y + 1) * 30011 + 54321).natAbs < 2 ^ 80 := by omega
      refine q_asg (P := DigP 2147483629) (one H3 _ hp3) (ev_imp (ev_i (i := (f * 69621 + (y + 1) * 30011 + 54321) ^ 5) (j := 2147483629) (ev_is (ev_i (i := f * 69621 + (y + 1) * 30011 + 54321) (j := 5) (ev_i0 (i := f * 69621 + (y + 1) * 30011) (j := 54321) (ev_i0 (i := f * 69621) (j := (y + 1) * 30011) (ev_i (i := f) (j := 69621) (ev_var rfl rfl) ev_c (mulx_ok (a := 64) (b := 20) (by omega) (by decide) (by decide))) (ev_i (i := y + 1) (j := 30011) (k1 x (y + 1) _ rfl) ev_c (mulx_ok (a := 64) (b := 20) (by omega) (by decide) (by decide)))) ev_c) ev_c ⟨by decide, ?_⟩) rfl) ev_c (by decide)) fun H v h => ⟨_, h, Int.emod_nonneg _ (by decide), Int.emod_lt_of_pos _ (by decide)⟩) fun v4 G4 H4 x4 h4 => ?_
      · have := PyProof.Rows.intBits_le b2
        omega
      obtain ⟨e, rfl, g0, g1⟩ := h4
      have E4 := grow E3 x4
      have hp4 := x4.same _ _ (fun z => by cases z) hp3
      refine s_ret (P := DigP n) (one H4 _ hp4) (ev_imp (ev_i (i := e) (j := n) (ev_var rfl rfl) (ev_var rfl rfl) n0) fun H v h => ⟨_, h, Int.emod_nonneg _ (by omega), Int.emod_lt_of_pos _ n0⟩) fun v5 G5 H5 x5 h5 => ?_
      exact k _ G _ (y + 1) (grow E4 x5) ⟨x, x5.same _ _ (fun z => by cases z) hp4, x0, by omega⟩ (by omega) h5
def spNumber (K : PySem.W.Frag) : Sp := spPo 4 (ι := Int) (fun n => 0 < n ∧ n.natAbs < 2 ^ 200) (fun n => [IntA n]) (fun n => DigP n)
theorem ok__law_number (T : Tx K mg) : Good P w K mg base 2 (ga K "_law_number") ["_law_pot", "_law_size"] (spNumber K) := by
  obtain ⟨⟨fd__law_take, G__law_take, b__law_take⟩, k__law_take⟩ := ok__law_take (P := P) (w := w) (base := base) T
  refine good_of T.d__law_number sc__law_number (fun fd F => FunD.bindsN F fun _ _ _ _ _ _ us hl => match us, hl with | [_, _], _ => rfl) (fun vs H Q E h => ?_) (fun cdv A outer s H vs Q E hr h => ?_)
  · obtain ⟨i, p, rest, G, y, rfl, _, _, _, _, _, al, _⟩ := h
    exact congrArg Nat.succ (al_len al rfl)
  · obtain ⟨n, p, rest, G, y, rfl, hC, nl, fr, hp, hy, al, k⟩ := h
    obtain ⟨u, rfl, e1⟩ := al1 al
    cases e1
    refine ⟨_, (pss_cons (ps_set (i := 2) sc__law_number.nd rfl (Or.inl rfl) pe_int)
    (pss_cons (ps_for PassesOwn.never rfl (pi_range1 rfl T.f_range (pa_cons pe_int pa_nil)) (pg_name (i := 3) sc__law_number.nd rfl (Or.inl rfl))
    (pss_one (ps_set (i := 2) sc__law_number.nd rfl (Or.inl rfl) (pe_op op_add (pe_op op_mulX (pv 2) pe_int) (pe_call G__law_take (hr.mono (by decide)) (by rfl) T.g__law_take k__law_take b__law_take .nil pass0 (pa_cons (pv 0) (pa_cons pe_int pa_nil)))))))
    (pss_one (ps_ret (pe_op op_mod (pv 2) (pv 1)))))), ?_⟩
    obtain ⟨n0, nb⟩ := hC
    refine (show tSeq _ _ _ ([some (.ref p), some (.int n), some (.int 0), none] : L2.St) H from ?_)
    refine q_for' (M := none) (l := List.range 4) (R := fun i => Is (.int (i : Nat))) fr.no (src_rng ev_c (by decide)) fun G1 H1 x1 => ?_
    refine ⟨fun i σ' H' => ∃ (m z : Int) (s3 : Option V) (G2 : Hp), σ' = [some (.ref p), some (.int n), some (.int m), s3] ∧ Ext (some p) G H G2 H' ∧ Gw G1 G2 ∧ Pot p H' z ∧ z ≤ y + (i : Nat) ∧ 0 ≤ m ∧ m < 1000000007 ^ i, ⟨0, y, none, G1, rfl, x1.lift fr, Gw.rfl' _, hp.same x1, by omega, by decide, by decide⟩, ?_, ?_, ?_⟩
    · rintro i σ' H' ⟨m, z, s3, G2, rfl, X, gw, _⟩
      exact gw.gs.trans X.sub
    · rintro i b σ1 H2 hq ⟨m, z, s3, G2, rfl, X, gw, hz, lz, m0, m1⟩ xv H3 hy'
      have f2 := fr.ext X
      obtain ⟨G3, x3, rb⟩ := hy' G2 gw f2.no
      cases rb
      have hi : i < 4 := by
        have := (List.getElem?_eq_some_iff.mp hq).1
        rwa [List.length_range] at this
      have hle : (1000000007 : Int) ^ i ≤ 1000000007 ^ 4 := by
        have : i = 0 ∨ i = 1 ∨ i = 2 ∨ i = 3 := by omega
        rcases this with rfl | rfl | rfl | rfl <;> decide
      have hc : y + 4 ≤ 1000000 := hy
      refine g_name ?_
      refine s_asgP (P := IntQ fun m' => 0 ≤ m' ∧ m' < 1000000007 ^ (i + 1)) (c := 0 + (0 + 1)) (f2.ext (x3.lift f2)) (hz.same x3) (by omega) (evp_i0 (φ := fun j => j = m * 1000000007) (ψ := fun j => 0 ≤ j ∧ j < 1000000007) (evp_imp (evp_of (ev_i (i := m) (j := 1000000007) (ev_var rfl rfl) ev_c (mulx_ok (a := 128) (b := 32) ?_ (by decide) (by decide)))) fun H v h => ⟨_, h, rfl⟩) (evp_call (Ps := [IntA 1000000007]) ((X.gw.trans x3.gw).nl nl) rfl (evpa_of (ea_cons (P := IntA 1000000007) ev_c ea_nil)) fun G' vs al => ⟨1000000007, ⟨by decide, by decide⟩, al, fun H v h => h⟩) fun a b ha hb => ?_) fun v4 G4 H4 z4 x4 hz4 lz4 p4 => ?_
      · omega
      · subst ha
        rw [Int.pow_succ]
        omega
      · obtain ⟨m', rfl, q0, q1⟩ := p4
        exact ⟨m', z4, _, G4, rfl, (X.trans (x3.lift f2)).trans x4, gw.trans (x3.gw.trans x4.gw), hz4, by omega, q0, q1⟩
    · rintro σ' H2 ⟨m, z, s3, G2, rfl, X, gw, hz, lz, m0, m1⟩
      have f2 := fr.ext X
      refine s_ret (P := DigP n) f2.no (ev_imp (ev_i (i := m) (j := n) (ev_var rfl rfl) (ev_var rfl rfl) n0) fun H v h => ⟨_, h, Int.emod_nonneg _ (by omega), Int.emod_lt_of_pos _ n0⟩) fun v5 G5 H5 x5 h5 => ?_
      exact k _ G5 _ z (X.trans (x5.lift f2)) (hz.same x5) lz h5
end
end MR
/-! The law's helpers: rings and moves drawn. -/
namespace MR
open PySem PySem.Spec PyProof.Rows L2 He
def nm8 (i : Nat) : Nm := (["a1", "a", "ring2", "a10", "ring", "meet", "pqsuvwxy", "b68"] : List Nm).getD i "a"
theorem nm8_ok : ∀ i, i < 8 → nmB (nm8 i) = true := by decide +kernel
theorem nm8_nd : ∀ s, s < 8 → ∀ k, k < 5 → ((List.range k).map fun j => nm8 ((s + j) % 8)).Nodup := by decide +kernel
structure Drawn (st : Nat) (i : Nat) (l : List (Nm × Int × Int)) : Prop where
  nm : l.map (·.1) = (List.range i).map fun j => nm8 ((st + j) % 8)
  ok : ∀ r, r ∈ l → 1 ≤ r.2.1 ∧ r.2.1 < 2 ^ 104 ∧ 1 ≤ r.2.2
theorem Drawn.len {st i : Nat} {l : List (Nm × Int × Int)} (h : Drawn st i l) : l.length = i := by
  have := congrArg List.length h.nm
  rwa [List.length_map, List.length_map, List.length_range] at this
theorem Drawn.snoc {st i : Nat} {l : List (Nm × Int × Int)} (h : Drawn st i l) {L s : Int} (h1 : 1 ≤ L) (h2 : L < 2 ^ 104) (h3 : 1 ≤ s) : Drawn st (i + 1) (l ++ [(nm8 ((st + i) % 8), L, s)]) where
  nm := by rw [List.map_append, h.nm, List.range_succ, List.map_append]; rfl
  ok := fun r hr => by
    rcases List.mem_append.mp hr with q | q
    · exact h.ok r q
    · rw [List.mem_singleton] at q
      subst q
      exact ⟨h1, h2, h3⟩
theorem Drawn.rings {st i : Nat} {l : List (Nm × Int × Int)} (h : Drawn st i l) (hs : st < 8) (h1 : 1 ≤ i) (h4 : i ≤ 4) : RingsOk l ∧ ∀ r, r ∈ l → r.2.1 < 2 ^ 104 := by
  have hm : ∀ r, r ∈ l → nmB r.1 = true := fun r hr => by
    have : r.1 ∈ l.map (·.1) := List.mem_map.mpr ⟨r, hr, rfl⟩
    rw [h.nm] at this
    obtain ⟨j, _, e⟩ := List.mem_map.mp this
    rw [← e]
    exact nm8_ok _ (Nat.mod_lt _ (by decide))
  refine ⟨⟨fun r hr => (nmB_ok (hm r hr)).1, ?_, fun r hr => ⟨(h.ok r hr).1, (h.ok r hr).2.2⟩, by rw [h.len]; exact h1, by rw [h.len]; omega, fun r hr => (nmB_ok (hm r hr)).2⟩, fun r hr => (h.ok r hr).2.1⟩
  rw [h.nm]
  exact nm8_nd st hs i (by omega)
section
variable {P : Program} {w : World} {K : PySem.W.Frag} {mg : Str → Option Value} {base : Heap}
theorem ev_intB {M : Option Addr} {te : TE} {σ : L2.St} {G : Hp} {b : Bool} (h : Ev M te σ G (Is (.bl b))) : Ev M (tCB (fun xs H Q => (∃ i, xs = [.int i] ∧ Q (.int i) H) ∨ ∃ k, xs = [.bl k] ∧ Q (.int (if k then 1 else 0)) H) (tCons te tNil)) σ G (Is (.int (if b = true then 1 else 0))) := ev_cb (ea_cons h ea_nil) fun G1 H1 vs _ f al Q k => by
  obtain ⟨_, rfl, h1⟩ := al1 al
  cases h1
  exact .inr ⟨b, rfl, k _ G1 H1 (Ext.rfl' f) rfl⟩
theorem ev_intI {M : Option Addr} {te : TE} {σ : L2.St} {G : Hp} {i : Int} (h : Ev M te σ G (Is (.int i))) : Ev M (tCB (fun xs H Q => (∃ i, xs = [.int i] ∧ Q (.int i) H) ∨ ∃ k, xs = [.bl k] ∧ Q (.int (if k then 1 else 0)) H) (tCons te tNil)) σ G (Is (.int i)) := ev_cb (ea_cons h ea_nil) fun G1 H1 vs _ f al Q k => by
  obtain ⟨_, rfl, h1⟩ := al1 al
  cases h1
  exact .inl ⟨i, rfl, k _ G1 H1 (Ext.rfl' f) rfl⟩
theorem evp_take {p : Addr} {j : Nat} {n : Int} {E : XK} {te : TE} {σ : L2.St} {G : Hp} (hn : NL 2 G) (hj : σ[j]? = some (some (.ref p))) (h0 : 0 < n) (hb : n.natAbs < 2 ^ 200) (h : Ev none te σ G (IntA n)) : EvP p 1 (tCall (spTake K) [] E (tCons (tVar j) (tCons te tNil))) σ G (DigP n) :=
  evp_le (evp_call (c := 0) (Ps := [IntA n]) hn hj (evpa_of (ea_cons h ea_nil)) fun G' vs al => ⟨n, ⟨h0, hb⟩, al, fun H v h => h⟩) (by decide)
theorem evp_number {p : Addr} {j : Nat} {n : Int} {E : XK} {te : TE} {σ : L2.St} {G : Hp} (hn : NL 2 G) (hj : σ[j]? = some (some (.ref p))) (h0 : 0 < n) (hb : n.natAbs < 2 ^ 200) (h : Ev none te σ G (IntA n)) : EvP p 4 (tCall (spNumber K) [] E (tCons (tVar j) (tCons te tNil))) σ G (DigP n) :=
  evp_le (evp_call (c := 0) (Ps := [IntA n]) hn hj (evpa_of (ea_cons h ea_nil)) fun G' vs al => ⟨n, ⟨h0, hb⟩, al, fun H v h => h⟩) (by decide)
def RingsX (H : Hp) (v : V) : Prop := ∃ l, LsA RingA l H v ∧ RingsOk l ∧ ∀ r, r ∈ l → r.2.1 < 2 ^ 104
def spDrR (K : PySem.W.Frag) : Sp := spPo 62 (ι := Unit) (fun _ => True) (fun _ => [IntA 4, LsA IntA [9, 100, 10 ^ 30]]) (fun _ => RingsX)
theorem ok__law_drawn_rings (T : Tx K mg) : Good P w K mg base 3 (ga K "_law_drawn_rings") ["_law_pot", "_law_most", "_law_tops"] (spDrR K) := by
  obtain ⟨⟨fd__law_take, G__law_take, b__law_take⟩, k__law_take⟩ := ok__law_take (P := P) (w := w) (base := base) T
  obtain ⟨⟨fd__law_number, G__law_number, b__law_number⟩, k__law_number⟩ := ok__law_number (P := P) (w := w) (base := base) T
  refine good_of T.d__law_drawn_rings sc__law_drawn_rings (fun fd F => FunD.bindsN F fun _ _ _ _ _ _ us hl => match us, hl with | [_, _, _], _ => rfl) (fun vs H Q E h => ?_) (fun cdv A outer s H vs Q E hr h => ?_)
  · obtain ⟨i, p, rest, G, y, rfl, _, _, _, _, _, al, _⟩ := h
    exact congrArg Nat.succ (al_len al rfl)
  · obtain ⟨n, p, rest, G, y, rfl, _, nl, fr, hp, hy, al, k⟩ := h
    obtain ⟨u1, u2, rfl, e1, e2⟩ := al2 al
    cases e1
    refine ⟨_, (pss_cons (ps_set (i := 3) sc__law_drawn_rings.nd rfl (Or.inl rfl) (pe_lst pa_nil))
    (pss_cons (ps_set (i := 4) sc__law_drawn_rings.nd rfl (Or.inl rfl) (pe_call G__law_take (hr.mono (by decide)) (by rfl) T.g__law_take k__law_take b__law_take .nil pass0 (pa_cons (pv 0) (pa_cons pe_int pa_nil))))
    (pss_cons (ps_set (i := 5) sc__law_drawn_rings.nd rfl (Or.inl rfl) (pe_lst (pa_cons pe_str (pa_cons pe_str (pa_cons pe_str (pa_cons pe_str (pa_cons pe_str (pa_cons pe_str (pa_cons pe_str (pa_cons pe_str pa_nil))))))))))
    (pss_cons (ps_for PassesOwn.never rfl (pi_range1 rfl T.f_range (pa_cons (pe_op op_add pe_int (pe_call G__law_take (hr.mono (by decide)) (by rfl) T.g__law_take k__law_take b__law_take .nil pass0 (pa_cons (pv 0) (pa_cons (pv 1) pa_nil)))) pa_nil)) (pg_name (i := 6) sc__law_drawn_rings.nd rfl (Or.inl rfl))
    (pss_cons (ps_set (i := 7) sc__law_drawn_rings.nd rfl (Or.inl rfl) (pe_ix ix_list (pv 2) (pe_call G__law_take (hr.mono (by decide)) (by rfl) T.g__law_take k__law_take b__law_take .nil pass0 (pa_cons (pv 0) (pa_cons (pe_callB call_len_seq (by rfl) T.f_len PySem.boot_len (pa_cons (pv 2) pa_nil)) pa_nil))) (fun _ _ => rfl)))
    (pss_cons (ps_set (i := 8) sc__law_drawn_rings.nd rfl (Or.inl rfl) (pe_op op_add (pe_op op_add pe_int (pe_call G__law_number (hr.mono (by decide)) (by rfl) T.g__law_number k__law_number b__law_number .nil pass0 (pa_cons (pv 0) (pa_cons (pe_op op_sub (pv 7) pe_int) pa_nil)))) (pe_op op_mulX (pe_op op_powW pe_int pe_int) (pe_callTy call_int1 (by rfl) T.f_int (by decide +kernel) (pa_cons (pe_cmpR op_gt (pv 7) (pe_op op_powW pe_int pe_int) (nomark _)) pa_nil)))))
    (pss_cons (ps_if (pt_cmpR op_eq (pe_call G__law_take (hr.mono (by decide)) (by rfl) T.g__law_take k__law_take b__law_take .nil pass0 (pa_cons (pv 0) (pa_cons pe_int pa_nil))) pe_int (nomark _)) (pss_one (ps_set (i := 8) sc__law_drawn_rings.nd rfl (Or.inl rfl) pe_int)) pss_nil)
    (pss_cons (ps_set (i := 9) sc__law_drawn_rings.nd rfl (Or.inl rfl) (pe_ix ix_list (pe_lst (pa_cons pe_int (pa_cons pe_int (pa_cons (pv 8) (pa_cons (pe_op op_add pe_int (pe_call G__law_number (hr.mono (by decide)) (by rfl) T.g__law_number k__law_number b__law_number .nil pass0 (pa_cons (pv 0) (pa_cons (pv 8) pa_nil)))) (pa_cons (pe_op op_add pe_int (pe_call G__law_number (hr.mono (by decide)) (by rfl) T.g__law_number k__law_number b__law_number .nil pass0 (pa_cons (pv 0) (pa_cons (pe_op op_mulX pe_int (pv 8)) pa_nil)))) pa_nil)))))) (pe_call G__law_take (hr.mono (by decide)) (by rfl) T.g__law_take k__law_take b__law_take .nil pass0 (pa_cons (pv 0) (pa_cons pe_int pa_nil))) (fun _ _ => rfl)))
    (pss_one (ps_expr (pe_bm PySem.F.plainAttrs_list PySem.F.slot_list_append PySem.F.type_list_append mt_append (pv 3) (pa_cons (pe_tup (pa_cons (pe_ix ix_list (pv 5) (pe_op op_mod (pe_op op_add (pv 4) (pv 6)) pe_int) (fun _ _ => rfl)) (pa_cons (pv 8) (pa_cons (pv 9) pa_nil)))) pa_nil)))))))))
    (pss_one (ps_ret (pv 3))))))), ?_⟩
    have hc : y + 62 ≤ 1000000 := hy
    refine q_newL (fr.no) fun d hd => ?_
    have gd : G d = none := fr.sub.free hd
    have npd : p ≠ d := fun z => by
      obtain ⟨x, h1, _⟩ := hp
      rw [z, hd] at h1
      cases h1
    have nM : (some p : Option Addr) ≠ some d := fun z => npd (Option.some.inj z)
    have hp0 : Pot p (upd H d (.lst [])) y := by
      obtain ⟨x, h1, h2⟩ := hp
      exact ⟨x, by rw [upd_ne npd]; exact h1, h2⟩
    have X0 : Ext (some p) G H G (upd H d (.lst [])) := Ext.new' fr hd
    refine q_asgP (P := DigP 8) (c := 1) (fr.ext X0) hp0 (by omega) (evp_take nl rfl (by decide) (by decide) ev_c) fun v1 G1 H1 z1 x1 hz1 lz1 h1 => ?_
    obtain ⟨st', rfl, s0, s8⟩ := h1
    obtain ⟨st, rfl⟩ := Int.eq_ofNat_of_zero_le s0
    have X1 := X0.trans x1
    have hd1 := x1.same _ _ nM upd_same
    have gd1 := x1.av d ⟨_, upd_same, fun _ z => by cases z⟩ gd
    refine q_asg (P := LsA StrA ["a1", "a", "ring2", "a10", "ring", "meet", "pqsuvwxy", "b68"]) (M := none) (fr.ext X1).no (ev_imp (ev_lst (ea_cons (P := StrA "a1") ev_c (ea_cons (P := StrA "a") ev_c (ea_cons (P := StrA "ring2") ev_c (ea_cons (P := StrA "a10") ev_c (ea_cons (P := StrA "ring") ev_c (ea_cons (P := StrA "meet") ev_c (ea_cons (P := StrA "pqsuvwxy") ev_c (ea_cons (P := StrA "b68") ev_c ea_nil))))))))) fun H v h => lsA_lst (R := StrA) (l := ["a1", "a", "ring2", "a10", "ring", "meet", "pqsuvwxy", "b68"]) h) fun v2 G2 H2 x2 h2 => ?_
    have X2 := X1.trans (x2.lift (fr.ext X1))
    have hz2 := hz1.same x2
    have hd2 := x2.same _ _ (fun z => by cases z) hd1
    have gd2 := x2.av d ⟨_, hd1, fun _ z => by cases z⟩ gd1
    refine (show tSeq _ _ _ ([some (.ref p), some (.int 4), some u2, some (.ref d), some (.int (st : Nat)), some v2, none, none, none, none] : L2.St) H2 from ?_)
    refine q_forRngP (P := IntQ fun i => 1 ≤ i ∧ i ≤ 4) (c := 0 + 1) (fr.ext X2) hz2 (by omega) (evp_i0 (φ := fun i => i = 1) (ψ := fun i => 0 ≤ i ∧ i < 4) (evp_c rfl) (evp_take ((X2.gw).nl nl) rfl (by decide) (by decide) (ev_var rfl rfl)) fun a b ha hb => by omega) fun v3 G3 H3 z3 x3 hz3 lz3 h3 => ?_
    obtain ⟨n', rfl, n1, n4⟩ := h3
    obtain ⟨n, rfl⟩ := Int.eq_ofNat_of_zero_le (show 0 ≤ n' by omega)
    have X3 := X2.trans x3
    have hd3 := x3.same _ _ nM hd2
    have gd3 := x3.av d ⟨_, hd2, fun _ z => by cases z⟩ gd2
    have h2' : LsA StrA ["a1", "a", "ring2", "a10", "ring", "meet", "pqsuvwxy", "b68"] G3 v2 := mo_same x3.gs h2
    have lst8 : st < 8 := by omega
    refine q_for' (M := none) (l := List.range n) (R := fun i => Is (.int (i : Nat))) (fr.ext X3).no (src_rng (ev_cst (P := Is (.int (n : Nat))) rfl) (by omega)) fun G4 H4 x4 => ?_
    refine ⟨fun i σ' H' => ∃ (l : List (Nm × Int × Int)) (acc : List V) (z : Int) (s6 s7 s8 s9 : Option V) (Gz : Hp), σ' = [some (.ref p), some (.int 4), some u2, some (.ref d), some (.int (st : Nat)), some v2, s6, s7, s8, s9] ∧ Ext (some p) G H Gz H' ∧ Gw G3 Gz ∧ Gw G4 Gz ∧ Pot p H' z ∧ z ≤ y + 2 + 15 * (i : Nat) ∧ Gz d = none ∧ H' d = some (.lst acc) ∧ Paired (fun r u => RingA r Gz u) l acc ∧ Drawn st i l,
      ⟨[], [], z3, none, none, none, none, G4, rfl, X3.trans (x4.lift (fr.ext X3)), x4.gw, Gw.rfl' _, hz3.same x4, by omega, x4.av d ⟨_, hd3, fun _ z => by cases z⟩ gd3, x4.same _ _ (fun z => by cases z) hd3, .nil, ⟨rfl, fun r hr => by cases hr⟩⟩, ?_, ?_, ?_⟩
    · rintro i σ' H' ⟨l, acc, z, s6, s7, s8, s9, Gz, rfl, X, gw3, gw, _⟩
      exact gw.gs.trans X.sub
    · rintro i b σ1 Ha hq ⟨l, acc, z, s6, s7, s8, s9, Gz, rfl, X, gw3, gw, hz, lz, gdz, hdz, pr, DR⟩ xv Hb hyy
      have fz := fr.ext X
      obtain ⟨G5, x5, rb⟩ := hyy Gz gw fz.no
      have hi : i < n := by
        have := (List.getElem?_eq_some_iff.mp hq).1
        rwa [List.length_range] at this
      have hbi : b = i := by
        have := (List.getElem?_eq_some_iff.mp hq).2
        simpa using this.symm
      subst hbi
      cases rb
      refine g_name ?_
      refine (show tSeq _ _ _ ([some (.ref p), some (.int 4), some u2, some (.ref d), some (.int (st : Nat)), some v2, some (.int (b : Nat)), s7, s8, s9] : L2.St) Hb from ?_)
      have X5 := X.trans (x5.lift fz)
      have nl5 := X5.gw.nl nl
      have e5 : LsA IntA [9, 100, 10 ^ 30] G5 u2 := mo_same X5.gs e2
      -- the top
      refine q_asgP (P := fun H v => ∃ b, b ∈ [9, 100, 10 ^ 30] ∧ IntA b H v) (c := 1) (fr.ext X5) (hz.same x5) (by omega) (evp_ixL (ev_var rfl e5) (evp_take nl5 rfl (by decide) (by decide) (ev_len (ev_imp (ev_var rfl e5) seqN_ls)))) fun v6 G6 H6 z6 x6 hz6 lz6 h6 => ?_
      obtain ⟨tp, htp, ht6⟩ := h6
      cases ht6
      have ht : 9 ≤ tp ∧ tp ≤ 10 ^ 30 := by
        simp only [List.mem_cons, List.not_mem_nil, or_false] at htp
        rcases htp with rfl | rfl | rfl <;> decide
      have X6 := X5.trans x6
      -- the length
      refine q_asgP (P := IntQ fun L => 1 ≤ L ∧ L < 2 ^ 104) (c := 0 + 4 + 0) (fr.ext X6) hz6 (by omega) (evp_i0 (φ := fun a => 2 ≤ a ∧ a < 10 ^ 30 + 2) (ψ := fun a => 0 ≤ a ∧ a ≤ 10 ^ 9) (evp_i0 (φ := fun a => a = 2) (ψ := fun a => 0 ≤ a ∧ a < tp - 1) (evp_c rfl) (evp_number (X6.gw.nl nl) rfl (by omega) (by omega) (ev_i0 (i := tp) (j := 1) (ev_var rfl rfl) ev_c)) fun a b ha hb => by omega) (evp_imp (evp_of (ev_i (i := 10 ^ 9) (j := if decide ((10 : Int) ^ 9 < tp) = true then 1 else 0) (ev_is (ev_i (i := 10) (j := 9) ev_c ev_c ⟨by decide, by decide +kernel⟩) rfl) (ev_intB (b := decide ((10 : Int) ^ 9 < tp)) (ev_i0 (i := tp) (j := 10 ^ 9) (ev_var rfl rfl) (ev_is (ev_i (i := 10) (j := 9) ev_c ev_c ⟨by decide, by decide +kernel⟩) rfl))) (mulx_ok (a := 40) (b := 2) (by decide) (by split <;> decide) (by decide)))) fun H v h => ⟨_, h, by split <;> decide⟩) fun a b ha hb => by omega) fun v7 G7 H7 z7 x7 hz7 lz7 h7 => ?_
      obtain ⟨L0, rfl, la1, la2⟩ := h7
      have X7 := X6.trans x7
      refine q_setIfP (φ := fun L => 1 ≤ L ∧ L < 2 ^ 104) (L0 := L0) (c := 1 + 0) (fr.ext X7) hz7 (by omega) (evpt_test (φ := fun _ => True) (evp_imp (evp_eqI (evp_take (X7.gw.nl nl) rfl (by decide) (by decide) ev_c) (evp_c (φ := fun i => i = 0) rfl)) fun H v ⟨b, h⟩ => ⟨b, h, trivial⟩)) (fun G' _ => ev_imp ev_c fun H v h => ⟨1, h, by decide, by decide⟩) rfl ⟨la1, la2⟩ fun L G8 H8 z8 hL x8 hz8 lz8 => ?_
      have X8 := X7.trans x8
      -- the step
      refine q_asgP (P := IntQ fun s => 1 ≤ s) (c := (0 + (0 + (0 + ((0 + 4) + ((0 + 4) + 0))))) + 1) (fr.ext X8) hz8 (by omega) (evp_ixD (evpa_cons (P := IntQ fun s => 1 ≤ s) (evp_c (by decide)) (evpa_cons (P := IntQ fun s => 1 ≤ s) (evp_c (by decide)) (evpa_cons (P := IntQ fun s => 1 ≤ s) (evp_v rfl hL.1) (evpa_cons (P := IntQ fun s => 1 ≤ s) (evp_i0 (φ := fun i => i = 1) (ψ := fun i => 0 ≤ i ∧ i < L) (evp_c rfl) (evp_number (X8.gw.nl nl) rfl (by omega) (by omega) (ev_var rfl rfl)) fun a b ha hb => by omega) (evpa_cons (P := IntQ fun s => 1 ≤ s) (evp_i0 (φ := fun i => i = 1) (ψ := fun i => 0 ≤ i ∧ i < 3 * L) (evp_c rfl) (evp_number (X8.gw.nl nl) rfl (by omega) (by omega) (ev_i (i := 3) (j := L) ev_c (ev_var rfl rfl) (mulx_ok (a := 2) (b := 104) (by decide) (by omega) (by decide)))) fun a b ha hb => by omega) evpa_nil))))) (fun Q hQ H v h => ?_) (by show 5 ≤ 100000; decide) (evp_take (n := 5) (X8.gw.nl nl) rfl (by decide) (by decide) ev_c)) fun v9 G9 H9 z9 x9 hz9 lz9 h9 => ?_
      · simp only [List.mem_cons, List.not_mem_nil, or_false, or_self] at hQ
        subst hQ
        exact h
      obtain ⟨s, rfl, hs⟩ := h9
      have X9 := X8.trans x9
      have x59 := (((x5.lift fz).trans x6).trans (x7.trans x8)).trans x9
      have hd9 := x59.same _ _ nM hdz
      have gd9 := x59.av d ⟨_, hdz, fun _ z => by cases z⟩ gdz
      have h29 : LsA StrA ["a1", "a", "ring2", "a10", "ring", "meet", "pqsuvwxy", "b68"] G9 v2 := mo_same (gw3.trans x59.gw).gs h2'
      have lacc := paired_len pr
      have hlen := DR.len
      have hit : (["a1", "a", "ring2", "a10", "ring", "meet", "pqsuvwxy", "b68"] : List Nm)[(st + b) % 8]? = some (nm8 ((st + b) % 8)) := by
        have hm : (st + b) % 8 < 8 := Nat.mod_lt _ (by decide)
        unfold nm8
        rw [List.getD_eq_getElem?_getD]
        generalize (st + b) % 8 = q at hm
        match q, hm with
        | 0, _ => rfl
        | 1, _ => rfl
        | 2, _ => rfl
        | 3, _ => rfl
        | 4, _ => rfl
        | 5, _ => rfl
        | 6, _ => rfl
        | 7, _ => rfl
      refine (show tDrop _ _ ([some (.ref p), some (.int 4), some u2, some (.ref d), some (.int (st : Nat)), some v2, some (.int (b : Nat)), some (.int tp), some (.int L), some (.int s)] : L2.St) H9 from ?_)
      refine p_app (M := none) (P := RingA (nm8 ((st + b) % 8), L, s)) (l := d) (acc := acc) (fr.ext X9).no rfl hd9 (fun z => by cases z) (by omega) (ev_tup (ea_cons (P := StrA (nm8 ((st + b) % 8))) (ev_ix (i := (((st + b) % 8 : Nat) : Int)) (P := StrA (nm8 ((st + b) % 8))) (ev_imp (ev_var rfl h29) (item_ls hit)) (ev_is (ev_i (i := (st : Int) + (b : Int)) (j := 8) (ev_i0 (i := (st : Int)) (j := (b : Int)) (ev_var rfl rfl) (ev_var rfl rfl)) ev_c (by decide)) (by rw [Int.natCast_emod, Int.natCast_add]; rfl))) (ea_cons (P := IntA L) (ev_var rfl rfl) (ea_cons (P := IntA s) (ev_var rfl rfl) ea_nil)))) fun v10 G10 H10 x10 h10 hd10 => ?_
      have gd10 := x10.av d ⟨_, hd9, fun _ z => by cases z⟩ gd9
      have X10 := Ext.mutD (o := .lst (acc ++ [v10])) (X9.trans (x10.lift (fr.ext X9))) hd gd10 nM
      refine ⟨l ++ [(nm8 ((st + b) % 8), L, s)], acc ++ [v10], z9, _, _, _, _, G10, rfl, X10, gw3.trans (x59.gw.trans x10.gw), gw.trans (x59.gw.trans x10.gw), ?_, by omega, gd10, upd_same, paired_snoc (paired_imp (fun r u (q : RingA r Gz u) => mo_same (P := RingA r) (x59.gs.trans x10.gs) q) pr) h10, DR.snoc hL.1 hL.2 hs⟩
      obtain ⟨x, q1, q2⟩ := hz9.same x10
      exact ⟨x, by rw [upd_ne npd]; exact q1, q2⟩
    · rintro σ' Ha ⟨l, acc, z, s6, s7, s8, s9, Gz, rfl, X, gw3, gw, hz, lz, gdz, hdz, pr, DR⟩
      rw [List.length_range] at DR lz
      obtain ⟨r1, r2⟩ := DR.rings lst8 (by omega) (by omega)
      have L := Ext.learn X hd gdz hdz fun _ _ z => by cases z
      exact ⟨_, rfl, k _ _ _ z L hz (by show z ≤ y + 62; omega) ⟨l, ⟨d, acc, rfl, upd_same, paired_imp (fun r u (q : RingA r Gz u) => Mo.up (P := RingA r) (up_new gdz) q) pr⟩, r1, r2⟩⟩
end
end MR
/-! The law's helpers: moves drawn. -/
namespace MR
open PySem PySem.Spec PyProof.Rows L2 He
section
variable {P : Program} {w : World} {K : PySem.W.Frag} {mg : Str → Option Value} {base : Heap}
structure MvI where
  l : List (Nm × Int × Int)
  most : Int
structure MvOk (i : MvI) : Prop where
  one : 1 ≤ i.l.length
  few : i.l.length ≤ 1000
  ok : ∀ r, r ∈ i.l → 1 ≤ r.2.1 ∧ r.2.1 < 2 ^ 104
  m0 : 0 ≤ i.most
  m5 : i.most ≤ 5
structure Moves (i : MvI) (n : Nat) (ml : List (Nm × Int)) : Prop where
  mem : ∀ q, q ∈ ml → (∃ r, r ∈ i.l ∧ q.1 = r.1) ∧ q.2.natAbs < 2 ^ 150
  len : ml.length = n
def MovesX (i : MvI) (H : Hp) (v : V) : Prop := ∃ ml n, LsA TurnA ml H v ∧ Moves i n ml ∧ n ≤ 5
def spDrM (K : PySem.W.Frag) : Sp := spPo 40 (ι := MvI) MvOk (fun i => [LsA RingA i.l, IntA i.most]) (fun i => MovesX i)
theorem ring_t0 {r : Nm × Int × Int} : ∀ H v, RingA r H v → ItemT 0 (StrA r.1) H v := fun H v h => item_t0 H v h
theorem ring_t1 {r : Nm × Int × Int} : ∀ H v, RingA r H v → ItemT 1 (IntA r.2.1) H v := fun H v h => item_t1 H v h
theorem ok__law_drawn_moves (T : Tx K mg) : Good P w K mg base 3 (ga K "_law_drawn_moves") ["_law_pot", "_law_rings", "_law_most"] (spDrM K) := by
  obtain ⟨⟨fd__law_take, G__law_take, b__law_take⟩, k__law_take⟩ := ok__law_take (P := P) (w := w) (base := base) T
  obtain ⟨⟨fd__law_number, G__law_number, b__law_number⟩, k__law_number⟩ := ok__law_number (P := P) (w := w) (base := base) T
  refine good_of T.d__law_drawn_moves sc__law_drawn_moves (fun fd F => FunD.bindsN F fun _ _ _ _ _ _ us hl => match us, hl with | [_, _, _], _ => rfl) (fun vs H Q E h => ?_) (fun cdv A outer s H vs Q E hr h => ?_)
  · obtain ⟨i, p, rest, G, y, rfl, _, _, _, _, _, al, _⟩ := h
    exact congrArg Nat.succ (al_len al rfl)
  · obtain ⟨n, p, rest, G, y, rfl, hC, nl, fr, hp, hy, al, k⟩ := h
    obtain ⟨u1, u2, rfl, e1, e2⟩ := al2 al
    cases e2
    obtain ⟨l, most⟩ := n
    obtain ⟨one, few, okl, m0, m5⟩ := hC
    dsimp only at e1 k one few okl m0 m5
    refine ⟨_, (pss_cons (ps_set (i := 3) sc__law_drawn_moves.nd rfl (Or.inl rfl) (pe_lst pa_nil))
    (pss_cons (ps_for PassesOwn.never rfl (pi_range1 rfl T.f_range (pa_cons (pe_call G__law_take (hr.mono (by decide)) (by rfl) T.g__law_take k__law_take b__law_take .nil pass0 (pa_cons (pv 0) (pa_cons (pe_op op_add (pv 2) pe_int) pa_nil))) pa_nil)) (pg_name (i := 4) sc__law_drawn_moves.nd rfl (Or.inl rfl))
    (pss_cons (ps_set (i := 5) sc__law_drawn_moves.nd rfl (Or.inl rfl) (pe_ix ix_list (pv 1) (pe_call G__law_take (hr.mono (by decide)) (by rfl) T.g__law_take k__law_take b__law_take .nil pass0 (pa_cons (pv 0) (pa_cons (pe_callB call_len_seq (by rfl) T.f_len PySem.boot_len (pa_cons (pv 1) pa_nil)) pa_nil))) (fun _ _ => rfl)))
    (pss_cons (ps_set (i := 6) sc__law_drawn_moves.nd rfl (Or.inl rfl) (pe_call G__law_number (hr.mono (by decide)) (by rfl) T.g__law_number k__law_number b__law_number .nil pass0 (pa_cons (pv 0) (pa_cons (pe_op op_add (pe_op op_mulX pe_int (pe_ix ix_tup (pv 5) pe_int (fun _ _ => rfl))) pe_int) pa_nil))))
    (pss_one (ps_expr (pe_bm PySem.F.plainAttrs_list PySem.F.slot_list_append PySem.F.type_list_append mt_append (pv 3) (pa_cons (pe_tup (pa_cons (pe_ix ix_tup (pv 5) pe_int (fun _ _ => rfl)) (pa_cons (pe_ix ix_list (pe_lst (pa_cons pe_int (pa_cons (pe_un un_neg pe_int) (pa_cons (pe_op op_sub (pe_call G__law_take (hr.mono (by decide)) (by rfl) T.g__law_take k__law_take b__law_take .nil pass0 (pa_cons (pv 0) (pa_cons pe_int pa_nil))) pe_int) (pa_cons (pv 6) (pa_cons (pe_un un_neg (pv 6)) (pa_cons (pe_ix ix_tup (pv 5) pe_int (fun _ _ => rfl)) pa_nil))))))) (pe_call G__law_take (hr.mono (by decide)) (by rfl) T.g__law_take k__law_take b__law_take .nil pass0 (pa_cons (pv 0) (pa_cons pe_int pa_nil))) (fun _ _ => rfl)) pa_nil))) pa_nil)))))))
    (pss_one (ps_ret (pv 3))))), ?_⟩
    have hc : y + 40 ≤ 1000000 := hy
    refine q_newL (fr.no) fun d hd => ?_
    have gd : G d = none := fr.sub.free hd
    have npd : p ≠ d := fun z => by
      obtain ⟨x, h1, _⟩ := hp
      rw [z, hd] at h1
      cases h1
    have nM : (some p : Option Addr) ≠ some d := fun z => npd (Option.some.inj z)
    have hp0 : Pot p (upd H d (.lst [])) y := by
      obtain ⟨x, h1, h2⟩ := hp
      exact ⟨x, by rw [upd_ne npd]; exact h1, h2⟩
    have X0 : Ext (some p) G H G (upd H d (.lst [])) := Ext.new' fr hd
    refine (show tSeq _ _ _ ([some (.ref p), some u1, some (.int most), some (.ref d), none, none, none] : L2.St) (upd H d (.lst [])) from ?_)
    refine q_forRngP (P := DigP (most + 1)) (c := 1) (fr.ext X0) hp0 (by omega) (evp_take (X0.gw.nl nl) rfl (by omega) (by omega) (ev_i0 (i := most) (j := 1) (ev_var rfl rfl) ev_c)) fun v3 G3 H3 z3 x3 hz3 lz3 h3 => ?_
    obtain ⟨n', rfl, n1, n4⟩ := h3
    obtain ⟨n, rfl⟩ := Int.eq_ofNat_of_zero_le n1
    have X3 := X0.trans x3
    have hd3 := x3.same _ _ nM upd_same
    have gd3 := x3.av d ⟨_, upd_same, fun _ z => by cases z⟩ gd
    refine q_for' (M := none) (l := List.range n) (R := fun i => Is (.int (i : Nat))) (fr.ext X3).no (src_rng (ev_cst (P := Is (.int (n : Nat))) rfl) (by omega)) fun G4 H4 x4 => ?_
    refine ⟨fun i σ' H' => ∃ (ml : List (Nm × Int)) (acc : List V) (z : Int) (s4 s5 s6 : Option V) (Gz : Hp), σ' = [some (.ref p), some u1, some (.int most), some (.ref d), s4, s5, s6] ∧ Ext (some p) G H Gz H' ∧ Gw G4 Gz ∧ Pot p H' z ∧ z ≤ y + 1 + 7 * (i : Nat) ∧ Gz d = none ∧ H' d = some (.lst acc) ∧ Paired (fun r u => TurnA r Gz u) ml acc ∧ Moves ⟨l, most⟩ i ml,
      ⟨[], [], z3, none, none, none, G4, rfl, X3.trans (x4.lift (fr.ext X3)), Gw.rfl' _, hz3.same x4, by omega, x4.av d ⟨_, hd3, fun _ z => by cases z⟩ gd3, x4.same _ _ (fun z => by cases z) hd3, .nil, ⟨(fun q hq => by cases hq), rfl⟩⟩, ?_, ?_, ?_⟩
    · rintro i σ' H' ⟨ml, acc, z, s4, s5, s6, Gz, rfl, X, gw, _⟩
      exact gw.gs.trans X.sub
    · rintro i b σ1 Ha hq ⟨ml, acc, z, s4, s5, s6, Gz, rfl, X, gw, hz, lz, gdz, hdz, pr, MV⟩ xv Hb hyy
      have fz := fr.ext X
      obtain ⟨G5, x5, rb⟩ := hyy Gz gw fz.no
      have hi : i < n := by
        have := (List.getElem?_eq_some_iff.mp hq).1
        rwa [List.length_range] at this
      cases rb
      refine g_name ?_
      refine (show tSeq _ _ _ ([some (.ref p), some u1, some (.int most), some (.ref d), some (.int (b : Nat)), s5, s6] : L2.St) Hb from ?_)
      have X5 := X.trans (x5.lift fz)
      have nl5 := X5.gw.nl nl
      have e5 : LsA RingA l G5 u1 := mo_same X5.gs e1
      refine q_asgP (P := fun H v => ∃ r, r ∈ l ∧ RingA r H v) (c := 1) (fr.ext X5) (hz.same x5) (by omega) (evp_ixL (ev_var rfl e5) (evp_take nl5 rfl (by omega) (by omega) (ev_len (ev_imp (ev_var rfl e5) seqN_ls)))) fun v6 G6 H6 z6 x6 hz6 lz6 h6 => ?_
      obtain ⟨r, hr, h6⟩ := h6
      have X6 := X5.trans x6
      have hL := okl r hr
      refine q_asgP (P := DigP (3 * r.2.1 + 2)) (c := 4) (fr.ext X6) hz6 (by omega) (evp_number (X6.gw.nl nl) rfl (by omega) (by omega) (ev_i0 (i := 3 * r.2.1) (j := 2) (ev_i (i := 3) (j := r.2.1) ev_c (ev_ixT (ev_imp (ev_var (P := RingA r) rfl h6) ring_t1) ev_c) (mulx_ok (a := 2) (b := 104) (by decide) (by omega) (by decide))) ev_c)) fun v7 G7 H7 z7 x7 hz7 lz7 h7 => ?_
      obtain ⟨far, rfl, fa0, fa1⟩ := h7
      have X7 := X6.trans x7
      have h7' : RingA r G7 v6 := mo_same x7.gs h6
      have x57 := ((x5.lift fz).trans x6).trans x7
      have hd7 := x57.same _ _ nM hdz
      have gd7 := x57.av d ⟨_, hdz, fun _ z => by cases z⟩ gdz
      have lacc := paired_len pr
      have lml := MV.len
      refine (show tDrop _ _ ([some (.ref p), some u1, some (.int most), some (.ref d), some (.int (b : Nat)), some v6, some (.int far)] : L2.St) H7 from ?_)
      refine s_appP (P := TupP [StrA r.1, IntQ fun k => k.natAbs < 2 ^ 150]) (c := 0 + (((0 + (0 + ((1 + 0) + (0 + (0 + (0 + 0)))))) + 1) + 0)) (fr.ext X7) hz7 (by omega) rfl hd7 npd (by omega) (evp_bA (f := tTup) (fun t σ H Q h => h) (evpa_cons (P := StrA r.1) (evp_of (ev_ixT (ev_imp (ev_var (P := RingA r) rfl h7') ring_t0) ev_c)) (evpa_cons (P := IntQ fun k => k.natAbs < 2 ^ 150) (evp_ixD (evpa_cons (P := IntQ fun k => k.natAbs < 2 ^ 150) (evp_c (by decide)) (evpa_cons (P := IntQ fun k => k.natAbs < 2 ^ 150) (evp_imp (evp_of (ev_u (g := fun i => .int (-i)) (i := 1) ev_c)) fun H v h => ⟨_, h, by decide⟩) (evpa_cons (P := IntQ fun k => k.natAbs < 2 ^ 150) (evp_i0 (φ := fun i => 0 ≤ i ∧ i < 5) (ψ := fun i => i = 2) (evp_take (X7.gw.nl nl) rfl (by decide) (by decide) ev_c) (evp_c rfl) fun a b ha hb => by omega) (evpa_cons (P := IntQ fun k => k.natAbs < 2 ^ 150) (evp_v rfl (by omega)) (evpa_cons (P := IntQ fun k => k.natAbs < 2 ^ 150) (evp_imp (evp_of (ev_u (g := fun i => .int (-i)) (i := far) (ev_var rfl rfl))) fun H v h => ⟨_, h, by omega⟩) (evpa_cons (P := IntQ fun k => k.natAbs < 2 ^ 150) (evp_imp (evp_of (ev_ixT (ev_imp (ev_var (P := RingA r) rfl h7') ring_t1) ev_c)) fun H v h => ⟨_, h, by omega⟩) evpa_nil)))))) (fun Q hQ H v h => ?_) (by show 6 ≤ 100000; decide) (evp_take (n := 6) (X7.gw.nl nl) rfl (by decide) (by decide) ev_c)) evpa_nil)) fun G' xs _ al => ev_tup (ea_csts al)) fun v10 G10 H10 z10 x10 hz10 lz10 h10 hd10 => ?_
      · simp only [List.mem_cons, List.not_mem_nil, or_false, or_self] at hQ
        subst hQ
        exact h
      obtain ⟨ad, ws, rfl, ht, al10⟩ := h10
      obtain ⟨w1, w2, rfl, q1, q2⟩ := al2 al10
      obtain ⟨kk, rfl, hkk⟩ := q2
      have gd10 := x10.av d ⟨_, hd7, fun _ z => by cases z⟩ gd7
      have X10 := Ext.mutD (o := .lst (acc ++ [.ref ad])) (X7.trans x10) hd gd10 nM
      refine ⟨ml ++ [(r.1, kk)], acc ++ [.ref ad], z10, _, _, _, G10, rfl, X10, gw.trans (x57.gw.trans x10.gw), ?_, by omega, gd10, upd_same, paired_snoc (paired_imp (fun r u (q : TurnA r Gz u) => mo_same (P := TurnA r) (x57.gs.trans x10.gs) q) pr) ⟨ad, _, rfl, ht, .cons q1 (.cons rfl .nil)⟩, ⟨fun q hq => ?_, by rw [List.length_append, lml]; rfl⟩⟩
      · obtain ⟨x, q1, q2⟩ := hz10
        exact ⟨x, by rw [upd_ne npd]; exact q1, q2⟩
      · rcases List.mem_append.mp hq with h | h
        · exact MV.mem q h
        · rw [List.mem_singleton] at h
          subst h
          exact ⟨⟨r, hr, rfl⟩, hkk⟩
    · rintro σ' Ha ⟨ml, acc, z, s4, s5, s6, Gz, rfl, X, gw, hz, lz, gdz, hdz, pr, MV⟩
      rw [List.length_range] at MV lz
      have L := Ext.learn X hd gdz hdz fun _ _ z => by cases z
      exact ⟨_, rfl, k _ _ _ z L hz (by show z ≤ y + 40; omega) ⟨ml, n, ⟨d, acc, rfl, upd_same, paired_imp (fun r u (q : TurnA r Gz u) => Mo.up (P := TurnA r) (up_new gdz) q) pr⟩, MV, by omega⟩⟩
end
end MR
/-! The law's helpers: meetings drawn. -/
namespace MR
open PySem PySem.Spec PyProof.Rows L2 He
/-! ### places and pairs of names, mixed -/
abbrev Mark := Pl ⊕ (Nm × Nm)
def MkA : Mark → Hp → V → Prop
  | .inl p => PlA p
  | .inr q => PrA q
instance {m : Mark} : Mo (MkA m) := match m with
  | .inl p => (inferInstance : Mo (PlA p))
  | .inr q => (inferInstance : Mo (PrA q))
def mkD : Mark → PyData
  | .inl p => plD p
  | .inr q => prD q
theorem mk_eqv : ∀ a b : Mark, PyData.eqv (mkD a) (mkD b) = decide (a = b)
  | .inl p, .inl q => by
    show PyData.eqv (plD p) (plD q) = _
    rw [pl_eqv]
    exact decide_eq_decide.mpr ⟨fun h => congrArg Sum.inl h, fun h => Sum.inl.inj h⟩
  | .inr p, .inr q => by
    show PyData.eqv (prD p) (prD q) = _
    rw [pr_eqv]
    exact decide_eq_decide.mpr ⟨fun h => congrArg Sum.inr h, fun h => Sum.inr.inj h⟩
  | .inl p, .inr q => by
    rw [decide_eq_false (fun h => by cases h)]
    unfold mkD plD prD
    rw [PyData.eqv, PyData.eqvAll, PyData.eqvAll, PyData.eqvAll]
    simp [PyData.eqv]
  | .inr p, .inl q => by
    rw [decide_eq_false (fun h => by cases h)]
    unfold mkD plD prD
    rw [PyData.eqv, PyData.eqvAll, PyData.eqvAll, PyData.eqvAll]
    simp [PyData.eqv]
def marksJ (l : List Joint) : List Mark := l.flatMap fun m => [.inl (m.1, m.2.1), .inl (m.2.2.1, m.2.2.2), .inr (m.1, m.2.2.1), .inr (m.2.2.1, m.1)]
def mkOk (m : Mark) : Bool := match m with
  | .inl p => PyData.strOk p.1
  | .inr q => PyData.strOk q.1 && PyData.strOk q.2
theorem mk_lay {m : Mark} (h : mkOk m = true) : PyData.canLay0 (mkD m) = true ∧ (mkD m).depth ≤ 1 := by
  cases m with
  | inl p => exact plD_ok h
  | inr q =>
    have h' : (PyData.strOk q.1 && PyData.strOk q.2) = true := h
    rw [Bool.and_eq_true] at h'
    exact pr_ok h'.1 h'.2
/-- the mark is among those -/
def hasM (l : List Mark) (m : Mark) : Bool := (l.map mkD).any fun z => PyData.eqv z (mkD m)
theorem hasM_of {l : List Mark} {m : Mark} (h : m ∈ l) : hasM l m = true := List.any_eq_true.mpr ⟨mkD m, List.mem_map.mpr ⟨m, h, rfl⟩, by rw [mk_eqv]; exact decide_eq_true rfl⟩
theorem not_marked {l : List Joint} {n o : Nm} {i j : Int} (h : ∀ m, m ∈ ([.inl (n, i), .inl (o, j), .inr (n, o), .inr (o, n)] : List Mark) → m ∉ marksJ l) : (n, i) ∉ endsJ l ∧ (o, j) ∉ endsJ l ∧ (n, o) ∉ pairsJ l ∧ (o, n) ∉ pairsJ l := by
  have e1 : ∀ p, p ∈ endsJ l → (Sum.inl p : Mark) ∈ marksJ l := fun p hp => by
    obtain ⟨m, hm, h⟩ := List.mem_flatMap.mp hp
    refine List.mem_flatMap.mpr ⟨m, hm, ?_⟩
    simp only [List.mem_cons, List.not_mem_nil, or_false] at h ⊢
    rcases h with rfl | rfl
    · exact .inl rfl
    · exact .inr (.inl rfl)
  have e2 : ∀ p, p ∈ pairsJ l → (Sum.inr p : Mark) ∈ marksJ l := fun p hp => by
    obtain ⟨m, hm, h⟩ := List.mem_flatMap.mp hp
    refine List.mem_flatMap.mpr ⟨m, hm, ?_⟩
    simp only [List.mem_cons, List.not_mem_nil, or_false] at h ⊢
    rcases h with rfl | rfl
    · exact .inr (.inr (.inl rfl))
    · exact .inr (.inr (.inr rfl))
  refine ⟨fun z => h _ ?_ (e1 _ z), fun z => h _ ?_ (e1 _ z), fun z => h _ ?_ (e2 _ z), fun z => h _ ?_ (e2 _ z)⟩ <;> simp
theorem flat_snoc {α β : Type} (f : α → List β) (l : List α) (a : α) : (l ++ [a]).flatMap f = l.flatMap f ++ f a := by
  rw [List.flatMap_append]
  congr 1
  exact List.append_nil _
/-- one meeting more -/
theorem MeetOk.snoc {lens : List (Nm × Int)} {l : List Joint} (M : MeetOk lens l) {n o : Nm} {i j L1 Lb : Int} (h1 : lk lens n = some L1) (h2 : 0 ≤ i) (h3 : i < L1) (h4 : lk lens o = some Lb) (h5 : 0 ≤ j) (h6 : j < Lb) (ne : n ≠ o) (s1 : PyData.strOk n = true) (s2 : PyData.strOk o = true) (few : l.length < 100)
    (h : ∀ m, m ∈ ([.inl (n, i), .inl (o, j), .inr (n, o), .inr (o, n)] : List Mark) → m ∉ marksJ l) : MeetOk lens (l ++ [(n, i, o, j)]) := by
  obtain ⟨q1, q2, q3, q4⟩ := not_marked h
  have split : ∀ {P : Joint → Prop}, (∀ m, m ∈ l → P m) → P (n, i, o, j) → ∀ m, m ∈ l ++ [(n, i, o, j)] → P m := fun ha hb m hm => by
    rcases List.mem_append.mp hm with z | z
    · exact ha m z
    · rw [List.mem_singleton] at z
      subst z
      exact hb
  refine ⟨split M.at1 ⟨L1, h1, h2, h3⟩, split M.at2 ⟨Lb, h4, h5, h6⟩, split M.ne ne, ?_, ?_, split M.str ⟨s1, s2⟩, ?_⟩
  · rw [show endsJ (l ++ [(n, i, o, j)]) = endsJ l ++ [(n, i), (o, j)] from flat_snoc _ _ _]
    refine List.nodup_append.mpr ⟨M.ends, List.nodup_cons.mpr ⟨fun z => ?_, List.nodup_cons.mpr ⟨List.not_mem_nil, List.nodup_nil⟩⟩, fun a ha b hb e => ?_⟩
    · rw [List.mem_singleton] at z
      exact ne (congrArg Prod.fst z)
    · subst e
      simp only [List.mem_cons, List.not_mem_nil, or_false] at hb
      rcases hb with rfl | rfl
      · exact q1 ha
      · exact q2 ha
  · rw [show pairsJ (l ++ [(n, i, o, j)]) = pairsJ l ++ [(n, o), (o, n)] from flat_snoc _ _ _]
    refine List.nodup_append.mpr ⟨M.pairs, List.nodup_cons.mpr ⟨fun z => ?_, List.nodup_cons.mpr ⟨List.not_mem_nil, List.nodup_nil⟩⟩, fun a ha b hb e => ?_⟩
    · rw [List.mem_singleton] at z
      exact ne (congrArg Prod.fst z)
    · subst e
      simp only [List.mem_cons, List.not_mem_nil, or_false] at hb
      rcases hb with rfl | rfl
      · exact q3 ha
      · exact q4 ha
  · rw [List.length_append, List.length_singleton]
    omega
section
variable {P : Program} {w : World} {K : PySem.W.Frag} {mg : Str → Option Value} {base : Heap}
structure MtI where
  l : List (Nm × Int × Int)
  tries : Int
structure MtOk (i : MtI) : Prop where
  r : RingsOk i.l
  big : ∀ r, r ∈ i.l → r.2.1 < 2 ^ 104
  t0 : 0 ≤ i.tries
  t6 : i.tries ≤ 6
def MeetsX (i : MtI) (H : Hp) (v : V) : Prop := ∃ ml, LsA JointA ml H v ∧ MeetOk (lensOf i.l) ml
def spDrJ (K : PySem.W.Frag) : Sp := spPo 100 (ι := MtI) MtOk (fun i => [LsA RingA i.l, IntA i.tries]) (fun i => MeetsX i)
theorem ok__law_drawn_meetings (T : Tx K mg) : Good P w K mg base 3 (ga K "_law_drawn_meetings") ["_law_pot", "_law_rings", "_law_tries"] (spDrJ K) := by
  obtain ⟨⟨fd__law_take, G__law_take, b__law_take⟩, k__law_take⟩ := ok__law_take (P := P) (w := w) (base := base) T
  obtain ⟨⟨fd__law_number, G__law_number, b__law_number⟩, k__law_number⟩ := ok__law_number (P := P) (w := w) (base := base) T
  refine good_of T.d__law_drawn_meetings sc__law_drawn_meetings (fun fd F => FunD.bindsN F fun _ _ _ _ _ _ us hl => match us, hl with | [_, _, _], _ => rfl) (fun vs H Q E h => ?_) (fun cdv A outer s H vs Q E hr h => ?_)
  · obtain ⟨i, p, rest, G, y, rfl, _, _, _, _, _, al, _⟩ := h
    exact congrArg Nat.succ (al_len al rfl)
  · obtain ⟨n, p, rest, G, y, rfl, hC, nl, fr, hp, hy, al, k⟩ := h
    obtain ⟨u1, u2, rfl, e1, e2⟩ := al2 al
    cases e2
    obtain ⟨l, tries⟩ := n
    obtain ⟨hR, big, t0, t6⟩ := hC
    dsimp only at e1 k hR big t0 t6
    have hmin := hr.units
    have hmin1 : (A.deeper (envOfC "_law_drawn_meetings" (defScope s__law_drawn_meetings) s.heap.objs.size (ga K "_law_drawn_meetings") cdv)).units + 65 < cLine := by
      have := hr.un
      omega
    refine ⟨_, (pss_cons (ps_set (i := 3) sc__law_drawn_meetings.nd rfl (Or.inl rfl) (pe_lst pa_nil))
    (pss_cons (ps_set (i := 4) sc__law_drawn_meetings.nd rfl (Or.inr rfl) (pe_lst pa_nil))
    (pss_cons (ps_for PassesOwn.never rfl (pi_range1 rfl T.f_range (pa_cons (pv 2) pa_nil)) (pg_name (i := 5) sc__law_drawn_meetings.nd rfl (Or.inl rfl))
    (pss_cons (ps_set (i := 6) sc__law_drawn_meetings.nd rfl (Or.inl rfl) (pe_ix ix_list (pv 1) (pe_call G__law_take (hr.mono (by decide)) (by rfl) T.g__law_take k__law_take b__law_take .nil pass0 (pa_cons (pv 0) (pa_cons (pe_callB call_len_seq (by rfl) T.f_len PySem.boot_len (pa_cons (pv 1) pa_nil)) pa_nil))) (fun _ _ => rfl)))
    (pss_cons (ps_set (i := 7) sc__law_drawn_meetings.nd rfl (Or.inl rfl) (pe_ix ix_list (pv 1) (pe_call G__law_take (hr.mono (by decide)) (by rfl) T.g__law_take k__law_take b__law_take .nil pass0 (pa_cons (pv 0) (pa_cons (pe_callB call_len_seq (by rfl) T.f_len PySem.boot_len (pa_cons (pv 1) pa_nil)) pa_nil))) (fun _ _ => rfl)))
    (pss_cons (ps_set (i := 8) sc__law_drawn_meetings.nd rfl (Or.inl rfl) (pe_ix ix_list (pe_lst (pa_cons (pe_op op_mod (pe_call G__law_take (hr.mono (by decide)) (by rfl) T.g__law_take k__law_take b__law_take .nil pass0 (pa_cons (pv 0) (pa_cons pe_int pa_nil))) (pe_ix ix_tup (pv 6) pe_int (fun _ _ => rfl))) (pa_cons (pe_call G__law_number (hr.mono (by decide)) (by rfl) T.g__law_number k__law_number b__law_number .nil pass0 (pa_cons (pv 0) (pa_cons (pe_ix ix_tup (pv 6) pe_int (fun _ _ => rfl)) pa_nil))) pa_nil))) (pe_call G__law_take (hr.mono (by decide)) (by rfl) T.g__law_take k__law_take b__law_take .nil pass0 (pa_cons (pv 0) (pa_cons pe_int pa_nil))) (fun _ _ => rfl)))
    (pss_cons (ps_set (i := 9) sc__law_drawn_meetings.nd rfl (Or.inl rfl) (pe_ix ix_list (pe_lst (pa_cons (pe_op op_mod (pe_call G__law_take (hr.mono (by decide)) (by rfl) T.g__law_take k__law_take b__law_take .nil pass0 (pa_cons (pv 0) (pa_cons pe_int pa_nil))) (pe_ix ix_tup (pv 7) pe_int (fun _ _ => rfl))) (pa_cons (pe_call G__law_number (hr.mono (by decide)) (by rfl) T.g__law_number k__law_number b__law_number .nil pass0 (pa_cons (pv 0) (pa_cons (pe_ix ix_tup (pv 7) pe_int (fun _ _ => rfl)) pa_nil))) pa_nil))) (pe_call G__law_take (hr.mono (by decide)) (by rfl) T.g__law_take k__law_take b__law_take .nil pass0 (pa_cons (pv 0) (pa_cons pe_int pa_nil))) (fun _ _ => rfl)))
    (pss_cons (ps_set (i := 10) sc__law_drawn_meetings.nd rfl (Or.inl rfl) (pe_lst (pa_cons (pe_tup (pa_cons (pe_ix ix_tup (pv 6) pe_int (fun _ _ => rfl)) (pa_cons (pv 8) pa_nil))) (pa_cons (pe_tup (pa_cons (pe_ix ix_tup (pv 7) pe_int (fun _ _ => rfl)) (pa_cons (pv 9) pa_nil))) (pa_cons (pe_tup (pa_cons (pe_ix ix_tup (pv 6) pe_int (fun _ _ => rfl)) (pa_cons (pe_ix ix_tup (pv 7) pe_int (fun _ _ => rfl)) pa_nil))) (pa_cons (pe_tup (pa_cons (pe_ix ix_tup (pv 7) pe_int (fun _ _ => rfl)) (pa_cons (pe_ix ix_tup (pv 6) pe_int (fun _ _ => rfl)) pa_nil))) pa_nil))))))
    (pss_one (ps_if (PW.pt (pw_and (pt_cmpR op_ne (pe_ix ix_tup (pv 6) pe_int (fun _ _ => rfl)) (pe_ix ix_tup (pv 7) pe_int (fun _ _ => rfl)) (nomark _)) (pw_and1 (pt_cmpR (op_eqD hr.units) (pe_lc (own := [("_law_mark", 11)]) (g := (gName 11)) (by rfl) sc__law_drawn_meetings.nd (pi_list (pv 10)) (blkOk_by (N := N__law_drawn_meetings) (sc := defScope s__law_drawn_meetings) (by decide +kernel)) (fun _ _ _ _ _ => (pg_name (i := 11) sc__law_drawn_meetings.nd rfl (Or.inl rfl))) (fun _ _ _ _ _ => (pts_one (pt_cmpR (op_inDK (K := K) (by rfl) hmin1) (pv 11) (pv 4) (by rfl)))) (fun _ _ _ _ _ => (pv 11))) (pe_lst pa_nil) (nomark _))))) (pss_cons (ps_expr (pe_bm PySem.F.plainAttrs_list PySem.F.slot_list_append PySem.F.type_list_append mt_append (pv 3) (pa_cons (pe_tup (pa_cons (pe_ix ix_tup (pv 6) pe_int (fun _ _ => rfl)) (pa_cons (pv 8) (pa_cons (pe_ix ix_tup (pv 7) pe_int (fun _ _ => rfl)) (pa_cons (pv 9) pa_nil))))) pa_nil)))
    (pss_one (ps_set (i := 4) sc__law_drawn_meetings.nd rfl (Or.inr rfl) (pe_op op_cat (pv 4) (pv 10))))) pss_nil))))))))
    (pss_one (ps_ret (pv 3)))))), ?_⟩
    have hc : y + 100 ≤ 1000000 := hy
    obtain ⟨tr, rfl⟩ := Int.eq_ofNat_of_zero_le t0
    refine q_newL (fr.no) fun d hd => ?_
    have gd : G d = none := fr.sub.free hd
    have npd : p ≠ d := fun z => by
      obtain ⟨x, h1, _⟩ := hp
      rw [z, hd] at h1
      cases h1
    have nM : (some p : Option Addr) ≠ some d := fun z => npd (Option.some.inj z)
    have hp0 : Pot p (upd H d (.lst [])) y := by
      obtain ⟨x, h1, h2⟩ := hp
      exact ⟨x, by rw [upd_ne npd]; exact h1, h2⟩
    have X0 : Ext (some p) G H G (upd H d (.lst [])) := Ext.new' fr hd
    refine q_asg (M := none) (P := LsA MkA []) (fr.ext X0).no (fun G1 H1 e f Q k => ⟨Nat.zero_le _, fun p hp => k _ _ _ (Ext.new f hp fun _ _ z => by cases z) ⟨p, [], rfl, upd_same, .nil⟩⟩) fun vt0 G2 H2 x2 ht0 => ?_
    have X2 := X0.trans (x2.lift (fr.ext X0))
    have hd2 := x2.same _ _ (fun z => by cases z) upd_same
    have gd2 := x2.av d ⟨_, upd_same, fun _ z => by cases z⟩ gd
    have hz2 := hp0.same x2
    refine (show tSeq _ _ _ ([some (.ref p), some u1, some (.int (tr : Nat)), some (.ref d), some vt0, none, none, none, none, none, none, none] : L2.St) H2 from ?_)
    refine q_for' (M := none) (l := List.range tr) (R := fun i => Is (.int (i : Nat))) (fr.ext X2).no (src_rng (ev_var rfl rfl) (by omega)) fun G4 H4 x4 => ?_
    refine ⟨fun i σ' H' => ∃ (ml : List Joint) (acc : List V) (z : Int) (vt : V) (s5 s6 s7 s8 s9 s10 s11 : Option V) (Gz : Hp), σ' = [some (.ref p), some u1, some (.int (tr : Nat)), some (.ref d), some vt, s5, s6, s7, s8, s9, s10, s11] ∧ Ext (some p) G H Gz H' ∧ Gw G4 Gz ∧ Pot p H' z ∧ z ≤ y + 14 * (i : Nat) ∧ Gz d = none ∧ H' d = some (.lst acc) ∧ Paired (fun r u => JointA r Gz u) ml acc ∧ LsA MkA (marksJ ml) Gz vt ∧ MeetOk (lensOf l) ml ∧ ml.length ≤ i,
      ⟨[], [], y, vt0, none, none, none, none, none, none, none, G4, rfl, X2.trans (x4.lift (fr.ext X2)), Gw.rfl' _, hz2.same x4, by omega, x4.av d ⟨_, hd2, fun _ z => by cases z⟩ gd2, x4.same _ _ (fun z => by cases z) hd2, .nil, mo_same x4.gs ht0, ⟨(fun m hm => by cases hm), (fun m hm => by cases hm), (fun m hm => by cases hm), List.nodup_nil, List.nodup_nil, (fun m hm => by cases hm), Nat.zero_le _⟩, Nat.le_refl _⟩, ?_, ?_, ?_⟩
    · rintro i σ' H' ⟨ml, acc, z, vt, s5, s6, s7, s8, s9, s10, s11, Gz, rfl, X, gw, _⟩
      exact gw.gs.trans X.sub
    · rintro t b σ1 Ha hq ⟨ml, acc, z, vt, s5, s6, s7, s8, s9, s10, s11, Gz, rfl, X, gw, hz, lz, gdz, hdz, pr, hvt, MK, few⟩ xv Hb hyy
      have fz := fr.ext X
      obtain ⟨G5, x5, rb⟩ := hyy Gz gw fz.no
      have hi : t < tr := by
        have := (List.getElem?_eq_some_iff.mp hq).1
        rwa [List.length_range] at this
      cases rb
      refine g_name ?_
      refine (show tSeq _ _ _ ([some (.ref p), some u1, some (.int (tr : Nat)), some (.ref d), some vt, some (.int (b : Nat)), s6, s7, s8, s9, s10, s11] : L2.St) Hb from ?_)
      have X5 := X.trans (x5.lift fz)
      have one := hR.one
      have fewR := hR.few
      have e5 : LsA RingA l G5 u1 := mo_same X5.gs e1
      -- the two rings
      refine q_asgP (P := fun H v => ∃ r, r ∈ l ∧ RingA r H v) (c := 1) (fr.ext X5) (hz.same x5) (by omega) (evp_ixL (ev_var rfl e5) (evp_take (X5.gw.nl nl) rfl (by omega) (by omega) (ev_len (ev_imp (ev_var rfl e5) seqN_ls)))) fun v6 G6 H6 z6 x6 hz6 lz6 h6 => ?_
      obtain ⟨⟨n, L, st⟩, hr, h6⟩ := h6
      have X6 := X5.trans x6
      refine q_asgP (P := fun H v => ∃ r, r ∈ l ∧ RingA r H v) (c := 1) (fr.ext X6) hz6 (by omega) (evp_ixL (ev_var rfl (mo_same x6.gs e5)) (evp_take (X6.gw.nl nl) rfl (by omega) (by omega) (ev_len (ev_imp (ev_var rfl (mo_same x6.gs e5)) seqN_ls)))) fun v7 G7 H7 z7 x7 hz7 lz7 h7 => ?_
      obtain ⟨⟨o, L', st'⟩, hr', h7⟩ := h7
      have X7 := X6.trans x7
      have h67 : RingA (n, L, st) G7 v6 := mo_same x7.gs h6
      have pL : 1 ≤ L := (hR.pos _ hr).1
      have pL' : 1 ≤ L' := (hR.pos _ hr').1
      have bL : L < 2 ^ 104 := big _ hr
      have bL' : L' < 2 ^ 104 := big _ hr'
      have s1 : PyData.strOk n = true := hR.str _ hr
      have s2 : PyData.strOk o = true := hR.str _ hr'
      refine (show tSeq _ _ _ ([some (.ref p), some u1, some (.int (tr : Nat)), some (.ref d), some vt, some (.int (b : Nat)), some v6, some v7, s8, s9, s10, s11] : L2.St) H7 from ?_)
      -- the two places
      refine q_asgP (P := DigP L) (c := ((1 + 0) + (4 + 0)) + 1) (fr.ext X7) hz7 (by omega) (evp_ixD (evpa_cons (P := DigP L) (evp_i (φ := fun i => 0 ≤ i ∧ i < 3) (ψ := fun i => i = L) (evp_take (X7.gw.nl nl) rfl (by decide) (by decide) ev_c) (evp_imp (evp_of (ev_ixT (P := IntA L) (ev_imp (ev_var rfl h67) ring_t1) ev_c)) fun H v h => ⟨_, h, rfl⟩) fun a c ha hc => by subst hc; exact ⟨by omega, Int.emod_nonneg _ (by omega), Int.emod_lt_of_pos _ (by omega)⟩) (evpa_cons (P := DigP L) (evp_number (X7.gw.nl nl) rfl (by omega) (by omega) (ev_ixT (P := IntA L) (ev_imp (ev_var rfl h67) ring_t1) ev_c)) evpa_nil)) (fun Q hQ H v h => ?_) (by show 2 ≤ 100000; decide) (evp_take (n := 2) (X7.gw.nl nl) rfl (by decide) (by decide) ev_c)) fun v8 G8 H8 z8 x8 hz8 lz8 h8 => ?_
      · simp only [List.mem_cons, List.not_mem_nil, or_false, or_self] at hQ
        subst hQ
        exact h
      obtain ⟨i, rfl, i0, iL⟩ := h8
      have X8 := X7.trans x8
      have h78 : RingA (o, L', st') G8 v7 := mo_same x8.gs h7
      refine q_asgP (P := DigP L') (c := ((1 + 0) + (4 + 0)) + 1) (fr.ext X8) hz8 (by omega) (evp_ixD (evpa_cons (P := DigP L') (evp_i (φ := fun i => 0 ≤ i ∧ i < 3) (ψ := fun i => i = L') (evp_take (X8.gw.nl nl) rfl (by decide) (by decide) ev_c) (evp_imp (evp_of (ev_ixT (P := IntA L') (ev_imp (ev_var rfl h78) ring_t1) ev_c)) fun H v h => ⟨_, h, rfl⟩) fun a c ha hc => by subst hc; exact ⟨by omega, Int.emod_nonneg _ (by omega), Int.emod_lt_of_pos _ (by omega)⟩) (evpa_cons (P := DigP L') (evp_number (X8.gw.nl nl) rfl (by omega) (by omega) (ev_ixT (P := IntA L') (ev_imp (ev_var rfl h78) ring_t1) ev_c)) evpa_nil)) (fun Q hQ H v h => ?_) (by show 2 ≤ 100000; decide) (evp_take (n := 2) (X8.gw.nl nl) rfl (by decide) (by decide) ev_c)) fun v9 G9 H9 z9 x9 hz9 lz9 h9 => ?_
      · simp only [List.mem_cons, List.not_mem_nil, or_false, or_self] at hQ
        subst hQ
        exact h
      obtain ⟨j, rfl, j0, jL⟩ := h9
      have X9 := X8.trans x9
      have h69 : RingA (n, L, st) G9 v6 := mo_same (x8.trans x9).gs h67
      have h79 : RingA (o, L', st') G9 v7 := mo_same x9.gs h78
      refine (show tSeq _ _ _ ([some (.ref p), some u1, some (.int (tr : Nat)), some (.ref d), some vt, some (.int (b : Nat)), some v6, some v7, some (.int i), some (.int j), s10, s11] : L2.St) H9 from ?_)
      have nm6 : ∀ (σ : L2.St) (G : Hp), σ[6]? = some (some v6) → RingA (n, L, st) G v6 → Ev none (tOp (rIxT K) (tVar 6) (tC (.int 0))) σ G (StrA n) := fun σ G h1 h2 => ev_ixT (P := StrA n) (ev_imp (ev_var h1 h2) ring_t0) ev_c
      have nm7 : ∀ (σ : L2.St) (G : Hp), σ[7]? = some (some v7) → RingA (o, L', st') G v7 → Ev none (tOp (rIxT K) (tVar 7) (tC (.int 0))) σ G (StrA o) := fun σ G h1 h2 => ev_ixT (P := StrA o) (ev_imp (ev_var h1 h2) ring_t0) ev_c
      -- the marks
      refine q_asg (M := none) (P := LsA MkA [.inl (n, i), .inl (o, j), .inr (n, o), .inr (o, n)]) (fr.ext X9).no (ev_imp (ev_lst (ea_cons (P := MkA (.inl (n, i))) (ev_imp (ev_tup (ea_cons (P := StrA n) (nm6 _ _ rfl h69) (ea_cons (P := IntA i) (ev_var rfl rfl) ea_nil))) fun H v h => plA_of h) (ea_cons (P := MkA (.inl (o, j))) (ev_imp (ev_tup (ea_cons (P := StrA o) (nm7 _ _ rfl h79) (ea_cons (P := IntA j) (ev_var rfl rfl) ea_nil))) fun H v h => plA_of h) (ea_cons (P := MkA (.inr (n, o))) (ev_tup (ea_cons (P := StrA n) (nm6 _ _ rfl h69) (ea_cons (P := StrA o) (nm7 _ _ rfl h79) ea_nil))) (ea_cons (P := MkA (.inr (o, n))) (ev_tup (ea_cons (P := StrA o) (nm7 _ _ rfl h79) (ea_cons (P := StrA n) (nm6 _ _ rfl h69) ea_nil))) ea_nil))))) fun H v h => lsA_lst (R := MkA) (l := [.inl (n, i), .inl (o, j), .inr (n, o), .inr (o, n)]) h) fun v10 G10 H10 x10 h10 => ?_
      have X10 := X9.trans (x10.lift (fr.ext X9))
      have h610 : RingA (n, L, st) G10 v6 := mo_same x10.gs h69
      have h710 : RingA (o, L', st') G10 v7 := mo_same x10.gs h79
      have x510 := (((x5.lift fz).trans x6).trans (x7.trans x8)).trans (x9.trans (x10.lift (fr.ext X9)))
      have hvt10 : LsA MkA (marksJ ml) G10 vt := mo_same x510.gs hvt
      have hd10 := x510.same _ _ nM hdz
      have gd10 := x510.av d ⟨_, hdz, fun _ z => by cases z⟩ gdz
      have hz10 := hz9.same x10
      have lacc := paired_len pr
      refine (show tIfS _ _ _ _ ([some (.ref p), some u1, some (.int (tr : Nat)), some (.ref d), some vt, some (.int (b : Nat)), some v6, some v7, some (.int i), some (.int j), some v10, s11] : L2.St) H10 from ?_)
      have okM : ∀ m, m ∈ marksJ ml → mkOk m = true := fun m hm => by
        obtain ⟨q, hq, h⟩ := List.mem_flatMap.mp hm
        obtain ⟨a1, a2⟩ := MK.str q hq
        simp only [List.mem_cons, List.not_mem_nil, or_false] at h
        rcases h with rfl | rfl | rfl | rfl
        · exact a1
        · exact a2
        · show (PyData.strOk q.1 && PyData.strOk q.2.2.1) = true
          rw [a1, a2]
          rfl
        · show (PyData.strOk q.2.2.1 && PyData.strOk q.1) = true
          rw [a1, a2]
          rfl
      have okN : ∀ m, m ∈ ([.inl (n, i), .inl (o, j), .inr (n, o), .inr (o, n)] : List Mark) → mkOk m = true := fun m h => by
        simp only [List.mem_cons, List.not_mem_nil, or_false] at h
        rcases h with rfl | rfl | rfl | rfl
        · exact s1
        · exact s2
        · show (PyData.strOk n && PyData.strOk o) = true
          rw [s1, s2]
          rfl
        · show (PyData.strOk o && PyData.strOk n) = true
          rw [s1, s2]
          rfl
      have shM : SeqAt.shaped (.list ((marksJ ml).map mkD)) = true := can_list fun d hd => by
        obtain ⟨m, hm, rfl⟩ := List.mem_map.mp hd
        exact mk_lay (okM m hm)
      have mkDp : ∀ (m : Mark) (H : Hp) (v : V), MkA m H v → Dp K H v (mkD m) := fun m H v h => by
        cases m with
        | inl q => exact pl_dp (Same.refl _) h
        | inr q => exact pr_dp h
      let F : Mark → Option Mark := fun m => if hasM (marksJ ml) m = true then some m else none
      have shF : SeqAt.shaped (.list ((([.inl (n, i), .inl (o, j), .inr (n, o), .inr (o, n)] : List Mark).filterMap F).map mkD)) = true := can_list fun d hd => by
        obtain ⟨m, hm, rfl⟩ := List.mem_map.mp hd
        obtain ⟨m', hm', e⟩ := List.mem_filterMap.mp hm
        have em : m' = m := by
          have e' : (if hasM (marksJ ml) m' = true then some m' else none) = some m := e
          by_cases c : hasM (marksJ ml) m' = true
          · rw [if_pos c] at e'
            exact Option.some.inj e'
          · rw [if_neg c] at e'
            cases e'
        subst em
        exact mk_lay (okN _ hm')
      refine s_when (M := none) (fr.ext X10).no (et_and (et_test (ev_ne (x := .str n) (y := .str o) (nm6 _ _ rfl h610) (nm7 _ _ rfl h710) rfl)) fun _ => et_test (ev_eqD (P := LsA MkA (([.inl (n, i), .inl (o, j), .inr (n, o), .inr (o, n)] : List Mark).filterMap F)) (P' := LsA MkA []) (d := .list ((([.inl (n, i), .inl (o, j), .inr (n, o), .inr (o, n)] : List Mark).filterMap F).map mkD)) (e := .list []) (ev_lc (R := MkA) (R' := MkA) F (src_lst (ev_var rfl h10)) (by show 4 < 100000; decide) fun m hm xv G' H' gw' fr' rx Q' k2 => ?_) (fun G1 H1 e f Q k => ⟨Nat.zero_le _, fun p hp => k _ _ _ (Ext.new f hp fun _ _ z => by cases z) ⟨p, [], rfl, upd_same, .nil⟩⟩) ?_ ?_ shF (by rfl))) (fun hb G11 H11 x11 => ?_) (fun hb G11 H11 x11 => ?_)
      · refine g_name (k2 _ rfl ⟨et_is (et_test (ev_inD (R := MkA) (P := MkA m) (D := mkD) (d := mkD m) (ev_var rfl rx) (ev_var rfl (mo_same gw'.gs hvt10)) (fun H v h => mkDp m H v h) (fun b H v h => mkDp b H v h) (shaped_of (mk_lay (okN m hm))) shM)) ?_, fun c hc => ?_⟩)
        · show hasM (marksJ ml) m = (if hasM (marksJ ml) m = true then some m else none).isSome
          cases hasM (marksJ ml) m <;> rfl
        · have e' : (if hasM (marksJ ml) m = true then some m else none) = some c := hc
          by_cases cc : hasM (marksJ ml) m = true
          · rw [if_pos cc] at e'
            cases e'
            exact ev_var rfl rx
          · rw [if_neg cc] at e'
            cases e'
      · rintro Ha Hb v s h
        obtain ⟨a, vs, rfl, h1, h2⟩ := mo_same (P := LsA MkA _) s h
        exact .lst (SqL.of h1) (dp_all (fun b v hb => mkDp b _ v hb) h2)
      · rintro Ha Hb v s h
        obtain ⟨a, vs, rfl, h1, h2⟩ := mo_same (P := LsA MkA []) s h
        cases h2
        exact .lst (SqL.of h1) .nil
      · rw [Bool.and_eq_true] at hb
        obtain ⟨hb1, hb2⟩ := hb
        have ne : n ≠ o := fun z => by
          subst z
          simp at hb1
        have free : ∀ m, m ∈ ([.inl (n, i), .inl (o, j), .inr (n, o), .inr (o, n)] : List Mark) → m ∉ marksJ ml := fun m hm hin => by
          have hmem : m ∈ ([.inl (n, i), .inl (o, j), .inr (n, o), .inr (o, n)] : List Mark).filterMap F := List.mem_filterMap.mpr ⟨m, hm, if_pos (hasM_of hin)⟩
          cases q : ([.inl (n, i), .inl (o, j), .inr (n, o), .inr (o, n)] : List Mark).filterMap F with
          | nil =>
            rw [q] at hmem
            cases hmem
          | cons a t =>
            rw [q, List.map_cons] at hb2
            simp [PyData.eqv, PyData.eqvAll] at hb2
        have X11 := X10.trans (x11.lift (fr.ext X10))
        have hd11 := x11.same _ _ (fun z => by cases z) hd10
        have gd11 := x11.av d ⟨_, hd10, fun _ z => by cases z⟩ gd10
        refine q_app (M := none) (P := JointA (n, i, o, j)) (l := d) (acc := acc) (fr.ext X11).no rfl hd11 (fun z => by cases z) (by omega) (ev_tup (ea_cons (P := StrA n) (nm6 _ _ rfl (mo_same x11.gs h610)) (ea_cons (P := IntA i) (ev_var rfl rfl) (ea_cons (P := StrA o) (nm7 _ _ rfl (mo_same x11.gs h710)) (ea_cons (P := IntA j) (ev_var rfl rfl) ea_nil))))) fun v12 G12 H12 x12 h12 hd12 => ?_
        have gd12 := x12.av d ⟨_, hd11, fun _ z => by cases z⟩ gd11
        have X12 := Ext.mutD (o := .lst (acc ++ [v12])) (X11.trans (x12.lift (fr.ext X11))) hd gd12 nM
        have hz12 : Pot p (upd H12 d (.lst (acc ++ [v12]))) z9 := by
          obtain ⟨x, q1, q2⟩ := (hz10.same x11).same x12
          exact ⟨x, by rw [upd_ne npd]; exact q1, q2⟩
        have lmk : (marksJ ml).length ≤ 4 * ml.length := by
          have : ∀ a : List Joint, (marksJ a).length = 4 * a.length := by
            intro a
            induction a with
            | nil => rfl
            | cons x a ih =>
              show (([.inl (x.1, x.2.1), .inl (x.2.2.1, x.2.2.2), .inr (x.1, x.2.2.1), .inr (x.2.2.1, x.1)] : List Mark) ++ marksJ a).length = _
              rw [List.length_append, ih, List.length_cons]
              simp
              omega
          rw [this]
          exact Nat.le_refl _
        have x1012 := x11.gs.trans x12.gs
        refine s_asg (M := none) (P := LsA MkA (marksJ (ml ++ [(n, i, o, j)]))) (fr.ext X12).no (ev_cast (ev_cat (R := MkA) (ev_var rfl (mo_same x1012 hvt10)) (ev_var rfl (mo_same x1012 h10)) (by show (marksJ ml).length + 4 ≤ 100000; omega)) (by rw [show marksJ (ml ++ [(n, i, o, j)]) = marksJ ml ++ [.inl (n, i), .inl (o, j), .inr (n, o), .inr (o, n)] from flat_snoc _ _ _])) fun v13 G13 H13 x13 h13 => ?_
        have gd13 := x13.av d ⟨_, upd_same, fun _ z => by cases z⟩ gd12
        refine ⟨ml ++ [(n, i, o, j)], acc ++ [v12], z9, v13, _, _, _, _, _, _, _, G13, rfl, X12.trans (x13.lift (fr.ext X12)), gw.trans (x510.gw.trans (x11.gw.trans (x12.gw.trans x13.gw))), hz12.same x13, by omega, gd13, x13.same _ _ (fun z => by cases z) upd_same, paired_snoc (paired_imp (fun r u (q : JointA r Gz u) => mo_same (P := JointA r) (x510.gs.trans (x1012.trans x13.gs)) q) pr) (mo_same x13.gs h12), h13, MK.snoc (lens_at hR.nd hr) i0 iL (lens_at hR.nd hr') j0 jL ne s1 s2 (by omega) free, by rw [List.length_append]; simpa using few⟩
      · have X11 := X10.trans (x11.lift (fr.ext X10))
        exact ⟨ml, acc, z9, vt, _, _, _, _, _, _, _, G11, rfl, X11, gw.trans (x510.gw.trans x11.gw), hz10.same x11, by omega, x11.av d ⟨_, hd10, fun _ z => by cases z⟩ gd10, x11.same _ _ (fun z => by cases z) hd10, paired_imp (fun r u (q : JointA r Gz u) => mo_same (P := JointA r) (x510.gs.trans x11.gs) q) pr, mo_same x11.gs hvt10, MK, by omega⟩
    · rintro σ' Ha ⟨ml, acc, z, vt, s5, s6, s7, s8, s9, s10, s11, Gz, rfl, X, gw, hz, lz, gdz, hdz, pr, hvt, MK, few⟩
      rw [List.length_range] at lz
      have L := Ext.learn X hd gdz hdz fun _ _ z => by cases z
      exact ⟨_, rfl, k _ _ _ z L hz (by show z ≤ y + 100; omega) ⟨ml, ⟨d, acc, rfl, upd_same, paired_imp (fun r u (q : JointA r Gz u) => Mo.up (P := JointA r) (up_new gdz) q) pr⟩, MK⟩⟩
end
end MR
/-! form_of. -/
namespace MR
open PySem PySem.Spec PyProof.Rows L2 He
theorem relabel_cf {env : Env} : ∀ {names : List (Str × NameKind)} {x : Str}, (names.lookup x = some .cell ∨ names.lookup x = some .free) →
    (names.map fun (n, k) => if (k == NameKind.free && env.scope.kind == .function && env.kindOf n == some .cell) then (n, NameKind.cell) else (n, k)).lookup x = some .cell ∨ (names.map fun (n, k) => if (k == NameKind.free && env.scope.kind == .function && env.kindOf n == some .cell) then (n, NameKind.cell) else (n, k)).lookup x = some .free
  | [], _, h => by simp at h
  | (n, k) :: r, x, h => by
    have ih := @relabel_cf env r x
    show List.lookup x ((if (k == NameKind.free && env.scope.kind == .function && env.kindOf n == some .cell) = true then (n, NameKind.cell) else (n, k)) :: _) = _ ∨ List.lookup x ((if (k == NameKind.free && env.scope.kind == .function && env.kindOf n == some .cell) = true then (n, NameKind.cell) else (n, k)) :: _) = _
    cases hx : x == n with
    | true =>
      simp only [List.lookup, hx] at h
      split <;> simp only [List.lookup, hx]
      · exact .inl (by trivial)
      · exact h
    | false =>
      simp only [List.lookup, hx] at h
      split <;> simp only [List.lookup, hx] <;> exact ih h
theorem blkOk_rel {N : List Str} {sc scope : Scope} {env : Env} {own : List (Str × Nat)} (h : blkC N sc scope own = true) : BlkOk N (relabel sc env) scope own := by
  have b := blkOk_by h
  exact ⟨b.kind, b.uniq, b.ix, fun y hy e => relabel_cf (b.free y hy e), b.own⟩
section
variable {P : Program} {w : World} {K : PySem.W.Frag} {mg : Str → Option Value} {base : Heap}
def FormX (K : PySem.W.Frag) (wd : WebD) (N : Nat) : Hp → V → Prop := fun H v => ∃ f g p, FormR K wd f g p N H v
instance {wd : WebD} {N : Nat} : Mo (FormX K wd N) := ⟨fun e ⟨f, g, p, h⟩ => ⟨f, g, p, Mo.up e h⟩⟩
def spFormOf (K : PySem.W.Frag) : Sp := spOf 2 (ι := ScI) (fun i => WebGood i.wd ∧ (∀ q, q ∈ i.turns → q.1 ∈ i.wd.names ∧ Int.natAbs q.2 < 2 ^ 200) ∧ i.turns.length < 100) (fun i => [ScriptA K i.wd i.turns]) (fun i => FormX K i.wd (300 + 300 * i.turns.length))
theorem ok_form_of (T : Tx K mg) : Good P w K mg base 8 (ga K "form_of") ["script"] (spFormOf K) := by
  obtain ⟨⟨fd_Web_names, G_Web_names, b_Web_names⟩, k_Web_names⟩ := ok_Web_names (P := P) (w := w) (base := base) T
  obtain ⟨⟨fd_Web_told, G_Web_told, b_Web_told⟩, k_Web_told⟩ := ok_Web_told (P := P) (w := w) (base := base) T
  obtain ⟨⟨fd_told_goals, G_told_goals, b_told_goals⟩, k_told_goals⟩ := ok_told_goals (P := P) (w := w) (base := base) T
  obtain ⟨⟨fd_FormU_initU, G_FormU_initU, b_FormU_initU⟩, k_FormU_initU⟩ := ok_FormU_initU (P := P) (w := w) (base := base) T
  refine good_of T.d_form_of sc_form_of (fun fd F => FunD.bindsN F fun _ _ _ _ _ _ us hl => match us, hl with | [_], _ => rfl) (fun vs H Q E h => ?_) (fun cdv A outer s H vs Q E hr h => ?_)
  · obtain ⟨i, G, _, _, _, al, _⟩ := h
    exact al_len al rfl
  · obtain ⟨i, G0, hC, nl, sG, al, k⟩ := h
    have hu := hu_of hr
    have hmin := hr.units
    have f0 : Fr none G0 H := .mk0 sG
    obtain ⟨v, rfl, e1⟩ := al1 al
    obtain ⟨wd, turns⟩ := i
    obtain ⟨hW, hT, few⟩ := hC
    dsimp only at hW hT few e1 k
    have o := hW.ok
    have nd : wd.names.Nodup := o.nd
    have fewn : wd.names.length ≤ 100 := by
      have := hW.few
      unfold WebD.names
      rw [List.length_map]
      exact this
    refine ⟨_, (pss_cons (ps_set (i := 1) sc_form_of.nd rfl (Or.inr rfl) (pe_fld (pv 0) (by rfl)))
    (pss_cons (ps_setDcx (i := 2) (own := [("name", 3)]) (g := (gName 3)) (by rfl) sc_form_of.nd rfl rfl (swD_true rfl rfl rfl (by decide +kernel)) (pi_list (pe_meth0 (pv 1) T.c_Web T.m_Web_names G_Web_names (hr.mono (by decide)) b_Web_names .nil pass0)) (blkOk_by (N := N_form_of) (sc := defScope s_form_of) (by decide +kernel)) (fun _ _ _ _ _ => (pg_name (i := 3) sc_form_of.nd rfl (Or.inl rfl))) (fun _ _ _ _ _ => pts_nil) (fun _ _ _ _ _ => (pv 3)) (fun _ _ _ _ _ => pe_int))
    (pss_cons (ps_setDcx (i := 4) (own := [("name", 3)]) (g := (gName 3)) (by rfl) sc_form_of.nd rfl rfl (swD_true rfl rfl rfl (by decide +kernel)) (pi_list (pe_meth0 (pv 1) T.c_Web T.m_Web_names G_Web_names (hr.mono (by decide)) b_Web_names .nil pass0)) (blkOk_by (N := N_form_of) (sc := defScope s_form_of) (by decide +kernel)) (fun _ _ _ _ _ => (pg_name (i := 3) sc_form_of.nd rfl (Or.inl rfl))) (fun _ _ _ _ _ => pts_nil) (fun _ _ _ _ _ => (pv 3)) (fun _ _ _ _ _ => (pe_dnewK)))
    (pss_cons (ps_lock (ps_setDcTx (i := 5) (hu := hu) (own := [("place", 6)]) (g := (gName 6)) (by rfl) sc_form_of.nd rfl rfl (swD_true rfl rfl rfl (by decide +kernel)) (pi_keys (pe_fld (pv 1) (by rfl))) (blkOk_by (N := N_form_of) (sc := defScope s_form_of) (by decide +kernel)) (fun _ _ _ _ _ => (pg_name (i := 6) sc_form_of.nd rfl (Or.inl rfl))) (fun _ _ _ _ _ => pts_nil) (fun _ _ _ _ _ => (pe_meth (pv 1) T.c_Web T.m_Web_told G_Web_told (hr.mono (by decide)) b_Web_told .nil pass0 (pa_cons (pv 6) pa_nil))) (fun _ _ _ _ _ => (pe_meth (pv 1) T.c_Web T.m_Web_told G_Web_told (hr.mono (by decide)) b_Web_told .nil pass0 (pa_cons (pv 6) pa_nil)))))
    (pss_cons (ps_setDcx (i := 7) (own := [("name", 3)]) (g := (gName 3)) (by rfl) sc_form_of.nd rfl rfl (swD_true rfl rfl rfl (by decide +kernel)) (pi_list (pe_meth0 (pv 1) T.c_Web T.m_Web_names G_Web_names (hr.mono (by decide)) b_Web_names .nil pass0)) (blkOk_by (N := N_form_of) (sc := defScope s_form_of) (by decide +kernel)) (fun _ _ _ _ _ => (pg_name (i := 3) sc_form_of.nd rfl (Or.inr rfl))) (fun _ _ _ _ _ => pts_nil) (fun _ _ _ _ _ => (pv 3)) (fun _ _ _ _ _ => (pe_lock (pe_lc (own := [("ring", 8), ("i", 9)]) (g := (gTup K 2 (gCons (gName 8) (gCons (gName 9) gNil)))) (by rfl) sc_form_of.nd (pi_keys (pe_fldK (K := K) (pv 1) (by rfl) (by rfl))) (blkOk_rel (N := N_form_of) (sc := { kind := .function, names := [(".0", .local), ("name", .cell), ("web", .free)], isGenerator := false, isCoroutine := false }) (by decide +kernel)) (fun _ _ _ _ _ => (pg_tup rfl (pgs_cons (pg_name (i := 8) sc_form_of.nd rfl (Or.inl rfl)) (pgs_cons (pg_name (i := 9) sc_form_of.nd rfl (Or.inl rfl)) pgs_nil)))) (fun _ _ _ _ _ => (pts_one (pt_cmpR op_eq (pv 8) (pv 3) (nomark _)))) (fun _ _ _ _ _ => (pv 9))))))
    (pss_cons (ps_for PassesOwn.never rfl (pi_tup (pe_fld (pv 0) (by rfl))) (pg_tup rfl (pgs_cons (pg_name (i := 3) sc_form_of.nd rfl (Or.inl rfl)) (pgs_cons (pg_name (i := 10) sc_form_of.nd rfl (Or.inl rfl)) pgs_nil)))
    (pss_cons (ps_set (i := 11) sc_form_of.nd rfl (Or.inl rfl) (pe_dget hu (pe_fld (pv 1) (by rfl)) (pv 3) (fun _ _ => rfl)))
    (pss_cons (ps_set (i := 12) sc_form_of.nd rfl (Or.inl rfl) (pe_dget hu (pv 4) (pv 3) (fun _ _ => rfl)))
    (pss_cons (ps_for PassesOwn.never rfl (pi_list (pe_dget hu (pv 7) (pv 3) (fun _ _ => rfl))) (pg_name (i := 9) sc_form_of.nd rfl (Or.inl rfl))
    (pss_one (ps_dput hu (pv 12) (pe_op op_mod (pe_op op_sub (pv 9) (pe_dget hu (pv 2) (pv 3) (fun _ _ => rfl))) (pv 11)) (pe_dget hu (pv 5) (pe_meth (pv 1) T.c_Web T.m_Web_told G_Web_told (hr.mono (by decide)) b_Web_told .nil pass0 (pa_cons (pe_tup (pa_cons (pv 3) (pa_cons (pv 9) pa_nil))) pa_nil)) (fun _ _ => rfl)) rfl)))
    (pss_cons (ps_dput hu (pv 2) (pv 3) (pe_op op_mod (pe_op op_add (pe_dget hu (pv 2) (pv 3) (fun _ _ => rfl)) (pe_op op_mulX (pv 10) (pe_dget hu (pe_fld (pv 1) (by rfl)) (pv 3) (fun _ _ => rfl)))) (pv 11)) rfl)
    (pss_one (ps_for PassesOwn.never rfl (pi_list (pe_dget hu (pv 7) (pv 3) (fun _ _ => rfl))) (pg_name (i := 9) sc_form_of.nd rfl (Or.inl rfl))
    (pss_cons (ps_set (i := 6) sc_form_of.nd rfl (Or.inl rfl) (pe_op op_mod (pe_op op_sub (pv 9) (pe_dget hu (pv 2) (pv 3) (fun _ _ => rfl))) (pv 11)))
    (pss_one (ps_dput hu (pv 5) (pe_meth (pv 1) T.c_Web T.m_Web_told G_Web_told (hr.mono (by decide)) b_Web_told .nil pass0 (pa_cons (pe_tup (pa_cons (pv 3) (pa_cons (pv 9) pa_nil))) pa_nil)) (pe_dpop2 (pv 12) (pv 6) (pe_tup (pa_cons (pv 3) (pa_cons (pv 6) pa_nil))) ⟨by rfl, by rfl, by rfl, by rfl⟩) rfl))))))))))
    (pss_one (ps_ret (pe_make T.k_Form G_FormU_initU (hr.mono (by decide)) (by rfl) T.g_Form b_FormU_initU .nil pass0 (pa_cons (pv 1) (pa_cons (pv 2) (pa_cons (pe_call G_told_goals (hr.mono (by decide)) (by rfl) T.g_told_goals k_told_goals b_told_goals .nil pass0 (pa_cons (pv 1) (pa_cons (pv 2) (pa_cons (pv 4) (pa_cons (pv 5) pa_nil))))) pa_nil)))))))))))), ?_⟩
    refine q_asg (P := WebA K wd) f0 (ev_fld (fsc_web T) (ev_var rfl e1)) fun v1 G1 H1 x1 w1 => ?_
    refine q_asgE ?_
    refine dcK_own (R := StrA) (R' := IntA) kN_inj (fun n : Nm => some (n, (0 : Int))) (src_lst (ev_meth (i := wd) (n := 0) (by have := hW.few; show wd.rings.length < 100000; omega) trivial rfl (isI_web fun _ _ _ _ _ => by rfl) (ev_var rfl w1) ea_nil)) (by omega) (fun n hn xv G' H' gw fr rx Q' k2 => k2 ((wipe _ _).set 3 (some xv)) rfl ⟨et_yes, fun c hc => by cases hc; cases rx; exact ⟨ev_var rfl rfl, ev_c⟩⟩) _ _ (Gw.rfl' _) (.mk0 x1.sub) _ fun d2 G2 H2 ko hd2 gd2 x2 hh2 dr2 => ?_
    rw [fm_map] at dr2
    have X2 := x1.trans x2
    have w2 := mo_same x2.gs w1
    refine q_asgE ?_
    refine dcK_news (R := StrA) nd (src_lst (ev_meth (i := wd) (n := 0) (by have := hW.few; show wd.rings.length < 100000; omega) trivial rfl (isI_web fun _ _ _ _ _ => by rfl) (ev_var rfl w2) ea_nil)) (by omega) (fun n hn xv G' H' gw fr rx Q' k2 => k2 ((wipe _ _).set 3 (some xv)) rfl ⟨et_yes, by cases rx; exact ev_var rfl rfl⟩) _ _ (Gw.rfl' _) (.mk0 x2.sub) _ fun dc G3 H3 E hdc gdc x3 hE hEn hh3 ent => ?_
    have hdcR := hdc
    have x3' := Ext.learn x3 hdc gdc hh3 (fun _ _ z => by cases z)
    have n2c : d2 ≠ dc := ne_of_none hh2 hdc
    have hh2' := x3.same _ _ (fun z => by cases z) hh2
    have gd2' : (upd G3 dc (.dK (E.map fun x => (kN x.1, V.ref x.2)))) d2 = none := by rw [upd_ne n2c]; exact x3.av _ ⟨_, hh2, fun _ z => by cases z⟩ gd2
    have gdc' : (upd G3 dc (.dK (E.map fun x => (kN x.1, V.ref x.2)))) dc = some (.dK (E.map fun x => (kN x.1, V.ref x.2))) := upd_same
    have ent' : ∀ x, x ∈ E → H2 x.2 = none ∧ (upd G3 dc (.dK (E.map fun x => (kN x.1, V.ref x.2)))) x.2 = none ∧ H3 x.2 = some (.dK []) := fun x hx => by
      obtain ⟨h1, h2, h3, h4⟩ := ent x hx
      exact ⟨h1, by rw [upd_ne h4]; exact h2, h3⟩
    have h0n : ∀ {a : Addr}, H2 a = none → H a = none := fun {a} h => by
      cases q : H a with
      | none => rfl
      | some o => rw [X2.same _ _ (fun z => by cases z) q] at h; cases h
    have hd2H : H d2 = none := by
      cases q : H d2 with
      | none => rfl
      | some o => rw [x1.same _ _ (fun z => by cases z) q] at hd2; cases hd2
    have X3 := X2.trans x3'
    generalize hG3 : upd G3 dc (.dK (E.map fun x => (kN x.1, V.ref x.2))) = G4 at *
    -- the web's table
    obtain ⟨aw, dxw, rw_, jw, lw, sw, mw, ew, hw0, hw1, hw2, hw3, hw4, hw5⟩ := id w1
    obtain ⟨dm, km, rfl, knm, drm⟩ := id hw5
    have hdm1 : G1 dm = some (.dT km) := knm.t (x1.gw.nl nl).2
    have fdm : Fd K "mates" (InsP aw (ga K "Web") dxw (fsWeb rw_ jw lw sw (.ref dm))) (Is (.ref dm)) := fun H v h => ⟨aw, _, dxw, _, _, h.1, h.2, T.c_Web, T.n_Web_mates, by rfl, rfl⟩
    have isM : ∀ (G' : Hp) (τ : L2.St), Up G1 G' → τ[1]? = some (some v1) → Ev none (tFld K (tVar 1) "mates") τ G' (Is (.ref dm)) := fun G' τ up hτ => ev_fld fdm (ev_var hτ ⟨ew, up.ins hw0⟩)
    have s13 : Same G1 G4 := x2.gs.trans x3'.gs
    have hdm4 : G4 dm = some (.dT km) := s13 _ _ hdm1
    have mf := hW.mfew
    refine q_lock (.mk0 x3'.sub) hdm4 trivial fun od f5 up5 D' hn5 hr5 => ?_
    refine dcT_own (R := fun b : Pl × Pl => PlA b.1) (R' := PlA) (fun q => some (wd.told q.1, wd.told q.1)) (src_keT (isM _ _ ((sm_up s13).trans up5) rfl) upd_same drm) (by omega) (fun q hq xv G' H' gw fr rx Q' k2 => k2 ((wipe _ _).set 6 (some xv)) rfl ⟨et_yes, fun c hc => by
      cases hc
      exact ⟨ev_meth (i := (wd, q.1)) trivial (n := 0) trivial rfl (isI_web fun _ _ _ _ _ => by rfl) (ev_var rfl (Mo.up (((sm_up s13).trans up5).trans (sm_up gw.gs)) w1)) (ea_cons (ev_var rfl rx) ea_nil), ev_meth (i := (wd, q.1)) trivial (n := 0) trivial rfl (isI_web fun _ _ _ _ _ => by rfl) (ev_var rfl (Mo.up (((sm_up s13).trans up5).trans (sm_up gw.gs)) w1)) (ea_cons (ev_var rfl rx) ea_nil)⟩⟩) _ _ (Gw.rfl' _) f5 _ fun d5 G5 H5 ks hd5 gd5 x5 hh5 dr5 => ?_
    rw [fm_map] at dr5
    obtain ⟨u5, uf, uup⟩ := Ext.unlock (G0 := G4) (H0 := H3) (.mk0 x3'.sub) hdm4 trivial x5
    have n5m : d5 ≠ dm := fun z => by rw [z, upd_same] at hd5; cases hd5
    have hd5' : H3 d5 = none := by rw [upd_ne n5m] at hd5; exact hd5
    show D'.nx _ _
    rw [hn5]
    refine ⟨uf, ?_⟩
    have gd5' : (upd G5 dm (.dT km)) d5 = none := by rw [upd_ne n5m]; exact gd5
    have hh5' : (upd H5 dm (.dT km)) d5 = some (.dT ks) := by rw [upd_ne n5m]; exact hh5
    have dr5' := DR.mo uup dr5
    generalize hG5 : upd G5 dm (.dT km) = G6 at *
    generalize hH5 : upd H5 dm (.dT km) = H6 at *
    have X6 := X3.trans u5
    have s16 : Same G1 G6 := s13.trans u5.gs
    have hdm6 : G6 dm = some (.dT km) := s16 _ _ hdm1
    -- the doors
    refine q_asg (P := DcK kN (LsA IntA) (wd.names.map fun n => (n, doorsL wd n))) (.mk0 u5.sub) (ev_cast (ev_dcK (R := StrA) (R' := LsA IntA) (l := wd.names) kN_inj (fun n => some (n, doorsL wd n))
      (src_lst (ev_meth (i := wd) (n := 0) (by have := hW.few; show wd.rings.length < 100000; omega) trivial rfl (isI_web fun _ _ _ _ _ => by rfl) (ev_var rfl (mo_same s16 w1)) ea_nil)) (by omega) (fun n hn xv G' H' gw fr rx Q' k2 => k2 ((wipe _ _).set 3 (some xv)) rfl ⟨et_yes, fun c hc => ?_⟩)) ?_) fun vd G7 H7 x7 hdoor => ?_
    · cases hc
      cases rx
      refine ⟨ev_var rfl rfl, ev_lock (gw.gs _ _ hdm6) trivial fun od => ev_lc (R := fun b : Pl × Pl => PlA b.1) (R' := IntA) (fun q => if decide (q.1.1 = n) = true then some q.1.2 else none)
        (src_keT (isM _ _ (((sm_up s16).trans (sm_up gw.gs)).trans (Up.lock (gw.gs _ _ hdm6) trivial)) rfl) upd_same drm) (by omega) fun q hq xv' G'' H'' gw' fr' rx' Q'' k3 => tg2 (plA_tup rx') fr'.sub fun a1 a2 ha1 ha2 => ?_⟩
      cases ha1
      cases ha2
      refine k3 _ rfl ⟨et_is (et_test (ev_eq (x := .str q.1.1) (y := .str n) (ev_var rfl rfl) (ev_var rfl rfl) rfl)) ?_, fun c hc => ?_⟩
      · by_cases c : q.1.1 = n
        · simp [c]
        · simp [c]
      · by_cases c : q.1.1 = n
        · rw [if_pos (decide_eq_true c)] at hc
          cases hc
          exact ev_var rfl rfl
        · rw [if_neg (by simpa using c)] at hc
          cases hc
    · rw [fm_map, mkT_nd _ (by rw [map_fst_tab]; exact nd)]
    have X7 := X6.trans x7
    have x47 := u5.trans x7
    have s17 := s16.trans x7.gs
    -- the tables to begin with
    have memE : ∀ n, n ∈ wd.names → (n, (lk E n).getD d2) ∈ E := fun n hn => by
      rw [← hE] at hn
      have := lk_some.mpr hn
      cases c : lk E n with
      | none => exact absurd c this
      | some a => exact lk_mem c
    have hd5H : H d5 = none := by
      cases q : H d5 with
      | none => rfl
      | some o => rw [X3.same _ _ (fun z => by cases z) q] at hd5'; cases hd5'
    have I7 : FoI H G7 H7 (fun n => (lk E n).getD d2) wd.names d2 d5 (mkT (wd.names.map fun n => (n, (0 : Int)))) ko (mkT (wd.mates.map fun q => (wd.told q.1, wd.told q.1))) ks (fun _ => []) (fun _ => []) := by
      refine ⟨x47.same _ _ (fun z => by cases z) hh2', x47.av _ ⟨_, hh2', fun _ z => by cases z⟩ gd2', hd2H, DR.mo (sm_up (x3'.gs.trans x47.gs)) dr2, x7.same _ _ (fun z => by cases z) hh5', x7.av _ ⟨_, hh5', fun _ z => by cases z⟩ gd5', hd5H, DR.mo (sm_up x7.gs) dr5', fun n hn => ?_, fun n m hn hm e => ?_, fun n hn e => ?_⟩
      · obtain ⟨h1, h2, h3⟩ := ent' _ (memE n hn)
        exact ⟨x47.same _ _ (fun z => by cases z) h3, x47.av _ ⟨_, h3, fun _ z => by cases z⟩ h2, h0n h1, .nil⟩
      · have h1 := memE n hn
        rw [show (lk E n).getD d2 = (lk E m).getD d2 from e] at h1
        exact snd_inj hEn h1 (memE m hm)
      · have h1 := (ent' _ (memE n hn)).1
        rw [show ((n, (lk E n).getD d2) : Nm × Addr).2 = d2 from e, hh2] at h1
        cases h1
    have S0 : FoSem wd (mkT (wd.names.map fun n => (n, (0 : Int)))) (mkT (wd.mates.map fun q => (wd.told q.1, wd.told q.1))) (fun _ => []) 0 := by
      rw [mkT_nd (wd.names.map fun n => (n, (0 : Int))) (by rw [map_fst_tab]; exact nd)]
      exact FoSem.start hW rfl
    have gdc7 : G7 dc = some (.dK (E.map fun x => (kN x.1, V.ref x.2))) := x47.gs _ _ gdc'
    generalize hF : mkT (wd.names.map fun n => (n, (0 : Int))) = OFF0 at *
    generalize hSH : mkT (wd.mates.map fun q => (wd.told q.1, wd.told q.1)) = SH0 at *
    have cellsA : ∀ G', Same G7 G' → DcK kN (fun a : Addr => Is (.ref a)) (wd.names.map fun n => (n, (lk E n).getD d2)) G' (.ref dc) := fun G' s => by
      refine ⟨dc, _, rfl, .inl (s _ _ gdc7), ?_⟩
      rw [show (wd.names.map fun n => (n, (lk E n).getD d2)) = E by
        rw [← hE, List.map_map]
        have hEf : (E.map (·.1)).Nodup := by rw [hE]; exact nd
        refine Eq.trans (List.map_congr_left fun x hx => ?_) (List.map_id E)
        show (x.1, (lk E x.1).getD d2) = x
        rw [lk_of_mem hEf (show (x.1, x.2) ∈ E from hx)]
        rfl]
      exact paired_maps' E
    obtain ⟨ad, hA⟩ : ∃ ad : Nm → Addr, ad = fun n => (lk E n).getD d2 := ⟨_, rfl⟩
    rw [← hA] at I7
    replace cellsA : ∀ G', Same G7 G' → DcK kN (fun a : Addr => Is (.ref a)) (wd.names.map fun n => (n, ad n)) G' (.ref dc) := by rw [hA]; exact cellsA
    -- the turns
    refine q_for' (l := turns) (R := TurnA) (.mk0 x7.sub) (src_tup (ev_fld (fsc_turns T) (ev_var rfl (mo_same X7.gs e1)))) fun G8 H8 x8 => ?_
    have s78 := x8.gs
    refine ⟨fun i σ' H' => ∃ (s3 s6 s8 s9 s10 s11 s12 : Option V) (G : Hp) (OFF : List (Nm × Int)) (ko : List (Key × V)) (SH : List (Pl × Pl)) (ks : List (List Key × V)) (tb : Nm → List (Int × Pl)) (kv : Nm → List (Key × V)), σ' = [some v, some v1, some (.ref d2), s3, some (.ref dc), some (.ref d5), s6, some vd, s8, s9, s10, s11, s12] ∧ Ext none G0 H G H' ∧ Gw G8 G ∧ FoI H G H' ad wd.names d2 d5 OFF ko SH ks tb kv ∧ FoSem wd OFF SH tb i,
      ⟨none, none, none, none, none, none, none, G8, _, _, _, _, _, _, rfl, X7.trans x8, Gw.rfl' _, I7.ext x8, S0⟩, ?_, ?_, ?_⟩
    · rintro i σ' H' ⟨s3, s6, s8, s9, s10, s11, s12, G, OFF, ko, SH, ks, tb, kv, rfl, X, gw, _⟩
      exact gw.gs.trans X.sub
    · rintro i ⟨n, k0⟩ σ1 Ha hi ⟨s3, s6, s8, s9, s10, s11, s12, G, OFF, ko, SH, ks, tb, kv, rfl, X, gw, I, S⟩ xv Hb hy
      obtain ⟨Gb, xb, rb⟩ := hy G gw (.mk0 X.sub)
      refine tg2 rb xb.sub fun a1 a2 ha1 ha2 => ?_
      cases ha1
      cases ha2
      have hq := hT _ (List.mem_of_getElem? hi)
      obtain ⟨hn, hk0⟩ : n ∈ wd.names ∧ k0.natAbs < 2 ^ 200 := hq
      have hit : i < turns.length := (List.getElem?_eq_some_iff.mp hi).1
      have Xb := X.trans xb
      have ln := hW.len n hn
      obtain ⟨st, hst, hsb⟩ := hW.step n hn
      refine q_asg (P := IntA (wd.len n)) (.mk0 xb.sub) (ev_getK (R := IntA) kN_inj n ln (ev_fld (fd_lengths T) (ev_var rfl (mo_same (s17.trans (s78.trans (gw.trans xb.gw).gs)) w1))) (ev_var rfl rfl)) fun v11 Gc Hc xc hc => ?_
      cases hc
      have gw' := gw.trans (xb.trans xc).gw
      refine q_asg (P := Is (.ref (ad n))) (.mk0 xc.sub) (ev_getK (R := fun a : Addr => Is (.ref a)) kN_inj n (lk_tab ad _ hn) (ev_var rfl (cellsA _ (s78.trans gw'.gs))) (ev_var rfl rfl)) fun v12 Gd Hd xd hd => ?_
      cases hd
      have gwd := gw'.trans xd.gw
      have Xd := (Xb.trans xc).trans xd
      have Id := I.ext ((xb.trans xc).trans xd)
      have doorA : ∀ G', Same G8 G' → DcK kN (LsA IntA) (wd.names.map fun n => (n, doorsL wd n)) G' vd := fun G' s => mo_same (s78.trans s) hdoor
      have webA : ∀ G', Same G8 G' → WebA K wd G' v1 := fun G' s => mo_same (s17.trans (s78.trans s)) w1
      have df := door_few hW n
      have tbn : (tb n).length ≤ 30000 := by
        have h1 := le_sum (fun n => (tb n).length) hn
        have h2 := S.tl
        omega
      -- all at the doors into the ring's table
      refine q_for' (l := doorsL wd n) (R := IntA) (.mk0 xd.sub) (src_lst (ev_getK (R := LsA IntA) kN_inj n (lk_tab (doorsL wd) _ hn) (ev_var rfl (doorA _ gwd.gs)) (ev_var rfl rfl))) fun Ge He xe => ?_
      refine ⟨fun j σ' H' => ∃ (s9 : Option V) (G : Hp) (kn : List (Key × V)), σ' = [some v, some v1, some (.ref d2), some (.str n), some (.ref dc), some (.ref d5), s6, some vd, s8, s9, some (.int k0), some (.int (wd.len n)), some (.ref (ad n))] ∧ Ext none G0 H G H' ∧ Gw Ge G ∧ FoI H G H' ad wd.names d2 d5 OFF ko SH ks (stN tb n (fillT wd n (pOf OFF n) SH ((doorsL wd n).take j) (tb n))) (stN kv n kn),
        ⟨s9, Ge, kv n, rfl, Xd.trans xe, Gw.rfl' _, by
          rw [List.take_zero]
          show FoI _ _ _ _ _ _ _ _ _ _ _ (stN tb n (tb n)) _
          rw [stN_id, stN_id]
          exact Id.ext xe⟩, ?_, ?_, ?_⟩
      · rintro j σ' H' ⟨s9, G, kn, rfl, X, gw, _⟩
        exact gw.gs.trans X.sub
      · rintro j i0 σ2 Hf hj ⟨s9, Gf, kn, rfl, Xf, gwf, If⟩ xv' Hg hy'
        obtain ⟨Gg, xg, rg⟩ := hy' Gf gwf (.mk0 Xf.sub)
        cases rg
        have gwg := gwd.trans (xe.gw.trans (gwf.trans xg.gw))
        have Ig := If.ext xg
        have Xg := Xf.trans xg
        have hdoor0 : i0 ∈ doorsL wd n := List.mem_of_getElem? hj
        have hmi := (door_mem hW).mp hdoor0
        have hvi : wd.m.Val (n, i0) := by
          cases c : wd.m.mate (n, i0) with
          | none => exact absurd c hmi
          | some q => exact (o.mate_val _ _ c).1
        have hkey : wd.told (n, i0) ∈ SH.map (·.1) := (S.shk _).mpr ⟨o.spot hvi, fun z => hmi ((o.mate_told _).mp z)⟩
        have hcn := Ig.ch n hn
        rw [stN_same, stN_same] at hcn
        have klen : kn.length < 100000 := by
          have h1 := paired_len hcn.2.2.2
          have h2 := fillT_len wd n (pOf OFF n) SH ((doorsL wd n).take j) (tb n)
          rw [List.length_take] at h2
          have := Nat.min_le_right j (doorsL wd n).length
          omega
        refine p_putKR (P := PlA (shOf SH (wd.told (n, i0)))) (d := ad n) (k := kI ((i0 - pOf OFF n) % wd.len n)) hcn.1 (fun z => by cases z) klen
          (run_own (S := FoS ad wd.names d2 d5) xg.sub Ig.own (ev_getT (R := PlA) (wd.told (n, i0)) (S.sh hkey) (ev_var rfl Ig.shA) (ev_meth (i := (wd, (n, i0))) trivial (n := 0) trivial rfl (isI_web fun _ _ _ _ _ => by rfl) (ev_var rfl (webA _ (gwg.gs.trans Ig.same))) (ea_cons (ev_imp (ev_tup (ea_cons (P := StrA n) (ev_var rfl rfl) (ea_cons (P := IntA i0) (ev_var rfl rfl) ea_nil))) fun H v h => plA_of h) ea_nil))))
          (fun H1 Q q => ⟨_, rfl, q⟩)
          (fun G1 H1 y => run_own (S := FoS ad wd.names d2 d5) y.sub (Ig.ext y).own (ev_i (i := i0 - pOf OFF n) (j := wd.len n) (ev_i0 (i := i0) (j := pOf OFF n) (ev_var rfl rfl) (ev_getK (R := IntA) kN_inj n (S.at_ hn) (ev_var rfl (Ig.ext y).offA) (ev_var rfl rfl))) (ev_var rfl rfl) (len_bits hW hn)))
          fun vq Gh Hh xh hq hcd => ?_
        have Ih := Ig.ext xh
        have hch := Ih.ch n hn
        rw [stN_same, stN_same] at hch
        have Ip := Ih.putC hn (DR.put kI_inj hch.2.2.2 (k := (i0 - pOf OFF n) % wd.len n) hq)
        rw [stN_stN, stN_stN] at Ip
        refine ⟨_, Gh, putK kn (kI ((i0 - pOf OFF n) % wd.len n)) vq, rfl, Ext.mutD (Xg.trans xh) hch.2.2.1 hch.2.1 (fun z => by cases z), gwf.trans (xg.trans xh).gw, ?_⟩
        rw [take_snoc hj, fillT_snoc]
        exact Ip
      · rintro σ' Hf ⟨s9', Gf, kn, rfl, Xf, gwf, If⟩
        rw [List.take_length] at If
        have gwF := gwd.trans (xe.gw.trans gwf)
        have kol : ko.length < 100000 := by
          have h1 := paired_len If.od
          have h2 := congrArg List.length S.off
          rw [List.length_map] at h2
          omega
        refine seq_ (p_putKR (P := IntA ((pOf OFF n + k0 * st) % wd.len n)) (d := d2) (k := kN n) If.oh (fun z => by cases z) kol (run_own (S := FoS ad wd.names d2 d5) Xf.sub If.own (ev_i (i := pOf OFF n + k0 * st) (j := wd.len n) (ev_i0 (i := pOf OFF n) (j := k0 * st) (ev_getK (R := IntA) kN_inj n (S.at_ hn) (ev_var rfl If.offA) (ev_var rfl rfl)) (ev_i (i := k0) (j := st) (ev_var rfl rfl) (ev_getK (R := IntA) kN_inj n hst (ev_fld (fd_steps T) (ev_var rfl (webA _ (gwF.gs.trans If.same)))) (ev_var rfl rfl)) (mulx_ok (a := 200) (b := 104) hk0 hsb (by decide)))) (ev_var rfl rfl) (len_bits hW hn)))
          (fun H1 Q q => ⟨_, rfl, q⟩) (fun G1 H1 y => run_of (.mk0 y.sub) (ev_var rfl rfl)) fun vo Gg Hg xg ho hod => ?_)
        cases ho
        have Ig := (If.ext xg).putO n ((pOf OFF n + k0 * st) % wd.len n)
        have Xg := Ext.mutD (o := .dK (putK ko (kN n) (.int ((pOf OFF n + k0 * st) % wd.len n)))) (Xf.trans xg) If.ob (If.ext xg).og (fun z => by cases z)
        have gwG := gwF.trans xg.gw
        obtain ⟨x, hx⟩ : ∃ x, x = (pOf OFF n + k0 * st) % wd.len n := ⟨_, rfl⟩
        rw [← hx] at Ig Xg ⊢
        have lx : lk (pt OFF n x) n = some x := by rw [lk_pt, if_pos rfl]
        have pn : pOf (pt OFF n x) n = x := by
          unfold pOf
          rw [lx]
          rfl
        have pm : ∀ m, m ≠ n → pOf (pt OFF n x) m = pOf OFF m := fun m hm => by
          unfold pOf
          rw [lk_pt, if_neg hm]
        obtain ⟨T1, hT1⟩ : ∃ T1, T1 = fillT wd n (pOf OFF n) SH (doorsL wd n) (tb n) := ⟨_, rfl⟩
        rw [← hT1] at Ig
        have T1l : T1.length ≤ (tb n).length + 300 := by
          have := fillT_len wd n (pOf OFF n) SH (doorsL wd n) (tb n)
          rw [hT1]
          omega
        have T1n : (T1.map (·.1)).Nodup := by
          rw [hT1]
          have : ∀ (ds : List Int) (T : List (Int × Pl)), (T.map (·.1)).Nodup → ((fillT wd n (pOf OFF n) SH ds T).map (·.1)).Nodup := by
            intro ds
            induction ds with
            | nil => exact fun T h => h
            | cons a ds ih => exact fun T h => ih _ (pt_keys_nd h _ _)
          exact this _ _ (S.tn n hn)
        refine p_for (M := none) (l := doorsL wd n) (R := IntA) (.mk0 Xg.sub) (src_lst (ev_getK (R := LsA IntA) kN_inj n (lk_tab (doorsL wd) _ hn) (ev_var rfl (doorA _ gwG.gs)) (ev_var rfl rfl))) fun Gi Hi xi => ?_
        refine ⟨fun j σ' H' => ∃ (s6 s9 : Option V) (G : Hp) (T : List (Int × Pl)) (kn : List (Key × V)) (SH' : List (Pl × Pl)) (ks' : List (List Key × V)), σ' = [some v, some v1, some (.ref d2), some (.str n), some (.ref dc), some (.ref d5), s6, some vd, s8, s9, some (.int k0), some (.int (wd.len n)), some (.ref (ad n))] ∧ Ext none G0 H G H' ∧ Gw Gi G ∧ FoI H G H' ad wd.names d2 d5 (pt OFF n x) (putK ko (kN n) (.int x)) SH' ks' (stN tb n T) (stN kv n kn) ∧ EmptyI wd n x T1 SH ((doorsL wd n).take j) T SH' ∧ SH'.map (·.1) = SH.map (·.1) ∧ (T.map (·.1)).Nodup ∧ T.length ≤ T1.length,
          ⟨s6, s9', Gi, T1, kn, SH, ks, rfl, Xg.trans xi, Gw.rfl' _, Ig.ext xi, by rw [List.take_zero]; exact EmptyI.start, rfl, T1n, Nat.le_refl _⟩, ?_, ?_, ?_⟩
        · rintro j σ' H' ⟨s6, s9, G, T, kn, SH', ks', rfl, X, gw, _⟩
          exact gw.gs.trans X.sub
        · rintro j i0 σ2 Hj hj ⟨s6, s9, Gj, T, kn, SH', ks', rfl, Xj, gwj, Ij, Ej, kj, Tn, Tl⟩ xv' Hk hy'
          obtain ⟨Gk, xk, rk⟩ := hy' Gj gwj (.mk0 Xj.sub)
          cases rk
          have gwk := gwG.trans (xi.gw.trans (gwj.trans xk.gw))
          have Ik := Ij.ext xk
          have Xk := Xj.trans xk
          have hdoor0 : i0 ∈ doorsL wd n := List.mem_of_getElem? hj
          have vals : ∀ j, j ∈ doorsL wd n → wd.m.Val (n, j) := fun j hj => by
            cases c : wd.m.mate (n, j) with
            | none => exact absurd c ((door_mem hW).mp hj)
            | some q => exact (o.mate_val _ _ c).1
          have hvi := vals i0 hdoor0
          have hkey : wd.told (n, i0) ∈ SH.map (·.1) := (S.shk _).mpr ⟨o.spot hvi, fun z => (door_mem hW).mp hdoor0 ((o.mate_told _).mp z)⟩
          have hkey' : lk SH' (wd.told (n, i0)) ≠ none := lk_some.mpr (by rw [kj]; exact hkey)
          have ksl : ks'.length < 100000 := by
            have h1 := paired_len Ik.sd
            have h2 := congrArg List.length kj
            rw [List.length_map, List.length_map] at h2
            have := S.shl
            omega
          refine q_asgR (P := IntA ((i0 - x) % wd.len n)) (run_own (S := FoS ad wd.names d2 d5) xk.sub Ik.own (ev_i (i := i0 - x) (j := wd.len n) (ev_i0 (i := i0) (j := x) (ev_var rfl rfl) (ev_getK (R := IntA) kN_inj n lx (ev_var rfl Ik.offA) (ev_var rfl rfl))) (ev_var rfl rfl) (len_bits hW hn))) fun v6 Gl Hl xl h6 => ?_
          cases h6
          have Il := Ik.ext xl
          have gwl := gwk.trans xl.gw
          refine p_popPut (n := n) (pl := (i0 - x) % wd.len n) (m := wd.told (n, i0)) Il (Xk.trans xl) hn rfl rfl rfl ksl (ev_imp (ev_tup (ea_cons (P := StrA n) (ev_var rfl rfl) (ea_cons (P := IntA ((i0 - x) % wd.len n)) (ev_var rfl rfl) ea_nil))) fun H v h => plA_of h)
            (ev_meth (i := (wd, (n, i0))) trivial (n := 0) trivial rfl (isI_web fun _ _ _ _ _ => by rfl) (ev_var rfl (webA _ gwl.gs)) (ea_cons (ev_imp (ev_tup (ea_cons (P := StrA n) (ev_var rfl rfl) (ea_cons (P := IntA i0) (ev_var rfl rfl) ea_nil))) fun H v h => plA_of h) ea_nil)) fun Gn Hn T' kn' ks'' Xn gwn In hT' nT' lT' => ?_
          rw [stN_same] at hT' nT' lT' In
          rw [stN_stN, stN_stN] at In
          refine ⟨_, _, Gn, T', kn', _, ks'', rfl, Xn, gwj.trans ((xk.gw.trans xl.gw).trans gwn), In, ?_, by rw [pt_old _ hkey']; exact kj, nT' Tn, by omega⟩
          rw [take_snoc hj]
          exact Ej.step hW hn hvi (fun j hj => vals j (List.mem_of_mem_take hj)) (take_nin (door_nd hW n) hj) hT'
        · rintro σ' Hj ⟨s6, s9, Gj, T, kn, SH', ks', rfl, Xj, gwj, Ij, Ej, kj, Tn, Tl⟩
          rw [List.take_length] at Ej
          refine ⟨_, s6, s8, s9, _, _, _, Gj, _, _, SH', ks', stN tb n T, _, rfl, Xj, gwG.trans (xi.gw.trans gwj), Ij, ?_⟩
          obtain ⟨cur, goal, sim⟩ := S.sim
          refine ⟨?_, by rw [pt_old _ (by rw [S.at_ hn]; exact fun z => by cases z)]; exact S.off, fun b => by rw [kj]; exact S.shk b, by rw [kj]; exact S.shn, ?_, fun m hm => ?_, ?_⟩
          · refine sim_step hW (off' := pOf (pt OFF n x)) (cells' := fun m p => lk (stN tb n T m) p) sim hn (T0 := tb n) (T := T) (fun p => rfl) ?_ pm ?_ (fun m hm => ?_) fun p => ?_
            · rw [pn, ← hT1]
              exact Ej
            · rw [pn, hx]
              exact mod_range (len_bits hW hn)
            · funext p
              rw [stN_ne hm]
            · rw [stN_same]
          · have h2 := congrArg List.length kj
            rw [List.length_map, List.length_map] at h2
            have := S.shl
            omega
          · by_cases c : m = n
            · rw [c, stN_same]
              exact Tn
            · rw [stN_ne c]
              exact S.tn m hm
          · have h1 := sum_stN nd (fun m => (tb m).length) n T.length (by omega)
            have h2 := S.tl
            have e : (wd.names.map fun m => (stN tb n T m).length) = wd.names.map (stN (fun m => (tb m).length) n T.length) := List.map_congr_left fun m _ => by
              by_cases c : m = n
              · rw [c, stN_same, stN_same]
              · rw [stN_ne c, stN_ne c]
            rw [e]
            omega
    · rintro σ' Ha ⟨s3, s6, s8, s9, s10, s11, s12, G, OFF, ko, SH, ks, tb, kv, rfl, X, gw, I, S⟩
      obtain ⟨cur, goal, sim⟩ := S.sim
      have sG8 := gw.gs
      have XL := X.learnS (S := FoS ad wd.names d2 d5) (fun a ha => by
        rcases ha with rfl | rfl | ⟨n, hn, rfl⟩
        · exact ⟨I.ob, I.og, _, I.oh, fun _ _ z => by cases z⟩
        · exact ⟨I.sb, I.sg, _, I.sh, fun _ _ z => by cases z⟩
        · exact ⟨(I.ch n hn).2.2.1, (I.ch n hn).2.1, _, (I.ch n hn).1, fun _ _ z => by cases z⟩)
      have sL : Same G8 (addS (FoS ad wd.names d2 d5) G Ha) := sG8.trans I.same
      have wL : WebA K wd (addS (FoS ad wd.names d2 d5) G Ha) v1 := mo_same (s17.trans (s78.trans sL)) w1
      have cL : DcK kN HeldA (wd.names.map fun n => (n, tb n)) (addS (FoS ad wd.names d2 d5) G Ha) (.ref dc) := by
        obtain ⟨d, kvs, e, kn, dr⟩ := cellsA _ (s78.trans sL)
        refine ⟨d, kvs, e, kn, ?_⟩
        clear e kn
        have : ∀ (l : List Nm) (kvs : List (Key × V)), (∀ n, n ∈ l → n ∈ wd.names) → DR kN (fun a u => Is (.ref a) (addS (FoS ad wd.names d2 d5) G Ha) u) (l.map fun n => (n, ad n)) kvs → DR kN (fun t u => HeldA t (addS (FoS ad wd.names d2 d5) G Ha) u) (l.map fun n => (n, tb n)) kvs := by
          intro l
          induction l with
          | nil => intro kvs _ h; cases h; exact .nil
          | cons n l ih =>
            intro kvs hl h
            cases h with
            | cons a t =>
              refine .cons ⟨a.1, ?_⟩ (ih _ (fun m hm => hl m (List.mem_cons_of_mem _ hm)) t)
              have hn := hl n List.mem_cons_self
              exact ⟨ad n, kv n, a.2, .inl (by rw [addS_pos (.inr (.inr ⟨n, hn, rfl⟩))]; exact (I.ch n hn).1), DR.mo (sm_up I.same) (I.ch n hn).2.2.2⟩
        exact this _ _ (fun _ h => h) dr
      have lenF : (flatC wd OFF (wd.names.map fun n => (n, tb n))).length ≤ 300 * turns.length := by
        have : ∀ l : List Nm, (flatC wd OFF (l.map fun n => (n, tb n))).length = (l.map fun n => (tb n).length).sum := by
          intro l
          induction l with
          | nil => rfl
          | cons n l ih =>
            rw [List.map_cons, List.map_cons, List.sum_cons, ← ih]
            show (((tb n).map fun h => (h.2, wd.told (n, (h.1 + pOf OFF n) % wd.len n))) ++ flatC wd OFF (l.map fun n => (n, tb n))).length = _
            rw [List.length_append, List.length_map]
        rw [this]
        exact S.tl
      have shl := S.shl
      have tgOk : TgOk ⟨wd, OFF, wd.names.map fun n => (n, tb n), SH⟩ := ⟨hW, fun c hc => by
        obtain ⟨n, hn, rfl⟩ := List.mem_map.mp hc
        exact hn, fun n hn => S.at_ hn, by show SH.length + (flatC wd OFF (wd.names.map fun n => (n, tb n))).length < _; omega, by show (wd.names.map fun n => (n, tb n)).length < _; rw [List.length_map]; omega⟩
      have eT : tgT ⟨wd, OFF, wd.names.map fun n => (n, tb n), SH⟩ = puts (fun q => q.1) (fun q => q.2) (puts (fun q => q.1) (fun q => q.2) [] (SH.map fun q : Pl × Pl => (q.2, q.1))) (flatC wd OFF (wd.names.map fun n => (n, tb n))) := rfl
      have nd1 : ((puts (fun q => q.1) (fun q => q.2) [] (SH.map fun q : Pl × Pl => (q.2, q.1))).map (·.1)).Nodup := puts_nd _ _ _ _ List.nodup_nil
      have tl : Tells wd.m (pOf OFF) (tgT ⟨wd, OFF, wd.names.map fun n => (n, tb n), SH⟩) goal cur := by
        rw [eT]
        refine sim.tells o (puts_nd _ _ _ _ nd1) (puts_all _ _ _ _ nd1 (puts_all _ _ _ _ List.nodup_nil (fun _ _ h => (nomatch h)) fun q hq => ?_) fun q hq => ?_) (fun b hb hm => ?_) fun n hn p a ha => ?_
        · obtain ⟨r, hr, rfl⟩ := List.mem_map.mp hq
          have hk := (S.shk r.1).mp (List.mem_map.mpr ⟨r, hr, rfl⟩)
          refine .inl ⟨hk.1, hk.2, ?_⟩
          show r.2 = shOf SH r.1
          have h1 := lk_of_mem S.shn (show (r.1, r.2) ∈ SH from hr)
          unfold shOf
          rw [h1]
          rfl
        · obtain ⟨c, hc, h⟩ := List.mem_flatMap.mp hq
          obtain ⟨n, hn, rfl⟩ := List.mem_map.mp hc
          obtain ⟨r, hr, rfl⟩ := List.mem_map.mp h
          exact .inr ⟨n, hn, r.1, lk_of_mem (S.tn n hn) (show (r.1, r.2) ∈ tb n from hr), rfl⟩
        · refine (puts_key _ _ _ _ _).mpr (.inl ((puts_key _ _ _ _ _).mpr (.inr ?_)))
          have hk := (S.shk b).mpr ⟨hb, hm⟩
          obtain ⟨c, hc⟩ := mem_keys hk
          have h1 := lk_of_mem S.shn hc
          refine ⟨(c, b), List.mem_map.mpr ⟨_, hc, rfl⟩, ?_⟩
          show c = shOf SH b
          unfold shOf
          rw [h1]
          rfl
        · exact (puts_key _ _ _ _ _).mpr (.inr ⟨_, List.mem_flatMap.mpr ⟨_, List.mem_map.mpr ⟨n, hn, rfl⟩, List.mem_map.mpr ⟨_, lk_mem ha, rfl⟩⟩, rfl⟩)
      have lenT : (tgT ⟨wd, OFF, wd.names.map fun n => (n, tb n), SH⟩).length ≤ 300 + 300 * turns.length := by
        rw [eT]
        have h1 := puts_len (fun q => q.1) (fun q => q.2) (flatC wd OFF (wd.names.map fun n => (n, tb n))) (puts (fun q => q.1) (fun q => q.2) [] (SH.map fun q : Pl × Pl => (q.2, q.1)))
        have h2 := puts_len (fun q => q.1) (fun q => q.2) (SH.map fun q : Pl × Pl => (q.2, q.1)) []
        rw [List.length_map, List.length_nil] at h2
        omega
      refine s_ret (.mk0 XL.sub) (ev_make (i := (⟨wd, OFF, tgT ⟨wd, OFF, wd.names.map fun n => (n, tb n), SH⟩, pOf OFF, goal, cur⟩ : InI)) ⟨hW, fun n hn => S.at_ hn, tl, by dsimp only; omega⟩ (n := 2) (XL.gw.nl nl) (ea_cons (P := WebA K wd) (ev_var rfl wL) (ea_cons (P := DcK kN IntA OFF) (ev_var rfl I.offA) (ea_cons (P := DcT PlA (tgT ⟨wd, OFF, wd.names.map fun n => (n, tb n), SH⟩)) (ev_call (i := (⟨wd, OFF, wd.names.map fun n => (n, tb n), SH⟩ : TgI)) tgOk (n := 2) (XL.gw.nl nl) (ea_cons (P := WebA K wd) (ev_var rfl wL) (ea_cons (P := DcK kN IntA OFF) (ev_var rfl I.offA) (ea_cons (P := DcK kN HeldA (wd.names.map fun n => (n, tb n))) (ev_var rfl cL) (ea_cons (P := DcT PlA SH) (ev_var rfl I.shA) ea_nil))))) ea_nil)))) fun vr Gz Hz xz r7 => ?_
      obtain ⟨fd, q1, q2, q3, q4, q5⟩ := r7
      exact k vr Gz Hz (XL.trans xz) ⟨_, _, _, fd, q1, q2, q3, q4, Nat.le_trans q5 lenT⟩
end
end MR
/-! parting_spot, alike. -/
namespace MR
open PySem PySem.Spec PyProof.Rows L2 He
section
variable {P : Program} {w : World} {K : PySem.W.Frag} {mg : Str → Option Value} {base : Heap}
structure AlI where
  a : FormD
  b : FormD
  f : Pl → Pl
  g : Pl → Pl
  f' : Pl → Pl
  g' : Pl → Pl
structure AlOk (i : AlI) : Prop where
  a : FormGood i.a i.f i.g
  b : FormGood i.b i.f' i.g'
  web : i.b.web = i.a.web
  ps : ∀ n, n ∈ i.a.web.names → i.a.ps n = i.b.ps n
  same : ∀ s, i.a.web.m.Spot s → i.f s = i.f' s
  few : i.a.goals.length + i.b.goals.length < 90000
def spAl (K : PySem.W.Frag) (c : V) : Sp := spOf 2 (ι := AlI) AlOk (fun i => [FormA K i.a, FormA K i.b]) (fun i => Is c)
theorem know_keys {G H : Hp} {Rv : Pl → V → Prop} (f : Fr none G H) : ∀ {l : List (Pl × Pl)} {kvs : List (List Key × V)} {bs : List Addr}, DR pk Rv l kvs → IsKeys H kvs bs → ∃ G', Ext none G H G' H ∧ Paired (fun p u => PlA p G' u) (l.map (·.1)) (bs.map V.ref)
  | _, _, _, .nil, .nil => ⟨G, Ext.rfl' f, .nil⟩
  | x :: l, q :: kvs, b :: bs, .cons a t, .cons c r => by
    obtain ⟨G1, x1, p1⟩ := know_keys f t r
    have hb : H b = some (.tup (q.1.map kV)) := c
    have x2 := Ext.know (f.ext x1) hb
    refine ⟨_, x1.trans x2, .cons ⟨b, rfl, ?_⟩ (paired_imp (fun p u (z : PlA p G1 u) => mo_same (P := PlA p) x2.gs z) p1)⟩
    rw [upd_same, a.1]
    rfl
theorem ev_stars {σ : L2.St} {G : Hp} {ta tb : TE} {la lb : List (Pl × Pl)} (ha : Ev none ta σ G (DcT PlA la)) (hb : Ev none tb σ G (DcT PlA lb)) (hl : la.length + lb.length < 100000) : Ev none (tLst (tStarT ta (tStarT tb tNil))) σ G (LsA PlA (la.map (·.1) ++ lb.map (·.1))) := fun G1 H1 e f Q k =>
  ha G1 H1 e f _ fun x G2 H2 e2 hx => by
    obtain ⟨d, kvs, rfl, kn, dr⟩ := hx
    refine ⟨d, kvs, rfl, (kn.sub e2.sub).rd, fun bs hk => ?_⟩
    obtain ⟨G3, x3, p3⟩ := know_keys (f.ext e2) dr hk
    refine hb G3 H2 ((e.trans e2.gw).trans x3.gw) ((f.ext e2).ext x3) _ fun y G4 H4 e4 hy => ?_
    obtain ⟨d', kvs', rfl, kn', dr'⟩ := hy
    refine ⟨d', kvs', rfl, (kn'.sub e4.sub).rd, fun bs' hk' => ?_⟩
    obtain ⟨G5, x5, p5⟩ := know_keys (((f.ext e2).ext x3).ext e4) dr' hk'
    have p3' : Paired (fun p u => PlA p G5 u) (la.map (·.1)) (bs.map V.ref) := paired_imp (fun p u (z : PlA p G3 u) => mo_same (P := PlA p) (e4.gs.trans x5.gs) z) p3
    have pp := paired_app p3' p5
    have e5 := (e2.trans x3).trans (e4.trans x5)
    have hlen := paired_len pp
    refine ⟨?_, fun p hp => ?_⟩
    · have : (bs.map V.ref ++ (bs'.map V.ref ++ [])).length = la.length + lb.length := by
        rw [List.append_nil, hlen, List.length_append, List.length_map, List.length_map]
      rw [this]
      exact Nat.le_of_lt (sz_lt hl)
    · have f5 := f.ext e5
      refine k _ _ _ (e5.trans (Ext.new f5 hp fun _ _ z => by cases z)) ⟨p, _, rfl, upd_same, ?_⟩
      rw [List.append_nil]
      exact paired_imp (fun q u (z : PlA q G5 u) => Mo.up (P := PlA q) (up_new (f5.free hp)) z) pp
def spPart (K : PySem.W.Frag) : Sp := spAl K .non
theorem ok_parting_spot (T : Tx K mg) : Good P w K mg base 6 (ga K "parting_spot") ["one", "other"] (spPart K) := by
  obtain ⟨⟨fd_WebU_eqU, G_WebU_eqU, b_WebU_eqU⟩, k_WebU_eqU⟩ := ok_WebU_eqU (P := P) (w := w) (base := base) T
  obtain ⟨⟨fd_Web_names, G_Web_names, b_Web_names⟩, k_Web_names⟩ := ok_Web_names (P := P) (w := w) (base := base) T
  obtain ⟨⟨fd_Form_goal, G_Form_goal, b_Form_goal⟩, k_Form_goal⟩ := ok_Form_goal (P := P) (w := w) (base := base) T
  refine good_of T.d_parting_spot sc_parting_spot (fun fd F => FunD.bindsN F fun _ _ _ _ _ _ us hl => match us, hl with | [_, _], _ => rfl) (fun vs H Q E h => ?_) (fun cdv A outer s H vs Q E hr h => ?_)
  · obtain ⟨i, G, _, _, _, al, _⟩ := h
    exact al_len al rfl
  · obtain ⟨i, G0, hC, nl, sG, al, k⟩ := h
    have hu := hu_of hr
    have hmin := hr.units
    have f0 : Fr none G0 H := .mk0 sG
    obtain ⟨v, u, rfl, e1, e2⟩ := al2 al
    obtain ⟨A, B, f, g, f', g'⟩ := i
    obtain ⟨hA, hB, hw, hp, hs, few⟩ := hC
    dsimp only at hA hB hw hp hs few e1 e2 k
    have hW := hA.web
    have o := hW.ok
    refine ⟨_, (pss_cons (ps_if (pt_cmpR (op_neO G_WebU_eqU (hr.mono (by decide)) b_WebU_eqU pass0 T.q_obj T.q_ne T.q_eq T.q_isfn) (pe_fld (pv 0) (by rfl)) (pe_fld (pv 1) (by rfl)) (nomark _)) (pss_one ps_never) pss_nil)
    (pss_cons (ps_for PassesOwn.never rfl (pi_list (pe_lst (pa_starT rfl (pe_fld (pv 0) (by rfl)) (pa_starT rfl (pe_fld (pv 1) (by rfl)) pa_nil)))) (pg_name (i := 2) sc_parting_spot.nd rfl (Or.inl rfl))
    (pss_one (ps_if (pt_cmpR (op_neD hr.units) (pe_meth (pv 0) T.c_Form T.m_Form_goal G_Form_goal (hr.mono (by decide)) b_Form_goal .nil pass0 (pa_cons (pv 2) pa_nil)) (pe_meth (pv 1) T.c_Form T.m_Form_goal G_Form_goal (hr.mono (by decide)) b_Form_goal .nil pass0 (pa_cons (pv 2) pa_nil)) (nomark _)) (pss_one (ps_ret (pv 2))) pss_nil)))
    (pss_cons (ps_for PassesOwn.never rfl (pi_list (pe_meth0 (pe_fld (pv 0) (by rfl)) T.c_Web T.m_Web_names G_Web_names (hr.mono (by decide)) b_Web_names .nil pass0)) (pg_name (i := 3) sc_parting_spot.nd rfl (Or.inl rfl))
    (pss_one (ps_if (pt_cmpR op_ne (pe_dget hu (pe_fld (pv 0) (by rfl)) (pv 3) (fun _ _ => rfl)) (pe_dget hu (pe_fld (pv 1) (by rfl)) (pv 3) (fun _ _ => rfl)) (nomark _)) (pss_never) pss_nil)))
    (pss_one (ps_ret pe_non))))), ?_⟩
    have wb : ∀ (G : Hp), FormA K B G u → Ev none (tFld K (tVar 1) "web") (start N_parting_spot [v, u]) G (WebA K A.web) := fun G h => by
      rw [← hw]
      exact ev_fld (fd_web T) (ev_var rfl h)
    refine q_when f0 (et_test (ev_neWeb hW (ev_fld (fd_web T) (ev_var rfl e1)) (wb _ e2))) (fun hb => by cases hb) fun _ G1 H1 x1 => ?_
    have e1' := mo_same x1.gs e1
    have e2' := mo_same x1.gs e2
    refine q_for' (l := A.goals.map (·.1) ++ B.goals.map (·.1)) (R := PlA) (.mk0 x1.sub) (src_lst (ev_stars (ev_fld (fd_goals T) (ev_var rfl e1')) (ev_fld (fd_goals T) (ev_var rfl e2')) (by omega))) fun G2 H2 x2 => ?_
    refine ⟨fun i σ' H' => ∃ (s2 : Option V) (G : Hp), σ' = [some v, some u, s2, none, none] ∧ Ext none G0 H G H' ∧ Gw G2 G, ⟨none, G2, rfl, x1.trans x2, Gw.rfl' _⟩, ?_, ?_, ?_⟩
    · rintro i σ' H' ⟨s2, G, rfl, X, gw⟩
      exact gw.gs.trans X.sub
    · rintro i q σ1 H3 hq ⟨s2, G, rfl, X, gw⟩ xv H4 hy
      obtain ⟨G4, x4, rb⟩ := hy G gw (.mk0 X.sub)
      have X4 := X.trans x4
      have hm := List.mem_of_getElem? hq
      have hsp : A.web.m.Spot q := by
        rcases List.mem_append.mp hm with h | h
        · exact hA.form.toTells.spot h
        · have := hB.form.toTells.spot h
          rw [hw] at this
          exact this
      have a4 := mo_same X4.gs e1
      have b4 := mo_same X4.gs e2
      have fs := hA.form.bij.to q hsp
      have e : f q = f' q := hs q hsp
      refine g_name ?_
      refine s_when (.mk0 x4.sub) (et_test (ev_nePl (hW.str _ fs.1.1) (by show PyData.strOk (f' q).1 = true; rw [← e]; exact hW.str _ fs.1.1) (ev_meth (i := (⟨A, f, g, q⟩ : FIx)) ⟨hA, hsp⟩ (n := 0) trivial rfl (isI_form fun _ _ _ _ => by rfl) (ev_var rfl a4) (ea_cons (ev_var rfl rb) ea_nil)) (ev_meth (i := (⟨B, f', g', q⟩ : FIx)) ⟨hB, by rw [hw]; exact hsp⟩ (n := 0) trivial rfl (isI_form fun _ _ _ _ => by rfl) (ev_var rfl b4) (ea_cons (ev_var rfl rb) ea_nil)))) (fun hb => ?_) fun hb G5 H5 x5 => ⟨_, G5, rfl, X4.trans x5, gw.trans (x4.trans x5).gw⟩
      dsimp only at hb
      rw [e] at hb
      simp at hb
    · rintro σ' H3 ⟨s2, G, rfl, X, gw⟩
      refine q_for' (l := A.web.names) (R := StrA) (.mk0 X.sub) (src_lst (ev_meth (i := A.web) (n := 0) (by have := hW.few; show A.web.rings.length < 100000; omega) trivial rfl (isI_web fun _ _ _ _ _ => by rfl) (ev_fld (fd_web T) (ev_var rfl (mo_same X.gs e1))) ea_nil)) fun G5 H5 x5 => ?_
      refine ⟨fun i σ' H' => ∃ (s3 : Option V) (G : Hp), σ' = [some v, some u, s2, s3, none] ∧ Ext none G0 H G H' ∧ Gw G5 G, ⟨none, G5, rfl, X.trans x5, Gw.rfl' _⟩, ?_, ?_, ?_⟩
      · rintro i σ' H' ⟨s3, G, rfl, X, gw⟩
        exact gw.gs.trans X.sub
      · rintro i n σ1 H6 hq ⟨s3, G, rfl, X, gw⟩ xv H7 hy
        obtain ⟨G7, x7, rb⟩ := hy G gw (.mk0 X.sub)
        cases rb
        have X7 := X.trans x7
        have hn : n ∈ A.web.names := List.mem_of_getElem? hq
        have en := hp n hn
        refine g_name ?_
        refine s_when (.mk0 x7.sub) (et_test (ev_ne (x := .int (A.ps n)) (y := .int (B.ps n)) (ev_getK (R := IntA) kN_inj n (hA.push.at_ hn) (ev_fld (fd_push T) (ev_var rfl (mo_same X7.gs e1))) (ev_var rfl rfl)) (ev_getK (R := IntA) kN_inj n (hB.push.at_ (by rw [hw]; exact hn)) (ev_fld (fd_push T) (ev_var rfl (mo_same X7.gs e2))) (ev_var rfl rfl)) rfl)) (fun hb => ?_) fun hb G8 H8 x8 => ⟨_, G8, rfl, X7.trans x8, gw.trans (x7.trans x8).gw⟩
        rw [en] at hb
        simp at hb
      · rintro σ' H6 ⟨s3, G, rfl, X, gw⟩
        exact s_ret (P := Is .non) (.mk0 X.sub) ev_c fun v8 G8 H8 x8 h8 => k v8 G8 H8 (X.trans x8) h8
def spAlike (K : PySem.W.Frag) : Sp := spAl K (.bl true)
theorem ok_alike (T : Tx K mg) : Good P w K mg base 7 (ga K "alike") ["one", "other"] (spAlike K) := by
  obtain ⟨⟨fd_parting_spot, G_parting_spot, b_parting_spot⟩, k_parting_spot⟩ := ok_parting_spot (P := P) (w := w) (base := base) T
  refine good_of T.d_alike sc_alike (fun fd F => FunD.bindsN F fun _ _ _ _ _ _ us hl => match us, hl with | [_, _], _ => rfl) (fun vs H Q E h => ?_) (fun cdv A outer s H vs Q E hr h => ?_)
  · obtain ⟨i, G, _, _, _, al, _⟩ := h
    exact al_len al rfl
  · obtain ⟨i, G0, hC, nl, sG, al, k⟩ := h
    have hu := hu_of hr
    have hmin := hr.units
    have f0 : Fr none G0 H := .mk0 sG
    obtain ⟨v, u, rfl, e1, e2⟩ := al2 al
    have hC' : AlOk i := hC
    refine ⟨_, (pss_one (ps_ret (pe_cmpR op_isN1 (pe_call G_parting_spot (hr.mono (by decide)) (by rfl) T.g_parting_spot k_parting_spot b_parting_spot .nil pass0 (pa_cons (pv 0) (pa_cons (pv 1) pa_nil))) pe_non (nomark _)))), ?_⟩
    exact s_ret (P := Is (.bl true)) f0 (ev_is (ev_isN (ev_call (i := i) hC' (n := 2) nl (ea_cons (ev_var rfl e1) (ea_cons (ev_var rfl e2) ea_nil)))) rfl) k
end
end MR
/-! The law's helpers: times_right, back_right. -/
namespace MR
open PySem PySem.Spec PyProof.Rows L2 He
section
variable {P : Program} {w : World} {K : PySem.W.Frag} {mg : Str → Option Value} {base : Heap}
theorem ev_callF {X : Cx} {M : Option Addr} {σ : L2.St} {G : Hp} {E : XK} {tf tb : TE} {fd : FormD} {f g : Pl → Pl} {s : Pl} (F : FormGood fd f g) (hv : fd.web.m.Val s) (h1 : Ev M tf σ G (FormA K fd)) (h2 : Ev M tb σ G (PlA s)) : Ev M (StX.tCallO X (ga K "Form") (spCallF K) E tf (tCons tb tNil)) σ G (PlA (f (fd.web.told s))) := fun G1 H1 e fr Q k =>
  h1 G1 H1 e fr _ fun y G2 H2 e2 py => by
    obtain ⟨a, dx, w, p, g', o, rfl, hi, r⟩ := id py
    exact ⟨a, rfl, (ea_cons h2 ea_nil) G2 H2 (e.trans e2.gw) (fr.ext e2) _ fun vs G3 H3 e3 al => ⟨.inr ⟨dx, _, e3.sub _ _ (e3.gs _ _ hi)⟩, ⟨fd, f, g, s⟩, G3, ⟨F, hv⟩, trivial, e3.sub, .cons (mo_same e3.gs py) al, fun v G4 H4 e4 q => k v G4 H4 ((e2.trans e3).trans (e4.lift ((fr.ext e2).ext e3))) q⟩⟩
theorem ev_after {M : Option Addr} {σ : L2.St} {G : Hp} {E : XK} {ta tb tc : TE} {fd : FormD} {f g : Pl → Pl} {s : Pl} {t : Int} (hn : NL 2 G) (F : FormGood fd f g) (few : fd.goals.length < 30000) (hv : fd.web.m.Val s) (bits : t.natAbs < 2 ^ 150) (h1 : Ev M ta σ G (FormA K fd)) (h2 : Ev M tb σ G (PlA s)) (h3 : Ev M tc σ G (IntA t)) :
    Ev M (tCall (spAf K Af1) [] E (tCons ta (tCons tb (tCons tc tNil)))) σ G (PlA (itz f g t (fd.web.told s))) :=
  ev_call (i := (⟨fd, f, g, s, t⟩ : AfI)) ⟨⟨F, by show fd.goals.length < 40000; omega, hv, bits⟩, by show fd.goals.length + 300 < 40000; omega⟩ hn (ea_cons h1 (ea_cons h2 (ea_cons h3 ea_nil)))
theorem ev_intQ {M : Option Addr} {te : TE} {σ : L2.St} {G : Hp} {φ : Int → Prop} (h : Ev M te σ G (IntQ φ)) : Ev M (tCB (fun xs H Q => (∃ i, xs = [.int i] ∧ Q (.int i) H) ∨ ∃ k, xs = [.bl k] ∧ Q (.int (if k then 1 else 0)) H) (tCons te tNil)) σ G (IntQ φ) := ev_cb (ea_cons h ea_nil) fun G1 H1 vs _ f al Q k => by
  obtain ⟨_, rfl, i, rfl, h1⟩ := al1 al
  exact .inl ⟨i, rfl, k _ G1 H1 (Ext.rfl' f) ⟨i, rfl, h1⟩⟩
theorem ev_iQ {M : Option Addr} {σ : L2.St} {G : Hp} {ta tb : TE} {φ ψ χ : Int → Prop} {C : Int → Int → Prop} {g : Int → Int → Int} (ha : Ev M ta σ G (IntQ φ)) (hb : Ev M tb σ G (IntQ ψ)) (hc : ∀ i j, φ i → ψ j → C i j ∧ χ (g i j)) : Ev M (tOp (rI C fun i j => .int (g i j)) ta tb) σ G (IntQ χ) :=
  ev_op ha hb fun G1 H1 x y _ f ⟨i, hx, h1⟩ ⟨j, hy, h2⟩ Q k => ⟨i, j, hx, hy, (hc i j h1 h2).1, k _ G1 H1 (Ext.rfl' f) ⟨_, rfl, (hc i j h1 h2).2⟩⟩
/-- three forms: told, lead, led (told led by lead), and a place -/
structure TrI where
  a : FormD
  b : FormD
  c : FormD
  f : Pl → Pl
  g : Pl → Pl
  h : Pl → Pl
  h' : Pl → Pl
  f1 : Pl → Pl
  g1 : Pl → Pl
  s : Pl
structure TrOk (i : TrI) : Prop where
  a : FormGood i.a i.f i.g
  b : FormGood i.b i.h i.h'
  c : FormGood i.c i.f1 i.g1
  wb : i.b.web = i.a.web
  wc : i.c.web = i.a.web
  fa : i.a.goals.length < 30000
  fc : i.c.goals.length < 30000
  ef : ∀ s, i.a.web.m.Spot s → i.f1 (i.h s) = i.h (i.f s)
  eg : ∀ s, i.a.web.m.Spot s → i.g1 (i.h s) = i.h (i.g s)
  val : i.a.web.m.Val i.s
def spTimes (K : PySem.W.Frag) : Sp := spPo 8 (ι := TrI) TrOk (fun i => [FormA K i.a, FormA K i.b, FormA K i.c, PlA i.s, PlA (i.a.web.told i.s)]) (fun _ => Is (.bl true))
theorem ok__law_times_right (T : Tx K mg) : Good P w K mg base 11 (ga K "_law_times_right") ["_law_pot", "_law_told", "_law_lead", "_law_led", "_law_place", "_law_start"] (spTimes K) := by
  obtain ⟨⟨fd__law_number, G__law_number, b__law_number⟩, k__law_number⟩ := ok__law_number (P := P) (w := w) (base := base) T
  obtain ⟨⟨fd_after, G_after, b_after⟩, k_after⟩ := ok_after (P := P) (w := w) (base := base) T
  obtain ⟨⟨fd_FormU_callU, G_FormU_callU, b_FormU_callU⟩, k_FormU_callU⟩ := ok_FormU_callU (P := P) (w := w) (base := base) T
  refine good_of T.d__law_times_right sc__law_times_right (fun fd F => FunD.bindsN F fun _ _ _ _ _ _ us hl => match us, hl with | [_, _, _, _, _, _], _ => rfl) (fun vs H Q E h => ?_) (fun cdv A outer s H vs Q E hr h => ?_)
  · obtain ⟨i, p, rest, G, y, rfl, _, _, _, _, _, al, _⟩ := h
    exact congrArg Nat.succ (al_len al rfl)
  · obtain ⟨i, p, rest, G, y, rfl, hC, nl, fr, hp, hy, al, k⟩ := h
    obtain ⟨u1, u2, u3, u4, u5, rfl, e1, e2, e3, e4, e5⟩ := al5 al
    obtain ⟨A, B, C, f, g, h, h', f1, g1, s⟩ := i
    obtain ⟨hA, hB, hCc, wb, wc, fa, fc, ef, eg, hv⟩ := hC
    dsimp only at e1 e2 e3 e4 e5 hA hB hCc wb wc fa fc ef eg hv k
    have hmin := hr.units
    refine ⟨_, (pss_cons (ps_set (i := 6) sc__law_times_right.nd rfl (Or.inl rfl) (pe_op op_sub (pe_call G__law_number (hr.mono (by decide)) (by rfl) T.g__law_number k__law_number b__law_number .nil pass0 (pa_cons (pv 0) (pa_cons (pe_op op_powW pe_int pe_int) pa_nil))) (pe_op op_mulX pe_int (pe_op op_powW pe_int pe_int))))
    (pss_cons (ps_set (i := 7) sc__law_times_right.nd rfl (Or.inl rfl) (pe_op op_sub (pe_call G__law_number (hr.mono (by decide)) (by rfl) T.g__law_number k__law_number b__law_number .nil pass0 (pa_cons (pv 0) (pa_cons (pe_op op_powW pe_int pe_int) pa_nil))) (pe_op op_powW pe_int pe_int)))
    (pss_cons (ps_set (i := 8) sc__law_times_right.nd rfl (Or.inl rfl) (pe_call G_after (hr.mono (by decide)) (by rfl) T.g_after k_after b_after .nil pass0 (pa_cons (pv 1) (pa_cons (pv 4) (pa_cons (pv 6) pa_nil)))))
    (pss_cons (ps_if (PW.pt (pw_or (pt_cmpR (op_neD hr.units) (pe_call G_after (hr.mono (by decide)) (by rfl) T.g_after k_after b_after .nil pass0 (pa_cons (pv 1) (pa_cons (pv 8) (pa_cons (pv 7) pa_nil)))) (pe_call G_after (hr.mono (by decide)) (by rfl) T.g_after k_after b_after .nil pass0 (pa_cons (pv 1) (pa_cons (pv 4) (pa_cons (pe_op op_add (pv 6) (pv 7)) pa_nil)))) (nomark _)) (pw_or1 (pt_cmpR (op_neD hr.units) (pe_call G_after (hr.mono (by decide)) (by rfl) T.g_after k_after b_after .nil pass0 (pa_cons (pv 1) (pa_cons (pv 8) (pa_cons (pe_un un_neg (pv 6)) pa_nil)))) (pv 5) (nomark _))))) (pss_one (ps_ret pe_bl)) pss_nil)
    (pss_one (ps_ret (pe_and (pe_cmpR (op_eqD hr.units) (pe_call G_after (hr.mono (by decide)) (by rfl) T.g_after k_after b_after .nil pass0 (pa_cons (pv 3) (pa_cons (StX.pe_callO (pv 2) T.o_Form (FnOk.fnR G_FormU_callU b_FormU_callU) (hr.mono (by decide)) pass0 (pa_cons (pv 4) pa_nil)) (pa_cons (pv 6) pa_nil)))) (StX.pe_callO (pv 2) T.o_Form (FnOk.fnR G_FormU_callU b_FormU_callU) (hr.mono (by decide)) pass0 (pa_cons (pv 8) pa_nil)) (nomark _)) (pe_one (pe_cmpR (op_eqD hr.units) (pe_call G_after (hr.mono (by decide)) (by rfl) T.g_after k_after b_after .nil pass0 (pa_cons (pv 1) (pa_cons (pv 4) (pa_cons pe_int pa_nil)))) (StX.pe_callO (pv 1) T.o_Form (FnOk.fnR G_FormU_callU b_FormU_callU) (hr.mono (by decide)) pass0 (pa_cons (pv 4) pa_nil)) (nomark _)))))))))), ?_⟩
    have hW := hA.web
    have o := hW.ok
    have hcap : y + 8 ≤ 1000000 := hy
    have s0 : A.web.m.Spot (A.web.told s) := o.spot hv
    have bA := hA.form.bij
    have stOk : ∀ {q : Pl}, A.web.m.Spot q → PyData.strOk q.1 = true := fun hq => hW.str _ hq.1.1
    have told : ∀ {q : Pl}, A.web.m.Spot q → A.web.told q = q := fun hq => hq.2
    have told' : ∀ {q : Pl}, A.web.m.Spot q → A.web.m.told q = q := fun hq => hq.2
    have hBsp : ∀ q, A.web.m.Spot q → A.web.m.Spot (h q) := fun q hq => by
      have := hB.form.bij.to q
      rw [wb] at this
      exact this hq
    refine q_asgP (P := IntQ fun i => i.natAbs < 2 ^ 101) (c := 4 + 0) fr hp (by omega) (evp_i0 (φ := fun i => 0 ≤ i ∧ i < 10 ^ 30) (ψ := fun i => i = 5 * 10 ^ 29) (evp_number (n := 10 ^ 30) nl rfl (by decide) (by decide) (ev_is (ev_i (i := 10) (j := 30) ev_c ev_c ⟨by decide, by decide +kernel⟩) rfl)) (evp_imp (evp_of (ev_i (i := 5) (j := 10 ^ 29) ev_c (ev_is (ev_i (i := 10) (j := 29) ev_c ev_c ⟨by decide, by decide +kernel⟩) rfl) (mulx_ok (a := 3) (b := 100) (by decide) (by decide) (by decide)))) fun H v h => ⟨_, h, rfl⟩) fun a b ha hb => by omega) fun v6 G1 H1 z1 x1 hz1 lz1 h6 => ?_
    obtain ⟨t, rfl, ht⟩ := h6
    refine q_asgP (P := IntQ fun i => i.natAbs < 2 ^ 101) (c := 4 + 0) (fr.ext x1) hz1 (by omega) (evp_i0 (φ := fun i => 0 ≤ i ∧ i < 10 ^ 12) (ψ := fun i => i = 10 ^ 11) (evp_number (n := 10 ^ 12) (x1.gw.nl nl) rfl (by decide) (by decide) (ev_is (ev_i (i := 10) (j := 12) ev_c ev_c ⟨by decide, by decide +kernel⟩) rfl)) (evp_imp (evp_of (ev_is (ev_i (i := 10) (j := 11) ev_c ev_c ⟨by decide, by decide +kernel⟩) rfl)) fun H v h => ⟨_, h, rfl⟩) fun a b ha hb => by omega) fun v7 G2 H2 z2 x2 hz2 lz2 h7 => ?_
    obtain ⟨m, rfl, hm⟩ := h7
    have X2 := x1.trans x2
    have f2 := fr.ext X2
    have spH : A.web.m.Spot (itz f g t (A.web.told s)) := bA.itz_to t s0
    refine q_asg (M := none) (P := PlA (itz f g t (A.web.told s))) f2.no (ev_after (X2.gw.nl nl) hA fa hv (by omega) (ev_var rfl (mo_same X2.gs e1)) (ev_var rfl (mo_same X2.gs e4)) (ev_var rfl rfl)) fun v8 G3 H3 x3 h8 => ?_
    have X3 := X2.trans (x3.lift f2)
    have f3 := fr.ext X3
    have hz3 := hz2.same x3
    refine (show tSeq _ _ _ ([some (.ref p), some u1, some u2, some u3, some u4, some u5, some (.int t), some (.int m), some v8] : L2.St) H3 from ?_)
    have nl3 := X3.gw.nl nl
    have a3 : FormA K A G3 u1 := mo_same X3.gs e1
    have p3 : PlA s G3 u4 := mo_same X3.gs e4
    have q3 : PlA (A.web.told s) G3 u5 := mo_same X3.gs e5
    refine q_when (M := none) f3.no (et_or (et_test (ev_nePl (stOk (bA.itz_to _ (o.spot spH.1))) (stOk (bA.itz_to _ s0)) (ev_after (t := m) nl3 hA fa spH.1 (by omega) (ev_var rfl a3) (ev_var rfl h8) (ev_var rfl rfl)) (ev_after (t := t + m) nl3 hA fa hv (by omega) (ev_var rfl a3) (ev_var rfl p3) (ev_i0 (i := t) (j := m) (ev_var rfl rfl) (ev_var rfl rfl))))) fun _ => et_test (ev_nePl (stOk (bA.itz_to _ (o.spot spH.1))) (stOk s0) (ev_after (t := -t) nl3 hA fa spH.1 (by omega) (ev_var rfl a3) (ev_var rfl h8) (ev_u (i := t) (ev_var rfl rfl))) (ev_var rfl q3))) (fun hb => ?_) fun _ G4 H4 x4 => ?_
    · rw [told' spH, ← bA.itz_add t m s0, bA.itz_neg t s0] at hb
      simp at hb
    · have X4 := X3.trans (x4.lift f3)
      have f4 := fr.ext X4
      have nl4 := X4.gw.nl nl
      have a4 : FormA K A G4 u1 := mo_same X4.gs e1
      have b4 : FormA K B G4 u2 := mo_same X4.gs e2
      have c4 : FormA K C G4 u3 := mo_same X4.gs e3
      have p4 : PlA s G4 u4 := mo_same X4.gs e4
      have h84 : PlA (itz f g t (A.web.told s)) G4 v8 := mo_same x4.gs h8
      have leadS : ∀ {X : Cx} {σ : L2.St} {q : Pl} {tb : TE} {i : Nat}, σ[i]? = some (some u2) → A.web.m.Val q → Ev none tb σ G4 (PlA q) → Ev none (StX.tCallO X (ga K "Form") (spCallF K) E0 (tVar i) (tCons tb tNil)) σ G4 (PlA (h (A.web.told q))) := fun {X σ q tb i} hi hq hb => by
        have := ev_callF (X := X) (K := K) (E := E0) hB (by rw [wb]; exact hq) (ev_var hi b4) hb
        rw [wb] at this
        exact this
      have spL : A.web.m.Spot (h (A.web.told s)) := hBsp _ s0
      have led : ∀ {σ : L2.St} {tb tc : TE} {i : Nat}, σ[i]? = some (some u3) → Ev none tb σ G4 (PlA (h (A.web.told s))) → Ev none tc σ G4 (IntA t) → Ev none (tCall (spAf K Af1) [] E0 (tCons (tVar i) (tCons tb (tCons tc tNil)))) σ G4 (PlA (itz f1 g1 t (h (A.web.told s)))) := fun hi hb hc => by
        have := ev_after (K := K) (E := E0) (t := t) nl4 hCc fc (by rw [wc]; exact spL.1) (by omega) (ev_var hi c4) hb hc
        rw [wc, told spL] at this
        exact this
      have cj : itz f1 g1 t (h (A.web.told s)) = h (itz f g t (A.web.told s)) := itz_conj bA ef eg t s0
      refine s_ret (P := Is (.bl true)) (M := none) f4.no (ev_is (ev_andV (ev_eqPl (by rw [cj]; exact stOk (hBsp _ spH)) (stOk (hBsp _ (o.spot spH.1))) (led rfl (leadS rfl hv (ev_var rfl p4)) (ev_var rfl rfl)) (leadS rfl spH.1 (ev_var rfl h84))) fun _ => ev_eqPl (stOk (bA.itz_to _ s0)) (stOk (bA.to _ s0)) (ev_after (t := 1) nl4 hA fa hv (by decide) (ev_var rfl a4) (ev_var rfl p4) ev_c) (ev_callF hA hv (ev_var rfl a4) (ev_var rfl p4))) ?_) fun v9 G5 H5 x5 h9 => k v9 G5 H5 z2 (X4.trans (x5.lift f4)) ((hz3.same x4).same x5) (by show z2 ≤ y + 8; omega) h9
      rw [cj, told' spH, decide_eq_true rfl, decide_eq_true (show itz f g 1 (A.web.told s) = f (A.web.told s) from rfl)]
      rfl
def spBackR (K : PySem.W.Frag) : Sp := spOf 2 (ι := TrI) TrOk (fun i => [FormA K i.a, FormA K i.b, FormA K i.c, PlA i.s, PlA (i.a.web.told i.s)]) (fun _ => Is (.bl true))
theorem ok__law_back_right (T : Tx K mg) : Good P w K mg base 11 (ga K "_law_back_right") ["_law_told", "_law_lead", "_law_led", "_law_place", "_law_start"] (spBackR K) := by
  obtain ⟨⟨fd_after, G_after, b_after⟩, k_after⟩ := ok_after (P := P) (w := w) (base := base) T
  obtain ⟨⟨fd_back, G_back, b_back⟩, k_back⟩ := ok_back (P := P) (w := w) (base := base) T
  obtain ⟨⟨fd_period, G_period, b_period⟩, k_period⟩ := ok_period (P := P) (w := w) (base := base) T
  obtain ⟨⟨fd_FormU_callU, G_FormU_callU, b_FormU_callU⟩, k_FormU_callU⟩ := ok_FormU_callU (P := P) (w := w) (base := base) T
  refine good_of T.d__law_back_right sc__law_back_right (fun fd F => FunD.bindsN F fun _ _ _ _ _ _ us hl => match us, hl with | [_, _, _, _, _], _ => rfl) (fun vs H Q E h => ?_) (fun cdv A outer s H vs Q E hr h => ?_)
  · obtain ⟨i, G, _, _, _, al, _⟩ := h
    exact al_len al rfl
  · obtain ⟨i, G0, hC, nl, sG, al, k⟩ := h
    have hu := hu_of hr
    have hmin := hr.units
    have f0 : Fr none G0 H := .mk0 sG
    obtain ⟨u1, u2, u3, u4, u5, rfl, e1, e2, e3, e4, e5⟩ := al5 al
    obtain ⟨A, B, C, f, g, h, h', f1, g1, s⟩ := i
    obtain ⟨hA, hB, hCc, wb, wc, fa, fc, ef, eg, hv⟩ := hC
    dsimp only at e1 e2 e3 e4 e5 hA hB hCc wb wc fa fc ef eg hv k
    have hW := hA.web
    have o := hW.ok
    have s0 : A.web.m.Spot (A.web.told s) := o.spot hv
    have bA := hA.form.bij
    have stOk : ∀ {q : Pl}, A.web.m.Spot q → PyData.strOk q.1 = true := fun hq => hW.str _ hq.1.1
    have told : ∀ {q : Pl}, A.web.m.Spot q → A.web.told q = q := fun hq => hq.2
    have told' : ∀ {q : Pl}, A.web.m.Spot q → A.web.m.told q = q := fun hq => hq.2
    have bB : Bij A.web.m.Spot h h' := by
      have := hB.form.bij
      rw [wb] at this
      exact this
    refine ⟨_, (pss_cons (ps_set (i := 5) sc__law_back_right.nd rfl (Or.inl rfl) (pe_call G_back (hr.mono (by decide)) (by rfl) T.g_back k_back b_back .nil pass0 (pa_cons (pv 0) (pa_cons (pv 3) pa_nil))))
    (pss_cons (ps_if (PW.pt (pw_or (pt_cmpR (op_neD hr.units) (pe_call G_after (hr.mono (by decide)) (by rfl) T.g_after k_after b_after .nil pass0 (pa_cons (pv 0) (pa_cons (pv 3) (pa_cons (pv 5) pa_nil)))) (pv 4) (nomark _)) (pw_or1 (pt_cmpR op_ne (pe_call G_back (hr.mono (by decide)) (by rfl) T.g_back k_back b_back .nil pass0 (pa_cons (pv 2) (pa_cons (StX.pe_callO (pv 1) T.o_Form (FnOk.fnR G_FormU_callU b_FormU_callU) (hr.mono (by decide)) pass0 (pa_cons (pv 3) pa_nil)) pa_nil))) (pv 5) (nomark _))))) (pss_one (ps_ret pe_bl)) pss_nil)
    (pss_cons (ps_for PassesOwn.never rfl (pi_list (pe_lst (pa_cons pe_int (pa_cons pe_int (pa_cons pe_int (pa_cons pe_int (pa_cons pe_int (pa_cons pe_int pa_nil)))))))) (pg_name (i := 6) sc__law_back_right.nd rfl (Or.inl rfl))
    (pss_one (ps_if (PW.pt (pw_and (pt_cmpR op_eq (pe_op op_mod (pe_callTy call_int1 (by rfl) T.f_int (by decide +kernel) (pa_cons (pv 5) pa_nil)) (pv 6)) pe_int (nomark _)) (pw_and1 (pt_cmpR (op_eqD hr.units) (pe_call G_after (hr.mono (by decide)) (by rfl) T.g_after k_after b_after .nil pass0 (pa_cons (pv 0) (pa_cons (pv 3) (pa_cons (pe_op op_fdivW (pv 5) (pv 6)) pa_nil)))) (pv 4) (nomark _))))) (pss_one (ps_ret pe_bl)) pss_nil)))
    (pss_one (ps_ret (pe_cmpR op_eq (pe_op op_mod (pe_callTy call_int1 (by rfl) T.f_int (by decide +kernel) (pa_cons (pe_call G_period (hr.mono (by decide)) (by rfl) T.g_period k_period b_period .nil pass0 (pa_cons (pv 0) pa_nil)) pa_nil)) (pv 5)) pe_int (nomark _))))))), ?_⟩
    refine q_asg (P := BackP f (A.web.told s)) f0 (ev_call (i := (⟨A, f, g, s⟩ : FIx)) ⟨hA, by dsimp only; omega, hv⟩ (n := 2) nl (ea_cons (ev_var rfl e1) (ea_cons (ev_var rfl e4) ea_nil))) fun v5 G1 H1 x1 h5 => ?_
    obtain ⟨S, rfl, per⟩ := h5
    have sb := per_bits hW bA s0 per
    have nl1 := x1.gw.nl nl
    have a1 : FormA K A G1 u1 := mo_same x1.gs e1
    have b1 : FormA K B G1 u2 := mo_same x1.gs e2
    have c1 : FormA K C G1 u3 := mo_same x1.gs e3
    have p1 : PlA s G1 u4 := mo_same x1.gs e4
    have q1 : PlA (A.web.told s) G1 u5 := mo_same x1.gs e5
    have spL : A.web.m.Spot (h (A.web.told s)) := bB.to _ s0
    have perL : Per f1 (h (A.web.told s)) S := Per.conj bA bB ef s0 per
    have home : itz f g (S : Int) (A.web.told s) = A.web.told s := by rw [itz_nat]; exact per.back
    have leadS : ∀ {X : Cx} {σ : L2.St} {tb : TE} {i : Nat}, σ[i]? = some (some u2) → Ev none tb σ G1 (PlA s) → Ev none (StX.tCallO X (ga K "Form") (spCallF K) E0 (tVar i) (tCons tb tNil)) σ G1 (PlA (h (A.web.told s))) := fun {X σ tb i} hi hb => by
      have := ev_callF (X := X) (K := K) (E := E0) hB (by rw [wb]; exact hv) (ev_var hi b1) hb
      rw [wb] at this
      exact this
    have backL : ∀ {σ : L2.St} {tb : TE} {i : Nat}, σ[i]? = some (some u3) → Ev none tb σ G1 (PlA (h (A.web.told s))) → Ev none (tCall (spBack K) [] E0 (tCons (tVar i) (tCons tb tNil))) σ G1 (Is (.int (S : Nat))) := fun hi hb => by
      refine ev_imp (ev_call (i := (⟨C, f1, g1, h (A.web.told s)⟩ : FIx)) ⟨hCc, by dsimp only; omega, by show C.web.m.Val _; rw [wc]; exact spL.1⟩ (n := 2) nl1 (ea_cons (ev_var hi c1) (ea_cons hb ea_nil))) fun H v hbk => ?_
      obtain ⟨S', rfl, per'⟩ := hbk
      have per2 : Per f1 (C.web.told (h (A.web.told s))) S' := per'
      rw [wc, told spL] at per2
      rw [per2.uniq perL]
      rfl
    refine q_when (.mk0 x1.sub) (et_or (et_test (ev_nePl (stOk (bA.itz_to _ s0)) (stOk s0) (ev_after (t := (S : Int)) nl1 hA fa hv (by omega) (ev_var rfl a1) (ev_var rfl p1) (ev_var rfl rfl)) (ev_var rfl q1))) fun _ => et_test (ev_ne (x := .int (S : Nat)) (y := .int (S : Nat)) (backL rfl (leadS rfl (ev_var rfl p1))) (ev_var rfl rfl) rfl)) (fun hb => ?_) fun _ G2 H2 x2 => ?_
    · rw [home] at hb
      simp at hb
    have X2 := x1.trans x2
    refine (show tSeq _ _ _ ([some u1, some u2, some u3, some u4, some u5, some (.int (S : Nat)), none] : L2.St) H2 from ?_)
    refine q_for' (l := [2, 3, 5, 7, 11, 13]) (R := IntA) (.mk0 X2.sub) (src_lst (ev_imp (ev_lst (ea_cons (P := IntA 2) ev_c (ea_cons (P := IntA 3) ev_c (ea_cons (P := IntA 5) ev_c (ea_cons (P := IntA 7) ev_c (ea_cons (P := IntA 11) ev_c (ea_cons (P := IntA 13) ev_c ea_nil))))))) fun H v h => lsA_lst (R := IntA) (l := [2, 3, 5, 7, 11, 13]) h)) fun G3 H3 x3 => ?_
    refine ⟨fun i σ' H' => ∃ (s6 : Option V) (G : Hp), σ' = [some u1, some u2, some u3, some u4, some u5, some (.int (S : Nat)), s6] ∧ Ext none G0 H G H' ∧ Gw G3 G, ⟨none, G3, rfl, X2.trans x3, Gw.rfl' _⟩, ?_, ?_, ?_⟩
    · rintro i σ' H' ⟨s6, G, rfl, X, gw⟩
      exact gw.gs.trans X.sub
    · rintro i b σ1 H4 hq ⟨s6, G, rfl, X, gw⟩ xv H5 hy
      obtain ⟨G5, x5, rb⟩ := hy G gw (.mk0 X.sub)
      cases rb
      have hm := List.mem_of_getElem? hq
      obtain ⟨n, rfl, n2, n13⟩ : ∃ n : Nat, b = n ∧ 2 ≤ n ∧ n ≤ 13 := by
        simp only [List.mem_cons, List.not_mem_nil, or_false] at hm
        rcases hm with rfl | rfl | rfl | rfl | rfl | rfl
        · exact ⟨2, rfl, by decide, by decide⟩
        · exact ⟨3, rfl, by decide, by decide⟩
        · exact ⟨5, rfl, by decide, by decide⟩
        · exact ⟨7, rfl, by decide, by decide⟩
        · exact ⟨11, rfl, by decide, by decide⟩
        · exact ⟨13, rfl, by decide, by decide⟩
      refine g_name ?_
      have X5 := X.trans x5
      have dle : S / n ≤ S := Nat.div_le_self _ _
      have dle' : ((S : Int) / (n : Int)).natAbs < 2 ^ 150 := by
        rw [← Int.natCast_ediv, Int.natAbs_natCast]
        exact Nat.lt_of_le_of_lt dle (Nat.lt_trans sb (by decide))
      refine s_when (.mk0 x5.sub) (et_and (et_test (ev_eq (x := .int ((S : Int) % (n : Int))) (y := .int 0) (ev_i (i := (S : Int)) (j := (n : Int)) (ev_intI (ev_var rfl rfl)) (ev_var rfl rfl) (by omega)) ev_c rfl)) fun _ => et_test (ev_eqPl (stOk (bA.itz_to _ s0)) (stOk s0) (ev_after (t := (S : Int) / (n : Int)) (X5.gw.nl nl) hA fa hv dle' (ev_var rfl (mo_same X5.gs e1)) (ev_var rfl (mo_same X5.gs e4)) (ev_i (i := (S : Int)) (j := (n : Int)) (ev_var rfl rfl) (ev_var rfl rfl) (wide_div (b := 10) (by omega) (by omega) (by decide) (by decide)))) (ev_var rfl (mo_same X5.gs e5)))) (fun hb => ?_) fun hb G6 H6 x6 => ⟨_, G6, rfl, X5.trans x6, gw.trans (x5.trans x6).gw⟩
      rw [Bool.and_eq_true] at hb
      have hb1 : (S : Int) % (n : Int) = 0 := by simpa using hb.1
      have hb2 := of_decide_eq_true hb.2
      rw [← Int.natCast_ediv, itz_nat] at hb2
      exact absurd hb2 (per.smaller n2 (by omega))
    · rintro σ' H4 ⟨s6, G, rfl, X, gw⟩
      refine s_ret (P := Is (.bl true)) (.mk0 X.sub) (ev_is (ev_eq (x := .int 0) (y := .int 0) (ev_imp (ev_iQ (φ := fun i => i % (S : Int) = 0) (ψ := fun i => i = (S : Int)) (χ := fun i => i = 0) (ev_intQ (ev_imp (ev_call (i := (⟨A, f, g⟩ : InvI)) ⟨hA, by dsimp only; omega⟩ (n := 2) (X.gw.nl nl) (ea_cons (ev_var rfl (mo_same X.gs e1)) ea_nil)) fun H v hpd => ?_)) (ev_iq (ev_imp (ev_var (P := IntA (S : Int)) rfl rfl) fun H v h => ⟨_, h, rfl⟩)) fun i j hi hj => ?_) fun H v ⟨i, h1, h2⟩ => by rw [h1, h2]; rfl) ev_c rfl) rfl) fun v7 G7 H7 x7 h7 => k v7 G7 H7 (X.trans x7) h7
      · obtain ⟨due, rfl, hd⟩ := hpd
        exact ⟨_, rfl, DueOk.per_dvd hd s0 per⟩
      · subst hj
        have := per.pos
        exact ⟨by omega, hi⟩
end
end MR
/-! What the law uses: forms multiplied, inverted; rounds, periods; the script. -/
namespace MR
open PySem PySem.Spec PyProof.Rows L2 He
/-! ### the script -/
def Sc (K : PySem.W.Frag) (xs : List V) (a p : Addr) (H : Hp) : Prop := (p ≠ a ∧ ∃ o, H a = some o ∧ ∀ H', H' a = some o → SqL K H' a xs) ∨ ∀ H', SqL K H' a xs
theorem sq_cases {K : PySem.W.Frag} {xs : List V} {a : Addr} {H : Hp} (h : SqL K H a xs) : (∃ o, H a = some o ∧ ∀ H', H' a = some o → SqL K H' a xs) ∨ ∀ H', SqL K H' a xs := by
  rcases h with (h | ⟨o, h⟩) | h
  · exact .inl ⟨_, h, fun H' e => .inl (.inl e)⟩
  · exact .inl ⟨_, h, fun H' e => .inl (.inr ⟨o, e⟩)⟩
  · exact .inr fun H' => .inr h
section
variable {K : PySem.W.Frag} {xs : List V} {a p p2 : Addr} {G H G' H' : Hp}
theorem Sc.sq (h : Sc K xs a p H) : SqL K H a xs := by
  rcases h with ⟨_, o, h1, h2⟩ | h
  · exact h2 H h1
  · exact h H
theorem Sc.keep (h : Sc K xs a p H) (e : Ext (some p) G H G' H') : Sc K xs a p H' := by
  rcases h with ⟨n, o, h1, h2⟩ | h
  · exact .inl ⟨n, o, e.same _ _ (fun z => n (Option.some.inj z)) h1, h2⟩
  · exact .inr h
theorem Sc.new (h : SqL K H a xs) (hp : H p = none) (g : ∀ b o, H b = some o → H' b = some o) : Sc K xs a p H' := by
  rcases sq_cases h with ⟨o, h1, h2⟩ | h
  · refine .inl ⟨fun z => ?_, o, g _ _ h1, h2⟩
    rw [z, h1] at hp
    cases hp
  · exact .inr h
theorem q_source {D : Ends} {tz : TS} {σ : L2.St} {ns : List Int} {E : XK} (pl : Int) (h0 : 0 ≤ pl) (h2 : pl ≤ 2) (hs : σ[0]? = some (some (.ref a))) (hS : SqL K H a (ns.map V.int))
    (k : ∀ p H', H p = none → (∀ b o, H b = some o → H' b = some o) → Pot p H' (1000 * pl) → tz D (σ.set 1 (some (.ref p))) H') : tSeq (tAsg (tCall (spSource K) [] E (tCons (tVar 0) (tCons (tC (.int pl)) tNil))) (gName 1)) tz D σ H :=
  ⟨_, hs, a, ns, pl, rfl, hS, h0, h2, fun p H' x hp g h1 x0 => k p H' hp g ⟨x, h1, x0, by omega⟩⟩
theorem fr_new (s : Same G H) (hp : H p = none) (g : ∀ b o, H b = some o → H' b = some o) {y : Int} (hy : Pot p H' y) : Fr (some p) G H' := ⟨fun b o h => g _ _ (s _ _ h), fun q hq => by
  cases hq
  obtain ⟨x, h1, _⟩ := hy
  exact ⟨s.free hp, x, y, h1⟩⟩
end
/-- an if whose ways meet again -/
theorem q_whenJ {p : Addr} {c : Nat} {σ : L2.St} {G H : Hp} {tt : TT} {tu tz : TS} {D : Ends} {y : Int} {φ : Bool → Prop} {W : L2.St → Hp → Prop} (f : Fr (some p) G H) (hp : Pot p H y) (hy : y + c ≤ CAP) (h : EvPT p c tt σ G φ)
    (h1 : φ true → ∀ G1 H1 z, Ext (some p) G H G1 H1 → Pot p H1 z → z ≤ y + c → ∀ D' : Ends, (∀ σ' H', W σ' H' → D'.nx σ' H') → tu D' σ H1) (h2 : φ false → ∀ G1 H1 z, Ext (some p) G H G1 H1 → Pot p H1 z → z ≤ y + c → W σ H1) (k : ∀ σ' H', W σ' H' → tz D σ' H') : tSeq (tIfS tt tu tNext) tz D σ H :=
  q_whenP f hp hy h (fun a G1 H1 z e hz lz => h1 a G1 H1 z e hz lz _ k) fun a G1 H1 z e hz lz => k _ _ (h2 a G1 H1 z e hz lz)
theorem evp_cmeth {p : Addr} {c : Nat} {σ : L2.St} {G : Hp} {t : TA} {C : Addr} {sp : Sp} {E : XK} {Ps : List (Hp → V → Prop)} {P' : Hp → V → Prop} (h : EvPA p c t σ G Ps) (hk : ∀ G' xs, Gw G G' → AllP G' Ps xs → Ev none (fun _ H Q => sp (.ref C :: xs) H Q E) σ G' P') : EvP p c (ClX.tCMeth C sp E (tC (.ref C)) t) σ G P' := fun G1 H1 y e fr hp hy Q k =>
  ⟨rfl, h G1 H1 y e fr hp hy _ fun x G2 H2 z e2 hz lz px => hk G2 x (e.trans e2.gw) px G2 H2 (Gw.rfl' _) (fr.ext e2).no Q fun v G3 H3 e3 q => k v G3 H3 z (e2.trans (e3.lift (fr.ext e2))) (hz.same e3) lz q⟩
/-! ### pairs of ints compared -/
def pD (q : Int × Int) : PyData := .tuple [.int q.1, .int q.2]
theorem pa_dp {K : PySem.W.Frag} {q : Int × Int} {H : Hp} {v : V} (h : PA q H v) : Dp K H v (pD q) := by
  obtain ⟨a, vs, rfl, h, al⟩ := h
  obtain ⟨_, _, rfl, h1, h2⟩ := al2 al
  cases h1
  cases h2
  exact .tup (SqT.of h) (.cons (.int _) (.cons (.int _) .nil))
theorem pD_self (l : List (Int × Int)) : PyData.eqv (.list (l.map pD)) (.list (l.map pD)) = true := by
  rw [PyData.eqv]
  induction l with
  | nil => rfl
  | cons x l ih =>
    rw [List.map_cons, PyData.eqvAll, ih]
    unfold pD
    simp [PyData.eqv, PyData.eqvAll]
theorem pD_shaped (l : List (Int × Int)) : SeqAt.shaped (.list (l.map pD)) = true := can_list fun d hd => by
  obtain ⟨q, _, rfl⟩ := List.mem_map.mp hd
  unfold pD
  simp [PyData.canLay0, PyData.canLayAll0, PyData.depth, PyData.depthAll]
theorem ev_neP {K : PySem.W.Frag} {M : Option Addr} {σ : L2.St} {G : Hp} {ta tb : TE} {l : List (Int × Int)} (h1 : Ev M ta σ G (LsA PA l)) (h2 : Ev M tb σ G (LsA PA l)) : Ev M (tOp (rNeD K) ta tb) σ G (Is (.bl false)) := by
  have dp : ∀ H H' v, Same H H' → LsA PA l H v → Dp K H' v (.list (l.map pD)) := fun H H' v s h => by
    obtain ⟨a, vs, rfl, h1, h2⟩ := mo_same (P := LsA PA l) s h
    exact .lst (SqL.of h1) (dp_all (fun b v hb => pa_dp hb) h2)
  have := ev_neD (K := K) h1 h2 dp dp (pD_shaped l) (pD_shaped l)
  rw [pD_self] at this
  exact this
section
variable {P : Program} {w : World} {K : PySem.W.Frag} {mg : Str → Option Value} {base : Heap} {M : Option Addr} {σ : L2.St} {G : Hp} {ta tb : TE} {E : XK} {wd : WebD} {f g f' g' : Pl → Pl} {p p' : Nm → Int} {N N' : Nat}
/-! ### forms -/
theorem ev_mulR (hN : N + N' < 90000) (hn : NL 2 G) (h1 : Ev M ta σ G (FormR K wd f g p N)) (h2 : Ev M tb σ G (FormR K wd f' g' p' N')) : Ev M (tOp (rOpO (ga K "Form") (spMul K) E) ta tb) σ G (FormR K wd (fun s => f' (f s)) (fun s => g (g' s)) (fun n => (p n + p' n) % wd.len n) (N + N')) :=
  ev_op h1 h2 fun G1 H1 x y gw fr hx hy Q k => by
    obtain ⟨A, a1, a2, a3, a4, a5⟩ := hx
    obtain ⟨B, b1, b2, b3, b4, b5⟩ := hy
    obtain ⟨a, dx, fs, rfl, ha⟩ := form_ins _ _ a1
    obtain ⟨b, dy, gs, rfl, hb⟩ := form_ins _ _ b1
    refine ⟨a, b, dx, dy, fs, gs, rfl, rfl, fr.sub _ _ ha, fr.sub _ _ hb, ⟨A, f, g, B, f', g'⟩, G1, ⟨a2, b2, b3.trans a3.symm, by show A.goals.length + B.goals.length < 90000; omega⟩, gw.nl hn, fr.sub, .cons a1 (.cons b1 .nil), fun v G2 H2 e2 r => k v G2 H2 (e2.lift fr) ?_⟩
    obtain ⟨C, c1, c2, c3, c4, c5⟩ := r
    have c3' : C.web = wd := c3.trans a3
    refine ⟨C, c1, c2, c3', fun n hn => ?_, Nat.le_trans c5 (Nat.add_le_add a5 b5)⟩
    have := c4 n (by show n ∈ A.web.names; rw [a3]; exact hn)
    rw [this]
    show (A.ps n + B.ps n) % A.web.len n = _
    rw [a4 n hn, b4 n hn, a3]
theorem ev_invR (hN : N + 300 < 90000) (hn : NL 2 G) (h1 : Ev M ta σ G (FormR K wd f g p N)) : Ev M (tProp (ga K "Form") (spInv K) [] E ta) σ G (FormR K wd g f (fun n => (- p n) % wd.len n) (N + 300)) := fun G1 H1 e fr Q k =>
  h1 G1 H1 e fr _ fun x G2 H2 e2 hx => by
    obtain ⟨A, a1, a2, a3, a4, a5⟩ := hx
    obtain ⟨a, dx, fs, rfl, ha⟩ := form_ins _ _ a1
    have f2 := fr.ext e2
    refine ⟨a, dx, fs, rfl, f2.sub _ _ ha, ⟨A, f, g⟩, G2, ⟨a2, by show A.goals.length + 300 < 90000; omega⟩, (e.trans e2.gw).nl hn, f2.sub, .cons a1 .nil, fun v G3 H3 e3 r => k v G3 H3 (e2.trans (e3.lift f2)) ?_⟩
    obtain ⟨C, c1, c2, c3, c4, c5⟩ := r
    have c3' : C.web = wd := c3.trans a3
    have c5' : C.goals.length ≤ A.goals.length + 300 := c5
    refine ⟨C, c1, c2, c3', fun n hn => ?_, by omega⟩
    have := c4 n (by show n ∈ A.web.names; rw [a3]; exact hn)
    rw [this]
    show (- A.ps n) % A.web.len n = _
    rw [a4 n hn, a3]
theorem ev_roundsR (hN : N < 40000) (hn : NL 2 G) (h1 : Ev M ta σ G (FormR K wd f g p N)) : Ev M (tCall (spRounds K) [] E (tCons ta tNil)) σ G (DueP wd f) :=
  ev_callX hn (ea_cons h1 ea_nil) fun G' vs al => by
    obtain ⟨v, rfl, A, a1, a2, a3, a4, a5⟩ := al1 al
    refine ⟨⟨A, f, g⟩, ⟨a2, by show A.goals.length < 40000; omega⟩, .cons a1 .nil, fun H v h => ?_⟩
    have h' : DueP A.web f H v := h
    rw [a3] at h'
    exact h'
theorem ev_periodR (hN : N < 40000) (hn : NL 2 G) (h1 : Ev M ta σ G (FormR K wd f g p N)) : Ev M (tCall (spPeriod K) [] E (tCons ta tNil)) σ G (PeriodP wd f) :=
  ev_callX hn (ea_cons h1 ea_nil) fun G' vs al => by
    obtain ⟨v, rfl, A, a1, a2, a3, a4, a5⟩ := al1 al
    refine ⟨⟨A, f, g⟩, ⟨a2, by show A.goals.length < 40000; omega⟩, .cons a1 .nil, fun H v h => ?_⟩
    have h' : PeriodP A.web f H v := h
    rw [a3] at h'
    exact h'
theorem ev_alikeR (hN : N + N' < 90000) (hn : NL 2 G) (hs : ∀ s, wd.m.Spot s → f s = f' s) (hp : ∀ n, n ∈ wd.names → p n = p' n) (h1 : Ev M ta σ G (FormR K wd f g p N)) (h2 : Ev M tb σ G (FormR K wd f' g' p' N')) : Ev M (tCall (spAlike K) [] E (tCons ta (tCons tb tNil))) σ G (Is (.bl true)) :=
  ev_callX hn (ea_cons h1 (ea_cons h2 ea_nil)) fun G' vs al => by
    obtain ⟨v, u, rfl, ⟨A, a1, a2, a3, a4, a5⟩, ⟨B, b1, b2, b3, b4, b5⟩⟩ := al2 al
    refine ⟨⟨A, B, f, g, f', g'⟩, ⟨a2, b2, b3.trans a3.symm, fun n hn => ?_, fun s hs' => ?_, by show A.goals.length + B.goals.length < 90000; omega⟩, .cons a1 (.cons b1 .nil), fun H v h => h⟩
    · have hn' : n ∈ wd.names := by
        have : n ∈ A.web.names := hn
        rw [a3] at this
        exact this
      show A.ps n = B.ps n
      rw [a4 n hn', b4 n hn', hp n hn']
    · have : A.web.m.Spot s := hs'
      rw [a3] at this
      exact hs s this
theorem formR_good : ∀ {H : Hp} {v : V}, FormR K wd f g p N H v → Bij wd.m.Spot f g := fun ⟨A, a1, a2, a3, a4, a5⟩ => by
  have := a2.form.bij
  rw [a3] at this
  exact this
theorem formR_push : ∀ {H : Hp} {v : V}, FormR K wd f g p N H v → ∀ n, n ∈ wd.names → 0 ≤ p n ∧ p n < wd.len n := fun ⟨A, a1, a2, a3, a4, a5⟩ n hn => by
  rw [← a4 n hn]
  have := a2.push.range n (by rw [a3]; exact hn)
  rw [a3] at this
  exact this
/-! ### a form drawn -/
def ScX (K : PySem.W.Frag) (wd : WebD) : Hp → V → Prop := fun H v => ∃ ml, ScriptA K wd ml H v ∧ (∀ q, q ∈ ml → q.1 ∈ wd.names ∧ q.2.natAbs < 2 ^ 150) ∧ ml.length ≤ 5
instance : Mo (ScX K wd) := ⟨fun e ⟨ml, h, r⟩ => ⟨ml, Mo.up e h, r⟩⟩
def MvX (l : List (Nm × Int × Int)) : Hp → V → Prop := fun H v => ∃ ml, LsA TurnA ml H v ∧ (∀ q, q ∈ ml → (∃ r, r ∈ l ∧ q.1 = r.1) ∧ q.2.natAbs < 2 ^ 150) ∧ ml.length ≤ 5
instance {l : List (Nm × Int × Int)} : Mo (MvX l) := ⟨fun e ⟨ml, h, r⟩ => ⟨ml, Mo.up e h, r⟩⟩
def MtX (l : List (Nm × Int × Int)) : Hp → V → Prop := fun H v => ∃ ml, LsA JointA ml H v ∧ MeetOk (lensOf l) ml
instance {l : List (Nm × Int × Int)} : Mo (MtX l) := ⟨fun e ⟨ml, h, r⟩ => ⟨ml, Mo.up e h, r⟩⟩
theorem evp_formOf {q : Addr} {l : List (Nm × Int × Int)} {v2 v3 : V} {E1 E2 E3 : XK} {m : Int} (hn : NL 2 G) (h1 : σ[1]? = some (some (.ref q))) (h2 : σ[2]? = some (some v2)) (h3 : σ[3]? = some (some v3)) (e2 : LsA RingA l G v2) (e3 : WebA K wd G v3) (WF : WebFor wd l) (one : 1 ≤ l.length) (few : l.length ≤ 12) (m0 : 0 ≤ m) (m5 : m ≤ 5) :
    EvP q 40 (tCall (spFormOf K) [] E1 (tCons (tMake (ga K "Script") (spScriptI K) [] E2 (tCons (tVar 3) (tCons (tCall (spDrM K) [] E3 (tCons (tVar 1) (tCons (tVar 2) (tCons (tC (.int m)) tNil)))) tNil))) tNil)) σ G (FormX K wd 1800) := by
  have hW := WF.good
  have okl : ∀ r, r ∈ l → 1 ≤ r.2.1 ∧ r.2.1 < 2 ^ 104 := fun r hr => by
    obtain ⟨a, b⟩ := WF.at_ r hr
    have c := hW.ok.pos r.1 a
    have d := hW.big r.1 a
    rw [← b]
    exact ⟨c, d⟩
  refine evp_le (evp_bA (f := fun t => tCall (spFormOf K) [] E1 t) (fun t σ H Q h => h) (evpa_cons (P := ScX K wd) (evp_bA (f := fun t => tMake (ga K "Script") (spScriptI K) [] E2 t) (fun t σ H Q h => h) (evpa_cons (P := WebA K wd) (c := 0) (evp_of (ev_var h3 e3)) (evpa_cons (P := MvX l) (evp_call (c := 0) (Ps := [LsA RingA l, IntA m]) hn h1 (evpa_of (ea_cons (ev_var h2 e2) (ea_cons (P := IntA m) ev_c ea_nil))) fun G' vs al => ?_) evpa_nil)) fun G' xs gw al => ?_) evpa_nil) fun G' xs gw al => ?_) (by decide)
  · refine ⟨⟨l, m⟩, ⟨one, by show l.length ≤ 1000; omega, okl, m0, m5⟩, al, fun H v ⟨ml, n, h1, h2, h3⟩ => ⟨ml, h1, h2.mem, by rw [h2.len]; exact h3⟩⟩
  · obtain ⟨u, u', rfl, a1, ml, b1, b2, b3⟩ := al2 al
    have memb : ∀ q, q ∈ ml → q.1 ∈ wd.names := fun q hq => by
      obtain ⟨⟨r, hr, e⟩, _⟩ := b2 q hq
      rw [e]
      exact (WF.at_ r hr).1
    exact ev_imp (ev_make (i := (⟨wd, ml⟩ : ScI)) ⟨hW, memb, by show ml.length < 100; omega⟩ (n := 2) (gw.nl hn) (ea_csts (.cons a1 (.cons b1 .nil)))) fun H v h => ⟨ml, h, fun q hq => ⟨memb q hq, (b2 q hq).2⟩, b3⟩
  · obtain ⟨u, rfl, ml, a1, a2, a3⟩ := al1 al
    refine ev_imp (ev_call (i := (⟨wd, ml⟩ : ScI)) ⟨hW, fun q hq => ⟨(a2 q hq).1, Nat.lt_trans (a2 q hq).2 (by decide)⟩, by show ml.length < 100; omega⟩ (n := 2) (gw.nl hn) (ea_csts (.cons a1 .nil))) fun H v h => ?_
    obtain ⟨f, g, p, A, c1, c2, c3, c4, c5⟩ := h
    exact ⟨f, g, p, A, c1, c2, c3, c4, Nat.le_trans c5 (by show 300 + 300 * ml.length ≤ 1800; omega)⟩
end
/-! ### pushes -/
theorem push_back {a t L : Int} (h0 : 0 ≤ t) (hl : t < L) : ((a + (((-a) % L + t) % L + a) % L) % L + (-a) % L) % L = t := by
  simp only [Int.emod_add_emod, Int.add_emod_emod]
  rw [show a + (-a + t + a) + -a = t by omega]
  exact Int.emod_eq_of_lt h0 hl
end MR
/-! The law. -/
namespace MR
open PySem PySem.Spec PyProof.Rows L2 He
section
variable {P : Program} {w : World} {K : PySem.W.Frag} {mg : Str → Option Value} {base : Heap}
def spLaw (K : PySem.W.Frag) : Sp := fun vs H Q _ => ∃ (a : Addr) (ns : List Int), vs = [.ref a] ∧ SqL K H a (ns.map V.int) ∧ ∀ H', Q (.bl true) H'
/-- behind the web -/
def WebW (K : PySem.W.Frag) (a : Addr) (xs : List V) (σ : L2.St) (H : Hp) : Prop := ∃ (wd : WebD) (l : List (Nm × Int × Int)) (v2 v3 : V) (q : Addr) (G : Hp), σ = [some (.ref a), some (.ref q), some v2, some v3, none, none, none, none, none, none, none, none, none, none] ∧
  Sc K xs a q H ∧ Same G H ∧ NL 2 G ∧ LsA RingA l G v2 ∧ WebA K wd G v3 ∧ WebFor wd l ∧ 1 ≤ l.length ∧ l.length ≤ 12
theorem fnok_of {x qual : Str} {params : Arguments} {body : List Stmt} {scope : Scope} {dvs : List V} {kws : List (Str × V)} {f : Addr} {N ps : List Str} {k : Nat} {sp : Sp} {fd : FuncData} (F : FunD K x qual params body scope dvs kws f fd) (S : FnScope N ps scope)
    (len : ∀ vs H Q E, sp vs H Q E → vs.length = ps.length)
    (hbody : ∀ (cdv : Value) (A : Around) (outer : List Env) (s : Shared) (H : Hp) (vs : List V) (Q : VK) (E : XK), Room k (A.deeper (envOfC qual scope s.heap.objs.size f cdv)) → sp vs H Q E →
      ∃ t, PSs (cxOf CX0 P w K mg base N qual scope f cdv A outer s H E).nox body t ∧ t { nx := fun _ H' => Q .non H', rt := Q } (start N vs) H) : FnOk P w K mg base CX0 (k + 1) f fd ps sp :=
  F.ok S len fun cdv A outer s H vs Q E hr h => by
    obtain ⟨t, h1, h2⟩ := hbody cdv A outer s H vs Q E hr h
    exact ⟨t, PSs.nox h1, h2⟩
theorem ok_law (T : Tx K mg) {fd : FuncData} (F : FunD K "law" "law" (defArgs s_law) (defBody s_law) (defScope s_law) [] [] (ga K "law") fd) : FnOk P w K mg base CX0 12 (ga K "law") fd ["_law_script"] (spLaw K) := by
  obtain ⟨⟨fd__law_source, G__law_source, b__law_source⟩, k__law_source⟩ := ok__law_source (P := P) (w := w) (base := base) T
  obtain ⟨⟨fd__law_drawn_rings, G__law_drawn_rings, b__law_drawn_rings⟩, k__law_drawn_rings⟩ := ok__law_drawn_rings (P := P) (w := w) (base := base) T
  obtain ⟨⟨fd__law_drawn_meetings, G__law_drawn_meetings, b__law_drawn_meetings⟩, k__law_drawn_meetings⟩ := ok__law_drawn_meetings (P := P) (w := w) (base := base) T
  obtain ⟨⟨fd__law_take, G__law_take, b__law_take⟩, k__law_take⟩ := ok__law_take (P := P) (w := w) (base := base) T
  obtain ⟨⟨fd__law_number, G__law_number, b__law_number⟩, k__law_number⟩ := ok__law_number (P := P) (w := w) (base := base) T
  obtain ⟨⟨fd_WebU_initU, G_WebU_initU, b_WebU_initU⟩, k_WebU_initU⟩ := ok_WebU_initU (P := P) (w := w) (base := base) T
  obtain ⟨⟨fd_Web_board, G_Web_board, b_Web_board⟩, k_Web_board⟩ := ok_Web_board (P := P) (w := w) (base := base) T
  obtain ⟨⟨fd_Web_length, G_Web_length, b_Web_length⟩, k_Web_length⟩ := ok_Web_length (P := P) (w := w) (base := base) T
  obtain ⟨⟨fd_Web_names, G_Web_names, b_Web_names⟩, k_Web_names⟩ := ok_Web_names (P := P) (w := w) (base := base) T
  obtain ⟨⟨fd_Web_spots, G_Web_spots, b_Web_spots⟩, k_Web_spots⟩ := ok_Web_spots (P := P) (w := w) (base := base) T
  obtain ⟨⟨fd_Web_spot_of, G_Web_spot_of, b_Web_spot_of⟩, k_Web_spot_of⟩ := ok_Web_spot_of (P := P) (w := w) (base := base) T
  obtain ⟨⟨fd_ScriptU_initU, G_ScriptU_initU, b_ScriptU_initU⟩, k_ScriptU_initU⟩ := ok_ScriptU_initU (P := P) (w := w) (base := base) T
  obtain ⟨⟨fd_form_of, G_form_of, b_form_of⟩, k_form_of⟩ := ok_form_of (P := P) (w := w) (base := base) T
  obtain ⟨⟨fd__law_drawn_moves, G__law_drawn_moves, b__law_drawn_moves⟩, k__law_drawn_moves⟩ := ok__law_drawn_moves (P := P) (w := w) (base := base) T
  obtain ⟨⟨fd_Form_inverse, G_Form_inverse, b_Form_inverse⟩, k_Form_inverse⟩ := ok_Form_inverse (P := P) (w := w) (base := base) T
  obtain ⟨⟨fd_FormU_mulU, G_FormU_mulU, b_FormU_mulU⟩, k_FormU_mulU⟩ := ok_FormU_mulU (P := P) (w := w) (base := base) T
  obtain ⟨⟨fd_rounds, G_rounds, b_rounds⟩, k_rounds⟩ := ok_rounds (P := P) (w := w) (base := base) T
  obtain ⟨⟨fd_period, G_period, b_period⟩, k_period⟩ := ok_period (P := P) (w := w) (base := base) T
  obtain ⟨⟨fd_alike, G_alike, b_alike⟩, k_alike⟩ := ok_alike (P := P) (w := w) (base := base) T
  obtain ⟨⟨fd__law_times_right, G__law_times_right, b__law_times_right⟩, k__law_times_right⟩ := ok__law_times_right (P := P) (w := w) (base := base) T
  obtain ⟨⟨fd__law_back_right, G__law_back_right, b__law_back_right⟩, k__law_back_right⟩ := ok__law_back_right (P := P) (w := w) (base := base) T
  refine fnok_of F sc_law (fun vs H Q E h => ?_) (fun cdv A outer s H vs Q E hr h => ?_)
  · obtain ⟨a, ns, rfl, _⟩ := h
    rfl
  · obtain ⟨a, ns, rfl, hS, k⟩ := h
    have hmin := hr.units
    have hu := hu_of hr
    have hcap : CAP = 1000000 := rfl
    refine ⟨_, (pss_cons (ps_set (i := 1) sc_law.nd rfl (Or.inl rfl) (pe_call G__law_source (hr.mono (by decide)) (by rfl) T.g__law_source k__law_source b__law_source .nil pass0 (pa_cons (pv 0) (pa_cons pe_int pa_nil))))
    (pss_cons (ps_set (i := 2) sc_law.nd rfl (Or.inl rfl) (pe_call G__law_drawn_rings (hr.mono (by decide)) (by rfl) T.g__law_drawn_rings k__law_drawn_rings b__law_drawn_rings .nil pass0 (pa_cons (pv 1) (pa_cons pe_int (pa_cons (pe_lst (pa_cons pe_int (pa_cons pe_int (pa_cons (pe_op op_powW pe_int pe_int) pa_nil)))) pa_nil)))))
    (pss_cons (ps_set (i := 3) sc_law.nd rfl (Or.inr rfl) (pe_make T.k_Web G_WebU_initU (hr.mono (by decide)) (by rfl) T.g_Web b_WebU_initU .nil pass0 (pa_cons (pv 2) (pa_cons (pe_call G__law_drawn_meetings (hr.mono (by decide)) (by rfl) T.g__law_drawn_meetings k__law_drawn_meetings b__law_drawn_meetings .nil pass0 (pa_cons (pv 1) (pa_cons (pv 2) (pa_cons (pe_call G__law_take (hr.mono (by decide)) (by rfl) T.g__law_take k__law_take b__law_take .nil pass0 (pa_cons (pv 1) (pa_cons pe_int pa_nil))) pa_nil)))) pa_nil))))
    (pss_cons (ps_if (pt_cmpR op_eq (pe_call G__law_take (hr.mono (by decide)) (by rfl) T.g__law_take k__law_take b__law_take .nil pass0 (pa_cons (pv 1) (pa_cons pe_int pa_nil))) pe_int (nomark _)) (pss_cons (ps_set (i := 3) sc_law.nd rfl (Or.inr rfl) (ClX.pe_cmeth (pe_glob (v := .ref (ga K "Web")) (by rfl) T.g_Web rfl) T.r_Web T.m_board (FnOk.fnR G_Web_board b_Web_board) (hr.mono (by decide)) pass0 (pa_cons (pe_op op_add pe_int (pe_call G__law_take (hr.mono (by decide)) (by rfl) T.g__law_take k__law_take b__law_take .nil pass0 (pa_cons (pv 1) (pa_cons pe_int pa_nil)))) (pa_cons (pe_op op_add pe_int (pe_call G__law_take (hr.mono (by decide)) (by rfl) T.g__law_take k__law_take b__law_take .nil pass0 (pa_cons (pv 1) (pa_cons pe_int pa_nil)))) pa_nil))))
    (pss_one (ps_setLc (i := 2) (own := [("_law_name", 4)]) (g := (gName 4)) (by rfl) sc_law.nd rfl rfl (sw_true rfl rfl rfl (by decide +kernel)) (pi_list (pe_meth0 (pv 3) T.c_Web T.m_Web_names G_Web_names (hr.mono (by decide)) b_Web_names .nil pass0)) (blkOk_by (N := N_law) (sc := defScope s_law) (by decide +kernel)) (fun _ _ _ _ _ => (pg_name (i := 4) sc_law.nd rfl (Or.inl rfl))) (fun _ _ _ _ _ => pts_nil) (fun _ _ _ _ _ => (pe_tup (pa_cons (pv 4) (pa_cons (pe_meth (pv 3) T.c_Web T.m_Web_length G_Web_length (hr.mono (by decide)) b_Web_length .nil pass0 (pa_cons (pv 4) pa_nil)) (pa_cons pe_int pa_nil)))))))) pss_nil)
    (pss_cons (ps_set (i := 1) sc_law.nd rfl (Or.inl rfl) (pe_call G__law_source (hr.mono (by decide)) (by rfl) T.g__law_source k__law_source b__law_source .nil pass0 (pa_cons (pv 0) (pa_cons pe_int pa_nil))))
    (pss_cons (ps_set (i := 5) sc_law.nd rfl (Or.inl rfl) (pe_call G_form_of (hr.mono (by decide)) (by rfl) T.g_form_of k_form_of b_form_of .nil pass0 (pa_cons (pe_make T.k_Script G_ScriptU_initU (hr.mono (by decide)) (by rfl) T.g_Script b_ScriptU_initU .nil pass0 (pa_cons (pv 3) (pa_cons (pe_call G__law_drawn_moves (hr.mono (by decide)) (by rfl) T.g__law_drawn_moves k__law_drawn_moves b__law_drawn_moves .nil pass0 (pa_cons (pv 1) (pa_cons (pv 2) (pa_cons pe_int pa_nil)))) pa_nil))) pa_nil)))
    (pss_cons (ps_set (i := 6) sc_law.nd rfl (Or.inl rfl) (pe_call G_form_of (hr.mono (by decide)) (by rfl) T.g_form_of k_form_of b_form_of .nil pass0 (pa_cons (pe_make T.k_Script G_ScriptU_initU (hr.mono (by decide)) (by rfl) T.g_Script b_ScriptU_initU .nil pass0 (pa_cons (pv 3) (pa_cons (pe_call G__law_drawn_moves (hr.mono (by decide)) (by rfl) T.g__law_drawn_moves k__law_drawn_moves b__law_drawn_moves .nil pass0 (pa_cons (pv 1) (pa_cons (pv 2) (pa_cons pe_int pa_nil)))) pa_nil))) pa_nil)))
    (pss_cons (ps_set (i := 7) sc_law.nd rfl (Or.inl rfl) (pe_op (op_own G_FormU_mulU (hr.mono (by decide)) b_FormU_mulU pass0 T.q_mul1 T.q_mul2 T.q_mul3) (pe_op (op_own G_FormU_mulU (hr.mono (by decide)) b_FormU_mulU pass0 T.q_mul1 T.q_mul2 T.q_mul3) (pe_prop (pv 6) T.c_Form T.p_inverse G_Form_inverse (hr.mono (by decide)) b_Form_inverse .nil passN (by rfl)) (pv 5)) (pv 6)))
    (pss_cons (ps_set (i := 8) sc_law.nd rfl (Or.inl rfl) (pe_call G_rounds (hr.mono (by decide)) (by rfl) T.g_rounds k_rounds b_rounds .nil pass0 (pa_cons (pv 5) pa_nil)))
    (pss_cons (ps_if (PW.pt (pw_or (pt_cmpR op_ne (pe_callB (cr_sum rfl) (by rfl) T.f_sum (by decide +kernel) (pa_cons (pe_lc (own := [("_law_length", 9), ("_law_count", 10)]) (g := (gTup K 2 (gCons (gName 9) (gCons (gName 10) gNil)))) (by rfl) sc_law.nd (pi_list (pv 8)) (blkOk_by (N := N_law) (sc := defScope s_law) (by decide +kernel)) (fun _ _ _ _ _ => (pg_tup rfl (pgs_cons (pg_name (i := 9) sc_law.nd rfl (Or.inl rfl)) (pgs_cons (pg_name (i := 10) sc_law.nd rfl (Or.inl rfl)) pgs_nil)))) (fun _ _ _ _ _ => pts_nil) (fun _ _ _ _ _ => (pe_op op_mulX (pv 9) (pv 10)))) pa_nil)) (pe_prop (pv 3) T.c_Web T.p_spots G_Web_spots (hr.mono (by decide)) b_Web_spots .nil passN (by rfl)) (nomark _)) (pw_or1 (pt_cmpR (op_neD hr.units) (pv 8) (pe_callB cr_sortedPO (by rfl) T.f_sorted (by decide +kernel) (pa_cons (pv 8) pa_nil)) (nomark _))))) (pss_one (ps_ret pe_bl)) pss_nil)
    (pss_cons (ps_if (PW.pt (pw_or (pt_cmpR (op_neD hr.units) (pe_call G_rounds (hr.mono (by decide)) (by rfl) T.g_rounds k_rounds b_rounds .nil pass0 (pa_cons (pv 7) pa_nil)) (pv 8) (nomark _)) (pw_or (pt_cmpR (op_neD hr.units) (pe_call G_rounds (hr.mono (by decide)) (by rfl) T.g_rounds k_rounds b_rounds .nil pass0 (pa_cons (pe_prop (pv 5) T.c_Form T.p_inverse G_Form_inverse (hr.mono (by decide)) b_Form_inverse .nil passN (by rfl)) pa_nil)) (pv 8) (nomark _)) (pw_or1 (pt_cmpR op_ne (pe_call G_period (hr.mono (by decide)) (by rfl) T.g_period k_period b_period .nil pass0 (pa_cons (pv 7) pa_nil)) (pe_call G_period (hr.mono (by decide)) (by rfl) T.g_period k_period b_period .nil pass0 (pa_cons (pv 5) pa_nil)) (nomark _)))))) (pss_one (ps_ret pe_bl)) pss_nil)
    (pss_cons (ps_if (pt_not (pt_val (pe_call G_alike (hr.mono (by decide)) (by rfl) T.g_alike k_alike b_alike .nil pass0 (pa_cons (pe_op (op_own G_FormU_mulU (hr.mono (by decide)) b_FormU_mulU pass0 T.q_mul1 T.q_mul2 T.q_mul3) (pe_op (op_own G_FormU_mulU (hr.mono (by decide)) b_FormU_mulU pass0 T.q_mul1 T.q_mul2 T.q_mul3) (pv 6) (pv 7)) (pe_prop (pv 6) T.c_Form T.p_inverse G_Form_inverse (hr.mono (by decide)) b_Form_inverse .nil passN (by rfl))) (pa_cons (pv 5) pa_nil))))) (pss_one (ps_ret pe_bl)) pss_nil)
    (pss_cons (ps_set (i := 1) sc_law.nd rfl (Or.inl rfl) (pe_call G__law_source (hr.mono (by decide)) (by rfl) T.g__law_source k__law_source b__law_source .nil pass0 (pa_cons (pv 0) (pa_cons pe_int pa_nil))))
    (pss_cons (ps_for PassesOwn.never rfl (pi_list (pv 2)) (pg_tup rfl (pgs_cons (pg_name (i := 4) sc_law.nd rfl (Or.inl rfl)) (pgs_cons (pg_name (i := 9) sc_law.nd rfl (Or.inl rfl)) (pgs_cons (pg_name (i := 11) sc_law.nd rfl (Or.inl rfl)) pgs_nil))))
    (pss_one (ps_for PassesOwn.never rfl (pi_list (pe_lst (pa_cons (pe_op op_mod (pe_call G__law_take (hr.mono (by decide)) (by rfl) T.g__law_take k__law_take b__law_take .nil pass0 (pa_cons (pv 1) (pa_cons pe_int pa_nil))) (pv 9)) (pa_cons (pe_call G__law_number (hr.mono (by decide)) (by rfl) T.g__law_number k__law_number b__law_number .nil pass0 (pa_cons (pv 1) (pa_cons (pv 9) pa_nil))) pa_nil)))) (pg_name (i := 12) sc_law.nd rfl (Or.inl rfl))
    (pss_cons (ps_set (i := 13) sc_law.nd rfl (Or.inl rfl) (pe_meth (pv 3) T.c_Web T.m_Web_spot_of G_Web_spot_of (hr.mono (by decide)) b_Web_spot_of .nil pass0 (pa_cons (pv 4) (pa_cons (pv 12) pa_nil))))
    (pss_cons (ps_if (pt_not (pt_val (pe_call G__law_times_right (hr.mono (by decide)) (by rfl) T.g__law_times_right k__law_times_right b__law_times_right .nil pass0 (pa_cons (pv 1) (pa_cons (pv 5) (pa_cons (pv 6) (pa_cons (pv 7) (pa_cons (pe_tup (pa_cons (pv 4) (pa_cons (pv 12) pa_nil))) (pa_cons (pv 13) pa_nil))))))))) (pss_one (ps_ret pe_bl)) pss_nil)
    (pss_one (ps_if (pt_not (pt_val (pe_call G__law_back_right (hr.mono (by decide)) (by rfl) T.g__law_back_right k__law_back_right b__law_back_right .nil pass0 (pa_cons (pv 5) (pa_cons (pv 6) (pa_cons (pv 7) (pa_cons (pe_tup (pa_cons (pv 4) (pa_cons (pv 12) pa_nil))) (pa_cons (pv 13) pa_nil)))))))) (pss_one (ps_ret pe_bl)) pss_nil)))))))
    (pss_one (ps_ret pe_bl)))))))))))))))), ?_⟩
    have nl0 : NL 2 (fun _ => none : Hp) := ⟨fun _ _ _ z => (by cases z), fun _ _ _ z => (by cases z)⟩
    refine q_source 0 (by decide) (by decide) rfl hS fun p H1 np gr1 hp1 => ?_
    have sc1 : Sc K (ns.map V.int) a p H1 := Sc.new hS np gr1
    have fr1 : Fr (some p) (fun _ => none) H1 := fr_new (fun _ _ z => by cases z) np gr1 hp1
    refine (show tSeq _ _ _ ([some (.ref a), some (.ref p), none, none, none, none, none, none, none, none, none, none, none, none] : L2.St) H1 from ?_)
    -- the rings
    refine q_asgP (P := RingsX) (c := 0 + 62) fr1 hp1 (by decide) (evp_call (Ps := [IntA 4, LsA IntA [9, 100, 10 ^ 30]]) nl0 rfl (evpa_of (ea_cons (P := IntA 4) ev_c (ea_cons (P := LsA IntA [9, 100, 10 ^ 30]) (ev_imp (ev_lst (ea_cons (P := IntA 9) ev_c (ea_cons (P := IntA 100) ev_c (ea_cons (P := IntA (10 ^ 30)) (ev_is (ev_i (i := 10) (j := 30) ev_c ev_c ⟨by decide, by decide +kernel⟩) rfl) ea_nil)))) fun H v h => lsA_lst (R := IntA) (l := [9, 100, 10 ^ 30]) h) ea_nil))) fun G' vs al => ⟨(), trivial, al, fun H v h => h⟩) fun v2 G2 H2 z2 x2 hz2 lz2 h2 => ?_
    obtain ⟨l, hl, hR, big⟩ := h2
    have f2 := fr1.ext x2
    have nl2 := x2.gw.nl nl0
    refine (show tSeq _ _ _ ([some (.ref a), some (.ref p), some v2, none, none, none, none, none, none, none, none, none, none, none] : L2.St) H2 from ?_)
    -- the web
    refine q_asgP (P := WebX K l) (c := 0 + (((0 + (1 + 0)) + 100) + 0)) f2 hz2 (by omega) (evp_bA (f := fun t => tMake (ga K "Web") (spWebI K) [] E0 t) (fun t σ H Q h => h) (evpa_cons (P := LsA RingA l) (evp_of (ev_var rfl hl)) (evpa_cons (P := MtX l) (evp_call (Ps := [LsA RingA l, DigP 7]) nl2 rfl (evpa_cons (P := LsA RingA l) (evp_of (ev_var rfl hl)) (evpa_cons (P := DigP 7) (evp_take nl2 rfl (by decide) (by decide) ev_c) evpa_nil)) fun G' vs al => ?_) evpa_nil)) fun G' xs gw al => ?_) fun v3 G3 H3 z3 x3 hz3 lz3 h3 => ?_
    · obtain ⟨u, u', rfl, a1, d, rfl, d0, d7⟩ := al2 al
      exact ⟨⟨l, d⟩, ⟨hR, big, d0, by show d ≤ 6; omega⟩, .cons a1 (.cons rfl .nil), fun H v ⟨ml, h1, h2⟩ => ⟨ml, h1, h2⟩⟩
    · obtain ⟨u, u', rfl, a1, ml, b1, b2⟩ := al2 al
      exact ev_make (i := (⟨l, ml⟩ : WiI)) ⟨hR, b2, big⟩ (n := 2) (gw.nl nl2) (ea_csts (.cons a1 (.cons b1 .nil)))
    obtain ⟨wd, hwd, WF⟩ := h3
    have f3 := f2.ext x3
    have nl3 := x3.gw.nl nl2
    have hl3 : LsA RingA l G3 v2 := mo_same x3.gs hl
    have sc3 := (sc1.keep x2).keep x3
    refine (show tSeq _ _ _ ([some (.ref a), some (.ref p), some v2, some v3, none, none, none, none, none, none, none, none, none, none] : L2.St) H3 from ?_)
    refine q_whenJ (W := WebW K a (ns.map V.int)) (φ := fun _ => True) (c := 1 + 0) f3 hz3 (by omega) (evpt_test (evp_imp (evp_eqI (evp_take nl3 rfl (by decide) (by decide) ev_c) (evp_c (φ := fun i => i = 0) rfl)) fun H v ⟨b, h⟩ => ⟨b, h, trivial⟩)) (fun _ G4 H4 z4 x4 hz4 lz4 D' hD' => ?_) (fun _ G4 H4 z4 x4 hz4 lz4 => ⟨wd, l, v2, v3, p, G4, rfl, sc3.keep x4, x4.sub, x4.gw.nl nl3, mo_same x4.gs hl3, mo_same x4.gs hwd, WF, hR.one, hR.few⟩) ?_
    · -- a board
      have f4 := f3.ext x4
      have nl4 := x4.gw.nl nl3
      refine q_asgP (P := fun H v => ∃ rl, WebX K rl H v) (c := (0 + 1) + ((0 + 1) + 0)) f4 hz4 (by omega) (evp_cmeth (Ps := [IntQ fun i => 2 ≤ i ∧ i ≤ 3, IntQ fun i => 2 ≤ i ∧ i ≤ 6]) (evpa_cons (evp_i0 (φ := fun i => i = 2) (ψ := fun i => 0 ≤ i ∧ i < 2) (evp_c rfl) (evp_take nl4 rfl (by decide) (by decide) ev_c) fun a b ha hb => by omega) (evpa_cons (evp_i0 (φ := fun i => i = 2) (ψ := fun i => 0 ≤ i ∧ i < 5) (evp_c rfl) (evp_take nl4 rfl (by decide) (by decide) ev_c) fun a b ha hb => by omega) evpa_nil)) fun G' xs gw al => ?_) fun v5 G5 H5 z5 x5 hz5 lz5 h5 => ?_
      · obtain ⟨u, u', rfl, ⟨m', rfl, m2, m3⟩, ⟨n', rfl, n2, n6⟩⟩ := al2 al
        obtain ⟨m, rfl⟩ := Int.eq_ofNat_of_zero_le (show 0 ≤ m' by omega)
        obtain ⟨n, rfl⟩ := Int.eq_ofNat_of_zero_le (show 0 ≤ n' by omega)
        exact fun G1 H1 e f Q k => ⟨⟨m, n⟩, G1, ⟨by show 2 ≤ m; omega, by show m ≤ 3; omega, by show 2 ≤ n; omega, by show n ≤ 6; omega⟩, (gw.trans e).nl nl4, f.sub, .cons rfl (.cons rfl (.cons rfl .nil)), fun v G2 H2 e2 q => k v G2 H2 (e2.lift f) ⟨_, q⟩⟩
      obtain ⟨rl, wb, hwb, WB⟩ := h5
      have f5 := f4.ext x5
      have nl5 := x5.gw.nl nl4
      have hWb := WB.good
      have fewb := WB.few
      refine (show tAsg _ _ _ ([some (.ref a), some (.ref p), some v2, some v5, none, none, none, none, none, none, none, none, none, none] : L2.St) H5 from ?_)
      refine s_asg (M := none) (P := LsA RingA (wb.names.map fun n => (n, wb.len n, 1))) f5.no (ev_lcM (R := StrA) (R' := RingA) (fun n => (n, wb.len n, 1)) (src_lst (ev_meth (i := wb) (n := 0) (by have := hWb.few; show wb.rings.length < 100000; omega) trivial rfl (isI_web fun _ _ _ _ _ => by rfl) (ev_var rfl hwb) ea_nil)) (by omega) fun n hn xv G' H' gw fr rx Q' k2 => ?_) fun v6 G6 H6 x6 h6 => ?_
      · cases rx
        exact k2 _ rfl (ev_tup (ea_cons (P := StrA n) (ev_var rfl rfl) (ea_cons (P := IntA (wb.len n)) (ev_meth (i := (wb, n)) ⟨hWb, hn⟩ (n := 0) trivial rfl (isI_web fun _ _ _ _ _ => by rfl) (ev_var rfl (mo_same gw.gs hwb)) (ea_cons (P := StrA n) (ev_var rfl rfl) ea_nil)) (ea_cons (P := IntA 1) ev_c ea_nil))))
      · have xl := x6.lift f5
        refine hD' _ _ ⟨wb, wb.names.map fun n => (n, wb.len n, 1), v6, v5, p, G6, rfl, ((sc3.keep x4).keep x5).keep xl, x6.sub, x6.gw.nl nl5, h6, mo_same x6.gs hwb, ⟨WB.good, fun r hr => ?_, WB.one, WB.few⟩, by rw [List.length_map]; exact WB.one, by rw [List.length_map]; exact WB.few⟩
        obtain ⟨n, hn, rfl⟩ := List.mem_map.mp hr
        exact ⟨hn, rfl⟩
    clear hl3 hwd WF sc3 hz3 lz3 x3 f3 nl3 hl hR big f2 nl2 x2 hz2 lz2 fr1 hp1 sc1 np gr1
    rintro σ' Ha ⟨wd, l, v2, v3, q, G, rfl, sc, sG, nlG, hl, hwd, WF, one, few⟩
    have hW := WF.good
    have o := hW.ok
    refine q_source 1 (by decide) (by decide) rfl sc.sq fun p Hb np gr hp => ?_
    have scb : Sc K (ns.map V.int) a p Hb := Sc.new sc.sq np gr
    have frb : Fr (some p) G Hb := fr_new sG np gr hp
    refine (show tSeq _ _ _ ([some (.ref a), some (.ref p), some v2, some v3, none, none, none, none, none, none, none, none, none, none] : L2.St) Hb from ?_)
    -- the two forms
    refine q_asgP (P := FormX K wd 1800) (c := 40) frb hp (by decide) (evp_formOf nlG rfl rfl rfl hl hwd WF one few (by decide) (by decide)) fun v5 G5 H5 z5 x5 hz5 lz5 h5 => ?_
    obtain ⟨f, g, pt, h5⟩ := h5
    refine q_asgP (P := FormX K wd 1800) (c := 40) (frb.ext x5) hz5 (by omega) (evp_formOf (x5.gw.nl nlG) rfl rfl rfl (mo_same x5.gs hl) (mo_same x5.gs hwd) WF one few (by decide) (by decide)) fun v6 G6 H6 z6 x6 hz6 lz6 h6 => ?_
    obtain ⟨h, h', ph, h6⟩ := h6
    have X6 := x5.trans x6
    have sc6 := scb.keep X6
    have t6 : FormR K wd f g pt 1800 G6 v5 := mo_same x6.gs h5
    have bT := formR_good h5
    have bL := formR_good h6
    have nl6 := X6.gw.nl nlG
    refine (show tSeq _ _ _ ([some (.ref a), some (.ref p), some v2, some v3, none, some v5, some v6, none, none, none, none, none, none, none] : L2.St) H6 from ?_)
    have f6 := frb.ext X6
    have hl6 : LsA RingA l G6 v2 := mo_same X6.gs hl
    have w6 : WebA K wd G6 v3 := mo_same X6.gs hwd
    -- led
    refine q_asg (M := none) (P := FormR K wd (fun s => h (f (h' s))) (fun s => h (g (h' s))) (fun n => ((((-ph n) % wd.len n + pt n) % wd.len n) + ph n) % wd.len n) 5700) f6.no (ev_mulR (by decide) nl6 (ev_mulR (by decide) nl6 (ev_invR (by decide) nl6 (ev_var rfl h6)) (ev_var rfl t6)) (ev_var rfl h6)) fun v7 G7 H7 x7 h7 => ?_
    have bC := formR_good h7
    have nl7 := x7.gw.nl nl6
    have f7 := f6.ext (x7.lift f6)
    refine q_asg (M := none) (P := DueP wd f) f7.no (ev_roundsR (by decide) nl7 (ev_var rfl (mo_same x7.gs t6))) fun v8 G8 H8 x8 h8 => ?_
    obtain ⟨due, hdue, D, dlen⟩ := h8
    have X8 := x7.trans x8
    have X8l := X8.lift f6
    have f8 := f6.ext X8l
    have nl8 := X8.gw.nl nl6
    refine (show tSeq _ _ _ ([some (.ref a), some (.ref p), some v2, some v3, none, some v5, some v6, some v7, some v8, none, none, none, none, none] : L2.St) H8 from ?_)
    have ebits : ∀ x, x ∈ due → x.1.natAbs < 2 ^ 112 ∧ x.2.natAbs < 2 ^ 112 := fun x hx => by
      obtain ⟨b1, b2⟩ := due_bits hW D hx
      obtain ⟨q1, q2, q3⟩ := D.ok x hx
      have h4 : spotsOf wd.m f x.1.toNat ≤ (spotsL wd.m).length := List.length_filter_le _ _
      have h5 := spots_few hW
      have h6 : x.2 * 1 ≤ x.2 * x.1 := Int.mul_le_mul_of_nonneg_left (by omega) (by omega)
      constructor <;> omega
    refine q_when (M := none) f8.no (et_or (et_test (ev_ne (x := .int ((due.map fun x : Int × Int => x.1 * x.2).sum)) (y := .int ((spotsL wd.m).length : Nat)) (ev_sumI (ev_lcM (R := PA) (R' := IntA) (fun x : Int × Int => x.1 * x.2) (src_lst (ev_var rfl hdue)) (by omega) fun q hq xv G' H' gw fr rx Q' k2 => tg2 rx fr.sub fun a1 a2 q1 q2 => k2 _ rfl (ev_i (i := q.1) (j := q.2) (ev_var rfl q1) (ev_var rfl q2) (mulx_ok (a := 112) (b := 112) (ebits q hq).1 (ebits q hq).2 (by decide))))) (ev_prop (i := wd) hW (n := 0) trivial rfl web_ins (ev_var rfl (mo_same X8.gs w6))) rfl)) fun _ => et_test (ev_neP (l := due) (ev_var rfl hdue) (ev_imp (ev_sortedP (ev_var rfl hdue)) fun H v hs => ?_))) (fun hb => ?_) fun _ G9 H9 x9 => ?_
    · obtain ⟨C', c1, c2, c3⟩ := hs
      have e := sorted_uniq c3 D.up c2
      subst e
      exact c1
    · rw [DueOk.sum o bT D] at hb
      simp at hb
    have X9 := X8.trans x9
    have nl9 := X9.gw.nl nl6
    have hd9 : LsA PA due G9 v8 := mo_same x9.gs hdue
    have t9 : FormR K wd f g pt 1800 G9 v5 := mo_same X9.gs t6
    have l9 : FormR K wd h h' ph 1800 G9 v6 := mo_same X9.gs h6
    have c9 : FormR K wd (fun s => h (f (h' s))) (fun s => h (g (h' s))) (fun n => ((((-ph n) % wd.len n + pt n) % wd.len n) + ph n) % wd.len n) 5700 G9 v7 := mo_same (x8.trans x9).gs h7
    have conj : ∀ s, wd.m.Spot s → (fun s => h (f (h' s))) (h s) = h (f s) := fun s hs => by
      show h (f (h' (h s))) = h (f s)
      rw [bL.gf s hs]
    have conjg : ∀ s, wd.m.Spot s → (fun s => h (g (h' s))) (h s) = h (g s) := fun s hs => by
      show h (g (h' (h s))) = h (g s)
      rw [bL.gf s hs]
    have dueC : ∀ d', DueOk wd.m (fun s => h (f (h' s))) d' → d' = due := fun d' D' => DueOk.uniq D' D fun n => spots_conj o bT bL bC conj n
    have dueI : ∀ d', DueOk wd.m g d' → d' = due := fun d' D' => DueOk.uniq D' D fun n => spots_inverse bT n
    have dueT : ∀ d', DueOk wd.m f d' → d' = due := fun d' D' => DueOk.uniq D' D fun n => rfl
    refine q_when (M := none) (f8.no.ext x9) (et_or (et_test (ev_neP (l := due) (ev_imp (ev_roundsR (by decide) nl9 (ev_var rfl c9)) fun H v hs => ?_) (ev_var rfl hd9))) fun _ => et_or (et_test (ev_neP (l := due) (ev_imp (ev_roundsR (by decide) nl9 (ev_invR (by decide) nl9 (ev_var rfl t9))) fun H v hs => ?_) (ev_var rfl hd9))) fun _ => et_test (ev_ne (x := .int (lcmOf due)) (y := .int (lcmOf due)) (ev_imp (ev_periodR (by decide) nl9 (ev_var rfl c9)) fun H v hs => ?_) (ev_imp (ev_periodR (by decide) nl9 (ev_var rfl t9)) fun H v hs => ?_) rfl)) (fun hb => ?_) fun _ Ga Ha' xa => ?_
    · obtain ⟨d', q1, q2, _⟩ := hs
      rw [dueC d' q2] at q1
      exact q1
    · obtain ⟨d', q1, q2, _⟩ := hs
      rw [dueI d' q2] at q1
      exact q1
    · obtain ⟨d', q1, q2⟩ := hs
      rw [q1, dueC d' q2]
      rfl
    · obtain ⟨d', q1, q2⟩ := hs
      rw [q1, dueT d' q2]
      rfl
    · simp at hb
    have Xa := X9.trans xa
    have nla := Xa.gw.nl nl6
    have ta : FormR K wd f g pt 1800 Ga v5 := mo_same xa.gs t9
    have la : FormR K wd h h' ph 1800 Ga v6 := mo_same xa.gs l9
    have ca : FormR K wd (fun s => h (f (h' s))) (fun s => h (g (h' s))) (fun n => ((((-ph n) % wd.len n + pt n) % wd.len n) + ph n) % wd.len n) 5700 Ga v7 := mo_same xa.gs c9
    refine q_when (M := none) ((f8.no.ext x9).ext xa) (et_not (et_B (ev_alikeR (by decide) nla (fun s hs => ?_) (fun n hn => ?_) (ev_mulR (by decide) nla (ev_mulR (by decide) nla (ev_var rfl la) (ev_var rfl ca)) (ev_invR (by decide) nla (ev_var rfl la))) (ev_var rfl ta)))) (fun hb => by cases hb) fun _ Gb Hb' xb => ?_
    · show h' (h (f (h' (h s)))) = f s
      rw [bL.gf s hs, bL.gf _ (bT.to s hs)]
    · obtain ⟨r0, r1⟩ := formR_push h5 n hn
      exact push_back r0 r1
    have Xb := Xa.trans xb
    have Xbl := Xb.lift f6
    have scB := sc6.keep Xbl
    have nlb := Xb.gw.nl nl6
    refine q_source 2 (by decide) (by decide) rfl scB.sq fun p3 Hc np3 gr3 hp3 => ?_
    have frc : Fr (some p3) Gb Hc := fr_new Xb.sub np3 gr3 hp3
    refine (show tSeq _ _ _ ([some (.ref a), some (.ref p3), some v2, some v3, none, some v5, some v6, some v7, some v8, none, none, none, none, none] : L2.St) Hc from ?_)
    obtain ⟨A', a1, a2, rfl, a4, a5⟩ := (mo_same xb.gs ta : FormR K wd f g pt 1800 Gb v5)
    obtain ⟨B', b1, b2, b3, b4, b5⟩ := (mo_same xb.gs la : FormR K A'.web h h' ph 1800 Gb v6)
    obtain ⟨C', c1, c2, c3, c4, c5⟩ := (mo_same xb.gs ca : FormR K A'.web _ _ _ 5700 Gb v7)
    have hlb : LsA RingA l Gb v2 := mo_same Xb.gs hl6
    have wb : WebA K A'.web Gb v3 := mo_same Xb.gs w6
    have trOk : ∀ s, A'.web.m.Val s → TrOk ⟨A', B', C', f, g, h, h', fun s => h (f (h' s)), fun s => h (g (h' s)), s⟩ := fun s hs => ⟨a2, b2, c2, b3, c3, by show A'.goals.length < 30000; omega, by show C'.goals.length < 30000; omega, conj, conjg, hs⟩
    refine q_for' (M := none) (l := l) (R := RingA) frc.no (src_lst (ev_var rfl hlb)) fun Gc Hc' xc => ?_
    refine ⟨fun i σ' H' => ∃ (z : Int) (s4 s9 s10 s11 s12 s13 : Option V) (Gz : Hp), σ' = [some (.ref a), some (.ref p3), some v2, some v3, s4, some v5, some v6, some v7, some v8, s9, s10, s11, s12, s13] ∧ Ext (some p3) Gb Hc Gz H' ∧ Gw Gc Gz ∧ Pot p3 H' z ∧ z ≤ 2000 + 21 * (i : Nat),
      ⟨2000, none, none, none, none, none, none, Gc, rfl, xc.lift frc, Gw.rfl' _, hp3.same xc, by omega⟩, ?_, ?_, ?_⟩
    · rintro i σ' H' ⟨z, s4, s9, s10, s11, s12, s13, Gz, rfl, X, gw, _⟩
      exact gw.gs.trans X.sub
    · rintro i ⟨nm, L, st⟩ σ1 Hd hq ⟨z, s4, s9, s10, s11, s12, s13, Gz, rfl, X, gw, hz, lz⟩ xv He hy
      have fz := frc.ext X
      obtain ⟨Ge, xe, rb⟩ := hy Gz gw fz.no
      have hm := List.mem_of_getElem? hq
      have hi : i < l.length := (List.getElem?_eq_some_iff.mp hq).1
      obtain ⟨nmem, nlen⟩ := WF.at_ _ hm
      have Lpos : 0 < L := by
        have := o.pos nm nmem
        rw [show A'.web.m.len nm = L from nlen] at this
        exact this
      have Lbig : L < 2 ^ 104 := by
        have := hW.big nm nmem
        rw [show A'.web.len nm = L from nlen] at this
        exact this
      refine tg3 rb xe.sub fun w1 w2 w3 q1 q2 q3 => ?_
      cases q1
      cases q2
      have Xe := X.trans (xe.lift fz)
      have fe := frc.ext Xe
      have nle := Xe.gw.nl nlb
      refine (show tFor _ _ _ _ ([some (.ref a), some (.ref p3), some v2, some v3, some (.str nm), some v5, some v6, some v7, some v8, some (.int L), s10, some w3, s12, s13] : L2.St) He from ?_)
      refine s_forLstP (P := LsA (fun _ : Unit => DigP L) [(), ()]) (c := (1 + 0) + (4 + 0)) fe (hz.same xe) (by omega) (evp_bA (f := tLst) (fun t σ H Q h => h) (evpa_cons (P := DigP L) (evp_i (φ := fun i => 0 ≤ i ∧ i < 3) (ψ := fun i => i = L) (evp_take nle rfl (by decide) (by decide) ev_c) (evp_v rfl rfl) fun a c ha hc => by subst hc; exact ⟨Lpos, Int.emod_nonneg _ (by omega), Int.emod_lt_of_pos _ Lpos⟩) (evpa_cons (P := DigP L) (evp_number nle rfl Lpos (by omega) (ev_var rfl rfl)) evpa_nil)) fun G' xs gw al => ev_imp (ev_lst (ea_csts al)) fun H v h => lsA_lst (R := fun _ : Unit => DigP L) (l := [(), ()]) h) fun vl Gf Hf zf xf hzf lzf hlf => ?_
      have Xf := Xe.trans xf
      have ff := frc.ext Xf
      have x_ef := (xe.lift fz).trans xf
      refine p_for (M := none) (l := [(), ()]) (R := fun _ : Unit => DigP L) ff.no (src_lst (ev_cst hlf)) fun Gg Hg xg => ?_
      refine ⟨fun j σ' H' => ∃ (z : Int) (s12 s13 : Option V) (Gy : Hp), σ' = [some (.ref a), some (.ref p3), some v2, some v3, some (.str nm), some v5, some v6, some v7, some v8, some (.int L), s10, some w3, s12, s13] ∧ Ext (some p3) Gb Hc Gy H' ∧ Gw Gc Gy ∧ Gw Gg Gy ∧ Pot p3 H' z ∧ z ≤ 2000 + 21 * (i : Nat) + 5 + 8 * (j : Nat),
        ⟨zf, s12, s13, Gg, rfl, Xf.trans (xg.lift ff), gw.trans (x_ef.gw.trans xg.gw), Gw.rfl' _, hzf.same xg, by omega⟩, ?_, ?_, ?_⟩
      · rintro j σ' H' ⟨z, s12, s13, Gy, rfl, X, gwc, gwg, _⟩
        exact gwg.gs.trans X.sub
      · rintro j u σ1 Hi hqj ⟨z, s12, s13, Gy, rfl, Xy, gwc, gwg, hzy, lzy⟩ xv Hj hyj
        have fy := frc.ext Xy
        obtain ⟨Gj, xj, rj⟩ := hyj Gy gwg fy.no
        obtain ⟨ii, rfl, ii0, iiL⟩ := rj
        have hj2 : j < 2 := (List.getElem?_eq_some_iff.mp hqj).1
        refine g_name ?_
        have Xj := Xy.trans (xj.lift fy)
        have fj := frc.ext Xj
        have nlj := Xj.gw.nl nlb
        have val : A'.web.m.Val (nm, ii) := ⟨nmem, ii0, by show ii < A'.web.len nm; rw [show A'.web.len nm = L from nlen]; exact iiL⟩
        have aj : FormA K A' Gj v5 := mo_same Xj.gs a1
        refine (show tSeq _ _ _ ([some (.ref a), some (.ref p3), some v2, some v3, some (.str nm), some v5, some v6, some v7, some v8, some (.int L), s10, some w3, some (.int ii), s13] : L2.St) Hj from ?_)
        refine q_asg (M := none) (P := PlA (A'.web.told (nm, ii))) fj.no (ev_meth (i := (A'.web, (nm, ii))) ⟨hW, val⟩ (n := 0) trivial rfl (isI_web fun _ _ _ _ _ => by rfl) (ev_var rfl (mo_same Xj.gs wb)) (ea_cons (P := StrA nm) (ev_var rfl rfl) (ea_cons (P := IntA ii) (ev_var rfl rfl) ea_nil))) fun v13 Gk Hk xk h13 => ?_
        have Xk := Xj.trans (xk.lift fj)
        have fk := frc.ext Xk
        have nlk := Xk.gw.nl nlb
        refine (show tSeq _ _ _ ([some (.ref a), some (.ref p3), some v2, some v3, some (.str nm), some v5, some v6, some v7, some v8, some (.int L), s10, some w3, some (.int ii), some v13] : L2.St) Hk from ?_)
        have pl : ∀ (G : Hp), Ev none (tTup (tCons (tVar 4) (tCons (tVar 12) tNil))) [some (.ref a), some (.ref p3), some v2, some v3, some (.str nm), some v5, some v6, some v7, some v8, some (.int L), s10, some w3, some (.int ii), some v13] G (PlA (nm, ii)) := fun G => ev_imp (ev_tup (ea_cons (P := StrA nm) (ev_var rfl rfl) (ea_cons (P := IntA ii) (ev_var rfl rfl) ea_nil))) fun H v h => plA_of h
        refine q_whenP (φ := fun b => (!b) = true) (c := 0 + 8) fk ((hzy.same xj).same xk) (by omega) (evpt_not (φ := fun b => b = true) (evpt_B (evp_imp (evp_call (Ps := [FormA K A', FormA K B', FormA K C', PlA (nm, ii), PlA (A'.web.told (nm, ii))]) (P := Is (.bl true)) nlk rfl (evpa_of (ea_cons (ev_var rfl (mo_same Xk.gs a1)) (ea_cons (ev_var rfl (mo_same Xk.gs b1)) (ea_cons (ev_var rfl (mo_same Xk.gs c1)) (ea_cons (pl _) (ea_cons (ev_var rfl h13) ea_nil)))))) fun G' vs al => ⟨_, trOk _ val, al, fun H v h => h⟩) fun H v h => ⟨true, h, rfl⟩))) (fun hb => by cases hb) fun _ Gl Hl zl xl hzl lzl => ?_
        have Xl := Xk.trans xl
        have fl := frc.ext Xl
        refine s_when (M := none) fl.no (et_not (et_B (ev_call (i := (⟨A', B', C', f, g, h, h', fun s => h (f (h' s)), fun s => h (g (h' s)), (nm, ii)⟩ : TrI)) (trOk _ val) (n := 2) (Xl.gw.nl nlb) (ea_cons (ev_var rfl (mo_same Xl.gs a1)) (ea_cons (ev_var rfl (mo_same Xl.gs b1)) (ea_cons (ev_var rfl (mo_same Xl.gs c1)) (ea_cons (pl _) (ea_cons (ev_var rfl (mo_same xl.gs h13)) ea_nil)))))))) (fun hb => by cases hb) fun _ Gm Hm xm => ?_
        exact ⟨zl, _, _, Gm, rfl, Xl.trans (xm.lift fl), gwc.trans (xj.gw.trans (xk.gw.trans (xl.gw.trans xm.gw))), gwg.trans (xj.gw.trans (xk.gw.trans (xl.gw.trans xm.gw))), hzl.same xm, by omega⟩
      · rintro σ' Hi ⟨z, s12, s13, Gy, rfl, Xy, gwc, gwg, hzy, lzy⟩
        have : ([(), ()] : List Unit).length = 2 := rfl
        exact ⟨z, _, _, _, _, _, _, Gy, rfl, Xy, gwc, hzy, by omega⟩
    · rintro σ' Hd ⟨z, s4, s9, s10, s11, s12, s13, Gz, rfl, X, gw, hz, lz⟩
      exact k Hd
end
end MR
set_option maxHeartbeats 0
/-! The head: facts by names. -/
namespace MR
open PySem PySem.Spec PyProof.Rows L2 He
/-! ### facts of one's own, as Bools -/
def recB (K : PySem.W.Frag) (a : Addr) (T : String) : Bool := match PySem.W.recIn K a T with
  | some (.ref _ :: _) => true
  | _ => false
theorem recB_ok {K : PySem.W.Frag} {C : Addr} {T : String} {m : Str} (h : recB K (ma K C m) T = true) : ∃ rest, PySem.W.recIn K (ma K C m) T = some (.ref (He5.wf K C T m) :: rest) := by
  unfold recB at h
  unfold He5.wf
  split at h
  · rename_i f r e
    exact ⟨r, by rw [e]⟩
  · cases h
def propB (K : PySem.W.Frag) (c m : Str) : Bool := eqO (PySem.W.findIn K (.ref (ga K c)) m) (some (some (.ref (ma K (ga K c) m)))) && (eqO (PySem.W.specialIn K (.ref (ma K (ga K c) m)) "__get__") (some (some (.builtin "property.__get__"))) && (decide (PySem.W.takesIn K (.ref (ma K (ga K c) m)) = some true) && recB K (ma K (ga K c) m) "property"))
theorem propB_ok {K : PySem.W.Frag} {c m : Str} (h : propB K c m = true) : PropOf K (ga K c) m (ma K (ga K c) m) (He5.wf K (ga K c) "property" m) := by
  obtain ⟨h1, h⟩ := ba h
  obtain ⟨h2, h⟩ := ba h
  obtain ⟨h3, h4⟩ := ba h
  exact ⟨eqO_ok h1, eqO_ok h2, of_decide_eq_true h3, recB_ok h4⟩
def callB (K : PySem.W.Frag) (c : Str) : Bool := eqO (PySem.W.findIn K (.ref (ga K c)) "__call__") (some (some (.ref (ma K (ga K c) "__call__")))) && (PySem.W.isFn K (.ref (ma K (ga K c) "__call__")) && PySem.W.fnIn K (ma K (ga K c) "__call__"))
theorem callB_ok {K : PySem.W.Frag} {c : Str} (h : callB K c = true) : StX.CallO K (ga K c) (ma K (ga K c) "__call__") := by
  obtain ⟨h1, h⟩ := ba h
  obtain ⟨h2, h3⟩ := ba h
  exact ⟨eqO_ok h1, h2, h3⟩
def readB (K : PySem.W.Frag) (c : Str) : Bool := PySem.W.readsIn K (ga K c) (.type "type") && eqO (PySem.W.specialIn K (.ref (ga K c)) "__getattribute__") (some (some (.builtin "type.__getattribute__")))
theorem readB_ok {K : PySem.W.Frag} {c : Str} (h : readB K c = true) : ClX.CRead K (ga K c) (.type "type") := by
  obtain ⟨h1, h2⟩ := ba h
  exact ⟨h1, eqO_ok h2⟩
def cmB (K : PySem.W.Frag) (c m : Str) : Bool := He5.wrapB K (ga K c) "classmethod" "classmethod.__get__" m && PySem.W.fnIn K (He5.wf K (ga K c) "classmethod" m)
theorem cmB_ok {K : PySem.W.Frag} {c m : Str} (h : cmB K c m = true) : ClX.CMet K (ga K c) (.type "type") m (ma K (ga K c) m) (He5.wf K (ga K c) "classmethod" m) := by
  obtain ⟨h1, h2⟩ := ba h
  exact He5.cmet_of h1 h2
def dA_common_divisor : He5.DefA := ⟨fun K => (ga K "common_divisor"), "common_divisor", "common_divisor", defArgs s_common_divisor, defBody s_common_divisor, defScope s_common_divisor, [], []⟩
def dA_solution : He5.DefA := ⟨fun K => (ga K "solution"), "solution", "solution", defArgs s_solution, defBody s_solution, defScope s_solution, [], []⟩
def dA_RunsU_initU : He5.DefA := ⟨fun K => (ma K (ga K "Runs") "__init__"), "__init__", "Runs.__init__", defArgs s_RunsU_initU, defBody s_RunsU_initU, defScope s_RunsU_initU, [], []⟩
def dA_Runs_stand : He5.DefA := ⟨fun K => (ma K (ga K "Runs") "stand"), "stand", "Runs.stand", defArgs s_Runs_stand, defBody s_Runs_stand, defScope s_Runs_stand, [], []⟩
def dA_Runs_ahead : He5.DefA := ⟨fun K => (ma K (ga K "Runs") "ahead"), "ahead", "Runs.ahead", defArgs s_Runs_ahead, defBody s_Runs_ahead, defScope s_Runs_ahead, [], []⟩
def dA_Runs_round_from : He5.DefA := ⟨fun K => (ma K (ga K "Runs") "round_from"), "round_from", "Runs.round_from", defArgs s_Runs_round_from, defBody s_Runs_round_from, defScope s_Runs_round_from, [], []⟩
def dA_Runs_lone_length : He5.DefA := ⟨fun K => (ma K (ga K "Runs") "lone_length"), "lone_length", "Runs.lone_length", defArgs s_Runs_lone_length, defBody s_Runs_lone_length, defScope s_Runs_lone_length, [], []⟩
def dA_Runs_lone_count : He5.DefA := ⟨fun K => (ma K (ga K "Runs") "lone_count"), "lone_count", "Runs.lone_count", defArgs s_Runs_lone_count, defBody s_Runs_lone_count, defScope s_Runs_lone_count, [], []⟩
def dA_Runs_strange_lengths : He5.DefA := ⟨fun K => (ma K (ga K "Runs") "strange_lengths"), "strange_lengths", "Runs.strange_lengths", defArgs s_Runs_strange_lengths, defBody s_Runs_strange_lengths, defScope s_Runs_strange_lengths, [], []⟩
def dA_after : He5.DefA := ⟨fun K => (ga K "after"), "after", "after", defArgs s_after, defBody s_after, defScope s_after, [], []⟩
def dA_back : He5.DefA := ⟨fun K => (ga K "back"), "back", "back", defArgs s_back, defBody s_back, defScope s_back, [], []⟩
def dA_rounds : He5.DefA := ⟨fun K => (ga K "rounds"), "rounds", "rounds", defArgs s_rounds, defBody s_rounds, defScope s_rounds, [], []⟩
def dA_period : He5.DefA := ⟨fun K => (ga K "period"), "period", "period", defArgs s_period, defBody s_period, defScope s_period, [], []⟩
def dA_FormU_initU : He5.DefA := ⟨fun K => (ma K (ga K "Form") "__init__"), "__init__", "Form.__init__", defArgs s_FormU_initU, defBody s_FormU_initU, defScope s_FormU_initU, [], []⟩
def dA_Form_plain : He5.DefA := ⟨fun K => (ma K (ga K "Form") "plain"), "plain", "Form.plain", defArgs s_Form_plain, defBody s_Form_plain, defScope s_Form_plain, [], []⟩
def dA_Form_goal : He5.DefA := ⟨fun K => (ma K (ga K "Form") "goal"), "goal", "Form.goal", defArgs s_Form_goal, defBody s_Form_goal, defScope s_Form_goal, [], []⟩
def dA_Form_origin : He5.DefA := ⟨fun K => (ma K (ga K "Form") "origin"), "origin", "Form.origin", defArgs s_Form_origin, defBody s_Form_origin, defScope s_Form_origin, [], []⟩
def dA_FormU_callU : He5.DefA := ⟨fun K => (ma K (ga K "Form") "__call__"), "__call__", "Form.__call__", defArgs s_FormU_callU, defBody s_FormU_callU, defScope s_FormU_callU, [], []⟩
def dA_FormU_mulU : He5.DefA := ⟨fun K => (ma K (ga K "Form") "__mul__"), "__mul__", "Form.__mul__", defArgs s_FormU_mulU, defBody s_FormU_mulU, defScope s_FormU_mulU, [], []⟩
def dA_Form_inverse : He5.DefA := ⟨fun K => (He5.wf K (ga K "Form") "property" "inverse"), "inverse", "Form.inverse", defArgs s_Form_inverse, defBody s_Form_inverse, defScope s_Form_inverse, [], []⟩
def dA_told_goals : He5.DefA := ⟨fun K => (ga K "told_goals"), "told_goals", "told_goals", defArgs s_told_goals, defBody s_told_goals, defScope s_told_goals, [], []⟩
def dA_form_of : He5.DefA := ⟨fun K => (ga K "form_of"), "form_of", "form_of", defArgs s_form_of, defBody s_form_of, defScope s_form_of, [], []⟩
def dA_parting_spot : He5.DefA := ⟨fun K => (ga K "parting_spot"), "parting_spot", "parting_spot", defArgs s_parting_spot, defBody s_parting_spot, defScope s_parting_spot, [], []⟩
def dA_alike : He5.DefA := ⟨fun K => (ga K "alike"), "alike", "alike", defArgs s_alike, defBody s_alike, defScope s_alike, [], []⟩
def dA_ScriptU_initU : He5.DefA := ⟨fun K => (ma K (ga K "Script") "__init__"), "__init__", "Script.__init__", defArgs s_ScriptU_initU, defBody s_ScriptU_initU, defScope s_ScriptU_initU, [.adr (dflAt ("Script", some "__init__") 0)], []⟩
def dA_is_name : He5.DefA := ⟨fun K => (ga K "is_name"), "is_name", "is_name", defArgs s_is_name, defBody s_is_name, defScope s_is_name, [], []⟩
def dA_ring_fault : He5.DefA := ⟨fun K => (ga K "ring_fault"), "ring_fault", "ring_fault", defArgs s_ring_fault, defBody s_ring_fault, defScope s_ring_fault, [], []⟩
def dA_meeting_fault : He5.DefA := ⟨fun K => (ga K "meeting_fault"), "meeting_fault", "meeting_fault", defArgs s_meeting_fault, defBody s_meeting_fault, defScope s_meeting_fault, [], []⟩
def dA_in_order : He5.DefA := ⟨fun K => (ga K "in_order"), "in_order", "in_order", defArgs s_in_order, defBody s_in_order, defScope s_in_order, [], []⟩
def dA_WebU_initU : He5.DefA := ⟨fun K => (ma K (ga K "Web") "__init__"), "__init__", "Web.__init__", defArgs s_WebU_initU, defBody s_WebU_initU, defScope s_WebU_initU, [.adr (dflAt ("Web", some "__init__") 0)], []⟩
def dA_WebU_eqU : He5.DefA := ⟨fun K => (ma K (ga K "Web") "__eq__"), "__eq__", "Web.__eq__", defArgs s_WebU_eqU, defBody s_WebU_eqU, defScope s_WebU_eqU, [], []⟩
def dA_Web_names : He5.DefA := ⟨fun K => (ma K (ga K "Web") "names"), "names", "Web.names", defArgs s_Web_names, defBody s_Web_names, defScope s_Web_names, [], []⟩
def dA_Web_check_name : He5.DefA := ⟨fun K => (ma K (ga K "Web") "check_name"), "check_name", "Web.check_name", defArgs s_Web_check_name, defBody s_Web_check_name, defScope s_Web_check_name, [], []⟩
def dA_Web_length : He5.DefA := ⟨fun K => (ma K (ga K "Web") "length"), "length", "Web.length", defArgs s_Web_length, defBody s_Web_length, defScope s_Web_length, [], []⟩
def dA_Web_spots : He5.DefA := ⟨fun K => (He5.wf K (ga K "Web") "property" "spots"), "spots", "Web.spots", defArgs s_Web_spots, defBody s_Web_spots, defScope s_Web_spots, [], []⟩
def dA_Web_has_place : He5.DefA := ⟨fun K => (ma K (ga K "Web") "has_place"), "has_place", "Web.has_place", defArgs s_Web_has_place, defBody s_Web_has_place, defScope s_Web_has_place, [], []⟩
def dA_Web_told : He5.DefA := ⟨fun K => (ma K (ga K "Web") "told"), "told", "Web.told", defArgs s_Web_told, defBody s_Web_told, defScope s_Web_told, [], []⟩
def dA_Web_spot_of : He5.DefA := ⟨fun K => (ma K (ga K "Web") "spot_of"), "spot_of", "Web.spot_of", defArgs s_Web_spot_of, defBody s_Web_spot_of, defScope s_Web_spot_of, [], []⟩
def dA_Web_checked : He5.DefA := ⟨fun K => (ma K (ga K "Web") "checked"), "checked", "Web.checked", defArgs s_Web_checked, defBody s_Web_checked, defScope s_Web_checked, [], []⟩
def dA_Web_places : He5.DefA := ⟨fun K => (ma K (ga K "Web") "places"), "places", "Web.places", defArgs s_Web_places, defBody s_Web_places, defScope s_Web_places, [], []⟩
def dA_Web_board : He5.DefA := ⟨fun K => (He5.wf K (ga K "Web") "classmethod" "board"), "board", "Web.board", defArgs s_Web_board, defBody s_Web_board, defScope s_Web_board, [], []⟩
def dA__law_source : He5.DefA := ⟨fun K => (ga K "_law_source"), "_law_source", "_law_source", defArgs s__law_source, defBody s__law_source, defScope s__law_source, [], []⟩
def dA__law_take : He5.DefA := ⟨fun K => (ga K "_law_take"), "_law_take", "_law_take", defArgs s__law_take, defBody s__law_take, defScope s__law_take, [], []⟩
def dA__law_number : He5.DefA := ⟨fun K => (ga K "_law_number"), "_law_number", "_law_number", defArgs s__law_number, defBody s__law_number, defScope s__law_number, [], []⟩
def dA__law_drawn_rings : He5.DefA := ⟨fun K => (ga K "_law_drawn_rings"), "_law_drawn_rings", "_law_drawn_rings", defArgs s__law_drawn_rings, defBody s__law_drawn_rings, defScope s__law_drawn_rings, [], []⟩
def dA__law_drawn_meetings : He5.DefA := ⟨fun K => (ga K "_law_drawn_meetings"), "_law_drawn_meetings", "_law_drawn_meetings", defArgs s__law_drawn_meetings, defBody s__law_drawn_meetings, defScope s__law_drawn_meetings, [], []⟩
def dA__law_drawn_moves : He5.DefA := ⟨fun K => (ga K "_law_drawn_moves"), "_law_drawn_moves", "_law_drawn_moves", defArgs s__law_drawn_moves, defBody s__law_drawn_moves, defScope s__law_drawn_moves, [], []⟩
def dA__law_times_right : He5.DefA := ⟨fun K => (ga K "_law_times_right"), "_law_times_right", "_law_times_right", defArgs s__law_times_right, defBody s__law_times_right, defScope s__law_times_right, [], []⟩
def dA__law_back_right : He5.DefA := ⟨fun K => (ga K "_law_back_right"), "_law_back_right", "_law_back_right", defArgs s__law_back_right, defBody s__law_back_right, defScope s__law_back_right, [], []⟩
def dA_law : He5.DefA := ⟨fun K => (ga K "law"), "law", "law", defArgs s_law, defBody s_law, defScope s_law, [], []⟩
def fnL : List He5.DefA := [dA_common_divisor, dA_solution, dA_RunsU_initU, dA_Runs_stand, dA_Runs_ahead, dA_Runs_round_from, dA_Runs_lone_length, dA_Runs_lone_count, dA_Runs_strange_lengths, dA_after, dA_back, dA_rounds, dA_period, dA_FormU_initU, dA_Form_plain, dA_Form_goal, dA_Form_origin, dA_FormU_callU, dA_FormU_mulU, dA_Form_inverse, dA_told_goals, dA_form_of, dA_parting_spot, dA_alike, dA_ScriptU_initU, dA_is_name, dA_ring_fault, dA_meeting_fault, dA_in_order, dA_WebU_initU, dA_WebU_eqU, dA_Web_names, dA_Web_check_name, dA_Web_length, dA_Web_spots, dA_Web_has_place, dA_Web_told, dA_Web_spot_of, dA_Web_checked, dA_Web_places, dA_Web_board, dA__law_source, dA__law_take, dA__law_number, dA__law_drawn_rings, dA__law_drawn_meetings, dA__law_drawn_moves, dA__law_times_right, dA__law_back_right, dA_law]
def faL : List He.Fa := [.glo "common_divisor", .glo "solution", .meth "Runs" "stand", .meth "Runs" "ahead", .meth "Runs" "round_from", .meth "Runs" "lone_length", .meth "Runs" "lone_count", .meth "Runs" "strange_lengths", .glo "after", .glo "back", .glo "rounds", .glo "period", .meth "Form" "plain", .meth "Form" "goal", .meth "Form" "origin", .glo "told_goals", .glo "form_of", .glo "parting_spot", .glo "alike", .glo "is_name", .glo "ring_fault", .glo "meeting_fault", .glo "in_order", .meth "Web" "names", .meth "Web" "check_name", .meth "Web" "length", .meth "Web" "has_place", .meth "Web" "told", .meth "Web" "spot_of", .meth "Web" "checked", .meth "Web" "places", .glo "_law_source", .glo "_law_take", .glo "_law_number", .glo "_law_drawn_rings", .glo "_law_drawn_meetings", .glo "_law_drawn_moves", .glo "_law_times_right", .glo "_law_back_right", .glo "law", .glo "Web", .cls "Web", .mkr "Web", .noat "Web" "rings", .noat "Web" "joints", .noat "Web" "lengths", .noat "Web" "steps", .noat "Web" "mates", .glo "Form", .cls "Form", .mkr "Form", .noat "Form" "web", .noat "Form" "pushes", .noat "Form" "goals", .noat "Form" "origins", .glo "Runs", .cls "Runs", .mkr "Runs", .noat "Runs" "form", .noat "Runs" "lanes", .noat "Runs" "marks", .glo "Script", .cls "Script", .mkr "Script", .noat "Script" "web", .noat "Script" "turns", .free "len", .free "sum", .free "abs", .free "min", .free "all", .free "isinstance", .free "sorted", .free "int", .free "tuple", .free "dict", .free "list", .free "range", .free "enumerate", .int "MOST_RINGS" 12, .int "LONGEST_NAME" 8, .str "SMALL" "abcdefghijklmnopqrstuvwxyz", .str "FIGURES" "0123456789"]
def ownL (K : PySem.W.Frag) : List Bool := [propB K "Form" "inverse", propB K "Web" "spots", callB K "Form", readB K "Web", cmB K "Web" "board", PySem.W.selfFirst K (ga K "Form"), eqO (PySem.W.findIn K (.ref (ga K "Form")) "__mul__") (some (some (.ref (ma K (ga K "Form") "__mul__")))), PySem.W.isFn K (.ref (ma K (ga K "Form") "__mul__")), decide (PySem.W.mroIn K (ga K "Web") (.type "object") = some true), eqO (PySem.W.findIn K (.ref (ga K "Web")) "__eq__") (some (some (.ref (ma K (ga K "Web") "__eq__")))), eqO (PySem.W.findIn K (.ref (ga K "Web")) "__ne__") (some (some (.builtin "object.__ne__"))), PySem.W.isFn K (.ref (ma K (ga K "Web") "__eq__")), eqO (PySem.W.findIn K (.ref (ga K "Web")) "__class__") (some (some (.builtin "object.__class__"))), eqO (PySem.W.specialIn K (.builtin "object.__class__") "__get__") (some (some (.builtin "getset_descriptor.__get__"))), decide (PySem.W.takesIn K (.builtin "object.__class__") = some true), decide (PySem.W.kitOne K (.ref (ga K "Web")) (.ref (ga K "Web")) = some true)]
def ownB (K : PySem.W.Frag) : Bool := (ownL K).all fun b => b
theorem own_at {K : PySem.W.Frag} (o : ownB K = true) (i : Nat) {b : Bool} (h : (ownL K)[i]? = some b) : b = true := List.all_eq_true.mp o b (List.mem_of_getElem? h)
theorem tx_of {K : PySem.W.Frag} {h : Heap} {mg : Str → Option Value} (X : K.In h) (G : h.Ns mainGlobals mg) (c : He5.SaysA faL fnL K) (o : ownB K = true) : Tx K mg where
  d_common_divisor := c.def_ 0 (d := dA_common_divisor) rfl
  g_common_divisor := glo_ok X G (c.fact 0 (f := .glo "common_divisor") rfl)
  d_solution := c.def_ 1 (d := dA_solution) rfl
  g_solution := glo_ok X G (c.fact 1 (f := .glo "solution") rfl)
  d_RunsU_initU := c.def_ 2 (d := dA_RunsU_initU) rfl
  d_Runs_stand := c.def_ 3 (d := dA_Runs_stand) rfl
  m_Runs_stand := meth_ok (c.fact 2 (f := .meth "Runs" "stand") rfl)
  d_Runs_ahead := c.def_ 4 (d := dA_Runs_ahead) rfl
  m_Runs_ahead := meth_ok (c.fact 3 (f := .meth "Runs" "ahead") rfl)
  d_Runs_round_from := c.def_ 5 (d := dA_Runs_round_from) rfl
  m_Runs_round_from := meth_ok (c.fact 4 (f := .meth "Runs" "round_from") rfl)
  d_Runs_lone_length := c.def_ 6 (d := dA_Runs_lone_length) rfl
  m_Runs_lone_length := meth_ok (c.fact 5 (f := .meth "Runs" "lone_length") rfl)
  d_Runs_lone_count := c.def_ 7 (d := dA_Runs_lone_count) rfl
  m_Runs_lone_count := meth_ok (c.fact 6 (f := .meth "Runs" "lone_count") rfl)
  d_Runs_strange_lengths := c.def_ 8 (d := dA_Runs_strange_lengths) rfl
  m_Runs_strange_lengths := meth_ok (c.fact 7 (f := .meth "Runs" "strange_lengths") rfl)
  d_after := c.def_ 9 (d := dA_after) rfl
  g_after := glo_ok X G (c.fact 8 (f := .glo "after") rfl)
  d_back := c.def_ 10 (d := dA_back) rfl
  g_back := glo_ok X G (c.fact 9 (f := .glo "back") rfl)
  d_rounds := c.def_ 11 (d := dA_rounds) rfl
  g_rounds := glo_ok X G (c.fact 10 (f := .glo "rounds") rfl)
  d_period := c.def_ 12 (d := dA_period) rfl
  g_period := glo_ok X G (c.fact 11 (f := .glo "period") rfl)
  d_FormU_initU := c.def_ 13 (d := dA_FormU_initU) rfl
  d_Form_plain := c.def_ 14 (d := dA_Form_plain) rfl
  m_Form_plain := meth_ok (c.fact 12 (f := .meth "Form" "plain") rfl)
  d_Form_goal := c.def_ 15 (d := dA_Form_goal) rfl
  m_Form_goal := meth_ok (c.fact 13 (f := .meth "Form" "goal") rfl)
  d_Form_origin := c.def_ 16 (d := dA_Form_origin) rfl
  m_Form_origin := meth_ok (c.fact 14 (f := .meth "Form" "origin") rfl)
  d_FormU_callU := c.def_ 17 (d := dA_FormU_callU) rfl
  d_FormU_mulU := c.def_ 18 (d := dA_FormU_mulU) rfl
  d_Form_inverse := c.def_ 19 (d := dA_Form_inverse) rfl
  d_told_goals := c.def_ 20 (d := dA_told_goals) rfl
  g_told_goals := glo_ok X G (c.fact 15 (f := .glo "told_goals") rfl)
  d_form_of := c.def_ 21 (d := dA_form_of) rfl
  g_form_of := glo_ok X G (c.fact 16 (f := .glo "form_of") rfl)
  d_parting_spot := c.def_ 22 (d := dA_parting_spot) rfl
  g_parting_spot := glo_ok X G (c.fact 17 (f := .glo "parting_spot") rfl)
  d_alike := c.def_ 23 (d := dA_alike) rfl
  g_alike := glo_ok X G (c.fact 18 (f := .glo "alike") rfl)
  d_ScriptU_initU := c.def_ 24 (d := dA_ScriptU_initU) rfl
  d_is_name := c.def_ 25 (d := dA_is_name) rfl
  g_is_name := glo_ok X G (c.fact 19 (f := .glo "is_name") rfl)
  d_ring_fault := c.def_ 26 (d := dA_ring_fault) rfl
  g_ring_fault := glo_ok X G (c.fact 20 (f := .glo "ring_fault") rfl)
  d_meeting_fault := c.def_ 27 (d := dA_meeting_fault) rfl
  g_meeting_fault := glo_ok X G (c.fact 21 (f := .glo "meeting_fault") rfl)
  d_in_order := c.def_ 28 (d := dA_in_order) rfl
  g_in_order := glo_ok X G (c.fact 22 (f := .glo "in_order") rfl)
  d_WebU_initU := c.def_ 29 (d := dA_WebU_initU) rfl
  d_WebU_eqU := c.def_ 30 (d := dA_WebU_eqU) rfl
  d_Web_names := c.def_ 31 (d := dA_Web_names) rfl
  m_Web_names := meth_ok (c.fact 23 (f := .meth "Web" "names") rfl)
  d_Web_check_name := c.def_ 32 (d := dA_Web_check_name) rfl
  m_Web_check_name := meth_ok (c.fact 24 (f := .meth "Web" "check_name") rfl)
  d_Web_length := c.def_ 33 (d := dA_Web_length) rfl
  m_Web_length := meth_ok (c.fact 25 (f := .meth "Web" "length") rfl)
  d_Web_spots := c.def_ 34 (d := dA_Web_spots) rfl
  d_Web_has_place := c.def_ 35 (d := dA_Web_has_place) rfl
  m_Web_has_place := meth_ok (c.fact 26 (f := .meth "Web" "has_place") rfl)
  d_Web_told := c.def_ 36 (d := dA_Web_told) rfl
  m_Web_told := meth_ok (c.fact 27 (f := .meth "Web" "told") rfl)
  d_Web_spot_of := c.def_ 37 (d := dA_Web_spot_of) rfl
  m_Web_spot_of := meth_ok (c.fact 28 (f := .meth "Web" "spot_of") rfl)
  d_Web_checked := c.def_ 38 (d := dA_Web_checked) rfl
  m_Web_checked := meth_ok (c.fact 29 (f := .meth "Web" "checked") rfl)
  d_Web_places := c.def_ 39 (d := dA_Web_places) rfl
  m_Web_places := meth_ok (c.fact 30 (f := .meth "Web" "places") rfl)
  d_Web_board := c.def_ 40 (d := dA_Web_board) rfl
  d__law_source := c.def_ 41 (d := dA__law_source) rfl
  g__law_source := glo_ok X G (c.fact 31 (f := .glo "_law_source") rfl)
  d__law_take := c.def_ 42 (d := dA__law_take) rfl
  g__law_take := glo_ok X G (c.fact 32 (f := .glo "_law_take") rfl)
  d__law_number := c.def_ 43 (d := dA__law_number) rfl
  g__law_number := glo_ok X G (c.fact 33 (f := .glo "_law_number") rfl)
  d__law_drawn_rings := c.def_ 44 (d := dA__law_drawn_rings) rfl
  g__law_drawn_rings := glo_ok X G (c.fact 34 (f := .glo "_law_drawn_rings") rfl)
  d__law_drawn_meetings := c.def_ 45 (d := dA__law_drawn_meetings) rfl
  g__law_drawn_meetings := glo_ok X G (c.fact 35 (f := .glo "_law_drawn_meetings") rfl)
  d__law_drawn_moves := c.def_ 46 (d := dA__law_drawn_moves) rfl
  g__law_drawn_moves := glo_ok X G (c.fact 36 (f := .glo "_law_drawn_moves") rfl)
  d__law_times_right := c.def_ 47 (d := dA__law_times_right) rfl
  g__law_times_right := glo_ok X G (c.fact 37 (f := .glo "_law_times_right") rfl)
  d__law_back_right := c.def_ 48 (d := dA__law_back_right) rfl
  g__law_back_right := glo_ok X G (c.fact 38 (f := .glo "_law_back_right") rfl)
  d_law := c.def_ 49 (d := dA_law) rfl
  g_law := glo_ok X G (c.fact 39 (f := .glo "law") rfl)
  g_Web := glo_ok X G (c.fact 40 (f := .glo "Web") rfl)
  c_Web := cls_ok (c.fact 41 (f := .cls "Web") rfl)
  k_Web := mkr_ok (c.fact 42 (f := .mkr "Web") rfl)
  n_Web_rings := noat_ok (c.fact 43 (f := .noat "Web" "rings") rfl)
  n_Web_joints := noat_ok (c.fact 44 (f := .noat "Web" "joints") rfl)
  n_Web_lengths := noat_ok (c.fact 45 (f := .noat "Web" "lengths") rfl)
  n_Web_steps := noat_ok (c.fact 46 (f := .noat "Web" "steps") rfl)
  n_Web_mates := noat_ok (c.fact 47 (f := .noat "Web" "mates") rfl)
  g_Form := glo_ok X G (c.fact 48 (f := .glo "Form") rfl)
  c_Form := cls_ok (c.fact 49 (f := .cls "Form") rfl)
  k_Form := mkr_ok (c.fact 50 (f := .mkr "Form") rfl)
  n_Form_web := noat_ok (c.fact 51 (f := .noat "Form" "web") rfl)
  n_Form_pushes := noat_ok (c.fact 52 (f := .noat "Form" "pushes") rfl)
  n_Form_goals := noat_ok (c.fact 53 (f := .noat "Form" "goals") rfl)
  n_Form_origins := noat_ok (c.fact 54 (f := .noat "Form" "origins") rfl)
  g_Runs := glo_ok X G (c.fact 55 (f := .glo "Runs") rfl)
  c_Runs := cls_ok (c.fact 56 (f := .cls "Runs") rfl)
  k_Runs := mkr_ok (c.fact 57 (f := .mkr "Runs") rfl)
  n_Runs_form := noat_ok (c.fact 58 (f := .noat "Runs" "form") rfl)
  n_Runs_lanes := noat_ok (c.fact 59 (f := .noat "Runs" "lanes") rfl)
  n_Runs_marks := noat_ok (c.fact 60 (f := .noat "Runs" "marks") rfl)
  g_Script := glo_ok X G (c.fact 61 (f := .glo "Script") rfl)
  c_Script := cls_ok (c.fact 62 (f := .cls "Script") rfl)
  k_Script := mkr_ok (c.fact 63 (f := .mkr "Script") rfl)
  n_Script_web := noat_ok (c.fact 64 (f := .noat "Script" "web") rfl)
  n_Script_turns := noat_ok (c.fact 65 (f := .noat "Script" "turns") rfl)
  f_len := free_ok X G (c.fact 66 (f := .free "len") rfl)
  f_sum := free_ok X G (c.fact 67 (f := .free "sum") rfl)
  f_abs := free_ok X G (c.fact 68 (f := .free "abs") rfl)
  f_min := free_ok X G (c.fact 69 (f := .free "min") rfl)
  f_all := free_ok X G (c.fact 70 (f := .free "all") rfl)
  f_isinstance := free_ok X G (c.fact 71 (f := .free "isinstance") rfl)
  f_sorted := free_ok X G (c.fact 72 (f := .free "sorted") rfl)
  f_int := free_ok X G (c.fact 73 (f := .free "int") rfl)
  f_tuple := free_ok X G (c.fact 74 (f := .free "tuple") rfl)
  f_dict := free_ok X G (c.fact 75 (f := .free "dict") rfl)
  f_list := free_ok X G (c.fact 76 (f := .free "list") rfl)
  f_range := free_ok X G (c.fact 77 (f := .free "range") rfl)
  f_enumerate := free_ok X G (c.fact 78 (f := .free "enumerate") rfl)
  v_MOST_RINGS := int_ok X G (c.fact 79 (f := .int "MOST_RINGS" 12) rfl)
  v_LONGEST_NAME := int_ok X G (c.fact 80 (f := .int "LONGEST_NAME" 8) rfl)
  v_SMALL := str_ok X G (c.fact 81 (f := .str "SMALL" "abcdefghijklmnopqrstuvwxyz") rfl)
  v_FIGURES := str_ok X G (c.fact 82 (f := .str "FIGURES" "0123456789") rfl)
  p_inverse := propB_ok (own_at o 0 (b := propB K "Form" "inverse") rfl)
  p_spots := propB_ok (own_at o 1 (b := propB K "Web" "spots") rfl)
  o_Form := callB_ok (own_at o 2 (b := callB K "Form") rfl)
  r_Web := readB_ok (own_at o 3 (b := readB K "Web") rfl)
  m_board := cmB_ok (own_at o 4 (b := cmB K "Web" "board") rfl)
  q_mul1 := id (own_at o 5 (b := PySem.W.selfFirst K (ga K "Form")) rfl)
  q_mul2 := eqO_ok (own_at o 6 (b := eqO (PySem.W.findIn K (.ref (ga K "Form")) "__mul__") (some (some (.ref (ma K (ga K "Form") "__mul__"))))) rfl)
  q_mul3 := id (own_at o 7 (b := PySem.W.isFn K (.ref (ma K (ga K "Form") "__mul__"))) rfl)
  q_obj := of_decide_eq_true (own_at o 8 (b := decide (PySem.W.mroIn K (ga K "Web") (.type "object") = some true)) rfl)
  q_eq := eqO_ok (own_at o 9 (b := eqO (PySem.W.findIn K (.ref (ga K "Web")) "__eq__") (some (some (.ref (ma K (ga K "Web") "__eq__"))))) rfl)
  q_ne := eqO_ok (own_at o 10 (b := eqO (PySem.W.findIn K (.ref (ga K "Web")) "__ne__") (some (some (.builtin "object.__ne__")))) rfl)
  q_isfn := id (own_at o 11 (b := PySem.W.isFn K (.ref (ma K (ga K "Web") "__eq__"))) rfl)
  q_cls1 := eqO_ok (own_at o 12 (b := eqO (PySem.W.findIn K (.ref (ga K "Web")) "__class__") (some (some (.builtin "object.__class__")))) rfl)
  q_cls2 := eqO_ok (own_at o 13 (b := eqO (PySem.W.specialIn K (.builtin "object.__class__") "__get__") (some (some (.builtin "getset_descriptor.__get__")))) rfl)
  q_cls3 := of_decide_eq_true (own_at o 14 (b := decide (PySem.W.takesIn K (.builtin "object.__class__") = some true)) rfl)
  q_kit := of_decide_eq_true (own_at o 15 (b := decide (PySem.W.kitOne K (.ref (ga K "Web")) (.ref (ga K "Web")) = some true)) rfl)
/-! ### what is looked at: the defs and classes by name, and what hangs on them -/
def refsK (o : Obj) : List Addr := match o.data with
  | .dict es _ => es.toList.flatMap fun e => refV e.val
  | .func fd => refV fd.code ++ refV fd.defaults
  | .cls cd => [cd.ns]
  | .fields vs => vs.toList.flatMap refV
  | _ => []
def stepK (g : Addr → Option Obj) (as : List Addr) : List Addr := as.flatMap fun a => match g a with
  | some o => refsK o
  | none => []
def fnames : List PySem.Str := (["common_divisor", "solution", "after", "back", "rounds", "period", "told_goals", "form_of", "parting_spot", "alike", "is_name", "ring_fault", "meeting_fault", "in_order", "_law_source", "_law_take", "_law_number", "_law_drawn_rings", "_law_drawn_meetings", "_law_drawn_moves", "_law_times_right", "_law_back_right", "law"] : List PySem.Str)
def cnames : List PySem.Str := ["Web", "Form", "Runs", "Script"]
def nsAll (g : Addr → Option Obj) (cs c1 c2 : List Addr) (c3 : List Addr) : List Addr := cs ++ (c1 ++ (c2 ++ (c3 ++ stepK g c3)))
def ns2 (g : Addr → Option Obj) (cs c1 c2 : List Addr) : List Addr := nsAll g cs c1 c2 (stepK g c2)
def ns1 (g : Addr → Option Obj) (cs c1 : List Addr) : List Addr := ns2 g cs c1 (stepK g c1)
def ns0 (g : Addr → Option Obj) (cs : List Addr) : List Addr := ns1 g cs (stepK g cs)
def fs0 (g : Addr → Option Obj) (fs : List Addr) : List Addr := fs ++ stepK g fs
def asX (g : Addr → Option Obj) : List Addr := [mainGlobals, PySem.cStatics] ++ (fs0 g (fnames.map (ga (frG g [mainGlobals]))) ++ ns0 g (cnames.map (ga (frG g [mainGlobals]))))
/-! ### the Hook -/
def obsX (K : PySem.W.Frag) : Bool × He.AlD := (ownB K, He5.obsA faL fnL K)
def obsXG (g : Addr → Option Obj) : Bool × He.AlD := obsX (frG g (asX g))
def hookX : PySem.W.Hook where
  α := Bool × He.AlD
  obs := fun s => obsXG s.heap.get?
  val := fun _ => (true, He5.valA fnL)
  says := fun _ h => ∃ K : PySem.W.Frag, K.In h ∧ obsX K = (true, He5.valA fnL)
  of := fun _ _ e => ⟨_, frG_in, e⟩
  keeps := fun _ _ _ ⟨K, hK, c⟩ k => ⟨K, PySem.W.Frag.In.keeps hK k, c⟩
theorem obsXG_eq {g : Addr → Option Obj} {s : Shared} (h : ∀ a, g a = s.heap.get? a) : obsXG g = hookX.obs s := by
  have e : g = s.heap.get? := funext h
  rw [e] <;> rfl
abbrev R : PySem.W.OpenRow := PySem.W.OpenLaw.row PySem.Challenge.rw_meetrings_k44_whole_rounds_of_led_forms
def loose : List PySem.Str := (["_wall", "common_divisor", "solution", "Runs", "after", "back", "rounds", "period", "RingError", "InvalidRing", "InvalidMeeting", "UnknownRing", "NameTaken", "InvalidPlace", "InvalidSpot", "InvalidNumber", "UnlikeWebs", "Form", "told_goals", "form_of", "plain_place", "parting_spot", "alike", "Script", "MOST_RINGS", "LONGEST_NAME", "SMALL", "FIGURES", "is_name", "ring_fault"] : List PySem.Str) ++ (["meeting_fault", "in_order", "Web", "_law_source", "_law_take", "_law_number", "_law_drawn_rings", "_law_drawn_meetings", "_law_drawn_moves", "_law_back", "_law_times_right", "_law_back_right"] : List PySem.Str)
def ob (s : PySem.W.SharedT) : Bool × He.AlD := obsXG (HandSHeadRun.getT s)
theorem ob_eq (s : PySem.W.SharedT) : ob s = hookX.obs s.abs := obsXG_eq (HandSHeadRun.getT_eq s)
end MR
namespace MR
open PySem PySem.Spec PyProof.Rows L2 He
theorem run (w : World) : HandSHeadRun.RunEq R (PySem.W.view R.prog [49]) hookX ob 30000 loose w := by
  intro os
  kernel_rfl
end MR
namespace MR
open PySem PySem.Spec PyProof.Rows L2 He
theorem law_facts {P : Program} {w : World} {K : PySem.W.Frag} {h : Heap} {mg : Str → Option Value} {f : Addr} (X : K.In h) (G : h.Ns mainGlobals mg) (hfa : mg ("law" : Str) = some (.ref f)) (c : obsX K = (true, He5.valA fnL)) :
    ∃ fd : FuncData, (∀ (s : Shared) (v : Value), BindsTo s fd ⟨[v], []⟩ [("_law_script", v)]) ∧ ∀ base : Heap, K.In base → base.Ns mainGlobals mg → FnOk P w K mg base CX0 12 f fd ["_law_script"] (spLaw K) := by
  have o : ownB K = true := congrArg (fun z : Bool × He.AlD => z.1) c
  have cs : He5.SaysA faL fnL K := congrArg (fun z : Bool × He.AlD => z.2) c
  have T : Tx K mg := tx_of X G cs o
  have e := hfa.symm.trans T.g_law
  cases e
  obtain ⟨fd, F⟩ := T.d_law
  have b := FunD.bindsA (ps := ["_law_script"]) F fun _ _ _ _ _ _ us hl => match us, hl with | [_], _ => rfl
  exact ⟨fd, fun s v => b s [v] rfl, fun base _ _ => ok_law T F⟩
end MR
open PySem PySem.W PySem.Calls PyProof.Rows
set_option maxRecDepth 100000 in
set_option maxHeartbeats 0 in
theorem PySem.Challenge.cw_meetrings_k44_whole_rounds_of_led_forms_holds : PySem.Challenge.rw_meetrings_k44_whole_rounds_of_led_forms.Holds := by
  w_on; o_law
  refine HandSHeadRun.head_any (r := OpenLaw.row PySem.Challenge.rw_meetrings_k44_whole_rounds_of_led_forms) (q := view (OpenLaw.row PySem.Challenge.rw_meetrings_k44_whole_rounds_of_led_forms).prog [49]) (H := MR.hookX) (ob := MR.ob) (M := 30000) (loose := MR.loose) (d := HandSHeadRun.topDef (OpenLaw.row PySem.Challenge.rw_meetrings_k44_whole_rounds_of_led_forms).prog 49) (kwd := []) MR.ob_eq
    (by kernel_rfl) (fun s => by kernel_rfl) MR.run (by kernel_rfl) (by kernel_rfl) (by kernel_rfl) (by rfl) (by first | assumption | decide +kernel) (by decide +kernel) ⟨rfl, rfl, rfl, rfl, rfl, by decide +kernel⟩ ?hw ?hc
  case hw => w_witness2
  case hc =>
    refine L2.walk_ofE (l := PySem.Challenge.rw_meetrings_k44_whole_rounds_of_led_forms) (n := 63) (k := 12) (x := "_law_script") (CX := L2.CX0) rfl (by decide) (by kernel_rfl) ⟨rfl, by decide, by decide⟩ ?F (fun _ _ _ _ z => z)
    intro w mg fa h Y G hmg0
    obtain ⟨K, KX, c⟩ := Y
    have hmg : mg ("law" : PySem.Str) = some (.ref fa) := by
      have e : (HandSHeadRun.topDef (OpenLaw.row PySem.Challenge.rw_meetrings_k44_whole_rounds_of_led_forms).prog 49).name = ("law" : PySem.Str) := by kernel_rfl
      rw [← e]
      exact hmg0
    obtain ⟨fd, hb, hF⟩ := MR.law_facts (P := (PySem.Challenge.rw_meetrings_k44_whole_rounds_of_led_forms).prog) (w := w) KX G hmg c
    exact ⟨K, fd, MR.spLaw K, KX, hb, fun H a ns hl _ hS => ⟨a, ns, rfl, hS, fun _ => rfl⟩, hF⟩
