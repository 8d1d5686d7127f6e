import PyProof.Rows.All
import Wide.All
import OpenK.AllK
import Wide.FinOn
import HandS.ForMost
import HandS.More
import HandS.SortInts
import HandS.IsInst
import HandS.Style
import PySem.Challenge.RW_onestaff_k14_whole_never_clear_too_soon
set_option Elab.async false
set_option maxRecDepth 100000
set_option maxHeartbeats 16000000
namespace Sf
open PySem PySem.Spec PyProof.Rows L2

/-! ### rules that the layer has not: d.update(e), sorted(d) at any length, repr of a list of a bool and an int -/
def rUpd : V → List V → Hp → VK → Prop := fun x xs H Q =>
  ∃ (d e : Addr) (kvs more : List (Key × V)), x = .ref d ∧ xs = [.ref e] ∧ d ≠ e ∧ H d = some (.dK kvs) ∧ H e = some (.dK more) ∧
    kvs.length + more.length ≤ sizeLine ∧ Q .non (upd H d (.dK (mergeK kvs more)))
theorem mt_upd {X : Cx} : MtR X "dict.update" rUpd := by
  intro pins s st H x xs v us Q I rx rxs h
  obtain ⟨d, e, kvs, more, rfl, rfl, hne, hd, he, hz, q⟩ := h
  cases rx
  obtain ⟨u, rfl, ru⟩ := rxs.one
  cases ru
  obtain ⟨z1, y1, vs, r1, d1⟩ := dk_of I.hok hd
  obtain ⟨z2, y2, ws, r2, d2⟩ := dk_of I.hok he
  have hsum : vs.length + ws.length ≤ sizeLine := by
    rw [← r1.length, ← r2.length]; exact hz
  refine call_meetsIn PySem.F.slot_dict_update d1.typeIs PySem.F.entry_dict_update (PySem.F.args_dict_update_2 _ _)
    (meets_dict_update (mixKind X.prog X.w) d e hne y2) ⟨vs, ws, d1, d2, hsum, fun g dg eg hs => ?_⟩
  have hg : ∃ q, g.get? d = some q := by
    obtain ⟨q, _, _, hq, _⟩ := dg
    exact ⟨q, hq⟩
  have hlen : (mergeK kvs more).length ≤ sizeLine := Nat.le_trans (length_mergeK more kvs) hz
  exact ⟨.non, _, d_write (t' := s.toks) I (by rw [hd]; trivial) hs hg (dk_new hlen y1 (r2.merge r1) dg), rfl, q⟩

/-- sorted(d): the keys are intsA, of any number -/
def rSortD : List V → Hp → VK → Prop := fun xs H Q =>
  ∃ (d : Addr) (kvs : List (Key × V)) (ks : List Int), xs = [.ref d] ∧ H d = some (.dK kvs) ∧ kvs.map (fun kv => kv.1) = ks.map Sum.inl ∧
    ∀ (zs : List Int) (p : Addr), zs.Perm ks → zs.Pairwise (fun i j => i ≤ j) → H p = none → Q (.ref p) (upd H p (.lst (zs.map V.int)))
theorem cr_sortD {X : Cx} (calm : X.calm = true) : CallR X (.builtin "sorted") rSortD := by
  intro pins s st H xs us Q I rel h
  obtain ⟨d, kvs, ks, rfl, hd, hk, q⟩ := h
  obtain ⟨u, rfl, ru⟩ := vals1 rel
  cases ru
  obtain ⟨hz, hsys, ws, kv, dict⟩ := dk_of I.hok hd
  obtain ⟨ep, dat⟩ := dict.dictAt
  have same : ws.map (fun p => p.1) = ks.map Sum.inl := kv.keys.symm.trans hk
  have len : ws.length = ks.length := by
    have := congrArg List.length same
    simpa using this
  have small : ws.length ≤ sizeLine := by
    rw [← kv.length]; exact hz
  refine Calls.call_function_entry kind_sorted plain_sorted entry_sorted (args_sorted1 _) ?_
  unfold Builtin.«sorted»
  refine wpAny_bind (m := checkCount "sorted" 1 1 _) (wpAny_pure ?_)
  refine wpAny_bind (PySem.W.kdu_collect (A := X.A.in1) (PySem.W.kdl_dict (knd := mixKind X.prog X.w) (kvs := ws) (ep := ep) hsys)
    (I.ok.hd calm) dat small fun g tk got stay items => ?_)
  have glen : got.toList.length = ks.length := by
    rw [Array.length_toList, items.1, len]
  have intsA : IntsAre got.toList ks := ints_each glen fun j v e => by
    obtain ⟨k, x, e1, e2⟩ := items.2 j v (by rw [← Array.getElem?_toList]; exact e)
    have e3 : (ws.map (fun p => p.1))[j]? = some k := by
      rw [List.getElem?_map, e1]; rfl
    rw [same, List.getElem?_map] at e3
    cases e4 : ks[j]? with
    | none =>
      rw [e4] at e3; cases e3
    | some y =>
      rw [e4] at e3
      cases (Option.some.inj e3 : Sum.inl y = k)
      rcases keyIs_shape (k := Sum.inl y) (v := v) e2 with ⟨i, t, ek, ev⟩ | ⟨z, t, ek, ev⟩
      · cases ek
        exact ⟨y, t, rfl, ev⟩
      · cases ek
  have I1 : Inv X pins st H { s with heap := g, toks := tk } := I.kept stay
  have fit : got.toList.length ≤ sizeLine := by
    rw [glen, ← len]; exact small
  refine wpAny_bind (wpAny_newList ?_ fit)
  have new : (g.push (seqObj "list" got.toList.toArray 0)).get? g.objs.size = some (seqObj "list" got.toList.toArray 0) :=
    Heap.get?_push_size _ rfl
  show wpAny _ _ _ _ _ { s with heap := g.push (seqObj "list" got.toList.toArray 0), toks := tk }
  refine wpAny_bind (wpAny_holding (wpAny_call_entry slot_list_sort ⟨_, new, rfl⟩ entry_list_sort
    (SrtO.list_sort_ord SrtO.swo_int (s := { s with heap := g.push (seqObj "list" got.toList.toArray 0), toks := tk }) new fit
      (fun h2 => SrtO.ints_sortable intsA h2) fun out h1 h2 => ⟨.none, rfl, ?_⟩) (args_list_sort _)))
  obtain ⟨k1, k2, k3⟩ := SrtO.ints_out intsA h1 h2
  obtain ⟨e', he'⟩ := sortedHeap_at (vs := got.toList) (out := out.toArray) new
  have hlen : ((out.map SrtO.iv).map V.int).length ≤ sizeLine := by
    rw [List.length_map, k2.length_eq, ← len]; exact small
  refine wpAny_pure ⟨_, rfl, .ref g.objs.size, upd H g.objs.size (.lst ((out.map SrtO.iv).map V.int)), I1.laid (t' := tk) (fun b o e => ?_) (Nat.le_refl _)
    ⟨hlen, out, e', vals_of_ints k1, he'⟩, rfl, q _ _ k2 k3 (I1.hok.fresh (Nat.le_refl _))⟩
  have hb : b < g.objs.size := Heap.lt_size e
  rw [sortedHeap_old (Nat.ne_of_lt hb) (by rw [size_push']; exact Nat.lt_succ_of_lt hb)]
  exact Heap.get?_push_of_some _ e

/-- the text of [b, n] -/
def txtBN (b : Bool) (n : Int) : Str := (PyData.list [.bool b, .int n]).shown
theorem log2_small {n : Int} (h0 : 0 ≤ n) (h1 : n ≤ 1000) : n.natAbs.log2 < 1920 := by
  have h : n.natAbs < 2 ^ 10 := by omega
  by_cases z : n.natAbs = 0
  · rw [z]; decide
  · have := (Nat.log2_lt z).mpr h
    omega
theorem txtBN_small (b : Bool) {n : Int} (h0 : 0 ≤ n) (h1 : n ≤ 1000) : (txtBN b n).length ≤ sizeLine := by
  have e : ∀ c : Bool, ∀ k : Fin 1001, (txtBN c (k.val : Int)).length ≤ 100 := by decide +kernel
  have h2 : n.toNat < 1001 := by omega
  have h3 := e b ⟨n.toNat, h2⟩
  have h4 : ((n.toNat : Nat) : Int) = n := by omega
  have h5 : (txtBN b n).length ≤ 100 := by
    rw [← h4]; exact h3
  exact Nat.le_trans h5 (by decide)
def rRepr : List V → Hp → VK → Prop := fun xs H Q =>
  ∃ (a : Addr) (b : Bool) (n : Int), xs = [.ref a] ∧ H a = some (.lst [.bl b, .int n]) ∧ 0 ≤ n ∧ n ≤ 1000 ∧ Q (.str (txtBN b n)) H
theorem cr_repr {X : Cx} (hg : X.A.guards = some []) (hu : X.A.units + 64 < cLine) : CallR X (.builtin "repr") rRepr := by
  intro pins s st H xs us Q I rel h
  obtain ⟨a, b, n, rfl, ha, h0, h1, q⟩ := h
  obtain ⟨u, rfl, ru⟩ := vals1 rel
  have dp : Dp X.K H (.ref a) (.list [.bool b, .int n]) := .lst (SqL.of ha) (.cons (.bl b) (.cons (.int n) .nil))
  obtain ⟨as, rd⟩ := Dp.reads I _ _ u dp ru
  cases ru
  refine repr_of_reads' (h₀ := s.heap) rd ?_ (fun z => ?_) hg ?_ (fun _ _ e => e) (fun g t tk stay => ?_) (txtBN_small b h0 h1)
  · have := log2_small h0 h1
    simp [PyData.showable, PyData.showableAll, this]
  · simp [PyData.hasDict, PyData.hasDictAll] at z
  · show X.A.units + (max 0 (max 0 0) + 1 + 1) < cLine
    omega
  · exact ⟨.str _, H, I.kept stay, ⟨t, rfl⟩, q⟩
end Sf

namespace Sf
open PySem PySem.Spec PyProof.Rows L2

/-! ### the law's own call, at the one around that the head gives (the promise of `law` speaks of no other: repr of a list asks which reprs run around it) -/
/-- the promise of the law at its entry -/
def LawAt (P : Program) (w : World) (K : PySem.W.Frag) (mg : Str → Option Value) (base : Heap) (fa : Addr) : Prop :=
  ∀ (s : Shared) (H : Hp) (a : Addr) (ns : List Int), Env0 P w K mg base callerA [] s H → SqL K H a (ns.map V.int) → ns.length ≤ 63 →
    codeAny (model P w) callerA (.call (.ref fa) ⟨[.ref a], []⟩) (CR CX0 [] P w H s (fun v _ => v = .bl true) E0) s

/-- a def runs by its body's reading, at one around A -/
theorem run_body {P : Program} {w : World} {K : PySem.W.Frag} {mg : Str → Option Value} {base : Heap} {A : Around} {x qual : Str} {st : Stmt} {f : Addr} {fd : FuncData} {N ps : List Str}
    {outer : List Env} {s : Shared} {H : Hp} {args : Args} {us : List Value} {vs : List V} {Q : VK} {E : XK}
    (F : Fun K x qual st f fd) (S : FnScope N ps (defScope st)) (calm : A.handled = none) (deep : A.depth < recursionLimit) (e0 : Env0 P w K mg base A outer s H)
    (hb : BindsTo s fd args (ps.zip us)) (hv : Vals vs us) (hl : vs.length = ps.length)
    (go : ∀ cdv : Value, ∃ t, PSs (cxOf CX0 P w K mg base N qual (defScope st) f cdv A outer s H E).nox (defBody st) t ∧
      t { nx := fun _ H' => Q .non H', rt := Q } (start N vs) H) :
    codeAny (model P w) A (.call (.ref f) args) (CR CX0 outer P w H s Q E) s := by
  obtain ⟨oc, od, kV, doc, pm, an, cdv, ct, osl, rfl, lk, hcd⟩ := F.ex
  have KX : K.In s.heap := e0.mod.kin.keeps fun b o e => (e0.bs b o e).1
  have lim : s.heap.NoLimit := e0.mod.nolimit.keeps fun b o e => (e0.bs b o e).1
  have kinds : ((ps.zip us).all fun y => (defScope st).names.lookup y.1 == some .local || (defScope st).names.lookup y.1 == some .cell) = true := by
    rw [List.all_eq_true]
    rintro ⟨n, v⟩ hy
    rcases S.par n (List.of_mem_zip hy).1 with q | q <;> simp [q]
  refine Att.call_fn KX lim lk hcd deep hb kinds (fun s1 inc => ?_) S.co S.gen S.kind
  obtain ⟨t, ht, hq⟩ := go cdv
  have I := inv_start (E := E) (CX := CX0) S calm e0 hl hv inc
  refine wpAny_mono (ht.nox.run [] s1 (start N vs) H _ I hq) (fun fl s' hs => ?_) fun _ _ z => z
  match fl, hs with
  | .ret u, ⟨v, st', H', J, rv, q⟩ => exact ⟨v, H', J.os, J.bare, J.base, J.hok, rv, q⟩
  | .next, ⟨st', H', J, q⟩ => exact ⟨.non, H', J.os, J.bare, J.base, J.hok, rfl, q⟩
  | .brk, ⟨_, _, _, q⟩ => exact q.elim
  | .cont, ⟨_, _, _, q⟩ => exact q.elim

/-- the script's list as the law finds it: a thing of the written part, or one that is tracked and locked -/
def scriptH (K : PySem.W.Frag) (a : Addr) (o : Obj) (u : HO) : Hp := fun b =>
  if b = a ∧ K.lookup a = none then some (.frz o u) else none

theorem law_go {P : Program} {w : World} {K : PySem.W.Frag} {mg mb : Str → Option Value} {fa a : Addr} {s : Shared} {vs : List Value} {ns : List Int}
    (KX : K.In s.heap) (gl : s.heap.Ns mainGlobals mg) (bl : s.heap.Ns builtinsNs mb) (bb : ∀ x : Str, x ≠ "__name__" → mb x = bootBuiltins x) (lim : s.heap.NoLimit) (gens : s.gens = #[])
    (ha : s.heap.get? a = some { cls := .type "list", data := .seq vs.toArray }) (hi : IntsAre vs ns) (h63 : ns.length ≤ 63)
    (L : ∀ base : Heap, K.In base → base.Ns mainGlobals mg → LawAt P w K mg base fa) :
    codeAny (model P w) callerA (.call (.ref fa) ⟨[.ref a], []⟩)
      (fun r s' => r = .ok (.ret (.bool true)) ∧ OldK s.heap s'.heap ∧ s'.os = s.os ∧ AllBare s'.gens) s := by
  have rv := vals_ints hi
  have lv : vs.length = ns.length := hi.length
  have line : (ns.map V.int).length ≤ sizeLine := by
    rw [List.length_map]
    exact Nat.le_trans h63 (by decide)
  generalize hH : scriptH K a { cls := .type "list", data := .seq vs.toArray } (.lst (ns.map V.int)) = H
  have at_ : ∀ b u, H b = some u → b = a ∧ K.lookup a = none ∧ u = .frz { cls := .type "list", data := .seq vs.toArray } (.lst (ns.map V.int)) := fun b u e => by
    subst hH
    unfold scriptH at e
    split at e
    · rename_i c
      exact ⟨c.1, c.2, (Option.some.inj e).symm⟩
    · cases e
  have sq : SqL K H a (ns.map V.int) := by
    cases k : K.lookup a with
    | none =>
      refine .inl (.inr ⟨{ cls := .type "list", data := .seq vs.toArray }, ?_⟩)
      subst hH
      exact if_pos ⟨rfl, k⟩
    | some o =>
      have e := KX a o k
      rw [ha] at e
      cases e
      refine .inr ⟨_, vs.toArray, _, k, rfl, rfl, rfl, ?_, by simpa using rv⟩
      rw [List.size_toArray, lv]
      rw [List.length_map] at line
      exact line
  have ok : HOk P w H s.heap := fun b u e => by
    obtain ⟨rfl, _, rfl⟩ := at_ b u e
    exact ⟨ha, line, vs, _, rv, ha⟩
  have free : ∀ {b : Addr} {o : Obj} {es : Array DictEntry} {ep : Nat}, s.heap.get? b = some o → o.data = .dict es ep → H b = none := fun {b o es ep} e d => by
    cases q : H b with
    | none => rfl
    | some u =>
      obtain ⟨rfl, _, _⟩ := at_ b u q
      rw [ha] at e
      cases e
      cases d
  have nsB : ∀ {b : Addr} {m : Str → Option Value}, s.heap.Ns b m → (hidT s.heap H).Ns b m := fun {b m} h => by
    obtain ⟨o, es, ep, e, d, r⟩ := h
    exact ⟨o, es, ep, hidT_get e (free e d), d, r⟩
  have kB : K.In (hidT s.heap H) := fun b o e => hidT_get (KX b o e) (by
    cases q : H b with
    | none => rfl
    | some u =>
      obtain ⟨rfl, k, _⟩ := at_ b u q
      rw [k] at e
      cases e)
  have md : Mod K mg (hidT s.heap H) := by
    obtain ⟨mc, l1, l2⟩ := lim
    exact ⟨kB, nsB gl, ⟨mb, nsB bl, bb⟩, ⟨mc, nsB l1, l2⟩⟩
  have no : ∀ b : Addr, b ∉ frs [] := fun b z => by cases z
  have e0 : Env0 P w K mg (hidT s.heap H) callerA [] s H :=
    { frames := rfl, mod := md, bs := fun b o e => of_hidT e, bsz := Nat.le_of_eq (hidT_size _ _), funs := trivial, frf := fun b z => absurd z (no b), hok := ok, bare := .of_eq gens }
  refine codeAny_mono (L _ kB (nsB gl) s H a ns e0 sq h63) fun r s' h => ?_
  match r, h with
  | .error _, z => exact z.elim
  | .ok .next, z => exact z.elim
  | .ok .brk, z => exact z.elim
  | .ok .cont, z => exact z.elim
  | .ok (.ret u), ⟨v, H', os, bare, un, hok', rvu, q⟩ =>
    subst q
    cases (rvu : u = Value.bool true)
    refine ⟨rfl, OldK.of_keep fun b o e => ?_, os, bare⟩
    cases q : H b with
    | none => exact un.keep b o e q (no b) (by simp)
    | some u =>
      obtain ⟨rfl, _, rfl⟩ := at_ b u q
      have z := hok' b _ (un.frzs b _ _ q)
      rw [ha] at e
      cases e
      exact z.1

theorem law_end {l : PySem.W.OpenLaw} {q : Program} {loose : List Str} {XP : (Str → Option Value) → Heap → Prop} {YP : World → Heap → Prop} {d : DefRec} {K : Params → PySem.W.Frag}
    (hn : l.most = some 63) (hdf : d.params.defaults = []) (hY : ∀ (w : World) (h : Heap), YP w h → (K w.params).In h)
    (F : ∀ (w : World) (mg : Str → Option Value) (fa : Addr) (h : Heap), (K w.params).In h → h.Ns mainGlobals mg → mg d.name = some (.ref fa) →
      ∀ base : Heap, (K w.params).In base → base.Ns mainGlobals mg → LawAt l.prog w (K w.params) mg base fa) :
    PySem.W.WalkO q loose XP YP l.row.toRowW d [] (fun f vs => PySem.call f vs) := by
  refine Att.attach_call hn hdf fun w s0 s1 mg mb fa o pm cd doc a vs ns G Y ho hd hcd hmg hobj hints hlen hgens => ?_
  have KX := hY w _ Y
  exact law_go KX G.T.g G.T.b G.T.builtins G.T.nolimit hgens hobj hints hlen (F w mg fa _ KX G.T.g hmg)
end Sf

namespace Sf
open PySem L2

/-! ### objects of two attributes -/
def f2 (x y : Str) (a b : V) : List (Str × V) := putF y b (putF x a [])
theorem f2_eq {x y : Str} (n : ¬ x = y) (a b : V) : f2 x y a b = [(x, a), (y, b)] := by
  show (if x = y then [(x, b)] else (x, a) :: putF y b []) = _
  rw [if_neg n]
  rfl
theorem f2_fst {x y : Str} (n : ¬ x = y) (a b : V) : (f2 x y a b).lookup x = some a := by
  unfold f2
  rw [lookup_putF, if_neg n, lookup_putF, if_pos rfl]
theorem f2_snd {x y : Str} (a b : V) : (f2 x y a b).lookup y = some b := by
  unfold f2
  rw [lookup_putF, if_pos rfl]
theorem f2_no {x y m : Str} (a b : V) (h1 : ¬ m = y) (h2 : ¬ m = x) : (f2 x y a b).lookup m = none := by
  unfold f2
  rw [lookup_putF, if_neg h1, lookup_putF, if_neg h2]
  rfl
theorem f2_put1 {x y : Str} (n : ¬ x = y) (a b c : V) : putF x c (f2 x y a b) = f2 x y c b := by
  rw [f2_eq n, f2_eq n]
  show (if x = x then (x, c) :: [(y, b)] else _) = _
  rw [if_pos rfl]
theorem f2_put2 {x y : Str} (n : ¬ x = y) (a b c : V) : putF y c (f2 x y a b) = f2 x y a c := by
  rw [f2_eq n, f2_eq n]
  show (if x = y then _ else (x, a) :: (if y = y then [(y, c)] else _)) = _
  rw [if_neg n, if_pos rfl]
theorem f2_few {x y : Str} (n : ¬ x = y) (a b : V) : (f2 x y a b).length < 1000 := by
  rw [f2_eq n]
  show 2 < 1000
  decide
/-- a Count: the last number, the number told through -/
def cf (l t : Int) : List (Str × V) := f2 "kept_last" "kept_told" (.int l) (.int t)
/-- a Wire: its dict, how many were sent -/
def wf (d : Addr) (n : Int) : List (Str × V) := f2 "kept_words" "kept_sent" (.ref d) (.int n)
theorem nlt : ¬ (("kept_last" : Str) = "kept_told") := by decide +kernel
theorem nws : ¬ (("kept_words" : Str) = "kept_sent") := by decide +kernel

/-! ### the state's dict -/
def kO : Key := .inr "out"
def kI : Key := .inr "in"
def kG : Key := .inr "got"
theorem nOI : ¬ kO = kI := by decide +kernel
theorem nOG : ¬ kO = kG := by decide +kernel
theorem nIG : ¬ kI = kG := by decide +kernel
def sk (o : Int) (i g : Bool) : List (Key × V) := [(kO, .int o), (kI, .bl i), (kG, .bl g)]
theorem sk_out (o : Int) (i g : Bool) : valV (sk o i g) kO = some (.int o) := valV_pos rfl
theorem sk_in (o : Int) (i g : Bool) : valV (sk o i g) kI = some (.bl i) := by
  unfold sk
  rw [valV_neg (show ¬ kO = kI from nOI)]
  exact valV_pos rfl
theorem sk_got (o : Int) (i g : Bool) : valV (sk o i g) kG = some (.bl g) := by
  unfold sk
  rw [valV_neg (show ¬ kO = kG from nOG), valV_neg (show ¬ kI = kG from nIG)]
  exact valV_pos rfl
theorem put_there {kvs : List (Key × V)} {k : Key} {w : V} (v : V) (h : valV kvs k = some w) : putK kvs k v = kvs.map (fun kv => if kv.1 = k then (kv.1, v) else kv) := by
  unfold putK
  rw [if_pos]
  rw [valV_any, h]
  rfl
theorem sk_put_out (o p : Int) (i g : Bool) : putK (sk o i g) kO (.int p) = sk p i g := by
  rw [put_there _ (sk_out o i g)]
  show [if kO = kO then (kO, V.int p) else _, if kI = kO then (kI, V.int p) else _, if kG = kO then (kG, V.int p) else _] = _
  rw [if_pos rfl, if_neg (fun e => nOI e.symm), if_neg (fun e => nOG e.symm)]
  rfl
theorem sk_put_in (o : Int) (i j g : Bool) : putK (sk o i g) kI (.bl j) = sk o j g := by
  rw [put_there _ (sk_in o i g)]
  show [if kO = kI then (kO, V.bl j) else _, if kI = kI then (kI, V.bl j) else _, if kG = kI then (kG, V.bl j) else _] = _
  rw [if_neg nOI, if_pos rfl, if_neg (fun e => nIG e.symm)]
  rfl
theorem sk_put_got (o : Int) (i g h : Bool) : putK (sk o i g) kG (.bl h) = sk o i h := by
  rw [put_there _ (sk_got o i g)]
  show [if kO = kG then (kO, V.bl h) else _, if kI = kG then (kI, V.bl h) else _, if kG = kG then (kG, V.bl h) else _] = _
  rw [if_neg nOG, if_neg nIG, if_pos rfl]
  rfl
theorem sk_merge (o p : Int) (i j g h : Bool) : mergeK (sk o i g) (sk p j h) = sk p j h := by
  show putK (putK (putK (sk o i g) kO (.int p)) kI (.bl j)) kG (.bl h) = _
  rw [sk_put_out, sk_put_in, sk_put_got]
theorem sk_new (o : Int) (i g : Bool) : mergeK [] (sk o i g) = sk o i g := by
  show putK (putK (putK [] kO (.int o)) kI (.bl i)) kG (.bl g) = _
  have e1 : putK [] kO (V.int o) = [(kO, V.int o)] := putK_new _ rfl
  rw [e1]
  have e2 : putK [(kO, V.int o)] kI (V.bl i) = [(kO, V.int o), (kI, V.bl i)] := putK_new _ (by rw [valV_neg (show ¬ kO = kI from nOI)]; rfl)
  rw [e2]
  exact putK_new _ (by rw [valV_neg (show ¬ kO = kG from nOG), valV_neg (show ¬ kI = kG from nIG)]; rfl)

/-! ### a dict whose keys are rising ints -/
/-- the pairs (number, train) of the words under way -/
abbrev Ws := List (Int × Int)
/-- the dict's entries are words: their addresses hold ('through', train) -/
abbrev WordsAt (H : Hp) : List (Key × V) → Ws → Prop :=
  Paired fun kv nm => ∃ a : Addr, kv = (Sum.inl nm.1, V.ref a) ∧ H a = some (.tup [.str "through", .int nm.2])
theorem WordsAt.mono {H H' : Hp} (h : ∀ a xs, H a = some (.tup xs) → H' a = some (.tup xs)) : ∀ {kvs : List (Key × V)} {ws : Ws}, WordsAt H kvs ws → WordsAt H' kvs ws
  | _, _, .nil => .nil
  | _, _, .cons ⟨a, e1, e2⟩ t => .cons ⟨a, e1, h _ _ e2⟩ (WordsAt.mono h t)
theorem WordsAt.keys {H : Hp} : ∀ {kvs : List (Key × V)} {ws : Ws}, WordsAt H kvs ws → kvs.map (fun kv => kv.1) = (ws.map (fun p => p.1)).map Sum.inl
  | _, _, .nil => rfl
  | _, _, .cons ⟨a, e1, _⟩ t => by
    subst e1
    rw [List.map_cons, List.map_cons, List.map_cons, WordsAt.keys t]
theorem WordsAt.get {H : Hp} : ∀ {kvs : List (Key × V)} {ws : Ws} {j : Nat} {nm : Int × Int}, WordsAt H kvs ws → ws[j]? = some nm → ∃ a : Addr, kvs[j]? = some (Sum.inl nm.1, V.ref a) ∧ H a = some (.tup [.str "through", .int nm.2])
  | _, _, j, nm, .nil, h => by simp at h
  | _, _, 0, nm, .cons ⟨a, e1, e2⟩ t, h => by
    simp at h
    subst h
    exact ⟨a, by simp [e1], e2⟩
  | _, _, j + 1, nm, .cons _ t, h => by
    obtain ⟨a, h1, h2⟩ := WordsAt.get (j := j) t (by simpa using h)
    exact ⟨a, by simpa using h1, h2⟩
theorem WordsAt.drop {H : Hp} (n : Int) : ∀ {kvs : List (Key × V)} {ws : Ws}, WordsAt H kvs ws → WordsAt H (dropK kvs (Sum.inl n)) (ws.filter fun p => decide (p.1 ≠ n))
  | _, _, .nil => .nil
  | _, _, .cons (b := nm) ⟨a, e1, e2⟩ t => by
    subst e1
    by_cases c : nm.1 = n
    · rw [dropK_pos (by rw [c]), List.filter_cons, if_neg (by simp [c])]
      exact WordsAt.drop n t
    · rw [dropK_neg (fun z => c (Sum.inl.inj z)), List.filter_cons, if_pos (by simp [c])]
      exact .cons ⟨a, rfl, e2⟩ (WordsAt.drop n t)
/-- the entry of a key that stands at a place, where all keys differ -/
theorem valV_at : ∀ {kvs : List (Key × V)} {j : Nat} {k : Key} {v : V}, (kvs.map (fun kv => kv.1)).Nodup → kvs[j]? = some (k, v) → valV kvs k = some v
  | [], j, k, v, _, h => by simp at h
  | p :: r, 0, k, v, _, h => by
    simp at h
    subst h
    exact valV_pos rfl
  | p :: r, j + 1, k, v, nd, h => by
    have nd' : (p.1 :: r.map (fun kv => kv.1)).Nodup := nd
    obtain ⟨h1, h2⟩ := List.nodup_cons.mp nd'
    have h' : r[j]? = some (k, v) := by simpa using h
    have hk : ¬ p.1 = k := fun e => h1 (List.mem_map.mpr ⟨(k, v), List.mem_of_getElem? h', e.symm⟩)
    rw [valV_neg hk]
    exact valV_at h2 h'
theorem valV_out : ∀ {kvs : List (Key × V)} {k : Key}, k ∉ kvs.map (fun kv => kv.1) → valV kvs k = none
  | [], _, _ => rfl
  | p :: r, k, h => by
    have h' : k ∉ p.1 :: r.map (fun kv => kv.1) := h
    rw [List.mem_cons, not_or] at h'
    rw [valV_neg (fun e => h'.1 e.symm)]
    exact valV_out h'.2
theorem rising_nodup {l : List Int} (h : l.Pairwise fun i j => i < j) : (l.map (Sum.inl : Int → Key)).Nodup := by
  refine List.Pairwise.map _ (fun _ _ hij e => ?_) h
  have q := Sum.inl.inj e
  omega
theorem rising_same {l z : List Int} (h : l.Pairwise fun i j => i < j) (p : z.Perm l) (hz : z.Pairwise fun i j => i ≤ j) : z = l :=
  PySem.W.ksm_same p hz (h.imp Int.le_of_lt)
/-- the tuples (number, word) that under_way makes, one for each entry -/
abbrev PairsAt (H : Hp) : List Addr → List (Key × V) → Prop := Paired fun t kv => H t = some (.tup [kV kv.1, kv.2])
theorem PairsAt.mono {H H' : Hp} (h : ∀ a xs, H a = some (.tup xs) → H' a = some (.tup xs)) : ∀ {ts : List Addr} {kvs : List (Key × V)}, PairsAt H ts kvs → PairsAt H' ts kvs
  | _, _, .nil => .nil
  | _, _, .cons e t => .cons (h _ _ e) (PairsAt.mono h t)
theorem PairsAt.get {H : Hp} : ∀ {ts : List Addr} {kvs : List (Key × V)} {j : Nat} {kv : Key × V}, PairsAt H ts kvs → kvs[j]? = some kv → ∃ t : Addr, ts[j]? = some t ∧ H t = some (.tup [kV kv.1, kv.2])
  | _, _, j, kv, .nil, h => by simp at h
  | _, _, 0, kv, .cons (a := t) e r, h => by
    simp at h
    subst h
    exact ⟨t, by simp, e⟩
  | _, _, j + 1, kv, .cons _ r, h => by
    obtain ⟨t, h1, h2⟩ := PairsAt.get (j := j) r (by simpa using h)
    exact ⟨t, by simpa using h1, h2⟩

/-! ### the play, without any program -/
structure Game where
  out : Int
  told : Int
  inn : Bool
  got : Bool
  sent : Int
  ws : Ws
structure Good (g : Game) : Prop where
  t0 : 0 ≤ g.told
  tl : g.told ≤ g.out
  gt : g.got = decide (g.told = g.out)
  lo : ∀ p ∈ g.ws, 1 ≤ p.2 ∧ p.2 ≤ g.out
  inn : g.inn = true → g.got = false ∧ ∀ p ∈ g.ws, p.2 < g.out
  num : ∀ p ∈ g.ws, 0 ≤ p.1 ∧ p.1 < g.sent
  s0 : 0 ≤ g.sent
  up : (g.ws.map (fun p => p.1)).Pairwise fun i j => i < j
def g0 : Game := ⟨0, 0, false, true, 0, []⟩
theorem good0 : Good g0 := ⟨by decide, by decide, by decide, fun _ h => (nomatch h), fun h => (nomatch h), fun _ h => (nomatch h), by decide, List.Pairwise.nil⟩
/-- a train goes out -/
def gOut (g : Game) : Game := { g with out := g.out + 1, inn := true, got := false }
theorem good_out {g : Game} (h : Good g) : Good (gOut g) := by
  refine ⟨h.t0, ?_, ?_, fun p hp => ?_, fun _ => ⟨rfl, fun p hp => ?_⟩, h.num, h.s0, h.up⟩
  · show g.told ≤ g.out + 1
    have := h.tl
    omega
  · show false = decide (g.told = g.out + 1)
    have := h.tl
    exact (decide_eq_false (by omega)).symm
  · have := h.lo p hp
    show 1 ≤ p.2 ∧ p.2 ≤ g.out + 1
    omega
  · have := h.lo p hp
    show p.2 < g.out + 1
    omega
/-- the last number is sent; whether the train stands in the stretch is from then on: no -/
def gSend (g : Game) : Game := { g with inn := false, sent := g.sent + 1, ws := g.ws ++ [(g.sent, g.out)] }
theorem good_send {g : Game} (h : Good g) (h1 : 1 ≤ g.out) : Good (gSend g) := by
  refine ⟨h.t0, h.tl, h.gt, fun p hp => ?_, fun z => (nomatch z), fun p hp => ?_, ?_, ?_⟩
  · rcases List.mem_append.mp hp with q | q
    · exact h.lo p q
    · cases List.mem_singleton.mp q
      exact ⟨h1, Int.le_refl _⟩
  · have s0 := h.s0
    show 0 ≤ p.1 ∧ p.1 < g.sent + 1
    rcases List.mem_append.mp hp with q | q
    · have := h.num p q
      omega
    · cases List.mem_singleton.mp q
      show 0 ≤ g.sent ∧ g.sent < g.sent + 1
      omega
  · have := h.s0
    show 0 ≤ g.sent + 1
    omega
  · show ((g.ws ++ [(g.sent, g.out)]).map (fun p => p.1)).Pairwise _
    rw [List.map_append, List.pairwise_append]
    refine ⟨h.up, List.pairwise_singleton _ _, fun a ha b hb => ?_⟩
    obtain ⟨p, hp, rfl⟩ := List.mem_map.mp ha
    cases List.mem_singleton.mp hb
    exact (h.num p hp).2
/-- the word of a number is under way no more -/
def gLose (g : Game) (n : Int) : Game := { g with ws := g.ws.filter fun p => decide (p.1 ≠ n) }
theorem good_lose {g : Game} (h : Good g) (n : Int) : Good (gLose g n) := by
  refine ⟨h.t0, h.tl, h.gt, fun p hp => h.lo p (List.mem_filter.mp hp).1, fun z => ⟨(h.inn z).1, fun p hp => (h.inn z).2 p (List.mem_filter.mp hp).1⟩,
    fun p hp => h.num p (List.mem_filter.mp hp).1, h.s0, ?_⟩
  exact List.Pairwise.sublist (List.filter_sublist.map _) h.up
/-- a word with a number of a train is told through -/
def gGot (g : Game) (m : Int) : Game := { g with told := if m > g.told then m else g.told, got := g.got || decide (m = g.out) }
theorem good_got {g : Game} (h : Good g) {m : Int} (h1 : 1 ≤ m) (h2 : m ≤ g.out) (h3 : g.inn = true → m < g.out) : Good (gGot g m) := by
  have t0 := h.t0
  have tl := h.tl
  have key : (g.got || decide (m = g.out)) = decide ((if m > g.told then m else g.told) = g.out) := by
    rw [h.gt]
    by_cases c : m > g.told
    · rw [if_pos c]
      have e : decide (g.told = g.out) = false := decide_eq_false (by omega)
      rw [e, Bool.false_or]
    · rw [if_neg c]
      by_cases e : g.told = g.out
      · rw [decide_eq_true e, Bool.true_or]
      · have e2 : ¬ m = g.out := by omega
        rw [decide_eq_false e, decide_eq_false e2, Bool.or_false]
  refine ⟨?_, ?_, key, h.lo, fun z => ⟨?_, (h.inn z).2⟩, h.num, h.s0, h.up⟩
  · show 0 ≤ (if m > g.told then m else g.told)
    split <;> omega
  · show (if m > g.told then m else g.told) ≤ g.out
    split <;> omega
  · have z' : g.inn = true := z
    have e2 : ¬ m = g.out := by
      have := h3 z'
      omega
    show (g.got || decide (m = g.out)) = false
    rw [(h.inn z').1, decide_eq_false e2]
    rfl
theorem good_in {g : Game} (h : Good g) (hi : g.inn = true) : 1 ≤ g.out := by
  have h1 := (h.inn hi).1
  rw [h.gt] at h1
  have h2 := of_decide_eq_false h1
  have := h.t0
  have := h.tl
  omega
end Sf

namespace Sf
open PySem L2

/-! ### the text by places -/
def top (i : Nat) : Stmt := PySem.Challenge.pw_onestaff_k14_whole_never_clear_too_soon.main.body.getD i (.Pass ⟨0, 0, 0, 0⟩)
abbrev sWhole : Stmt := top 6
abbrev sCInit : Stmt := inClass (top 8) 0
abbrev sCOut : Stmt := inClass (top 8) 1
abbrev sCThr : Stmt := inClass (top 8) 2
abbrev sCLast : Stmt := inClass (top 8) 4
abbrev sCClear : Stmt := inClass (top 8) 6
abbrev sWInit : Stmt := inClass (top 10) 0
abbrev sSend : Stmt := inClass (top 10) 1
abbrev sNeed : Stmt := inClass (top 10) 2
abbrev sGet : Stmt := inClass (top 10) 3
abbrev sLose : Stmt := inClass (top 10) 4
abbrev sWay : Stmt := inClass (top 10) 5
abbrev sCell : Stmt := top 12
abbrev sBox : Stmt := top 13
abbrev sTake : Stmt := top 14
abbrev sDeed : Stmt := top 15
abbrev sLaw : Stmt := top 16

/-- what the walk asks of the two classes and of the built-ins' names -/
structure Txt (K : PySem.W.Frag) (mg : Str → Option Value) (C W : Addr) : Prop where
  cC : Cls K C
  cW : Cls K W
  nL : NoAttr K C "kept_last"
  nT : NoAttr K C "kept_told"
  nK : NoAttr K W "kept_words"
  nS : NoAttr K W "kept_sent"
  mgC : mg "Count" = some (.ref C)
  mgW : mg "Wire" = some (.ref W)
  isi : mg "isinstance" = none
  int : mg "int" = none
  bool : mg "bool" = none
  max : mg "max" = none
  min : mg "min" = none
  len : mg "len" = none
  sorted : mg "sorted" = none
  range : mg "range" = none
  repr : mg "repr" = none

/-! ### the promises -/
def spWhole : Sp := fun vs H Q _ => ∃ n lo hi : Int, vs = [.int n, .int lo, .int hi] ∧ lo ≤ n ∧ n ≤ hi ∧ Q (.bl true) H
def spCInit (C : Addr) : Sp := fun vs H Q _ => ∃ p dx : Addr, vs = [.ref p] ∧ H p = some (.ins C dx []) ∧ Q .non (upd H p (.ins C dx (cf 0 0)))
def spOut (C : Addr) : Sp := fun vs H Q _ => ∃ (p dx : Addr) (l t : Int), vs = [.ref p] ∧ H p = some (.ins C dx (cf l t)) ∧ Q (.int (l + 1)) (upd H p (.ins C dx (cf (l + 1) t)))
def spThr (C : Addr) : Sp := fun vs H Q _ => ∃ (p dx : Addr) (l t m : Int), vs = [.ref p, .int m] ∧ H p = some (.ins C dx (cf l t)) ∧ 1 ≤ m ∧ m ≤ l ∧
  Q .non (upd H p (.ins C dx (cf l (if m > t then m else t))))
def spLast (C : Addr) : Sp := fun vs H Q _ => ∃ (p dx : Addr) (l t : Int), vs = [.ref p] ∧ H p = some (.ins C dx (cf l t)) ∧ Q (.int l) H
def spClear (C : Addr) : Sp := fun vs H Q _ => ∃ (p dx : Addr) (l t : Int), vs = [.ref p] ∧ H p = some (.ins C dx (cf l t)) ∧ Q (.bl (decide (t = l))) H
def spWInit (W : Addr) : Sp := fun vs H Q _ => ∃ p dx : Addr, vs = [.ref p] ∧ H p = some (.ins W dx []) ∧
  ∀ d, H d = none → Q .non (upd (upd H d (.dK [])) p (.ins W dx (wf d 0)))
def spSend (W : Addr) : Sp := fun vs H Q _ => ∃ (p dx d : Addr) (n : Int) (v : V) (kvs : List (Key × V)), vs = [.ref p, v] ∧ H p = some (.ins W dx (wf d n)) ∧ H d = some (.dK kvs) ∧
  valV kvs (Sum.inl n) = none ∧ kvs.length ≤ 1000 ∧ Q (.int n) (upd (upd H d (.dK (kvs ++ [(Sum.inl n, v)]))) p (.ins W dx (wf d (n + 1))))
/-- need, get, lose: the number is that of a word under way -/
def atNum (W : Addr) (vs : List V) (H : Hp) (d : Addr) (kvs : List (Key × V)) (m : Int) (v : V) : Prop :=
  ∃ (p dx : Addr) (n : Int), vs = [.ref p, .int m] ∧ H p = some (.ins W dx (wf d n)) ∧ H d = some (.dK kvs) ∧ 0 ≤ m ∧ m < n ∧ valV kvs (Sum.inl m) = some v
def spNeed (W : Addr) : Sp := fun vs H Q _ => ∃ (d : Addr) (kvs : List (Key × V)) (m : Int) (v : V), atNum W vs H d kvs m v ∧ Q .non H
def spGet (W : Addr) : Sp := fun vs H Q _ => ∃ (d : Addr) (kvs : List (Key × V)) (m : Int) (v : V), atNum W vs H d kvs m v ∧ Q v (upd H d (.dK (dropK kvs (Sum.inl m))))
def spLose (W : Addr) : Sp := fun vs H Q _ => ∃ (d : Addr) (kvs : List (Key × V)) (m : Int) (v : V), atNum W vs H d kvs m v ∧ Q .non (upd H d (.dK (dropK kvs (Sum.inl m))))
def spWay (W : Addr) : Sp := fun vs H Q _ => ∃ (p dx d : Addr) (n : Int) (kvs : List (Key × V)) (ks : List Int), vs = [.ref p] ∧ H p = some (.ins W dx (wf d n)) ∧ H d = some (.dK kvs) ∧
  kvs.map (fun kv => kv.1) = ks.map Sum.inl ∧ (ks.Pairwise fun i j => i < j) ∧ kvs.length ≤ 1000 ∧
  ∀ (H' : Hp) (L : Addr) (ts : List Addr), Same H H' → H L = none → H' L = some (.lst (ts.map V.ref)) → PairsAt H' ts kvs → Q (.ref L) H'
def spCell (K : PySem.W.Frag) : Sp := fun vs H Q _ => ∃ (a : Addr) (ns : List Int) (k : Int), vs = [.ref a, .int k] ∧ SqL K H a (ns.map V.int) ∧ 0 ≤ k ∧ k ≤ 1000 ∧ ∀ n : Int, Q (.int n) H
def spBox : Sp := fun vs H Q _ => ∃ n : Int, vs = [.int n] ∧ ∀ (b : Addr) (x y : Int), H b = none → 0 ≤ x → 0 ≤ y → y < 2147483629 → Q (.ref b) (upd H b (.lst [.int x, .int y, .int 0]))
def spTake : Sp := fun vs H Q _ => ∃ (b : Addr) (x y z m : Int), vs = [.ref b, .int m] ∧ H b = some (.lst [.int x, .int y, .int z]) ∧ 0 ≤ x ∧ 0 ≤ y ∧ y < 2147483629 ∧ 0 ≤ z ∧ z ≤ 1000 ∧ 1 ≤ m ∧ m ≤ 1000 ∧
  ∀ r x' z' : Int, 0 ≤ r → r < m → 0 ≤ x' → 0 ≤ z' → z' ≤ z + 1 → Q (.int r) (upd H b (.lst [.int x', .int y, .int z']))

section
variable {P : Program} {w : World} {K : PySem.W.Frag} {mg : Str → Option Value} {base : Heap} {C W : Addr}

/-! ### is_whole -/
theorem scWhole : FnScope ["thing", "low", "high"] ["thing", "low", "high"] (defScope sWhole) := ⟨rfl, rfl, rfl, by decide +kernel, rfl, by decide +kernel, by decide +kernel⟩
theorem ok_whole {f : Addr} {fd : FuncData} (F : Fun K "is_whole" "is_whole" sWhole f fd) (T : Txt K mg C W) : FnOk P w K mg base CX0 1 f fd ["thing", "low", "high"] spWhole := by
  refine F.ok scWhole (fun vs H Q E h => ?_) (fun cdv A outer s H vs Q E hr h => ?_)
  · obtain ⟨n, lo, hi, rfl, _⟩ := h
    rfl
  · obtain ⟨n, lo, hi, rfl, h1, h2, k⟩ := h
    refine ⟨_, pss_one (ps_ret (pe_and (pe_callB call_isi (by rfl) T.isi (by decide +kernel) (pa_cons (pv 0) (pa_cons (pe_bltn (v := .ty "int") (by rfl) T.int (by decide +kernel) rfl) pa_nil)))
      (pe_and (pe_not (pe_callB call_isi (by rfl) T.isi (by decide +kernel) (pa_cons (pv 0) (pa_cons (pe_bltn (v := .ty "bool") (by rfl) T.bool (by decide +kernel) rfl) pa_nil))))
        (pe_one (pe_chain op_le op_le (pv 1) (pv 0) (pv 2)))))), ?_⟩
    refine ⟨_, rfl, _, _, _, _, true, rfl, .ty _, .base (.int n), kit_ty (by decide +kernel), true, rfl, iteT ?_⟩
    refine ⟨_, rfl, _, _, _, _, false, rfl, .ty _, .base (.int n), kit_ty (by decide +kernel), false, rfl, true, rfl, iteT ?_⟩
    refine ⟨_, rfl, _, rfl, _, _, rfl, rfl, true, congrArg V.bl (decide_eq_true h1), iteT ?_⟩
    refine ⟨_, rfl, _, _, rfl, rfl, ?_⟩
    have e : V.bl (decide (n ≤ hi)) = V.bl true := congrArg V.bl (decide_eq_true h2)
    show Q (V.bl (decide (n ≤ hi))) H
    rw [e]
    exact k

/-! ### Count -/
theorem scS : FnScope ["self"] ["self"] (defScope sCInit) := ⟨rfl, rfl, rfl, by decide +kernel, rfl, by decide +kernel, by decide +kernel⟩
theorem ok_cinit {f : Addr} {fd : FuncData} (F : Fun K "__init__" "Count.__init__" sCInit f fd) (T : Txt K mg C W) : FnOk P w K mg base CX0 1 f fd ["self"] (spCInit C) := by
  refine F.ok scS (fun vs H Q E h => ?_) (fun cdv A outer s H vs Q E hr h => ?_)
  · obtain ⟨p, dx, rfl, _⟩ := h
    rfl
  · obtain ⟨p, dx, rfl, hp, k⟩ := h
    refine ⟨_, pss_cons (ps_fld (pv 0) pe_int rfl) (pss_one (ps_fld (pv 0) pe_int rfl)), ?_⟩
    refine ⟨_, rfl, p, C, dx, [], rfl, hp, T.cC, T.nL, (by show 0 < 1000; decide), _, rfl, p, C, dx, _, rfl, upd_same, T.cC, T.nT, (by show 1 < 1000; decide), ?_⟩
    rw [upd_upd]
    exact k
theorem scOut : FnScope ["self"] ["self"] (defScope sCOut) := ⟨rfl, rfl, rfl, by decide +kernel, rfl, by decide +kernel, by decide +kernel⟩
theorem ok_out {f : Addr} {fd : FuncData} (F : Fun K "out" "Count.out" sCOut f fd) (T : Txt K mg C W) : FnOk P w K mg base CX0 1 f fd ["self"] (spOut C) := by
  refine F.ok scOut (fun vs H Q E h => ?_) (fun cdv A outer s H vs Q E hr h => ?_)
  · obtain ⟨p, dx, l, t, rfl, _⟩ := h
    rfl
  · obtain ⟨p, dx, l, t, rfl, hp, k⟩ := h
    refine ⟨_, pss_cons (ps_fldaug (pv 0) pe_int in_add) (pss_one (ps_ret (pe_fld (pv 0) rfl))), ?_⟩
    refine ⟨_, rfl, p, C, dx, _, _, rfl, hp, T.cC, T.nL, f2_fst nlt _ _, _, _, rfl, rfl, dx, _, hp, f2_few nlt _ _, ?_⟩
    rw [cf, f2_put1 nlt]
    exact ⟨_, rfl, p, C, dx, _, _, rfl, upd_same, T.cC, T.nL, f2_fst nlt _ _, k⟩
theorem scLast : FnScope ["self"] ["self"] (defScope sCLast) := ⟨rfl, rfl, rfl, by decide +kernel, rfl, by decide +kernel, by decide +kernel⟩
theorem ok_last {f : Addr} {fd : FuncData} (F : Fun K "last" "Count.last" sCLast f fd) (T : Txt K mg C W) : FnOk P w K mg base CX0 1 f fd ["self"] (spLast C) := by
  refine F.ok scLast (fun vs H Q E h => ?_) (fun cdv A outer s H vs Q E hr h => ?_)
  · obtain ⟨p, dx, l, t, rfl, _⟩ := h
    rfl
  · obtain ⟨p, dx, l, t, rfl, hp, k⟩ := h
    refine ⟨_, pss_one (ps_ret (pe_fld (pv 0) rfl)), ?_⟩
    exact ⟨_, rfl, p, C, dx, _, _, rfl, hp, T.cC, T.nL, f2_fst nlt _ _, k⟩
theorem scClear : FnScope ["self"] ["self"] (defScope sCClear) := ⟨rfl, rfl, rfl, by decide +kernel, rfl, by decide +kernel, by decide +kernel⟩
theorem ok_clear {f : Addr} {fd : FuncData} (F : Fun K "clear" "Count.clear" sCClear f fd) (T : Txt K mg C W) : FnOk P w K mg base CX0 1 f fd ["self"] (spClear C) := by
  refine F.ok scClear (fun vs H Q E h => ?_) (fun cdv A outer s H vs Q E hr h => ?_)
  · obtain ⟨p, dx, l, t, rfl, _⟩ := h
    rfl
  · obtain ⟨p, dx, l, t, rfl, hp, k⟩ := h
    refine ⟨_, pss_one (ps_ret (pe_cmp (pc_eqI (pe_fld (pv 0) rfl) (pe_fld (pv 0) rfl)))), ?_⟩
    exact ⟨_, rfl, p, C, dx, _, _, rfl, hp, T.cC, T.nT, f2_snd _ _, _, rfl, p, C, dx, _, _, rfl, hp, T.cC, T.nL, f2_fst nlt _ _, _, _, rfl, rfl, k⟩
theorem scThr : FnScope ["self", "number"] ["self", "number"] (defScope sCThr) := ⟨rfl, rfl, rfl, by decide +kernel, rfl, by decide +kernel, by decide +kernel⟩
theorem ok_thr {f fW : Addr} {fd fdW : FuncData} (F : Fun K "through" "Count.through" sCThr f fd) (T : Txt K mg C W)
    (GW : FnOk P w K mg base CX0 1 fW fdW ["thing", "low", "high"] spWhole) (bW : Binds K fdW ["thing", "low", "high"] []) (mW : mg "is_whole" = some (.ref fW)) (kW : PySem.W.keepIn K (.ref fW) = true) :
    FnOk P w K mg base CX0 2 f fd ["self", "number"] (spThr C) := by
  refine F.ok scThr (fun vs H Q E h => ?_) (fun cdv A outer s H vs Q E hr h => ?_)
  · obtain ⟨p, dx, l, t, m, rfl, _⟩ := h
    rfl
  · obtain ⟨p, dx, l, t, m, rfl, hp, h1, h2, k⟩ := h
    refine ⟨_, pss_cons (ps_if (pt_not (pt_val (pe_call GW hr (by rfl) mW kW bW .nil pass0 (pa_cons (pv 1) (pa_cons pe_int (pa_cons (pe_fld (pv 0) rfl) pa_nil)))))) (pss_one ps_never) pss_nil)
      (pss_one (ps_fld (pv 0) (pe_callB (call_max2 rfl) (by rfl) T.max (by decide +kernel) (pa_cons (pe_fld (pv 0) rfl) (pa_cons (pv 1) pa_nil))) rfl)), ?_⟩
    refine ⟨_, rfl, _, rfl, p, C, dx, _, _, rfl, hp, T.cC, T.nL, f2_fst nlt _ _, _, _, _, rfl, h1, h2, true, rfl, iteF ?_⟩
    refine ⟨_, rfl, p, C, dx, _, _, rfl, hp, T.cC, T.nT, f2_snd _ _, _, rfl, _, _, rfl, _, rfl, p, C, dx, _, rfl, hp, T.cC, T.nT, f2_few nlt _ _, ?_⟩
    rw [cf, f2_put2 nlt]
    exact k
end
end Sf

namespace Sf
open PySem L2
theorem upd_none {H : Hp} {p q : Addr} {o : HO} (h : upd H p o q = none) : q ≠ p ∧ H q = none := by
  by_cases e : q = p
  · rw [e, upd_same] at h
    cases h
  · rw [upd_ne e] at h
    exact ⟨e, h⟩
theorem yesI {st : L2.St} {H : Hp} {Q : Bool → Hp → Prop} (h : Q true H) : tYes st H Q := h
theorem ne_none {H : Hp} {p q : Addr} {o : HO} (h : H p = some o) (n : H q = none) : p ≠ q := ne_of_none h n

section
variable {P : Program} {w : World} {K : PySem.W.Frag} {mg : Str → Option Value} {base : Heap} {C W : Addr}

/-! ### Wire -/
theorem scWInit : FnScope ["self"] ["self"] (defScope sWInit) := ⟨rfl, rfl, rfl, by decide +kernel, rfl, by decide +kernel, by decide +kernel⟩
theorem ok_winit {f : Addr} {fd : FuncData} (F : Fun K "__init__" "Wire.__init__" sWInit f fd) (T : Txt K mg C W) : FnOk P w K mg base CX0 1 f fd ["self"] (spWInit W) := by
  refine F.ok scWInit (fun vs H Q E h => ?_) (fun cdv A outer s H vs Q E hr h => ?_)
  · obtain ⟨p, dx, rfl, _⟩ := h
    rfl
  · obtain ⟨p, dx, rfl, hp, k⟩ := h
    refine ⟨_, pss_cons (ps_fld (pv 0) pe_dnewK rfl) (pss_one (ps_fld (pv 0) pe_int rfl)), ?_⟩
    intro d hd
    have npd : p ≠ d := ne_none hp hd
    refine ⟨_, rfl, p, W, dx, [], rfl, (by rw [upd_ne npd]; exact hp), T.cW, T.nK, (by show 0 < 1000; decide), _, rfl, p, W, dx, _, rfl, upd_same, T.cW, T.nS, (by show 1 < 1000; decide), ?_⟩
    rw [upd_upd]
    exact k d hd
theorem scSend : FnScope ["self", "word", "number"] ["self", "word"] (defScope sSend) := ⟨rfl, rfl, rfl, by decide +kernel, rfl, by decide +kernel, by decide +kernel⟩
theorem ok_send {f : Addr} {fd : FuncData} (F : Fun K "send" "Wire.send" sSend f fd) (T : Txt K mg C W) : FnOk P w K mg base CX0 1 f fd ["self", "word"] (spSend W) := by
  refine F.ok scSend (fun vs H Q E h => ?_) (fun cdv A outer s H vs Q E hr h => ?_)
  · obtain ⟨p, dx, d, n, v, kvs, rfl, _⟩ := h
    rfl
  · obtain ⟨p, dx, d, n, v, kvs, rfl, hp, hd, hv, hl, k⟩ := h
    have hu := hu_of hr
    have npd : p ≠ d := ne_of hp hd (by intro z; cases z)
    have hp' : ∀ o, upd H d o p = some (.ins W dx (wf d n)) := fun o => by
      rw [upd_ne npd]; exact hp
    refine ⟨_, pss_cons (ps_set (i := 2) scSend.nd rfl (Or.inl rfl) (pe_fld (pv 0) rfl))
      (pss_cons (ps_dput hu (pe_fld (pv 0) rfl) (pv 2) (pv 1) rfl)
      (pss_cons (ps_fld (pv 0) (pe_op op_add (pv 2) pe_int) rfl)
      (pss_one (ps_ret (pv 2))))), ?_⟩
    refine ⟨_, rfl, p, W, dx, _, _, rfl, hp, T.cW, T.nS, f2_snd _ _, ?_⟩
    refine ⟨_, rfl, _, rfl, p, W, dx, _, _, rfl, hp, T.cW, T.nK, f2_fst nws _ _, _, rfl, d, _, rfl, DPut.k (k := Sum.inl n) hd (small1000 hl), ?_⟩
    refine ⟨_, rfl, _, _, rfl, rfl, _, rfl, p, W, dx, _, rfl, hp' _, T.cW, T.nS, f2_few nws _ _, _, rfl, ?_⟩
    rw [wf, f2_put2 nws, putK_new _ hv]
    exact k
theorem scNeed : FnScope ["self", "number"] ["self", "number"] (defScope sNeed) := ⟨rfl, rfl, rfl, by decide +kernel, rfl, by decide +kernel, by decide +kernel⟩
theorem ok_need {f fW : Addr} {fd fdW : FuncData} (F : Fun K "need" "Wire.need" sNeed f fd) (T : Txt K mg C W)
    (GW : FnOk P w K mg base CX0 1 fW fdW ["thing", "low", "high"] spWhole) (bW : Binds K fdW ["thing", "low", "high"] []) (mW : mg "is_whole" = some (.ref fW)) (kW : PySem.W.keepIn K (.ref fW) = true) :
    FnOk P w K mg base CX0 2 f fd ["self", "number"] (spNeed W) := by
  refine F.ok scNeed (fun vs H Q E h => ?_) (fun cdv A outer s H vs Q E hr h => ?_)
  · obtain ⟨d, kvs, m, v, ⟨p, dx, n, rfl, _⟩, _⟩ := h
    rfl
  · obtain ⟨d, kvs, m, v, ⟨p, dx, n, rfl, hp, hd, h1, h2, hv⟩, k⟩ := h
    have hu := hu_of hr
    refine ⟨_, pss_one (ps_if (PW.pt (pw_or (pt_not (pt_val (pe_call GW hr (by rfl) mW kW bW .nil pass0 (pa_cons (pv 1) (pa_cons pe_int (pa_cons (pe_op op_sub (pe_fld (pv 0) rfl) pe_int) pa_nil))))))
      (pw_or1 (pt_cmp (pc_dnotin hu (pv 1) (pe_fld (pv 0) rfl)))))) (pss_one ps_never) pss_nil), ?_⟩
    refine ⟨_, rfl, _, rfl, p, W, dx, _, _, rfl, hp, T.cW, T.nS, f2_snd _ _, _, _, rfl, rfl, _, _, _, rfl, h1, by omega, true, rfl, iteF ?_⟩
    refine ⟨_, rfl, _, rfl, p, W, dx, _, _, rfl, hp, T.cW, T.nK, f2_fst nws _ _, d, _, rfl, DGet.k (k := Sum.inl m) hd, _, rfl, ?_⟩
    rw [hv]
    exact iteF k
theorem scGet : FnScope ["self", "number"] ["self", "number"] (defScope sGet) := ⟨rfl, rfl, rfl, by decide +kernel, rfl, by decide +kernel, by decide +kernel⟩
theorem ok_get {f fN : Addr} {fd fdN : FuncData} (F : Fun K "get" "Wire.get" sGet f fd) (T : Txt K mg C W)
    (GN : FnOk P w K mg base CX0 2 fN fdN ["self", "number"] (spNeed W)) (bN : Binds K fdN ["self", "number"] []) (mN : Meth K W "need" fN) :
    FnOk P w K mg base CX0 3 f fd ["self", "number"] (spGet W) := by
  refine F.ok scGet (fun vs H Q E h => ?_) (fun cdv A outer s H vs Q E hr h => ?_)
  · obtain ⟨d, kvs, m, v, ⟨p, dx, n, rfl, _⟩, _⟩ := h
    rfl
  · obtain ⟨d, kvs, m, v, ⟨p, dx, n, rfl, hp, hd, h1, h2, hv⟩, k⟩ := h
    refine ⟨_, pss_cons (ps_expr (pe_meth (pv 0) T.cW mN GN hr bN .nil pass0 (pa_cons (pv 1) pa_nil)))
      (pss_one (ps_ret (pe_dpop1 (pe_fld (pv 0) rfl) (pv 1) ⟨by rfl, by rfl, by rfl, by rfl⟩))), ?_⟩
    refine ⟨_, rfl, p, dx, _, rfl, hp, f2_no _ _ (by decide +kernel) (by decide +kernel), _, rfl, d, kvs, m, v, ⟨p, dx, n, rfl, hp, hd, h1, h2, hv⟩, ?_⟩
    exact ⟨_, rfl, p, W, dx, _, _, rfl, hp, T.cW, T.nK, f2_fst nws _ _, d, rfl, .inl ⟨_, .inl hd⟩, _, rfl, kvs, Sum.inl m, v, hd, rfl, hv, k⟩
theorem scLose : FnScope ["self", "number"] ["self", "number"] (defScope sLose) := ⟨rfl, rfl, rfl, by decide +kernel, rfl, by decide +kernel, by decide +kernel⟩
theorem ok_lose {f fN : Addr} {fd fdN : FuncData} (F : Fun K "lose" "Wire.lose" sLose f fd) (T : Txt K mg C W)
    (GN : FnOk P w K mg base CX0 2 fN fdN ["self", "number"] (spNeed W)) (bN : Binds K fdN ["self", "number"] []) (mN : Meth K W "need" fN) :
    FnOk P w K mg base CX0 3 f fd ["self", "number"] (spLose W) := by
  refine F.ok scLose (fun vs H Q E h => ?_) (fun cdv A outer s H vs Q E hr h => ?_)
  · obtain ⟨d, kvs, m, v, ⟨p, dx, n, rfl, _⟩, _⟩ := h
    rfl
  · obtain ⟨d, kvs, m, v, ⟨p, dx, n, rfl, hp, hd, h1, h2, hv⟩, k⟩ := h
    refine ⟨_, pss_cons (ps_expr (pe_meth (pv 0) T.cW mN GN hr bN .nil pass0 (pa_cons (pv 1) pa_nil)))
      (pss_one (ps_expr (pe_dpop1 (pe_fld (pv 0) rfl) (pv 1) ⟨by rfl, by rfl, by rfl, by rfl⟩))), ?_⟩
    refine ⟨_, rfl, p, dx, _, rfl, hp, f2_no _ _ (by decide +kernel) (by decide +kernel), _, rfl, d, kvs, m, v, ⟨p, dx, n, rfl, hp, hd, h1, h2, hv⟩, ?_⟩
    exact ⟨_, rfl, p, W, dx, _, _, rfl, hp, T.cW, T.nK, f2_fst nws _ _, d, rfl, .inl ⟨_, .inl hd⟩, _, rfl, kvs, Sum.inl m, v, hd, rfl, hv, k⟩
theorem scWay : FnScope ["self", "number"] ["self"] (defScope sWay) := ⟨rfl, rfl, rfl, by decide +kernel, rfl, by decide +kernel, by decide +kernel⟩
theorem ok_way {f : Addr} {fd : FuncData} (F : Fun K "under_way" "Wire.under_way" sWay f fd) (T : Txt K mg C W) : FnOk P w K mg base CX0 1 f fd ["self"] (spWay W) := by
  refine F.ok scWay (fun vs H Q E h => ?_) (fun cdv A outer s H vs Q E hr h => ?_)
  · obtain ⟨p, dx, d, n, kvs, ks, rfl, _⟩ := h
    rfl
  · obtain ⟨p, dx, d, n, kvs, ks, rfl, hp, hd, hk, up, hl, k⟩ := h
    have hu := hu_of hr
    refine ⟨_, pss_one (ps_ret (pe_lc (own := [("number", 1)]) (g := gName 1) (tt := tYes) (te := tTup (tCons (tVar 1) (tCons (tDGet (tFld K (tVar 0) "kept_words") (tVar 1)) tNil))) rfl scWay.nd
      (pi_list (pe_callB (cr_sortD rfl) (by rfl) T.sorted (by decide +kernel) (pa_cons (pe_fld (pv 0) rfl) pa_nil)))
      (blkOk_by (own := [("number", 1)]) (N := ["self", "number"]) (sc := defScope sWay) (by decide +kernel))
      (fun _ _ _ _ _ => pg_name (i := 1) scWay.nd rfl (Or.inl rfl)) (fun _ _ _ _ _ => pts_nil)
      (fun _ _ _ _ _ => pe_tup (pa_cons (pv 1) (pa_cons (pe_dget (by exact hu) (pe_fld (pv 0) rfl) (pv 1) (fun _ _ => rfl)) pa_nil))))), ?_⟩
    refine ⟨_, rfl, p, W, dx, _, _, rfl, hp, T.cW, T.nK, f2_fst nws _ _, d, kvs, ks, rfl, hd, hk, fun zs S perm rise hS => ?_⟩
    obtain rfl := rising_same up perm rise
    have nd : (kvs.map (fun kv => kv.1)).Nodup := by
      rw [hk]
      exact rising_nodup up
    have hlen : kvs.length = zs.length := by
      have := congrArg List.length hk
      simpa using this
    refine ⟨S, rfl, ⟨_, SqL.of upd_same⟩, fun D hD => lc_list (K := K) (a := S) (xs := zs.map V.int)
      (fun i H' => ∃ ts : List Addr, Same H H' ∧ H' S = some (.lst (zs.map V.int)) ∧ H' D = some (.lst (ts.map V.ref)) ∧ ts.length = i ∧ PairsAt H' ts (kvs.take i)) ?_ (fun i H' _ ⟨_, _, e, _⟩ => SqL.of e) ?_ ?_⟩
    · obtain ⟨nDS, hD0⟩ := upd_none hD
      refine ⟨[], fun b o e => ?_, ?_, upd_same, rfl, .nil⟩
      · rw [upd_ne (ne_none e hD0), upd_ne (ne_none e hS)]
        exact e
      · rw [upd_ne nDS.symm, upd_same]
    · rintro i x H' hi ⟨ts, sm, eS, eD, el, pr⟩
      obtain ⟨nDS, hD0⟩ := upd_none hD
      obtain ⟨u, hu1, rfl⟩ : ∃ u, zs[i]? = some u ∧ x = V.int u := by
        rw [List.getElem?_map] at hi
        cases e : zs[i]? with
        | none =>
          rw [e] at hi
          cases hi
        | some u =>
          rw [e] at hi
          exact ⟨u, rfl, (Option.some.inj hi).symm⟩
      obtain ⟨v, hv⟩ : ∃ v, kvs[i]? = some (Sum.inl u, v) := by
        have e := congrArg (fun l => l[i]?) hk
        simp only [List.getElem?_map, hu1] at e
        cases e2 : kvs[i]? with
        | none =>
          rw [e2] at e
          cases e
        | some kv =>
          rw [e2] at e
          have e3 : kv.1 = Sum.inl u := Option.some.inj e
          exact ⟨kv.2, by rw [← e3]⟩
      have hval : valV kvs (Sum.inl u) = some v := valV_at nd hv
      have get : DGet H' d (kV (Sum.inl u)) (some v) := by
        have q := DGet.k (k := Sum.inl u) (sm _ _ hd)
        rw [hval] at q
        exact q
      refine ⟨rfl, yesI ?_⟩
      refine iteT ?_
      refine ⟨_, rfl, _, rfl, p, W, dx, _, _, rfl, sm _ _ hp, T.cW, T.nK, f2_fst nws _ _, _, rfl, d, v, rfl, get, (by show 2 ≤ sizeLine; decide), fun t ht => ?_⟩
      have nDt : D ≠ t := ne_none eD ht
      have nSt : S ≠ t := ne_none eS ht
      have fit : (ts.map V.ref).length < sizeLine := by
        have : i < zs.length := (List.getElem?_eq_some_iff.mp hu1).1
        rw [List.length_map]
        exact small1000 (by omega)
      refine ⟨ts.map V.ref, by rw [upd_ne nDt]; exact eD, fit, ts ++ [t], fun b o e => ?_, ?_, ?_, ?_, ?_⟩
      · have e' := sm _ _ e
        rw [upd_ne (ne_none e hD0), upd_ne (ne_none e' ht)]
        exact e'
      · rw [upd_ne nDS.symm, upd_ne nSt]
        exact eS
      · rw [upd_same, List.map_append]
        rfl
      · rw [List.length_append, el]
        rfl
      · have e1 : kvs.take (i + 1) = kvs.take i ++ [(Sum.inl u, v)] := by
          rw [List.take_add_one, hv]
          rfl
        rw [e1]
        refine Paired.snoc (pr.mono fun a xs e => ?_) ?_
        · rw [upd_ne (ne_of e eD (by intro z; cases z)), upd_ne (ne_none e ht)]
          exact e
        · rw [upd_ne nDt.symm, upd_same]
          rfl
    · rintro H' ⟨ts, sm, eS, eD, el, pr⟩
      have e1 : kvs.take (zs.map V.int).length = kvs := by
        rw [List.length_map, ← hlen, List.take_length]
      rw [e1] at pr
      exact k H' D ts sm (upd_none hD).2 eD pr

/-! ### the law's helpers -/
theorem scCell : FnScope ["_law_script", "_law_k"] ["_law_script", "_law_k"] (defScope sCell) := ⟨rfl, rfl, rfl, by decide +kernel, rfl, by decide +kernel, by decide +kernel⟩
theorem ok_cell {f : Addr} {fd : FuncData} (F : Fun K "_law_cell" "_law_cell" sCell f fd) (T : Txt K mg C W) : FnOk P w K mg base CX0 1 f fd ["_law_script", "_law_k"] (spCell K) := by
  refine F.ok scCell (fun vs H Q E h => ?_) (fun cdv A outer s H vs Q E hr h => ?_)
  · obtain ⟨a, ns, m, rfl, _⟩ := h
    rfl
  · obtain ⟨a, ns, m, rfl, hS, h0, h1, k⟩ := h
    refine ⟨_, pss_cons (ps_if (pt_cmpR op_lt (pv 1) (pe_callB call_len_seq (by rfl) T.len PySem.boot_len (pa_cons (pv 0) pa_nil)) (nomark _))
      (pss_one (ps_ret (pe_ix ix_list (pv 0) (pv 1) (fun _ _ => rfl)))) pss_nil)
      (pss_one (ps_ret (pe_op op_add (pe_op op_mul pe_int (pv 1)) pe_int))), ?_⟩
    refine ⟨_, rfl, _, rfl, a, _, rfl, .inl hS, _, _, rfl, rfl, _, rfl, ?_⟩
    refine ite2 (fun c => ?_) (fun _ => ?_)
    · have c' : m < ((ns.map V.int).length : Int) := of_decide_eq_true c
      rw [List.length_map] at c'
      have lt : m.toNat < ns.length := by omega
      have e : (ns.map V.int)[m.toNat]? = some (V.int ns[m.toNat]) := by
        rw [List.getElem?_map, List.getElem?_eq_getElem lt]
        rfl
      exact ⟨_, rfl, _, rfl, a, _, m, _, rfl, rfl, hS, at_of (by omega) e, k _⟩
    · exact ⟨_, rfl, _, _, rfl, rfl, .inl ⟨by decide, by decide⟩, _, _, rfl, rfl, k _⟩
theorem scBox : FnScope ["_law_cell_here"] ["_law_cell_here"] (defScope sBox) := ⟨rfl, rfl, rfl, by decide +kernel, rfl, by decide +kernel, by decide +kernel⟩
theorem ok_box {f : Addr} {fd : FuncData} (F : Fun K "_law_box" "_law_box" sBox f fd) (T : Txt K mg C W) : FnOk P w K mg base CX0 1 f fd ["_law_cell_here"] spBox := by
  refine F.ok scBox (fun vs H Q E h => ?_) (fun cdv A outer s H vs Q E hr h => ?_)
  · obtain ⟨n, rfl, _⟩ := h
    rfl
  · obtain ⟨n, rfl, k⟩ := h
    refine ⟨_, pss_one (ps_ret (pe_lst (pa_cons (pe_callB (call_max2 rfl) (by rfl) T.max (by decide +kernel) (pa_cons pe_int (pa_cons (pe_op op_sub (pv 0) (pe_op op_pow pe_int pe_int)) pa_nil)))
      (pa_cons (pe_op op_mod (pv 0) pe_int) (pa_cons pe_int pa_nil))))), ?_⟩
    refine ⟨_, rfl, _, _, rfl, rfl, ⟨by decide, by decide, by decide⟩, _, _, rfl, rfl, _, _, rfl, _, rfl, _, _, rfl, rfl, (by show (0 : Int) < 2147483629; decide), (by show 3 ≤ sizeLine; decide), fun b hb => ?_⟩
    refine k b _ _ hb ?_ ?_ ?_
    · split <;> omega
    · exact Int.emod_nonneg _ (by decide)
    · exact Int.emod_lt_of_pos _ (by decide)
theorem scTake : FnScope ["_law_box_here", "_law_many", "_law_digit", "_law_number"] ["_law_box_here", "_law_many"] (defScope sTake) := ⟨rfl, rfl, rfl, by decide +kernel, rfl, by decide +kernel, by decide +kernel⟩
theorem ok_take {f : Addr} {fd : FuncData} (F : Fun K "_law_take" "_law_take" sTake f fd) : FnOk P w K mg base CX0 1 f fd ["_law_box_here", "_law_many"] spTake := by
  refine F.ok scTake (fun vs H Q E h => ?_) (fun cdv A outer s H vs Q E hr h => ?_)
  · obtain ⟨b, x, y, z, m, rfl, _⟩ := h
    rfl
  · obtain ⟨b, x, y, z, m, rfl, hb, x0, y0, y1, z0, z1, m1, m2, k⟩ := h
    have a0 : atI [V.int x, V.int y, V.int z] 0 = some (V.int x) := rfl
    have a1 : ∀ z', atI [V.int x, V.int y, V.int z'] 1 = some (V.int y) := fun _ => rfl
    have a2 : ∀ z', atI [V.int x, V.int y, V.int z'] 2 = some (V.int z') := fun _ => rfl
    refine ⟨_, pss_cons (ps_if (pt_cmpR op_gt (pe_ix ix_list (pv 0) pe_int (fun _ _ => rfl)) pe_int (nomark _))
      (pss_cons (ps_set (i := 2) scTake.nd rfl (Or.inl rfl) (pe_op op_mod (pe_ix ix_list (pv 0) pe_int (fun _ _ => rfl)) (pv 1)))
        (pss_cons (ps_asg (pe_op op_fdiv (pe_ix ix_list (pv 0) pe_int (fun _ _ => rfl)) (pv 1)) (pg_sub (pv 0) pe_int set_list))
        (pss_one (ps_ret (pv 2))))) pss_nil)
      (pss_cons (ps_asg (pe_op op_add (pe_ix ix_list (pv 0) pe_int (fun _ _ => rfl)) pe_int) (pg_sub (pv 0) pe_int set_list))
      (pss_cons (ps_set (i := 3) scTake.nd rfl (Or.inl rfl) (pe_op op_mod (pe_op op_pow (pe_op op_add (pe_op op_add (pe_ix ix_list (pv 0) pe_int (fun _ _ => rfl)) (pe_op op_mul pe_int (pe_ix ix_list (pv 0) pe_int (fun _ _ => rfl)))) pe_int) pe_int) pe_int))
      (pss_cons (ps_set (i := 3) scTake.nd rfl (Or.inl rfl) (pe_op op_mod (pe_op op_pow (pe_op op_add (pv 3) (pe_op op_mul pe_int (pe_ix ix_list (pv 0) pe_int (fun _ _ => rfl)))) pe_int) pe_int))
      (pss_one (ps_ret (pe_op op_mod (pe_op op_fdiv (pv 3) pe_int) (pv 1))))))), ?_⟩
    refine ⟨_, rfl, b, _, _, _, rfl, rfl, SqL.of hb, a0, _, _, rfl, rfl, _, rfl, ?_⟩
    refine ite2 (fun _ => ?_) (fun _ => ?_)
    · refine ⟨_, rfl, b, _, _, _, rfl, rfl, SqL.of hb, a0, _, rfl, _, _, rfl, rfl, (by show 0 < m; omega), ?_⟩
      refine ⟨_, rfl, b, _, _, _, rfl, rfl, SqL.of hb, a0, _, rfl, _, _, rfl, rfl, ⟨by show 0 < m; omega, by show m < 1073741824; omega⟩, _, rfl, b, _, _, 0, rfl, rfl, hb, rfl, _, rfl, ?_⟩
      exact k _ _ _ (Int.emod_nonneg _ (by omega)) (Int.emod_lt_of_pos _ (by omega)) (Int.ediv_nonneg x0 (by omega)) z0 (by omega)
    · refine ⟨_, rfl, b, _, _, _, rfl, rfl, SqL.of hb, a2 z, _, _, rfl, rfl, _, rfl, b, _, _, 2, rfl, rfl, hb, rfl, ?_⟩
      have hb' : upd H b (HO.lst ([V.int x, V.int y, V.int z].set 2 (V.int (z + 1)))) b = some (.lst [V.int x, V.int y, V.int (z + 1)]) := upd_same
      refine ⟨_, rfl, b, _, _, _, rfl, rfl, SqL.of hb', a1 _, _, rfl, b, _, _, _, rfl, rfl, SqL.of hb', a2 _, _, _, rfl, rfl, .inl ⟨by decide, by decide⟩, _, _, rfl, rfl, _, _, rfl, rfl, _, _, rfl, rfl,
        ⟨by decide, by decide, ?_⟩, _, _, rfl, rfl, (by show (0 : Int) < 2147483647; decide), ?_⟩
      · omega
      have r1 : ∀ v : Int, 0 ≤ v % 2147483647 ∧ v % 2147483647 < 2147483647 := fun v => ⟨Int.emod_nonneg _ (by decide), Int.emod_lt_of_pos _ (by decide)⟩
      refine ⟨_, rfl, _, rfl, b, _, _, _, rfl, rfl, SqL.of hb', a2 _, _, _, rfl, rfl, .inl ⟨by decide, by decide⟩, _, _, rfl, rfl, _, _, rfl, rfl,
        ⟨by decide, by decide, ?_⟩, _, _, rfl, rfl, (by show (0 : Int) < 2147483587; decide), ?_⟩
      · have := r1 ((y + 7919 * (z + 1) + 59) ^ (5 : Int).toNat)
        omega
      refine ⟨_, rfl, _, _, rfl, rfl, ⟨by decide, by decide⟩, _, rfl, _, _, rfl, rfl, (by show 0 < m; omega), ?_⟩
      exact k _ _ _ (Int.emod_nonneg _ (by omega)) (Int.emod_lt_of_pos _ (by omega)) x0 (by omega) (Int.le_refl _)
end
end Sf

namespace Sf
open PySem L2

/-- the law's objects behind the heap H0 (what stood ahead of them, kept): the count at c (l, t), the wire at w with its dict at d (n were sent, ws under way), the state's dict at s (o, i, gt) -/
structure Raw (C W : Addr) (H0 H : Hp) (c w d s : Addr) (l t o : Int) (i gt : Bool) (n : Int) (ws : Ws) : Prop where
  old : Same H0 H
  c0 : H0 c = none
  w0 : H0 w = none
  d0 : H0 d = none
  s0 : H0 s = none
  hc : ∃ dx, H c = some (.ins C dx (cf l t))
  hw : ∃ dx, H w = some (.ins W dx (wf d n))
  hd : ∃ kvs, H d = some (.dK kvs) ∧ WordsAt H kvs ws
  hs : H s = some (.dK (sk o i gt))
  cw : c ≠ w
  ds : d ≠ s
structure BoxAt (H0 H : Hp) (b : Addr) (x y z : Int) : Prop where
  b0 : H0 b = none
  hb : H b = some (.lst [.int x, .int y, .int z])
  x0 : 0 ≤ x
  y0 : 0 ≤ y
  y1 : y < 2147483629
  z0 : 0 ≤ z
theorem same_skip {H0 H : Hp} {a : Addr} {o : HO} (h : Same H0 H) (h0 : H0 a = none) : Same H0 (upd H a o) := fun b u e => by
  rw [upd_ne (ne_none e h0)]
  exact h b u e
/-- tuples stay where something else is stored -/
theorem tups_upd {H : Hp} {a : Addr} {u o : HO} (ha : H a = some u) (hu : ∀ xs, u ≠ .tup xs) : ∀ b xs, H b = some (.tup xs) → upd H a o b = some (.tup xs) := fun b _ e => by
  rw [upd_ne (ne_of e ha (fun z => hu _ z.symm))]
  exact e
section
variable {C W : Addr} {H0 H H' : Hp} {c w d s b : Addr} {l t o : Int} {i gt : Bool} {n : Int} {ws : Ws} {x y z : Int}
theorem Raw.grow (R : Raw C W H0 H c w d s l t o i gt n ws) (h : Same H H') : Raw C W H0 H' c w d s l t o i gt n ws where
  old := R.old.trans h
  c0 := R.c0
  w0 := R.w0
  d0 := R.d0
  s0 := R.s0
  hc := let ⟨dx, e⟩ := R.hc; ⟨dx, h _ _ e⟩
  hw := let ⟨dx, e⟩ := R.hw; ⟨dx, h _ _ e⟩
  hd := let ⟨kvs, e, q⟩ := R.hd; ⟨kvs, h _ _ e, q.mono fun a _ z => h a _ z⟩
  hs := h _ _ R.hs
  cw := R.cw
  ds := R.ds
/-- an object beside them is changed -/
theorem Raw.beside (R : Raw C W H0 H c w d s l t o i gt n ws) {u v : HO} (b0 : H0 b = none) (hb : H b = some u) (h1 : ∀ xs, u ≠ .tup xs) (nc : c ≠ b) (nw : w ≠ b) (nd : d ≠ b) (ns : s ≠ b) :
    Raw C W H0 (upd H b v) c w d s l t o i gt n ws where
  old := same_skip R.old b0
  c0 := R.c0
  w0 := R.w0
  d0 := R.d0
  s0 := R.s0
  hc := let ⟨dx, e⟩ := R.hc; ⟨dx, by rw [upd_ne nc]; exact e⟩
  hw := let ⟨dx, e⟩ := R.hw; ⟨dx, by rw [upd_ne nw]; exact e⟩
  hd := let ⟨kvs, e, q⟩ := R.hd; ⟨kvs, by rw [upd_ne nd]; exact e, q.mono (tups_upd hb h1)⟩
  hs := by rw [upd_ne ns]; exact R.hs
  cw := R.cw
  ds := R.ds
theorem Raw.cs (R : Raw C W H0 H c w d s l t o i gt n ws) : c ≠ s := by
  obtain ⟨dx, e⟩ := R.hc
  exact ne_of e R.hs (by intro z; cases z)
theorem Raw.cd (R : Raw C W H0 H c w d s l t o i gt n ws) : c ≠ d := by
  obtain ⟨dx, e⟩ := R.hc
  obtain ⟨kvs, e2, _⟩ := R.hd
  exact ne_of e e2 (by intro z; cases z)
theorem Raw.sw (R : Raw C W H0 H c w d s l t o i gt n ws) : s ≠ w := by
  obtain ⟨dx, e⟩ := R.hw
  exact ne_of R.hs e (by intro z; cases z)
theorem Raw.dw (R : Raw C W H0 H c w d s l t o i gt n ws) : d ≠ w := by
  obtain ⟨dx, e⟩ := R.hw
  obtain ⟨kvs, e2, _⟩ := R.hd
  exact ne_of e2 e (by intro z; cases z)
theorem Raw.box (R : Raw C W H0 H c w d s l t o i gt n ws) {xs ys : List V} (b0 : H0 b = none) (hb : H b = some (.lst xs)) : Raw C W H0 (upd H b (.lst ys)) c w d s l t o i gt n ws := by
  obtain ⟨dx, e1⟩ := R.hc
  obtain ⟨dx', e2⟩ := R.hw
  obtain ⟨kvs, e3, _⟩ := R.hd
  exact R.beside b0 hb (fun _ z => by cases z) (ne_of e1 hb (by intro z; cases z)) (ne_of e2 hb (by intro z; cases z)) (ne_of e3 hb (by intro z; cases z)) (ne_of R.hs hb (by intro z; cases z))
theorem Raw.setC (R : Raw C W H0 H c w d s l t o i gt n ws) {dx : Addr} (l' t' : Int) (hc : H c = some (.ins C dx (cf l t))) : Raw C W H0 (upd H c (.ins C dx (cf l' t'))) c w d s l' t' o i gt n ws where
  old := same_skip R.old R.c0
  c0 := R.c0
  w0 := R.w0
  d0 := R.d0
  s0 := R.s0
  hc := ⟨dx, upd_same⟩
  hw := let ⟨dx, e⟩ := R.hw; ⟨dx, by rw [upd_ne R.cw.symm]; exact e⟩
  hd := let ⟨kvs, e, q⟩ := R.hd; ⟨kvs, by rw [upd_ne R.cd.symm]; exact e, q.mono (tups_upd hc fun _ z => by cases z)⟩
  hs := by rw [upd_ne R.cs.symm]; exact R.hs
  cw := R.cw
  ds := R.ds
theorem Raw.setS (R : Raw C W H0 H c w d s l t o i gt n ws) (o' : Int) (i' gt' : Bool) : Raw C W H0 (upd H s (.dK (sk o' i' gt'))) c w d s l t o' i' gt' n ws where
  old := same_skip R.old R.s0
  c0 := R.c0
  w0 := R.w0
  d0 := R.d0
  s0 := R.s0
  hc := let ⟨dx, e⟩ := R.hc; ⟨dx, by rw [upd_ne R.cs]; exact e⟩
  hw := let ⟨dx, e⟩ := R.hw; ⟨dx, by rw [upd_ne R.sw.symm]; exact e⟩
  hd := let ⟨kvs, e, q⟩ := R.hd; ⟨kvs, by rw [upd_ne R.ds]; exact e, q.mono (tups_upd R.hs fun _ z => by cases z)⟩
  hs := upd_same
  cw := R.cw
  ds := R.ds
theorem Raw.setD (R : Raw C W H0 H c w d s l t o i gt n ws) {kvs' : List (Key × V)} {ws' : Ws} (q : WordsAt H kvs' ws') : Raw C W H0 (upd H d (.dK kvs')) c w d s l t o i gt n ws' where
  old := same_skip R.old R.d0
  c0 := R.c0
  w0 := R.w0
  d0 := R.d0
  s0 := R.s0
  hc := let ⟨dx, e⟩ := R.hc; ⟨dx, by rw [upd_ne R.cd]; exact e⟩
  hw := let ⟨dx, e⟩ := R.hw; ⟨dx, by rw [upd_ne R.dw.symm]; exact e⟩
  hd := let ⟨_, e, _⟩ := R.hd; ⟨kvs', upd_same, q.mono (tups_upd e fun _ z => by cases z)⟩
  hs := by rw [upd_ne R.ds.symm]; exact R.hs
  cw := R.cw
  ds := R.ds
theorem Raw.setW (R : Raw C W H0 H c w d s l t o i gt n ws) {dx : Addr} (n' : Int) (hw : H w = some (.ins W dx (wf d n))) : Raw C W H0 (upd H w (.ins W dx (wf d n'))) c w d s l t o i gt n' ws where
  old := same_skip R.old R.w0
  c0 := R.c0
  w0 := R.w0
  d0 := R.d0
  s0 := R.s0
  hc := let ⟨dx, e⟩ := R.hc; ⟨dx, by rw [upd_ne R.cw]; exact e⟩
  hw := ⟨dx, upd_same⟩
  hd := let ⟨kvs, e, q⟩ := R.hd; ⟨kvs, by rw [upd_ne R.dw]; exact e, q.mono (tups_upd hw fun _ z => by cases z)⟩
  hs := by rw [upd_ne R.sw]; exact R.hs
  cw := R.cw
  ds := R.ds
theorem BoxAt.grow (B : BoxAt H0 H b x y z) (h : Same H H') : BoxAt H0 H' b x y z := ⟨B.b0, h _ _ B.hb, B.x0, B.y0, B.y1, B.z0⟩
theorem BoxAt.skip (B : BoxAt H0 H b x y z) {a : Addr} {u v : HO} (ha : H a = some u) (hu : ∀ xs, u ≠ .lst xs) : BoxAt H0 (upd H a v) b x y z :=
  ⟨B.b0, by rw [upd_ne (ne_of B.hb ha (fun z => hu _ z.symm))]; exact B.hb, B.x0, B.y0, B.y1, B.z0⟩
end
/-- a game as it stands in the heap -/
abbrev Sit (C W : Addr) (H0 H : Hp) (c w d s : Addr) (g : Game) : Prop := Raw C W H0 H c w d s g.out g.told g.out g.inn g.got g.sent g.ws

/-! ### the state's dict, read and stored -/
section
variable {H : Hp} {s : Addr} {o : Int} {i g : Bool}
theorem dgO (h : H s = some (.dK (sk o i g))) : DGet H s (.str "out") (some (.int o)) := by
  have q := DGet.k (k := kO) h
  rw [sk_out] at q
  exact q
theorem dgI (h : H s = some (.dK (sk o i g))) : DGet H s (.str "in") (some (.bl i)) := by
  have q := DGet.k (k := kI) h
  rw [sk_in] at q
  exact q
theorem dgG (h : H s = some (.dK (sk o i g))) : DGet H s (.str "got") (some (.bl g)) := by
  have q := DGet.k (k := kG) h
  rw [sk_got] at q
  exact q
theorem dpI (h : H s = some (.dK (sk o i g))) (j : Bool) : DPut H s (.str "in") (.bl j) (upd H s (.dK (sk o j g))) := by
  have q := DPut.k (k := kI) (v := .bl j) h (by show 3 < sizeLine; decide)
  rw [sk_put_in] at q
  exact q
theorem dpG (h : H s = some (.dK (sk o i g))) (j : Bool) : DPut H s (.str "got") (.bl j) (upd H s (.dK (sk o i j))) := by
  have q := DPut.k (k := kG) (v := .bl j) h (by show 3 < sizeLine; decide)
  rw [sk_put_got] at q
  exact q
end

/-! ### the list that under_way tells, as data -/
def dOf (p : Int × Int) : PyData := .tuple [.int p.1, .tuple [.str "through", .int p.2]]
theorem dp_words {K : PySem.W.Frag} {H : Hp} : ∀ {ts : List Addr} {kvs : List (Key × V)} {ws : Ws}, PairsAt H ts kvs → WordsAt H kvs ws → DpAll K H (ts.map V.ref) (ws.map dOf)
  | _, _, _, .nil, .nil => .nil
  | _, _, _, .cons e t, .cons ⟨a, e1, e2⟩ q => by
    subst e1
    rw [List.map_cons, List.map_cons]
    exact .cons (.tup (SqT.of e) (.cons (.int _) (.cons (.tup (SqT.of e2) (.cons (.str _) (.cons (.int _) .nil))) .nil))) (dp_words t q)
theorem dOf_lay (p : Int × Int) : (dOf p).canLay0 = true := by
  simp only [dOf, PyData.canLay0, PyData.canLayAll0, Bool.and_true, Bool.true_and]
  decide +kernel
theorem dOf_depth (p : Int × Int) : (dOf p).depth = 2 := by
  simp [dOf, PyData.depth, PyData.depthAll]
theorem lay_all : ∀ ws : Ws, PyData.canLayAll0 (ws.map dOf) = true
  | [] => by simp [PyData.canLayAll0]
  | p :: ws => by
    rw [List.map_cons]
    simp only [PyData.canLayAll0, dOf_lay, lay_all ws, Bool.and_true]
theorem depth_all : ∀ ws : Ws, PyData.depthAll (ws.map dOf) ≤ 2
  | [] => by simp [PyData.depthAll]
  | p :: ws => by
    have := depth_all ws
    rw [List.map_cons]
    simp only [PyData.depthAll, dOf_depth]
    omega
theorem shaped_all (ws : Ws) : SeqAt.shaped (.list (ws.map dOf)) = true := by
  have h1 := lay_all ws
  have h2 := depth_all ws
  unfold SeqAt.shaped
  simp only [PyData.canLay0, h1, PyData.depth, Bool.true_and]
  exact decide_eq_true (by omega)
theorem shaped_nil : SeqAt.shaped (.list []) = true := shaped_all []
theorem eqv_nil : ∀ ws : Ws, PyData.eqv (.list (ws.map dOf)) (.list []) = ws.isEmpty
  | [] => by simp [PyData.eqv, PyData.eqvAll]
  | p :: ws => by
    rw [List.map_cons]
    simp [PyData.eqv, PyData.eqvAll]
/-- a word as data -/
def dW (m : Int) : PyData := .tuple [.str "through", .int m]
theorem shaped_word (m : Int) : SeqAt.shaped (dW m) = true := by
  unfold SeqAt.shaped
  have h : (dW m).canLay0 = true := by
    simp only [dW, PyData.canLay0, PyData.canLayAll0, Bool.and_true]
    decide +kernel
  rw [h]
  simp [dW, PyData.depth, PyData.depthAll]
theorem eqv_word (m : Int) : PyData.eqv (dW m) (dW m) = true := SeqAt.eqv_refl _ (by
  simp only [dW, PyData.canLay0, PyData.canLayAll0, Bool.and_true]
  decide +kernel)
theorem dp_word {K : PySem.W.Frag} {H : Hp} {a : Addr} {m : Int} (h : H a = some (.tup [.str "through", .int m])) : Dp K H (.ref a) (dW m) :=
  .tup (SqT.of h) (.cons (.str _) (.cons (.int _) .nil))
end Sf

namespace Sf
open PySem L2
theorem ifF {c : Bool} {A B : Prop} (h : c = false) (y : B) : if c = true then A else B := by
  subst h
  exact iteF y
theorem ifT {c : Bool} {A B : Prop} (h : c = true) (y : A) : if c = true then A else B := by
  subst h
  exact iteT y
theorem dec_int (i j : Int) : decide (V.int i = V.int j) = decide (i = j) := by
  by_cases e : i = j
  · rw [e, decide_eq_true rfl, decide_eq_true rfl]
  · rw [decide_eq_false e, decide_eq_false (fun z => e (V.int.inj z))]

/-- a def of the top, called by its name -/
structure DefOk (P : Program) (w : World) (K : PySem.W.Frag) (mg : Str → Option Value) (base : Heap) (k : Nat) (x : Str) (ps : List Str) (sp : Sp) (f : Addr) (fd : FuncData) : Prop where
  ok : FnOk P w K mg base CX0 k f fd ps sp
  b : Binds K fd ps []
  m : mg x = some (.ref f)
  kp : PySem.W.keepIn K (.ref f) = true
/-- a method -/
structure MethOk (P : Program) (w : World) (K : PySem.W.Frag) (mg : Str → Option Value) (base : Heap) (k : Nat) (C : Addr) (x : Str) (ps : List Str) (sp : Sp) (f : Addr) (fd : FuncData) : Prop where
  ok : FnOk P w K mg base CX0 k f fd ps sp
  b : Binds K fd ps []
  m : Meth K C x f

/-- what a deed, asked in the heap, comes to -/
def spDeed (C W : Addr) : Sp := fun vs H Q _ => ∃ (H0 : Hp) (b c w d s : Addr) (x y z : Int) (g : Game), vs = [.ref b, .ref c, .ref w, .ref s] ∧ Sit C W H0 H c w d s g ∧ Good g ∧ BoxAt H0 H b x y z ∧
  z ≤ 900 ∧ g.ws.length ≤ 900 ∧
  ∀ (H' : Hp) (g' : Game) (x' z' : Int), Sit C W H0 H' c w d s g' → Good g' → BoxAt H0 H' b x' y z' → z' ≤ z + 2 → g'.ws.length ≤ g.ws.length + 1 → g'.out ≤ g.out + 1 → Q (.bl true) H'

section
variable {P : Program} {w : World} {K : PySem.W.Frag} {mg : Str → Option Value} {base : Heap} {C W : Addr}
/-- what the wire's send does to the heap: the tuple at t was just laid -/
theorem send_raw {H0 H : Hp} {c wi d s t dx : Addr} {l tl o : Int} {i gt : Bool} {n : Int} {ws : Ws} {kvs : List (Key × V)}
    (R : Raw C W H0 H c wi d s l tl o i gt n ws) (ht : H t = none) (hw : H wi = some (.ins W dx (wf d n))) (q : WordsAt H kvs ws) :
    Raw C W H0 (upd (upd (upd H t (.tup [.str "through", .int o])) d (.dK (kvs ++ [(Sum.inl n, .ref t)]))) wi (.ins W dx (wf d (n + 1)))) c wi d s l tl o i gt (n + 1) (ws ++ [(n, o)]) := by
  have sm : Same H (upd H t (.tup [.str "through", .int o])) := fun a u e => by
    rw [upd_ne (ne_none e ht)]
    exact e
  have q1 : WordsAt (upd H t (.tup [.str "through", .int o])) (kvs ++ [(Sum.inl n, .ref t)]) (ws ++ [(n, o)]) :=
    Paired.snoc (q.mono fun a _ e => sm _ _ e) ⟨t, rfl, upd_same⟩
  refine ((R.grow sm).setD q1).setW _ ?_
  rw [upd_ne R.dw.symm]
  exact sm _ _ hw
theorem send_box {H0 H : Hp} {wi d t dx b : Addr} {o n : Int} {kvs kvs' : List (Key × V)} {x y z : Int}
    (B : BoxAt H0 H b x y z) (ht : H t = none) (hw : H wi = some (.ins W dx (wf d n))) (hd : H d = some (.dK kvs)) (dw : d ≠ wi) :
    BoxAt H0 (upd (upd (upd H t (.tup [.str "through", .int o])) d (.dK kvs')) wi (.ins W dx (wf d (n + 1)))) b x y z := by
  have sm : Same H (upd H t (.tup [.str "through", .int o])) := fun a u e => by
    rw [upd_ne (ne_none e ht)]
    exact e
  have hw2 : upd (upd H t (.tup [.str "through", .int o])) d (.dK kvs') wi = some (.ins W dx (wf d n)) := by
    rw [upd_ne dw.symm]
    exact sm _ _ hw
  exact ((B.grow sm).skip (sm _ _ hd) (fun _ z => by cases z)).skip hw2 (fun _ z => by cases z)
theorem no_num {ws : Ws} {n : Int} (h : ∀ p ∈ ws, 0 ≤ p.1 ∧ p.1 < n) {H : Hp} {kvs : List (Key × V)} (q : WordsAt H kvs ws) : valV kvs (Sum.inl n) = none := by
  refine valV_out fun m => ?_
  rw [q.keys] at m
  obtain ⟨j, hj, e⟩ := List.mem_map.mp m
  obtain ⟨p, hp, e2⟩ := List.mem_map.mp hj
  have e3 : j = n := Sum.inl.inj e
  have := h p hp
  omega

theorem scDeed : FnScope ["_law_box_here", "_law_count", "_law_wire", "_law_state", "_law_way", "_law_some", "_law_number", "_law_word"] ["_law_box_here", "_law_count", "_law_wire", "_law_state"] (defScope sDeed) :=
  ⟨rfl, rfl, rfl, by decide +kernel, rfl, by decide +kernel, by decide +kernel⟩
theorem ok_deed {f fT fU fO fS fL fG fH : Addr} {fd dT dU dO dS dL dG dH : FuncData} (F : Fun K "_law_deed" "_law_deed" sDeed f fd) (T : Txt K mg C W)
    (TK : DefOk P w K mg base 1 "_law_take" ["_law_box_here", "_law_many"] spTake fT dT)
    (U : MethOk P w K mg base 1 W "under_way" ["self"] (spWay W) fU dU)
    (O : MethOk P w K mg base 1 C "out" ["self"] (spOut C) fO dO)
    (S : MethOk P w K mg base 1 W "send" ["self", "word"] (spSend W) fS dS)
    (L : MethOk P w K mg base 3 W "lose" ["self", "number"] (spLose W) fL dL)
    (G : MethOk P w K mg base 3 W "get" ["self", "number"] (spGet W) fG dG)
    (TH : MethOk P w K mg base 2 C "through" ["self", "number"] (spThr C) fH dH) :
    FnOk P w K mg base CX0 4 f fd ["_law_box_here", "_law_count", "_law_wire", "_law_state"] (spDeed C W) := by
  refine F.ok scDeed (fun vs H Q E h => ?_) (fun cdv A outer s H vs Q E hr h => ?_)
  · obtain ⟨H0, b, c, wi, d, st, x, y, z, g, rfl, _⟩ := h
    rfl
  · obtain ⟨H0, b, c, wi, d, st, x, y, z, g, rfl, S0, G0, B0, hz, hlen, k⟩ := h
    have hu := hu_of hr
    have hr1 : Room 1 _ := hr.mono (by decide)
    have hr2 : Room 2 _ := hr.mono (by decide)
    refine ⟨_, pss_cons (ps_set (i := 4) scDeed.nd rfl (Or.inl rfl) (pe_call TK.ok hr1 (by rfl) TK.m TK.kp TK.b .nil pass0 (pa_cons (pv 0) (pa_cons pe_int pa_nil))))
      (pss_cons (ps_set (i := 5) scDeed.nd rfl (Or.inl rfl) (pe_meth0 (pv 2) T.cW U.m U.ok hr1 U.b .nil pass0))
      (pss_cons (ps_if (PW.pt (pw_and (pt_cmpR op_eq (pv 4) pe_int (nomark _)) (pw_and1 (pt_val (pe_dget hu (pv 3) pe_str (fun _ _ => rfl))))))
        (pss_cons (ps_expr (pe_bm PySem.F.plainAttrs_dict PySem.F.slot_dict_update PySem.F.type_dict_update mt_upd (pv 3)
            (pa_cons (pe_disp (pps_cons pe_str (pe_op op_add (pe_dget hu (pv 3) pe_str (fun _ _ => rfl)) pe_int) (pps_cons pe_str pe_bl (pps_cons pe_str pe_bl pps_nil))) (by rfl) (by rfl) (fun z => by cases z) (by decide)) pa_nil)))
          (pss_one (ps_ret (pe_cmpR op_eq (pe_meth0 (pv 1) T.cC O.m O.ok hr1 O.b .nil pass0) (pe_dget hu (pv 3) pe_str (fun _ _ => rfl)) (nomark _))))) pss_nil)
      (pss_cons (ps_if (PW.pt (pw_and (pt_cmpR op_eq (pv 4) pe_int (nomark _)) (pw_and1 (pt_val (pe_dget hu (pv 3) pe_str (fun _ _ => rfl))))))
        (pss_cons (ps_dput hu (pv 3) pe_str pe_bl rfl)
          (pss_one (ps_expr (pe_meth (pv 2) T.cW S.m S.ok hr1 S.b .nil pass0 (pa_cons (pe_tup (pa_cons pe_str (pa_cons (pe_dget hu (pv 3) pe_str (fun _ _ => rfl)) pa_nil))) pa_nil)))))
        (pss_one (ps_if (PW.pt (pw_and (pt_cmpR op_eq (pv 4) pe_int (nomark _)) (pw_and (pt_not (pt_val (pe_dget hu (pv 3) pe_str (fun _ _ => rfl)))) (pw_and1 (pt_cmpR op_gt (pe_dget hu (pv 3) pe_str (fun _ _ => rfl)) pe_int (nomark _))))))
          (pss_one (ps_expr (pe_meth (pv 2) T.cW S.m S.ok hr1 S.b .nil pass0 (pa_cons (pe_tup (pa_cons pe_str (pa_cons (pe_dget hu (pv 3) pe_str (fun _ _ => rfl)) pa_nil))) pa_nil))))
          (pss_one (ps_if (PW.pt (pw_and (pt_cmpR op_gt (pv 4) pe_int (nomark _)) (pw_and1 (pt_cmpR (op_neD hr.units) (pv 5) (pe_lst pa_nil) (nomark _)))))
            (pss_cons (ps_asg (pe_ix ix_list (pv 5) (pe_call TK.ok hr1 (by rfl) TK.m TK.kp TK.b .nil pass0 (pa_cons (pv 0) (pa_cons (pe_callB call_len_seq (by rfl) T.len PySem.boot_len (pa_cons (pv 5) pa_nil)) pa_nil))) (fun _ _ => rfl))
                (pg_tup rfl (pgs_cons (pg_name (i := 6) scDeed.nd rfl (.inl rfl)) (pgs_cons (pg_name (i := 7) scDeed.nd rfl (.inl rfl)) pgs_nil))))
              (pss_cons (ps_if (pt_cmpR op_eq (pv 4) pe_int (nomark _)) (pss_one (ps_ret (pe_cmp (pc_isN (pe_meth (pv 2) T.cW L.m L.ok hr L.b .nil pass0 (pa_cons (pv 6) pa_nil)))))) pss_nil)
              (pss_cons (ps_if (pt_cmpR (op_neD hr.units) (pe_meth (pv 2) T.cW G.m G.ok hr G.b .nil pass0 (pa_cons (pv 6) pa_nil)) (pv 7) (nomark _)) (pss_one (ps_ret pe_bl)) pss_nil)
              (pss_cons (ps_expr (pe_meth (pv 1) T.cC TH.m TH.ok hr2 TH.b .nil pass0 (pa_cons (pe_ix ix_tup (pv 7) pe_int (fun _ _ => rfl)) pa_nil)))
              (pss_one (ps_dput hu (pv 3) pe_str (pe_or (pe_dget hu (pv 3) pe_str (fun _ _ => rfl)) (pe_one (pe_cmpR op_eq (pe_ix ix_tup (pv 7) pe_int (fun _ _ => rfl)) (pe_dget hu (pv 3) pe_str (fun _ _ => rfl)) (nomark _)))) rfl))))))
            pss_nil)))))
      (pss_one (ps_ret pe_bl))))), ?_⟩
    -- way = take(box, 5)
    refine ⟨_, rfl, b, x, y, z, 5, rfl, B0.hb, B0.x0, B0.y0, B0.y1, B0.z0, by omega, by omega, by omega, fun r x1 z1 r0 r1 x10 z10 z11 => ?_⟩
    have S1 := S0.box (ys := [.int x1, .int y, .int z1]) B0.b0 B0.hb
    have B1 : BoxAt H0 (upd H b (.lst [.int x1, .int y, .int z1])) b x1 y z1 := ⟨B0.b0, upd_same, x10, B0.y0, B0.y1, z10⟩
    generalize upd H b (.lst [.int x1, .int y, .int z1]) = H1 at S1 B1 ⊢
    -- some = wire.under_way()
    obtain ⟨dx1, hw1⟩ := S1.hw
    obtain ⟨kvs, hd1, q1⟩ := S1.hd
    have klen : kvs.length ≤ 1000 := by
      have := q1.length
      omega
    refine ⟨_, rfl, wi, dx1, _, rfl, hw1, f2_no _ _ (by decide +kernel) (by decide +kernel), wi, dx1, d, g.sent, kvs, g.ws.map (fun p => p.1), rfl, hw1, hd1, q1.keys, G0.up, klen, fun H2 LA ts sm hL eL pr => ?_⟩
    have S2 : Sit C W H0 H2 c wi d st g := S1.grow sm
    have B2 := B1.grow sm
    have hw2 := sm _ _ hw1
    have hd2 := sm _ _ hd1
    have q2 : WordsAt H2 kvs g.ws := q1.mono fun a _ e => sm _ _ e
    have nLb : LA ≠ b := (ne_none B1.hb hL).symm
    clear S1 B1 hw1 hd1 q1 sm hL
    have nd : (kvs.map (fun kv => kv.1)).Nodup := by
      rw [q2.keys]
      exact rising_nodup G0.up
    have tlen : ts.length = g.ws.length := by
      have e1 := pr.length
      have e2 := q2.length
      omega
    have five : r = 0 ∨ r = 1 ∨ r = 2 ∨ r = 3 ∨ r = 4 := by omega
    -- the tail: nothing was done
    have rest0 : Q (.bl true) H2 := k H2 g x1 z1 S2 G0 B2 (by omega) (by omega) (by omega)
    -- sending
    have sendit : ∀ (H3 : Hp), Sit C W H0 H3 c wi d st { g with inn := false } → BoxAt H0 H3 b x1 y z1 → 1 ≤ g.out → ∀ t, H3 t = none → ∀ dx, H3 wi = some (.ins W dx (wf d g.sent)) → H3 d = some (.dK kvs) → WordsAt H3 kvs g.ws →
        Q (.bl true) (upd (upd (upd H3 t (.tup [.str "through", .int g.out])) d (.dK (kvs ++ [(Sum.inl g.sent, .ref t)]))) wi (.ins W dx (wf d (g.sent + 1)))) := by
      intro H3 S3 B3 h1 t ht dx hw3 hd3 q3
      have R := send_raw S3 ht hw3 q3
      have B4 := send_box (o := g.out) (kvs' := kvs ++ [(Sum.inl g.sent, .ref t)]) B3 ht hw3 hd3 S3.dw
      refine k _ (gSend g) x1 z1 R (good_send G0 h1) B4 (by omega) ?_ ?_
      · show (g.ws ++ [(g.sent, g.out)]).length ≤ _
        rw [List.length_append]
        exact Nat.le_refl _
      · show g.out ≤ g.out + 1
        omega
    rcases five with rfl | rfl | five
    · -- way 0
      refine ⟨_, rfl, rfl, _, rfl, ifT rfl ?_⟩
      refine ⟨_, rfl, st, _, rfl, dgG S2.hs, _, rfl, ?_⟩
      by_cases hg : g.got = true
      · refine ifT hg ?_
        -- state.update({'out': out + 1, 'in': True, 'got': False})
        refine ⟨_, rfl, .inr (.inr (.inl ⟨rfl, .inl ⟨_, S2.hs⟩⟩)), fun p hp => ?_⟩
        have sm1 : Same H2 (upd H2 p (.dK [])) := fun a u e => by
          rw [upd_ne (ne_none e hp)]
          exact e
        refine ⟨_, rfl, st, _, rfl, dgO (sm1 _ _ S2.hs), _, _, rfl, rfl, upd_same, sk (g.out + 1) true false, rfl, (by show 3 ≤ 15; decide), ?_⟩
        have e3 : upd (upd H2 p (.dK [])) p (.dK (mergeK [] (sk (g.out + 1) true false))) = upd H2 p (.dK (sk (g.out + 1) true false)) := by
          rw [upd_upd, sk_new]
        have sm3 : Same H2 (upd H2 p (.dK (sk (g.out + 1) true false))) := fun a u e => by
          rw [upd_ne (ne_none e hp)]
          exact e
        have hp3 : upd H2 p (.dK (sk (g.out + 1) true false)) p = some (.dK (sk (g.out + 1) true false)) := upd_same
        have S3 : Sit C W H0 (upd H2 p (.dK (sk (g.out + 1) true false))) c wi d st g := S2.grow sm3
        have B3 := B2.grow sm3
        rw [e3]
        have nsp : st ≠ p := ne_none S2.hs hp
        generalize upd H2 p (.dK (sk (g.out + 1) true false)) = H3 at S3 B3 hp3 ⊢
        refine ⟨st, p, _, _, rfl, rfl, nsp, S3.hs, hp3, (by show 6 ≤ sizeLine; decide), ?_⟩
        rw [sk_merge]
        have S4 := S3.setS (g.out + 1) true false
        have B4 := B3.skip (v := .dK (sk (g.out + 1) true false)) S3.hs (fun _ z => by cases z)
        generalize upd H3 st (.dK (sk (g.out + 1) true false)) = H4 at S4 B4 ⊢
        -- return count.out() == state['out']
        obtain ⟨dxc, hc4⟩ := S4.hc
        have S5 := S4.setC (g.out + 1) g.told hc4
        have B5 := B4.skip (v := .ins C dxc (cf (g.out + 1) g.told)) hc4 (fun _ z => by cases z)
        refine ⟨_, rfl, c, dxc, _, rfl, hc4, f2_no _ _ (by decide +kernel) (by decide +kernel), c, dxc, g.out, g.told, rfl, hc4, _, rfl, st, _, rfl, dgO S5.hs, rfl, ?_⟩
        have et : V.bl (decide (V.int (g.out + 1) = V.int (g.out + 1))) = V.bl true := congrArg V.bl (decide_eq_true rfl)
        show Q (V.bl (decide (V.int (g.out + 1) = V.int (g.out + 1)))) _
        rw [et]
        exact k _ (gOut g) x1 z1 S5 (good_out G0) B5 (by omega) (Nat.le_succ _) (Int.le_refl _)
      · have hg' : g.got = false := by simpa using hg
        refine ifF hg' ?_
        refine ⟨_, rfl, rfl, _, rfl, ifF rfl ?_⟩
        refine ifF rfl ?_
        refine ⟨_, rfl, rfl, _, rfl, ifF rfl ?_⟩
        refine ifF rfl ?_
        refine ⟨_, rfl, _, _, rfl, rfl, _, rfl, ifF rfl ?_⟩
        exact ifF rfl rest0
    · -- way 1
      refine ⟨_, rfl, rfl, _, rfl, ifF rfl ?_⟩
      refine ifF rfl ?_
      refine ⟨_, rfl, rfl, _, rfl, ifT rfl ?_⟩
      refine ⟨_, rfl, st, _, rfl, dgI S2.hs, _, rfl, ?_⟩
      by_cases hi : g.inn = true
      · refine ifT hi ?_
        refine ⟨_, rfl, st, _, rfl, dpI S2.hs false, ?_⟩
        have S3 := S2.setS g.out false g.got
        have B3 := B2.skip (v := .dK (sk g.out false g.got)) S2.hs (fun _ z => by cases z)
        have hw3 : upd H2 st (.dK (sk g.out false g.got)) wi = some (.ins W dx1 (wf d g.sent)) := by
          rw [upd_ne S2.sw.symm]
          exact hw2
        have hd3 : upd H2 st (.dK (sk g.out false g.got)) d = some (.dK kvs) := by
          rw [upd_ne S2.ds]
          exact hd2
        have q3 : WordsAt (upd H2 st (.dK (sk g.out false g.got))) kvs g.ws := q2.mono (tups_upd S2.hs fun _ z => by cases z)
        generalize upd H2 st (.dK (sk g.out false g.got)) = H3 at S3 B3 hw3 hd3 q3 ⊢
        refine ⟨_, rfl, wi, dx1, _, rfl, hw3, f2_no _ _ (by decide +kernel) (by decide +kernel), _, rfl, st, _, rfl, dgO S3.hs, (by show 2 ≤ sizeLine; decide), fun t ht => ?_⟩
        have sm4 : Same H3 (upd H3 t (.tup [.str "through", .int g.out])) := fun a u e => by
          rw [upd_ne (ne_none e ht)]
          exact e
        exact ⟨wi, dx1, d, g.sent, .ref t, kvs, rfl, sm4 _ _ hw3, sm4 _ _ hd3, no_num G0.num q3, klen, sendit H3 S3 B3 (good_in G0 hi) t ht dx1 hw3 hd3 q3⟩
      · have hi' : g.inn = false := by simpa using hi
        refine ifF hi' ?_
        refine ⟨_, rfl, rfl, _, rfl, ifF rfl ?_⟩
        refine ifF rfl ?_
        refine ⟨_, rfl, _, _, rfl, rfl, _, rfl, ifF rfl ?_⟩
        exact ifF rfl rest0
    rcases five with rfl | five
    · -- way 2
      refine ⟨_, rfl, rfl, _, rfl, ifF rfl ?_⟩
      refine ifF rfl ?_
      refine ⟨_, rfl, rfl, _, rfl, ifF rfl ?_⟩
      refine ifF rfl ?_
      refine ⟨_, rfl, rfl, _, rfl, ifT rfl ?_⟩
      refine ⟨_, rfl, st, _, rfl, dgI S2.hs, _, rfl, ?_⟩
      by_cases hi : g.inn = true
      · refine ifF (by rw [hi]; rfl) ?_
        refine ifF rfl ?_
        refine ⟨_, rfl, _, _, rfl, rfl, _, rfl, ifF rfl ?_⟩
        exact ifF rfl rest0
      · have hi' : g.inn = false := by simpa using hi
        refine ifT (by rw [hi']; rfl) ?_
        refine ⟨_, rfl, st, _, rfl, dgO S2.hs, _, _, rfl, rfl, _, rfl, ?_⟩
        by_cases ho : 0 < g.out
        · refine ifT (decide_eq_true ho) ?_
          refine ⟨_, rfl, wi, dx1, _, rfl, hw2, f2_no _ _ (by decide +kernel) (by decide +kernel), _, rfl, st, _, rfl, dgO S2.hs, (by show 2 ≤ sizeLine; decide), fun t ht => ?_⟩
          have sm4 : Same H2 (upd H2 t (.tup [.str "through", .int g.out])) := fun a u e => by
            rw [upd_ne (ne_none e ht)]
            exact e
          have S3 : Sit C W H0 H2 c wi d st { g with inn := false } := by
            have q := S2
            rw [Sit, hi'] at q
            exact q
          exact ⟨wi, dx1, d, g.sent, .ref t, kvs, rfl, sm4 _ _ hw2, sm4 _ _ hd2, no_num G0.num q2, klen, sendit H2 S3 B2 (by omega) t ht dx1 hw2 hd2 q2⟩
        · refine ifF (decide_eq_false ho) ?_
          refine ⟨_, rfl, _, _, rfl, rfl, _, rfl, ifF rfl ?_⟩
          exact ifF rfl rest0
    · -- ways 3 and 4
      have n0 : decide (V.int r = V.int 0) = false := decide_eq_false (fun z => by have := V.int.inj z; omega)
      have n1 : decide (V.int r = V.int 1) = false := decide_eq_false (fun z => by have := V.int.inj z; omega)
      have n2 : decide (V.int r = V.int 2) = false := decide_eq_false (fun z => by have := V.int.inj z; omega)
      have p2 : decide ((2 : Int) < r) = true := decide_eq_true (by omega)
      refine ⟨_, rfl, rfl, _, rfl, ifF n0 ?_⟩
      refine ifF rfl ?_
      refine ⟨_, rfl, rfl, _, rfl, ifF n1 ?_⟩
      refine ifF rfl ?_
      refine ⟨_, rfl, rfl, _, rfl, ifF n2 ?_⟩
      refine ifF rfl ?_
      refine ⟨_, rfl, _, _, rfl, rfl, _, rfl, ifT p2 ?_⟩
      -- some != []
      refine ⟨_, rfl, (by show 0 ≤ sizeLine; decide), fun p hp => ?_⟩
      have sm3 : Same H2 (upd H2 p (.lst [])) := fun a u e => by
        rw [upd_ne (ne_none e hp)]
        exact e
      have S3 : Sit C W H0 (upd H2 p (.lst [])) c wi d st g := S2.grow sm3
      have B3 := B2.grow sm3
      have hw3 := sm3 _ _ hw2
      have hd3 := sm3 _ _ hd2
      have eL3 := sm3 _ _ eL
      have q3 : WordsAt (upd H2 p (.lst [])) kvs g.ws := q2.mono fun a _ e => sm3 _ _ e
      have pr3 : PairsAt (upd H2 p (.lst [])) ts kvs := pr.mono fun a _ e => sm3 _ _ e
      have hp3 : upd H2 p (.lst []) p = some (.lst []) := upd_same
      have rest3 : Q (.bl true) (upd H2 p (.lst [])) := k _ g x1 z1 S3 G0 B3 (by omega) (by omega) (by omega)
      generalize upd H2 p (.lst []) = H3 at S3 B3 hw3 hd3 eL3 q3 pr3 hp3 rest3 ⊢
      refine ⟨.list (g.ws.map dOf), .list [], .lst (SqL.of eL3) (dp_words pr3 q3), .lst (SqL.of hp3) .nil, shaped_all _, shaped_nil, _, rfl, ?_⟩
      by_cases he : g.ws.isEmpty = true
      · refine ifF (by rw [eqv_nil, he]; rfl) ?_
        exact rest3
      have he' : g.ws.isEmpty = false := by simpa using he
      have some1 : 1 ≤ g.ws.length := by
        cases hws : g.ws with
        | nil => exact absurd (by rw [hws]; rfl) he
        | cons a l => simp
      refine ifT (by rw [eqv_nil, he']; rfl) ?_
      -- number, word = some[take(box, len(some))]
      refine ⟨_, rfl, _, rfl, _, rfl, LA, _, rfl, .inl (SqL.of eL3), b, x1, y, z1, _, rfl, B3.hb, B3.x0, B3.y0, B3.y1, B3.z0, by omega, ?_, ?_, fun j x2 z2 j0 j1 x20 z20 z21 => ?_⟩
      · rw [List.length_map]
        omega
      · rw [List.length_map]
        omega
      rw [List.length_map] at j1
      have nbd : d ≠ b := ne_of hd3 B3.hb (by intro z; cases z)
      have S4 := S3.box (ys := [.int x2, .int y, .int z2]) B3.b0 B3.hb
      have B4 : BoxAt H0 (upd H3 b (.lst [.int x2, .int y, .int z2])) b x2 y z2 := ⟨B3.b0, upd_same, x20, B3.y0, B3.y1, z20⟩
      have tu : ∀ a xs, H3 a = some (.tup xs) → upd H3 b (.lst [.int x2, .int y, .int z2]) a = some (.tup xs) := tups_upd B3.hb fun _ z => by cases z
      have q4 : WordsAt (upd H3 b (.lst [.int x2, .int y, .int z2])) kvs g.ws := q3.mono tu
      have pr4 : PairsAt (upd H3 b (.lst [.int x2, .int y, .int z2])) ts kvs := pr3.mono tu
      have hd4 : upd H3 b (.lst [.int x2, .int y, .int z2]) d = some (.dK kvs) := by
        rw [upd_ne nbd]
        exact hd3
      have hw4 : upd H3 b (.lst [.int x2, .int y, .int z2]) wi = some (.ins W dx1 (wf d g.sent)) := by
        rw [upd_ne (ne_of hw3 B3.hb (by intro z; cases z))]
        exact hw3
      have eL4 : upd H3 b (.lst [.int x2, .int y, .int z2]) LA = some (.lst (ts.map V.ref)) := by
        rw [upd_ne nLb]
        exact eL3
      generalize upd H3 b (.lst [.int x2, .int y, .int z2]) = H4 at S4 B4 q4 pr4 hd4 hw4 eL4 ⊢
      have jlt : j.toNat < g.ws.length := by omega
      obtain ⟨⟨n, m⟩, hnm⟩ : ∃ nm, g.ws[j.toNat]? = some nm := ⟨_, List.getElem?_eq_getElem jlt⟩
      have nmem : (n, m) ∈ g.ws := List.mem_of_getElem? hnm
      obtain ⟨a, hka, haw⟩ := q4.get hnm
      obtain ⟨t, htj, htt⟩ := pr4.get hka
      have hval : valV kvs (Sum.inl n) = some (.ref a) := valV_at nd hka
      have hnn := G0.num _ nmem
      have hmm := G0.lo _ nmem
      have hat : (ts.map V.ref)[j.toNat]? = some (V.ref t) := by
        rw [List.getElem?_map, htj]
        rfl
      refine ⟨LA, _, j, _, rfl, rfl, SqL.of eL4, at_of (by omega) hat, t, _, rfl, SqT.of htt, rfl, _, _, rfl, _, _, rfl, rfl, ?_⟩
      have S5 := S4.setD (q4.drop n)
      have B5 := B4.skip (v := .dK (dropK kvs (Sum.inl n))) hd4 (fun _ z => by cases z)
      have tu5 := tups_upd (o := .dK (dropK kvs (Sum.inl n))) hd4 fun _ z => by cases z
      have flen : (g.ws.filter fun p => decide (p.1 ≠ n)).length ≤ g.ws.length := List.length_filter_le _ _
      rcases (show r = 4 ∨ r = 3 by omega) with rfl | rfl
      · -- return wire.lose(number) is None
        refine ⟨_, rfl, rfl, _, rfl, ifT rfl ?_⟩
        refine ⟨_, rfl, wi, dx1, _, rfl, hw4, f2_no _ _ (by decide +kernel) (by decide +kernel), _, rfl, d, kvs, n, .ref a, ⟨wi, dx1, g.sent, rfl, hw4, hd4, hnn.1, hnn.2, hval⟩, ?_⟩
        have et : V.bl (decide (V.non = V.non)) = V.bl true := congrArg V.bl (decide_eq_true rfl)
        show Q (V.bl (decide (V.non = V.non))) _
        rw [et]
        refine k _ (gLose g n) x2 z2 S5 (good_lose G0 n) B5 (by omega) (Nat.le_succ_of_le flen) ?_
        show g.out ≤ g.out + 1
        omega
      · refine ⟨_, rfl, rfl, _, rfl, ifF rfl ?_⟩
        -- if wire.get(number) != word
        have haw5 := tu5 _ _ haw
        refine ⟨_, rfl, wi, dx1, _, rfl, hw4, f2_no _ _ (by decide +kernel) (by decide +kernel), _, rfl, d, kvs, n, .ref a, ⟨wi, dx1, g.sent, rfl, hw4, hd4, hnn.1, hnn.2, hval⟩, ?_⟩
        generalize upd H4 d (.dK (dropK kvs (Sum.inl n))) = H5 at S5 B5 haw5 ⊢
        refine ⟨_, rfl, dW m, dW m, dp_word haw5, dp_word haw5, shaped_word m, shaped_word m, _, rfl, ifF (by rw [eqv_word]; rfl) ?_⟩
        -- count.through(word[1])
        obtain ⟨dxc, hc5⟩ := S5.hc
        refine ⟨_, rfl, c, dxc, _, rfl, hc5, f2_no _ _ (by decide +kernel) (by decide +kernel), _, rfl, a, _, _, _, rfl, rfl, SqT.of haw5, rfl, c, dxc, g.out, g.told, m, rfl, hc5, hmm.1, hmm.2, ?_⟩
        have S6 := S5.setC g.out (if m > g.told then m else g.told) hc5
        have B6 := B5.skip (v := .ins C dxc (cf g.out (if m > g.told then m else g.told))) hc5 (fun _ z => by cases z)
        have haw6 := tups_upd (o := .ins C dxc (cf g.out (if m > g.told then m else g.told))) hc5 (fun _ z => by cases z) _ _ haw5
        generalize upd H5 c (.ins C dxc (cf g.out (if m > g.told then m else g.told))) = H6 at S6 B6 haw6 ⊢
        -- state['got'] = state['got'] or word[1] == state['out']
        have last : ∀ v : Bool, v = (g.got || decide (m = g.out)) → Q (.bl true) (upd H6 st (.dK (sk g.out g.inn v))) := by
          rintro v rfl
          have S7 := S6.setS g.out g.inn (g.got || decide (m = g.out))
          have B7 := B6.skip (v := .dK (sk g.out g.inn (g.got || decide (m = g.out)))) S6.hs (fun _ z => by cases z)
          refine k _ (gGot (gLose g n) m) x2 z2 S7 (good_got (good_lose G0 n) hmm.1 hmm.2 fun hi => (G0.inn hi).2 _ nmem) B7 (by omega) (Nat.le_succ_of_le flen) ?_
          show g.out ≤ g.out + 1
          omega
        refine ⟨_, rfl, st, _, rfl, dgG S6.hs, _, rfl, ?_⟩
        by_cases hg : g.got = true
        · refine ifT hg ?_
          refine ⟨_, rfl, st, _, rfl, dpG S6.hs true, ?_⟩
          exact last true (by rw [hg]; rfl)
        · have hg' : g.got = false := by simpa using hg
          refine ifF hg' ?_
          refine ⟨_, rfl, a, _, _, _, rfl, rfl, SqT.of haw6, rfl, _, rfl, st, _, rfl, dgO S6.hs, rfl, ?_⟩
          refine ⟨_, rfl, st, _, rfl, dpG S6.hs _, ?_⟩
          exact last _ (by rw [hg', dec_int]; rfl)
end
end Sf

namespace Sf
open PySem L2
section
variable {P : Program} {w : World} {K : PySem.W.Frag} {mg : Str → Option Value} {base : Heap} {C W : Addr}
theorem laid_same {H : Hp} {p : Addr} {o : HO} (h : H p = none) : Same H (upd H p o) := fun b u e => by
  rw [upd_ne (ne_none e h)]
  exact e
/-- repr([count.clear(), count.last()]) != repr([state['got'], state['out']]) is False -/
theorem rep_read {σ : L2.St} {H0 H : Hp} {c wi d st : Addr} {g : Game} {Qb : Bool → Hp → Prop} (h1 : σ[1]? = some (some (.ref c))) (h3 : σ[3]? = some (some (.ref st)))
    (S : Sit C W H0 H c wi d st g) (G : Good g) (ho : g.out ≤ 1000) (k : ∀ H', Same H H' → Qb false H') :
    tTest (tOp rNe
      (tCB rRepr (tCons (tLst (tCons (tMeth C "clear" (spClear C) [] E0 (tVar 1) tNil) (tCons (tMeth C "last" (spLast C) [] E0 (tVar 1) tNil) tNil))) tNil))
      (tCB rRepr (tCons (tLst (tCons (tDGet (tVar 3) (tC (.str "got"))) (tCons (tDGet (tVar 3) (tC (.str "out"))) tNil))) tNil))) σ H Qb := by
  obtain ⟨dx, hc⟩ := S.hc
  have o0 : 0 ≤ g.out := by
    have := G.t0
    have := G.tl
    omega
  refine ⟨_, h1, c, dx, _, rfl, hc, f2_no _ _ (by decide +kernel) (by decide +kernel), c, dx, g.out, g.told, rfl, hc, _, h1, c, dx, _, rfl, hc, f2_no _ _ (by decide +kernel) (by decide +kernel), c, dx, g.out, g.told, rfl, hc,
    (by show 2 ≤ sizeLine; decide), fun p1 n1 => ⟨p1, _, _, rfl, upd_same, o0, ho, ?_⟩⟩
  have sm1 := laid_same (o := .lst [.bl (decide (g.told = g.out)), .int g.out]) n1
  have hs1 := sm1 _ _ S.hs
  refine ⟨_, h3, st, _, rfl, dgG hs1, _, h3, st, _, rfl, dgO hs1, (by show 2 ≤ sizeLine; decide), fun p2 n2 => ⟨p2, _, _, rfl, upd_same, o0, ho, rfl, _, rfl, ?_⟩⟩
  have e : (!decide (V.str (txtBN (decide (g.told = g.out)) g.out) = V.str (txtBN g.got g.out))) = false := by
    rw [G.gt, decide_eq_true rfl]
    rfl
  rw [e]
  exact k _ (sm1.trans (laid_same n2))
theorem Paired.dropP {α β : Type} {F : α → β → Prop} : ∀ (j : Nat) {xs : List α} {ys : List β}, Paired F xs ys → Paired F (xs.drop j) (ys.drop j)
  | 0, _, _, h => h
  | _ + 1, _, _, .nil => .nil
  | j + 1, _, _, .cons _ t => Paired.dropP j t
/-- the first entry goes -/
theorem drop_first {kvs : List (Key × V)} {k : Key} {v : V} (nd : (((k, v) :: kvs).map (fun kv => kv.1)).Nodup) : dropK ((k, v) :: kvs) k = kvs := by
  have nd' : (k :: kvs.map (fun kv => kv.1)).Nodup := nd
  rw [dropK_pos rfl]
  exact dropK_no (List.nodup_cons.mp nd').1

theorem scLaw : FnScope ["_law_script", "_law_count", "_law_wire", "_law_state", "_law_many", "_law_quiet", "_law_k", "_law_box_here", "_law_turn", "_law_number", "_law_word"] ["_law_script"] (defScope sLaw) :=
  ⟨rfl, rfl, rfl, by decide +kernel, rfl, by decide +kernel, by decide +kernel⟩
theorem room_law (env : Env) : Room 4 (callerA.deeper env) := ⟨rfl, by show 302 + 3 * 4 + 5 < 1000; decide, by show 7 + 16 * 4 + 200 < 9900; decide⟩
theorem ok_law {fa fCI fWI fCE fBX fT fD fU fS fL fG fH fLa fCl : Addr} {fd dCI dWI dCE dBX dT dD dU dS dL dG dH dLa dCl : FuncData} (F : Fun K "law" "law" sLaw fa fd)
    (hbind : ∀ (s : Shared) (u : Value), BindsTo s fd ⟨[u], []⟩ [("_law_script", u)]) (T : Txt K mg C W)
    (MC : Mk K C fCI) (CI : FnOk P w K mg base CX0 1 fCI dCI ["self"] (spCInit C)) (bCI : Binds K dCI ["self"] [])
    (MW : Mk K W fWI) (WI : FnOk P w K mg base CX0 1 fWI dWI ["self"] (spWInit W)) (bWI : Binds K dWI ["self"] [])
    (CE : DefOk P w K mg base 1 "_law_cell" ["_law_script", "_law_k"] (spCell K) fCE dCE)
    (BX : DefOk P w K mg base 1 "_law_box" ["_law_cell_here"] spBox fBX dBX)
    (TK : DefOk P w K mg base 1 "_law_take" ["_law_box_here", "_law_many"] spTake fT dT)
    (DE : DefOk P w K mg base 4 "_law_deed" ["_law_box_here", "_law_count", "_law_wire", "_law_state"] (spDeed C W) fD dD)
    (U : MethOk P w K mg base 1 W "under_way" ["self"] (spWay W) fU dU)
    (S : MethOk P w K mg base 1 W "send" ["self", "word"] (spSend W) fS dS)
    (L : MethOk P w K mg base 3 W "lose" ["self", "number"] (spLose W) fL dL)
    (G : MethOk P w K mg base 3 W "get" ["self", "number"] (spGet W) fG dG)
    (TH : MethOk P w K mg base 2 C "through" ["self", "number"] (spThr C) fH dH)
    (LA : MethOk P w K mg base 1 C "last" ["self"] (spLast C) fLa dLa)
    (CL : MethOk P w K mg base 1 C "clear" ["self"] (spClear C) fCl dCl) : LawAt P w K mg base fa := by
  intro s H a ns e0 hS hlen
  refine run_body (us := [.ref a]) (vs := [.ref a]) F scLaw rfl (by show 301 < 1000; decide) e0 (hbind s (.ref a)) (.cons rfl .nil) rfl fun cdv => ?_
  have hr : Room 4 (callerA.deeper (PyProof.Rows.envOfC "law" (defScope sLaw) s.heap.objs.size fa cdv)) := room_law _
  have hg : (callerA.deeper (PyProof.Rows.envOfC "law" (defScope sLaw) s.heap.objs.size fa cdv)).guards = some [] := rfl
  have hu := hu_of hr
  have hu64 := hr.units
  have hr1 : Room 1 _ := hr.mono (by decide)
  have hr2 : Room 2 _ := hr.mono (by decide)
  have hr3 : Room 3 _ := hr.mono (by decide)
  refine ⟨_, pss_cons (ps_set (i := 1) scLaw.nd rfl (Or.inl rfl) (pe_make0 MC CI hr2 rfl T.mgC bCI .nil pass0))
    (pss_cons (ps_set (i := 2) scLaw.nd rfl (Or.inl rfl) (pe_make0 MW WI hr2 rfl T.mgW bWI .nil pass0))
    (pss_cons (ps_set (i := 3) scLaw.nd rfl (Or.inl rfl) (pe_disp (pps_cons pe_str pe_int (pps_cons pe_str pe_bl (pps_cons pe_str pe_bl pps_nil))) (by rfl) (by rfl) (fun z => by cases z) (by decide)))
    (pss_cons (ps_set (i := 4) scLaw.nd rfl (Or.inl rfl) (pe_callB (call_max2 rfl) (by rfl) T.max (by decide +kernel) (pa_cons pe_int (pa_cons (pe_callB (call_min2 rfl) (by rfl) T.min (by decide +kernel)
        (pa_cons pe_int (pa_cons (pe_callB call_len_seq (by rfl) T.len PySem.boot_len (pa_cons (pv 0) pa_nil)) pa_nil))) pa_nil))))
    (pss_cons (ps_set (i := 5) scLaw.nd rfl (Or.inl rfl) (pe_cmpR op_eq (pe_call TK.ok hr1 (by rfl) TK.m TK.kp TK.b .nil pass0
        (pa_cons (pe_call BX.ok hr1 (by rfl) BX.m BX.kp BX.b .nil pass0 (pa_cons (pe_call CE.ok hr1 (by rfl) CE.m CE.kp CE.b .nil pass0 (pa_cons (pv 0) (pa_cons (pe_op op_sub (pv 4) pe_int) pa_nil))) pa_nil)) (pa_cons pe_int pa_nil))) pe_int (nomark _)))
    (pss_cons (ps_for PassesOwn.never rfl (pi_range1 rfl T.range (pa_cons (pv 4) pa_nil)) (pg_name (i := 6) scLaw.nd rfl (Or.inl rfl))
      (pss_cons (ps_set (i := 7) scLaw.nd rfl (Or.inl rfl) (pe_call BX.ok hr1 (by rfl) BX.m BX.kp BX.b .nil pass0 (pa_cons (pe_call CE.ok hr1 (by rfl) CE.m CE.kp CE.b .nil pass0 (pa_cons (pv 0) (pa_cons (pv 6) pa_nil))) pa_nil)))
      (pss_one (ps_for PassesOwn.never rfl (pi_range1 rfl T.range (pa_cons (pe_op op_add pe_int (pe_call TK.ok hr1 (by rfl) TK.m TK.kp TK.b .nil pass0 (pa_cons (pv 7) (pa_cons pe_int pa_nil)))) pa_nil)) (pg_name (i := 8) scLaw.nd rfl (Or.inl rfl))
        (pss_cons (ps_if (pt_not (pt_val (pe_call DE.ok hr (by rfl) DE.m DE.kp DE.b .nil pass0 (pa_cons (pv 7) (pa_cons (pv 1) (pa_cons (pv 2) (pa_cons (pv 3) pa_nil))))))) (pss_one (ps_ret pe_bl)) pss_nil)
        (pss_one (ps_if (PW.pt (pw_and (pt_not (pt_val (pv 5))) (pw_and1 (pt_cmpR op_ne
            (pe_callB (cr_repr hg hu64) (by rfl) T.repr (by decide +kernel) (pa_cons (pe_lst (pa_cons (pe_meth0 (pv 1) T.cC CL.m CL.ok hr1 CL.b .nil pass0) (pa_cons (pe_meth0 (pv 1) T.cC LA.m LA.ok hr1 LA.b .nil pass0) pa_nil))) pa_nil))
            (pe_callB (cr_repr hg hu64) (by rfl) T.repr (by decide +kernel) (pa_cons (pe_lst (pa_cons (pe_dget hu (pv 3) pe_str (fun _ _ => rfl)) (pa_cons (pe_dget hu (pv 3) pe_str (fun _ _ => rfl)) pa_nil))) pa_nil)) (nomark _)))))
          (pss_one (ps_ret pe_bl)) pss_nil)))))))
    (pss_cons (ps_if (pt_cmpR op_ne
            (pe_callB (cr_repr hg hu64) (by rfl) T.repr (by decide +kernel) (pa_cons (pe_lst (pa_cons (pe_meth0 (pv 1) T.cC CL.m CL.ok hr1 CL.b .nil pass0) (pa_cons (pe_meth0 (pv 1) T.cC LA.m LA.ok hr1 LA.b .nil pass0) pa_nil))) pa_nil))
            (pe_callB (cr_repr hg hu64) (by rfl) T.repr (by decide +kernel) (pa_cons (pe_lst (pa_cons (pe_dget hu (pv 3) pe_str (fun _ _ => rfl)) (pa_cons (pe_dget hu (pv 3) pe_str (fun _ _ => rfl)) pa_nil))) pa_nil)) (nomark _))
          (pss_one (ps_ret pe_bl)) pss_nil)
    (pss_cons (ps_if (PW.pt (pw_or (pt_val (pe_dget hu (pv 3) pe_str (fun _ _ => rfl))) (pw_or1 (pt_cmpR op_eq (pe_dget hu (pv 3) pe_str (fun _ _ => rfl)) pe_int (nomark _))))) (pss_one (ps_ret pe_bl)) pss_nil)
    (pss_cons (ps_for PassesOwn.never rfl (pi_list (pe_meth0 (pv 2) T.cW U.m U.ok hr1 U.b .nil pass0))
        (pg_tup rfl (pgs_cons (pg_name (i := 9) scLaw.nd rfl (.inl rfl)) (pgs_cons (pg_name (i := 10) scLaw.nd rfl (.inl rfl)) pgs_nil)))
        (pss_one (ps_expr (pe_meth (pv 2) T.cW L.m L.ok hr3 L.b .nil pass0 (pa_cons (pv 9) pa_nil)))))
    (pss_cons (ps_expr (pe_meth (pv 2) T.cW S.m S.ok hr1 S.b .nil pass0 (pa_cons (pe_tup (pa_cons pe_str (pa_cons (pe_dget hu (pv 3) pe_str (fun _ _ => rfl)) pa_nil))) pa_nil)))
    (pss_cons (ps_asg (pe_ix ix_list (pe_meth0 (pv 2) T.cW U.m U.ok hr1 U.b .nil pass0) pe_int (fun _ _ => rfl))
        (pg_tup rfl (pgs_cons (pg_name (i := 9) scLaw.nd rfl (.inl rfl)) (pgs_cons (pg_name (i := 10) scLaw.nd rfl (.inl rfl)) pgs_nil))))
    (pss_cons (ps_expr (pe_meth (pv 1) T.cC TH.m TH.ok hr2 TH.b .nil pass0 (pa_cons (pe_ix ix_tup (pe_meth (pv 2) T.cW G.m G.ok hr3 G.b .nil pass0 (pa_cons (pv 9) pa_nil)) pe_int (fun _ _ => rfl)) pa_nil)))
    (pss_one (ps_ret (pe_cmpR op_isBl (pe_meth0 (pv 1) T.cC CL.m CL.ok hr1 CL.b .nil pass0) pe_bl (nomark _))))))))))))))), ?_⟩
  -- count = Count()
  intro c dc nc ndc nec
  refine ⟨c, dc, rfl, upd_same, rfl, ?_⟩
  rw [upd_upd]
  have sm1 : Same H (upd (upd H dc (.own c)) c (.ins C dc (cf 0 0))) := fun b o e => by
    rw [upd_ne (ne_none e nc), upd_ne (ne_none e ndc)]
    exact e
  have hc1 : upd (upd H dc (.own c)) c (.ins C dc (cf 0 0)) c = some (.ins C dc (cf 0 0)) := upd_same
  generalize upd (upd H dc (.own c)) c (.ins C dc (cf 0 0)) = H1 at sm1 hc1 ⊢
  -- wire = Wire()
  intro wi dw nw ndw new
  refine ⟨wi, dw, rfl, upd_same, fun d hd => ⟨rfl, ?_⟩⟩
  obtain ⟨ndwi, hd'⟩ := upd_none hd
  obtain ⟨ndd, hd0⟩ := upd_none hd'
  have sm2 : Same H1 (upd (upd (upd (upd H1 dw (.own wi)) wi (.ins W dw [])) d (.dK [])) wi (.ins W dw (wf d 0))) := fun b o e => by
    rw [upd_ne (ne_none e nw), upd_ne (ne_none e hd0), upd_ne (ne_none e nw), upd_ne (ne_none e ndw)]
    exact e
  have hw2 : upd (upd (upd (upd H1 dw (.own wi)) wi (.ins W dw [])) d (.dK [])) wi (.ins W dw (wf d 0)) wi = some (.ins W dw (wf d 0)) := upd_same
  have hd2 : upd (upd (upd (upd H1 dw (.own wi)) wi (.ins W dw [])) d (.dK [])) wi (.ins W dw (wf d 0)) d = some (.dK []) := by
    rw [upd_ne ndwi, upd_same]
  generalize upd (upd (upd (upd H1 dw (.own wi)) wi (.ins W dw [])) d (.dK [])) wi (.ins W dw (wf d 0)) = H2 at sm2 hw2 hd2 ⊢
  -- state = {..}
  intro st hst
  refine ⟨upd_same, sk 0 false true, rfl, (by show 3 ≤ 15; decide), ?_⟩
  rw [upd_upd, sk_new]
  have sm3 : Same H2 (upd H2 st (.dK (sk 0 false true))) := laid_same hst
  have S0 : Sit C W H (upd H2 st (.dK (sk 0 false true))) c wi d st g0 :=
    { old := (sm1.trans sm2).trans sm3, c0 := nc, w0 := sm1.free nw, d0 := sm1.free hd0, s0 := (sm1.trans sm2).free hst, hc := ⟨dc, sm3 _ _ (sm2 _ _ hc1)⟩, hw := ⟨dw, sm3 _ _ hw2⟩,
      hd := ⟨[], sm3 _ _ hd2, .nil⟩, hs := upd_same, cw := ne_none hc1 nw, ds := ne_none hd2 hst }
  generalize upd H2 st (.dK (sk 0 false true)) = H3 at S0 ⊢
  clear sm1 sm2 sm3 hc1 hw2 hd2 hd hd' hst nw ndw ndwi ndd hd0
  -- many = max(2, min(60, len(script)))
  refine ⟨_, rfl, a, _, rfl, .inl (S0.old.seq hS), _, _, rfl, _, _, rfl, ?_⟩
  have hM : 2 ≤ (if (if ((ns.map V.int).length : Int) < 60 then ((ns.map V.int).length : Int) else 60) > 2 then (if ((ns.map V.int).length : Int) < 60 then ((ns.map V.int).length : Int) else 60) else 2) ∧
      (if (if ((ns.map V.int).length : Int) < 60 then ((ns.map V.int).length : Int) else 60) > 2 then (if ((ns.map V.int).length : Int) < 60 then ((ns.map V.int).length : Int) else 60) else 2) ≤ 60 := by
    constructor
    · split <;> omega
    · split
      · split <;> omega
      · omega
  generalize (if (if ((ns.map V.int).length : Int) < 60 then ((ns.map V.int).length : Int) else 60) > 2 then (if ((ns.map V.int).length : Int) < 60 then ((ns.map V.int).length : Int) else 60) else 2) = M at hM ⊢
  obtain ⟨M2, M60⟩ := hM
  -- quiet = take(box(cell(script, many - 1)), 2) == 0
  refine ⟨_, rfl, _, rfl, _, _, rfl, rfl, a, ns, M - 1, rfl, S0.old.seq hS, by omega, by omega, fun n0 => ⟨n0, rfl, fun b0 x0 y0 nb0 hx0 hy0 hy1 => ⟨b0, x0, y0, 0, 2, rfl, upd_same, hx0, hy0, hy1, by decide, by decide, by decide, by decide, fun r0 x0' z0' _ _ _ _ _ => ⟨rfl, ?_⟩⟩⟩⟩
  rw [upd_upd]
  have S1 : Sit C W H (upd H3 b0 (.lst [.int x0', .int y0, .int z0'])) c wi d st g0 := S0.grow (laid_same nb0)
  generalize upd H3 b0 (.lst [.int x0', .int y0, .int z0']) = H4 at S1 ⊢
  generalize decide (V.int r0 = V.int 0) = qb
  -- for k in range(many)
  refine ⟨_, rfl, M, rfl, by omega, by omega, for_range (lo := 0) (n := M.toNat) (fun i σ H' => ∃ (g : Game) (v6 v7 v8 : Option V),
    σ = [some (.ref a), some (.ref c), some (.ref wi), some (.ref st), some (.int M), some (.bl qb), v6, v7, v8, none, none] ∧ Sit C W H H' c wi d st g ∧ Good g ∧ g.ws.length ≤ 3 * i ∧ g.out ≤ 3 * i)
    ⟨g0, none, none, none, rfl, S1, good0, Nat.zero_le _, by show (0 : Int) ≤ _; omega⟩ ?_ ?_⟩
  · rintro i σ H' hi ⟨g, v6, v7, v8, rfl, S5, G5, hl, ho⟩
    -- box = box(cell(script, k))
    refine ⟨_, rfl, _, rfl, a, ns, 0 + (i : Int), rfl, S5.old.seq hS, by omega, by omega, fun n1 => ⟨n1, rfl, fun b x1 y1 nb hx1 hy1 hy1' => ?_⟩⟩
    have S6 : Sit C W H (upd H' b (.lst [.int x1, .int y1, .int 0])) c wi d st g := S5.grow (laid_same nb)
    have B6 : BoxAt H (upd H' b (.lst [.int x1, .int y1, .int 0])) b x1 y1 0 := ⟨S5.old.free nb, upd_same, hx1, hy1, hy1', by decide⟩
    generalize upd H' b (.lst [.int x1, .int y1, .int 0]) = H6 at S6 B6 ⊢
    -- for turn in range(1 + take(box, 3))
    refine ⟨_, rfl, b, x1, y1, 0, 3, rfl, B6.hb, hx1, hy1, hy1', by decide, by decide, by decide, by decide, fun r x2 z2 r0 r1 hx2 hz2 hz2' => ?_⟩
    have S7 := S6.box (ys := [.int x2, .int y1, .int z2]) B6.b0 B6.hb
    have B7 : BoxAt H (upd H6 b (.lst [.int x2, .int y1, .int z2])) b x2 y1 z2 := ⟨B6.b0, upd_same, hx2, hy1, hy1', hz2⟩
    generalize upd H6 b (.lst [.int x2, .int y1, .int z2]) = H7 at S7 B7 ⊢
    refine ⟨_, _, rfl, rfl, 1 + r, rfl, by omega, by omega, for_range (lo := 0) (n := (1 + r).toNat) (fun j σ H' => ∃ (g : Game) (v8 : Option V) (x z : Int),
      σ = [some (.ref a), some (.ref c), some (.ref wi), some (.ref st), some (.int M), some (.bl qb), some (.int (0 + (i : Int))), some (.ref b), v8, none, none] ∧
      Sit C W H H' c wi d st g ∧ Good g ∧ BoxAt H H' b x y1 z ∧ z ≤ 1 + 2 * j ∧ g.ws.length ≤ 3 * i + j ∧ g.out ≤ 3 * i + j)
      ⟨g, v8, x2, z2, rfl, S7, G5, B7, by omega, by omega, by omega⟩ ?_ ?_⟩
    · rintro j σ H' hj ⟨g, v8, x, z, rfl, S8, G8, B8, hz, hl8, ho8⟩
      have j3 : j < 3 := by omega
      have i60 : i < 60 := by omega
      refine ⟨_, rfl, _, rfl, _, rfl, _, rfl, H, b, c, wi, d, st, x, y1, z, g, rfl, S8, G8, B8, by omega, by omega, fun H9 g' x' z' S9 G9 B9 hz9 hl9 ho9 => ?_⟩
      refine ⟨true, rfl, ifF rfl ?_⟩
      have next : ∀ H10 : Hp, Same H9 H10 → ∃ (g : Game) (v8 : Option V) (x z : Int),
          [some (V.ref a), some (.ref c), some (.ref wi), some (.ref st), some (.int M), some (.bl qb), some (.int (0 + (i : Int))), some (.ref b), some (.int (0 + (j : Int))), none, none] =
            [some (V.ref a), some (.ref c), some (.ref wi), some (.ref st), some (.int M), some (.bl qb), some (.int (0 + (i : Int))), some (.ref b), v8, none, none] ∧
          Sit C W H H10 c wi d st g ∧ Good g ∧ BoxAt H H10 b x y1 z ∧ z ≤ 1 + 2 * ((j + 1 : Nat) : Int) ∧ g.ws.length ≤ 3 * i + (j + 1) ∧ g.out ≤ 3 * i + ((j + 1 : Nat) : Int) := fun H10 sm =>
        ⟨g', some (.int (0 + (j : Int))), x', z', rfl, S9.grow sm, G9, B9.grow sm, by omega, by omega, by omega⟩
      refine ⟨_, rfl, qb, rfl, ?_⟩
      cases qb with
      | true =>
        refine ifF rfl ?_
        exact ifF rfl (next H9 (Same.refl _))
      | false =>
        refine ifT rfl ?_
        exact rep_read rfl rfl S9 G9 (by omega) fun H10 sm => ifF rfl (next H10 sm)
    · rintro σ H' ⟨g, v8, x, z, rfl, S8, G8, B8, hz, hl8, ho8⟩
      exact ⟨g, _, _, v8, rfl, S8, G8, by omega, by omega⟩
  · rintro σ H' ⟨g, v6, v7, v8, rfl, S, G, hl, ho⟩
    have out1000 : g.out ≤ 1000 := by omega
    refine rep_read rfl rfl S G out1000 fun H1 sm => ifF rfl ?_
    have S1 : Sit C W H H1 c wi d st g := S.grow sm
    clear sm S
    -- if state['in'] or state['out'] == 0
    refine ⟨_, rfl, st, _, rfl, dgI S1.hs, _, rfl, ?_⟩
    by_cases hi : g.inn = true
    · refine ifT hi ?_
      exact ifT rfl rfl
    have hi' : g.inn = false := by simpa using hi
    refine ifF hi' ?_
    refine ⟨_, rfl, st, _, rfl, dgO S1.hs, rfl, _, rfl, ?_⟩
    by_cases hz : g.out = 0
    · refine ifT (by rw [hz]; rfl) ?_
      rfl
    have o1 : 1 ≤ g.out := by
      have := G.t0
      have := G.tl
      omega
    refine ifF (by rw [dec_int]; exact decide_eq_false hz) ?_
    -- for number, word in wire.under_way(): wire.lose(number)
    obtain ⟨dx1, hw1⟩ := S1.hw
    obtain ⟨kvs, hd1, q1⟩ := S1.hd
    have klen : kvs.length ≤ 1000 := by
      have := q1.length
      omega
    have nd : (kvs.map (fun kv => kv.1)).Nodup := by
      rw [q1.keys]
      exact rising_nodup G.up
    refine ⟨_, rfl, wi, dx1, _, rfl, hw1, f2_no _ _ (by decide +kernel) (by decide +kernel), wi, dx1, d, g.sent, kvs, g.ws.map (fun p => p.1), rfl, hw1, hd1, q1.keys, G.up, klen, fun H2 LL ts sm hL eL pr => ?_⟩
    have S2 : Sit C W H H2 c wi d st g := S1.grow sm
    have hw2 := sm _ _ hw1
    have hd2 := sm _ _ hd1
    have q2 : WordsAt H2 kvs g.ws := q1.mono fun a _ e => sm _ _ e
    clear S1 hw1 hd1 q1 sm hL
    have tlen : ts.length = kvs.length := pr.length
    have wlen : kvs.length = g.ws.length := q2.length
    refine ⟨LL, rfl, ⟨_, SqL.of eL⟩, for_list (K := K) (a := LL) (xs := ts.map V.ref) (fun j σ H' => ∃ v9 v10 : Option V,
      σ = [some (.ref a), some (.ref c), some (.ref wi), some (.ref st), some (.int M), some (.bl qb), v6, v7, v8, v9, v10] ∧
      Raw C W H H' c wi d st g.out g.told g.out g.inn g.got g.sent (g.ws.drop j) ∧ H' LL = some (.lst (ts.map V.ref)) ∧ PairsAt H' ts kvs ∧ H' wi = some (.ins W dx1 (wf d g.sent)) ∧
      H' d = some (.dK (kvs.drop j)) ∧ WordsAt H' (kvs.drop j) (g.ws.drop j)) ⟨none, none, rfl, S2, eL, pr, hw2, hd2, q2⟩ (fun j σ H' _ ⟨_, _, _, _, e, _⟩ => SqL.of e) ?_ ?_⟩
    · rintro j y σ H' hj ⟨v9, v10, rfl, S3, e3, pr3, hw3, hd3, q3⟩
      have jlt : j < kvs.length := by
        have q := (List.getElem?_eq_some_iff.mp hj).1
        rw [List.length_map] at q
        omega
      have jlw : j < g.ws.length := by omega
      have ek : kvs.drop j = kvs[j] :: kvs.drop (j + 1) := List.drop_eq_getElem_cons jlt
      have ew : g.ws.drop j = g.ws[j] :: g.ws.drop (j + 1) := List.drop_eq_getElem_cons jlw
      have q4 := q3
      rw [ek, ew] at q4
      obtain ⟨⟨n, m⟩, hnm⟩ : ∃ p, g.ws[j] = p := ⟨_, rfl⟩
      rw [hnm] at q4
      have nmem : (n, m) ∈ g.ws := by
        rw [← hnm]
        exact List.getElem_mem jlw
      have hnn := G.num _ nmem
      obtain ⟨av, ha1, ha2⟩ : ∃ av : Addr, kvs[j] = (Sum.inl n, V.ref av) ∧ WordsAt H' (kvs.drop (j + 1)) (g.ws.drop (j + 1)) := by
        cases q4 with
        | cons h t =>
          obtain ⟨av, e1, _⟩ := h
          exact ⟨av, e1, t⟩
      have ek' : kvs.drop j = (Sum.inl n, V.ref av) :: kvs.drop (j + 1) := by
        rw [ek, ha1]
      have nd' : (((Sum.inl n, V.ref av) :: kvs.drop (j + 1)).map (fun kv => kv.1)).Nodup := by
        rw [← ek']
        exact List.Sublist.nodup ((List.drop_sublist j kvs).map _) nd
      obtain ⟨t, htj, htt⟩ := pr3.get (j := j) (kv := (Sum.inl n, V.ref av)) (by rw [List.getElem?_eq_getElem jlt, ha1])
      obtain rfl : y = V.ref t := by
        rw [List.getElem?_map, htj] at hj
        exact (Option.some.inj hj).symm
      refine ⟨t, _, rfl, SqT.of htt, rfl, _, _, rfl, _, _, rfl, rfl, ?_⟩
      refine ⟨_, rfl, wi, dx1, _, rfl, hw3, f2_no _ _ (by decide +kernel) (by decide +kernel), _, rfl, d, _, n, .ref av, ⟨wi, dx1, g.sent, rfl, hw3, hd3, hnn.1, hnn.2, by rw [ek']; exact valV_pos rfl⟩, ?_⟩
      have eD : dropK (kvs.drop j) (Sum.inl n) = kvs.drop (j + 1) := by
        rw [ek']
        exact drop_first nd'
      rw [eD]
      have tu := tups_upd (o := .dK (kvs.drop (j + 1))) hd3 fun _ z => by cases z
      refine ⟨_, _, rfl, S3.setD ha2, ?_, pr3.mono tu, ?_, upd_same, ha2.mono tu⟩
      · rw [upd_ne (ne_of e3 hd3 (by intro z; cases z))]
        exact e3
      · rw [upd_ne S3.dw.symm]
        exact hw3
    · rintro σ H' ⟨v9, v10, rfl, S3, _, _, hw3, hd3, q3⟩
      have e1 : kvs.drop (ts.map V.ref).length = [] := by
        rw [List.length_map, tlen]
        exact List.drop_length
      have e2 : g.ws.drop (ts.map V.ref).length = [] := by
        rw [List.length_map, tlen, wlen]
        exact List.drop_length
      rw [e2] at S3
      rw [e1] at hd3
      clear q3 e1 e2
      -- wire.send(('through', state['out']))
      refine ⟨_, rfl, wi, dx1, _, rfl, hw3, f2_no _ _ (by decide +kernel) (by decide +kernel), _, rfl, st, _, rfl, dgO S3.hs, (by show 2 ≤ sizeLine; decide), fun t ht => ?_⟩
      have sm4 : Same H' (upd H' t (.tup [.str "through", .int g.out])) := laid_same ht
      refine ⟨wi, dx1, d, g.sent, .ref t, [], rfl, sm4 _ _ hw3, sm4 _ _ hd3, rfl, Nat.zero_le _, ?_⟩
      have S4 := send_raw S3 ht hw3 .nil
      have hw4 : upd (upd (upd H' t (.tup [.str "through", .int g.out])) d (.dK ([] ++ [(Sum.inl g.sent, .ref t)]))) wi (.ins W dx1 (wf d (g.sent + 1))) wi = some (.ins W dx1 (wf d (g.sent + 1))) := upd_same
      have hd4 : upd (upd (upd H' t (.tup [.str "through", .int g.out])) d (.dK ([] ++ [(Sum.inl g.sent, .ref t)]))) wi (.ins W dx1 (wf d (g.sent + 1))) d = some (.dK [(Sum.inl g.sent, .ref t)]) := by
        rw [upd_ne S3.dw, upd_same]
        rfl
      have ht4 : upd (upd (upd H' t (.tup [.str "through", .int g.out])) d (.dK ([] ++ [(Sum.inl g.sent, .ref t)]))) wi (.ins W dx1 (wf d (g.sent + 1))) t = some (.tup [.str "through", .int g.out]) := by
        rw [upd_ne (ne_none hw3 ht).symm, upd_ne (ne_none hd3 ht).symm, upd_same]
      generalize upd (upd (upd H' t (.tup [.str "through", .int g.out])) d (.dK ([] ++ [(Sum.inl g.sent, .ref t)]))) wi (.ins W dx1 (wf d (g.sent + 1))) = H5 at S4 hw4 hd4 ht4 ⊢
      -- number, word = wire.under_way()[0]
      refine ⟨_, rfl, wi, dx1, _, rfl, hw4, f2_no _ _ (by decide +kernel) (by decide +kernel), wi, dx1, d, g.sent + 1, _, [g.sent], rfl, hw4, hd4, rfl, List.pairwise_singleton _ _, (by show 1 ≤ 1000; decide), fun H6 L6 us sm6 _ eL6 pr6 => ?_⟩
      obtain ⟨t6, hj6, ht6⟩ := pr6.get (j := 0) rfl
      have hat : (us.map V.ref)[0]? = some (V.ref t6) := by
        rw [List.getElem?_map, hj6]
        rfl
      refine ⟨L6, _, _, _, rfl, rfl, SqL.of eL6, at_of rfl hat, t6, _, rfl, SqT.of ht6, rfl, _, _, rfl, _, _, rfl, rfl, ?_⟩
      have S6 := S4.grow sm6
      have hw6 := sm6 _ _ hw4
      have hd6 := sm6 _ _ hd4
      have htw := sm6 _ _ ht4
      -- count.through(wire.get(number)[1])
      obtain ⟨dxc, hc6⟩ := S6.hc
      have S7 := S6.setD (kvs' := dropK [(Sum.inl g.sent, V.ref t)] (Sum.inl g.sent)) (ws' := []) (by rw [dropK_pos rfl]; exact .nil)
      have hc7 : upd H6 d (.dK (dropK [(Sum.inl g.sent, V.ref t)] (Sum.inl g.sent))) c = some (.ins C dxc (cf g.out g.told)) := by
        rw [upd_ne S6.cd]
        exact hc6
      have s0 := G.s0
      refine ⟨_, rfl, c, dxc, _, rfl, hc6, f2_no _ _ (by decide +kernel) (by decide +kernel), _, rfl, wi, dx1, _, rfl, hw6, f2_no _ _ (by decide +kernel) (by decide +kernel), _, rfl, d, _, g.sent, .ref t,
        ⟨wi, dx1, g.sent + 1, rfl, hw6, hd6, s0, by omega, valV_pos rfl⟩, t, _, _, _, rfl, rfl, SqT.of (tups_upd hd6 (fun _ z => by cases z) _ _ htw), rfl, c, dxc, g.out, g.told, g.out, rfl, hc7, o1, Int.le_refl _, ?_⟩
      have tl := G.tl
      have eM : (if g.out > g.told then g.out else g.told) = g.out := by
        split <;> omega
      rw [eM]
      -- return count.clear() is True
      refine ⟨_, rfl, c, dxc, _, rfl, upd_same, f2_no _ _ (by decide +kernel) (by decide +kernel), c, dxc, g.out, g.out, rfl, upd_same, _, _, rfl, rfl, ?_⟩
      rw [decide_eq_true rfl]
      rfl
end
end Sf

namespace Sf
open PySem L2
/-! ### what the top has left, def by def -/
theorem all_mk {P : Program} {w : World} {K : PySem.W.Frag} {h base : Heap} {mg : Str → Option Value} {fa C W : Addr} (X : K.In h) (Gm : h.Ns mainGlobals mg) (hfa : mg "law" = some (.ref fa))
    {f_ci : Addr} {od_ci an_ci : Option Addr} {sl_ci : Array (Option Value)} {oc_ci kV_ci dc_ci pm_ci cd_ci ct_ci : Value}
    {f_co : Addr} {od_co an_co : Option Addr} {sl_co : Array (Option Value)} {oc_co kV_co dc_co pm_co cd_co ct_co : Value}
    {f_ct : Addr} {od_ct an_ct : Option Addr} {sl_ct : Array (Option Value)} {oc_ct kV_ct dc_ct pm_ct cd_ct ct_ct : Value}
    {f_cl : Addr} {od_cl an_cl : Option Addr} {sl_cl : Array (Option Value)} {oc_cl kV_cl dc_cl pm_cl cd_cl ct_cl : Value}
    {f_cc : Addr} {od_cc an_cc : Option Addr} {sl_cc : Array (Option Value)} {oc_cc kV_cc dc_cc pm_cc cd_cc ct_cc : Value}
    {f_wi : Addr} {od_wi an_wi : Option Addr} {sl_wi : Array (Option Value)} {oc_wi kV_wi dc_wi pm_wi cd_wi ct_wi : Value}
    {f_ws : Addr} {od_ws an_ws : Option Addr} {sl_ws : Array (Option Value)} {oc_ws kV_ws dc_ws pm_ws cd_ws ct_ws : Value}
    {f_wn : Addr} {od_wn an_wn : Option Addr} {sl_wn : Array (Option Value)} {oc_wn kV_wn dc_wn pm_wn cd_wn ct_wn : Value}
    {f_wg : Addr} {od_wg an_wg : Option Addr} {sl_wg : Array (Option Value)} {oc_wg kV_wg dc_wg pm_wg cd_wg ct_wg : Value}
    {f_wl : Addr} {od_wl an_wl : Option Addr} {sl_wl : Array (Option Value)} {oc_wl kV_wl dc_wl pm_wl cd_wl ct_wl : Value}
    {f_wu : Addr} {od_wu an_wu : Option Addr} {sl_wu : Array (Option Value)} {oc_wu kV_wu dc_wu pm_wu cd_wu ct_wu : Value}
    {f_iw : Addr} {od_iw an_iw : Option Addr} {sl_iw : Array (Option Value)} {oc_iw kV_iw dc_iw pm_iw cd_iw ct_iw : Value}
    {f_ce : Addr} {od_ce an_ce : Option Addr} {sl_ce : Array (Option Value)} {oc_ce kV_ce dc_ce pm_ce cd_ce ct_ce : Value}
    {f_bx : Addr} {od_bx an_bx : Option Addr} {sl_bx : Array (Option Value)} {oc_bx kV_bx dc_bx pm_bx cd_bx ct_bx : Value}
    {f_tk : Addr} {od_tk an_tk : Option Addr} {sl_tk : Array (Option Value)} {oc_tk kV_tk dc_tk pm_tk cd_tk ct_tk : Value}
    {f_de : Addr} {od_de an_de : Option Addr} {sl_de : Array (Option Value)} {oc_de kV_de dc_de pm_de cd_de ct_de : Value}
    {f_la : Addr} {od_la an_la : Option Addr} {sl_la : Array (Option Value)} {oc_la kV_la dc_la pm_la cd_la ct_la : Value}
    (aX_C : PySem.W.nsIn K mainGlobals "Count" = some (some (.ref C)))
    (aX_W : PySem.W.nsIn K mainGlobals "Wire" = some (some (.ref W)))
    (a_ci : PySem.W.findIn K (.ref C) "__init__" = some (some (.ref f_ci)))
    (i_ci : PySem.W.isFn K (.ref f_ci) = true)
    (l_ci : K.lookup f_ci = some ⟨oc_ci, od_ci, .func (PySem.W.fnOf "__init__" "Count.__init__" (defArgs sCInit) (defBody sCInit) (defScope sCInit) .none kV_ci dc_ci pm_ci an_ci cd_ci ct_ci), sl_ci⟩)
    (c_ci : PySem.W.codeIn K cd_ci "Count.__init__" = true)
    (k_ci : PySem.W.keepIn K (.ref f_ci) = true)
    (a_co : PySem.W.findIn K (.ref C) "out" = some (some (.ref f_co)))
    (i_co : PySem.W.isFn K (.ref f_co) = true)
    (l_co : K.lookup f_co = some ⟨oc_co, od_co, .func (PySem.W.fnOf "out" "Count.out" (defArgs sCOut) (defBody sCOut) (defScope sCOut) .none kV_co dc_co pm_co an_co cd_co ct_co), sl_co⟩)
    (c_co : PySem.W.codeIn K cd_co "Count.out" = true)
    (k_co : PySem.W.keepIn K (.ref f_co) = true)
    (a_ct : PySem.W.findIn K (.ref C) "through" = some (some (.ref f_ct)))
    (i_ct : PySem.W.isFn K (.ref f_ct) = true)
    (l_ct : K.lookup f_ct = some ⟨oc_ct, od_ct, .func (PySem.W.fnOf "through" "Count.through" (defArgs sCThr) (defBody sCThr) (defScope sCThr) .none kV_ct dc_ct pm_ct an_ct cd_ct ct_ct), sl_ct⟩)
    (c_ct : PySem.W.codeIn K cd_ct "Count.through" = true)
    (k_ct : PySem.W.keepIn K (.ref f_ct) = true)
    (a_cl : PySem.W.findIn K (.ref C) "last" = some (some (.ref f_cl)))
    (i_cl : PySem.W.isFn K (.ref f_cl) = true)
    (l_cl : K.lookup f_cl = some ⟨oc_cl, od_cl, .func (PySem.W.fnOf "last" "Count.last" (defArgs sCLast) (defBody sCLast) (defScope sCLast) .none kV_cl dc_cl pm_cl an_cl cd_cl ct_cl), sl_cl⟩)
    (c_cl : PySem.W.codeIn K cd_cl "Count.last" = true)
    (k_cl : PySem.W.keepIn K (.ref f_cl) = true)
    (a_cc : PySem.W.findIn K (.ref C) "clear" = some (some (.ref f_cc)))
    (i_cc : PySem.W.isFn K (.ref f_cc) = true)
    (l_cc : K.lookup f_cc = some ⟨oc_cc, od_cc, .func (PySem.W.fnOf "clear" "Count.clear" (defArgs sCClear) (defBody sCClear) (defScope sCClear) .none kV_cc dc_cc pm_cc an_cc cd_cc ct_cc), sl_cc⟩)
    (c_cc : PySem.W.codeIn K cd_cc "Count.clear" = true)
    (k_cc : PySem.W.keepIn K (.ref f_cc) = true)
    (a_wi : PySem.W.findIn K (.ref W) "__init__" = some (some (.ref f_wi)))
    (i_wi : PySem.W.isFn K (.ref f_wi) = true)
    (l_wi : K.lookup f_wi = some ⟨oc_wi, od_wi, .func (PySem.W.fnOf "__init__" "Wire.__init__" (defArgs sWInit) (defBody sWInit) (defScope sWInit) .none kV_wi dc_wi pm_wi an_wi cd_wi ct_wi), sl_wi⟩)
    (c_wi : PySem.W.codeIn K cd_wi "Wire.__init__" = true)
    (k_wi : PySem.W.keepIn K (.ref f_wi) = true)
    (a_ws : PySem.W.findIn K (.ref W) "send" = some (some (.ref f_ws)))
    (i_ws : PySem.W.isFn K (.ref f_ws) = true)
    (l_ws : K.lookup f_ws = some ⟨oc_ws, od_ws, .func (PySem.W.fnOf "send" "Wire.send" (defArgs sSend) (defBody sSend) (defScope sSend) .none kV_ws dc_ws pm_ws an_ws cd_ws ct_ws), sl_ws⟩)
    (c_ws : PySem.W.codeIn K cd_ws "Wire.send" = true)
    (k_ws : PySem.W.keepIn K (.ref f_ws) = true)
    (a_wn : PySem.W.findIn K (.ref W) "need" = some (some (.ref f_wn)))
    (i_wn : PySem.W.isFn K (.ref f_wn) = true)
    (l_wn : K.lookup f_wn = some ⟨oc_wn, od_wn, .func (PySem.W.fnOf "need" "Wire.need" (defArgs sNeed) (defBody sNeed) (defScope sNeed) .none kV_wn dc_wn pm_wn an_wn cd_wn ct_wn), sl_wn⟩)
    (c_wn : PySem.W.codeIn K cd_wn "Wire.need" = true)
    (k_wn : PySem.W.keepIn K (.ref f_wn) = true)
    (a_wg : PySem.W.findIn K (.ref W) "get" = some (some (.ref f_wg)))
    (i_wg : PySem.W.isFn K (.ref f_wg) = true)
    (l_wg : K.lookup f_wg = some ⟨oc_wg, od_wg, .func (PySem.W.fnOf "get" "Wire.get" (defArgs sGet) (defBody sGet) (defScope sGet) .none kV_wg dc_wg pm_wg an_wg cd_wg ct_wg), sl_wg⟩)
    (c_wg : PySem.W.codeIn K cd_wg "Wire.get" = true)
    (k_wg : PySem.W.keepIn K (.ref f_wg) = true)
    (a_wl : PySem.W.findIn K (.ref W) "lose" = some (some (.ref f_wl)))
    (i_wl : PySem.W.isFn K (.ref f_wl) = true)
    (l_wl : K.lookup f_wl = some ⟨oc_wl, od_wl, .func (PySem.W.fnOf "lose" "Wire.lose" (defArgs sLose) (defBody sLose) (defScope sLose) .none kV_wl dc_wl pm_wl an_wl cd_wl ct_wl), sl_wl⟩)
    (c_wl : PySem.W.codeIn K cd_wl "Wire.lose" = true)
    (k_wl : PySem.W.keepIn K (.ref f_wl) = true)
    (a_wu : PySem.W.findIn K (.ref W) "under_way" = some (some (.ref f_wu)))
    (i_wu : PySem.W.isFn K (.ref f_wu) = true)
    (l_wu : K.lookup f_wu = some ⟨oc_wu, od_wu, .func (PySem.W.fnOf "under_way" "Wire.under_way" (defArgs sWay) (defBody sWay) (defScope sWay) .none kV_wu dc_wu pm_wu an_wu cd_wu ct_wu), sl_wu⟩)
    (c_wu : PySem.W.codeIn K cd_wu "Wire.under_way" = true)
    (k_wu : PySem.W.keepIn K (.ref f_wu) = true)
    (a_iw : PySem.W.nsIn K mainGlobals "is_whole" = some (some (.ref f_iw)))
    (l_iw : K.lookup f_iw = some ⟨oc_iw, od_iw, .func (PySem.W.fnOf "is_whole" "is_whole" (defArgs sWhole) (defBody sWhole) (defScope sWhole) .none kV_iw dc_iw pm_iw an_iw cd_iw ct_iw), sl_iw⟩)
    (c_iw : PySem.W.codeIn K cd_iw "is_whole" = true)
    (k_iw : PySem.W.keepIn K (.ref f_iw) = true)
    (a_ce : PySem.W.nsIn K mainGlobals "_law_cell" = some (some (.ref f_ce)))
    (l_ce : K.lookup f_ce = some ⟨oc_ce, od_ce, .func (PySem.W.fnOf "_law_cell" "_law_cell" (defArgs sCell) (defBody sCell) (defScope sCell) .none kV_ce dc_ce pm_ce an_ce cd_ce ct_ce), sl_ce⟩)
    (c_ce : PySem.W.codeIn K cd_ce "_law_cell" = true)
    (k_ce : PySem.W.keepIn K (.ref f_ce) = true)
    (a_bx : PySem.W.nsIn K mainGlobals "_law_box" = some (some (.ref f_bx)))
    (l_bx : K.lookup f_bx = some ⟨oc_bx, od_bx, .func (PySem.W.fnOf "_law_box" "_law_box" (defArgs sBox) (defBody sBox) (defScope sBox) .none kV_bx dc_bx pm_bx an_bx cd_bx ct_bx), sl_bx⟩)
    (c_bx : PySem.W.codeIn K cd_bx "_law_box" = true)
    (k_bx : PySem.W.keepIn K (.ref f_bx) = true)
    (a_tk : PySem.W.nsIn K mainGlobals "_law_take" = some (some (.ref f_tk)))
    (l_tk : K.lookup f_tk = some ⟨oc_tk, od_tk, .func (PySem.W.fnOf "_law_take" "_law_take" (defArgs sTake) (defBody sTake) (defScope sTake) .none kV_tk dc_tk pm_tk an_tk cd_tk ct_tk), sl_tk⟩)
    (c_tk : PySem.W.codeIn K cd_tk "_law_take" = true)
    (k_tk : PySem.W.keepIn K (.ref f_tk) = true)
    (a_de : PySem.W.nsIn K mainGlobals "_law_deed" = some (some (.ref f_de)))
    (l_de : K.lookup f_de = some ⟨oc_de, od_de, .func (PySem.W.fnOf "_law_deed" "_law_deed" (defArgs sDeed) (defBody sDeed) (defScope sDeed) .none kV_de dc_de pm_de an_de cd_de ct_de), sl_de⟩)
    (c_de : PySem.W.codeIn K cd_de "_law_deed" = true)
    (k_de : PySem.W.keepIn K (.ref f_de) = true)
    (a_la : PySem.W.nsIn K mainGlobals "law" = some (some (.ref f_la)))
    (l_la : K.lookup f_la = some ⟨oc_la, od_la, .func (PySem.W.fnOf "law" "law" (defArgs sLaw) (defBody sLaw) (defScope sLaw) .none kV_la dc_la pm_la an_la cd_la ct_la), sl_la⟩)
    (c_la : PySem.W.codeIn K cd_la "law" = true)
    (k_la : PySem.W.keepIn K (.ref f_la) = true)
    (pg_C : PySem.W.plainGet K C Str.empty = true)
    (hd_C : PySem.W.hasDictIn K C = true)
    (po_C : PySem.W.plainOver K C = true)
    (sa_C : PySem.W.findIn K (.ref C) "__setattr__" = some (some (.builtin "object.__setattr__")))
    (mk_C : PySem.W.makesIn K C = true)
    (kc_C : PySem.W.keepIn K (.ref C) = true)
    (pg_W : PySem.W.plainGet K W Str.empty = true)
    (hd_W : PySem.W.hasDictIn K W = true)
    (po_W : PySem.W.plainOver K W = true)
    (sa_W : PySem.W.findIn K (.ref W) "__setattr__" = some (some (.builtin "object.__setattr__")))
    (mk_W : PySem.W.makesIn K W = true)
    (kc_W : PySem.W.keepIn K (.ref W) = true)
    (nL : PySem.W.findIn K (.ref C) "kept_last" = some none)
    (nT : PySem.W.findIn K (.ref C) "kept_told" = some none)
    (nK : PySem.W.findIn K (.ref W) "kept_words" = some none)
    (nS : PySem.W.findIn K (.ref W) "kept_sent" = some none)
    (z_isinstance : PySem.W.nsIn K mainGlobals "isinstance" = some none)
    (z_int : PySem.W.nsIn K mainGlobals "int" = some none)
    (z_bool : PySem.W.nsIn K mainGlobals "bool" = some none)
    (z_max : PySem.W.nsIn K mainGlobals "max" = some none)
    (z_min : PySem.W.nsIn K mainGlobals "min" = some none)
    (z_len : PySem.W.nsIn K mainGlobals "len" = some none)
    (z_sorted : PySem.W.nsIn K mainGlobals "sorted" = some none)
    (z_range : PySem.W.nsIn K mainGlobals "range" = some none)
    (z_repr : PySem.W.nsIn K mainGlobals "repr" = some none) :
    LawAt P w K mg base fa := by
  have e := hfa.symm.trans (PySem.W.mg_of X Gm a_la)
  cases e
  have T : Txt K mg C W := ⟨⟨pg_C, hd_C, po_C, sa_C⟩, ⟨pg_W, hd_W, po_W, sa_W⟩, nL, nT, nK, nS, PySem.W.mg_of X Gm aX_C, PySem.W.mg_of X Gm aX_W,
    PySem.W.mg_none_of X Gm z_isinstance, PySem.W.mg_none_of X Gm z_int, PySem.W.mg_none_of X Gm z_bool, PySem.W.mg_none_of X Gm z_max, PySem.W.mg_none_of X Gm z_min, PySem.W.mg_none_of X Gm z_len, PySem.W.mg_none_of X Gm z_sorted, PySem.W.mg_none_of X Gm z_range, PySem.W.mg_none_of X Gm z_repr⟩
  have F_ci := fun_mk (st := sCInit) l_ci c_ci k_ci
  have F_co := fun_mk (st := sCOut) l_co c_co k_co
  have F_ct := fun_mk (st := sCThr) l_ct c_ct k_ct
  have F_cl := fun_mk (st := sCLast) l_cl c_cl k_cl
  have F_cc := fun_mk (st := sCClear) l_cc c_cc k_cc
  have F_wi := fun_mk (st := sWInit) l_wi c_wi k_wi
  have F_ws := fun_mk (st := sSend) l_ws c_ws k_ws
  have F_wn := fun_mk (st := sNeed) l_wn c_wn k_wn
  have F_wg := fun_mk (st := sGet) l_wg c_wg k_wg
  have F_wl := fun_mk (st := sLose) l_wl c_wl k_wl
  have F_wu := fun_mk (st := sWay) l_wu c_wu k_wu
  have F_iw := fun_mk (st := sWhole) l_iw c_iw k_iw
  have F_ce := fun_mk (st := sCell) l_ce c_ce k_ce
  have F_bx := fun_mk (st := sBox) l_bx c_bx k_bx
  have F_tk := fun_mk (st := sTake) l_tk c_tk k_tk
  have F_de := fun_mk (st := sDeed) l_de c_de k_de
  have F_la := fun_mk (st := sLaw) l_la c_la k_la
  have b_ci := F_ci.binds (ps := ["self"]) fun _ _ _ _ _ _ us hl => match us, hl with | [_], _ => rfl
  have b_co := F_co.binds (ps := ["self"]) fun _ _ _ _ _ _ us hl => match us, hl with | [_], _ => rfl
  have b_ct := F_ct.binds (ps := ["self", "number"]) fun _ _ _ _ _ _ us hl => match us, hl with | [_, _], _ => rfl
  have b_cl := F_cl.binds (ps := ["self"]) fun _ _ _ _ _ _ us hl => match us, hl with | [_], _ => rfl
  have b_cc := F_cc.binds (ps := ["self"]) fun _ _ _ _ _ _ us hl => match us, hl with | [_], _ => rfl
  have b_wi := F_wi.binds (ps := ["self"]) fun _ _ _ _ _ _ us hl => match us, hl with | [_], _ => rfl
  have b_ws := F_ws.binds (ps := ["self", "word"]) fun _ _ _ _ _ _ us hl => match us, hl with | [_, _], _ => rfl
  have b_wn := F_wn.binds (ps := ["self", "number"]) fun _ _ _ _ _ _ us hl => match us, hl with | [_, _], _ => rfl
  have b_wg := F_wg.binds (ps := ["self", "number"]) fun _ _ _ _ _ _ us hl => match us, hl with | [_, _], _ => rfl
  have b_wl := F_wl.binds (ps := ["self", "number"]) fun _ _ _ _ _ _ us hl => match us, hl with | [_, _], _ => rfl
  have b_wu := F_wu.binds (ps := ["self"]) fun _ _ _ _ _ _ us hl => match us, hl with | [_], _ => rfl
  have b_iw := F_iw.binds (ps := ["thing", "low", "high"]) fun _ _ _ _ _ _ us hl => match us, hl with | [_, _, _], _ => rfl
  have b_ce := F_ce.binds (ps := ["_law_script", "_law_k"]) fun _ _ _ _ _ _ us hl => match us, hl with | [_, _], _ => rfl
  have b_bx := F_bx.binds (ps := ["_law_cell_here"]) fun _ _ _ _ _ _ us hl => match us, hl with | [_], _ => rfl
  have b_tk := F_tk.binds (ps := ["_law_box_here", "_law_many"]) fun _ _ _ _ _ _ us hl => match us, hl with | [_, _], _ => rfl
  have b_de := F_de.binds (ps := ["_law_box_here", "_law_count", "_law_wire", "_law_state"]) fun _ _ _ _ _ _ us hl => match us, hl with | [_, _, _, _], _ => rfl
  have b_la := F_la.binds (ps := ["_law_script"]) fun _ _ _ _ _ _ us hl => match us, hl with | [_], _ => rfl
  have G_iw := ok_whole (P := P) (w := w) (base := base) F_iw T
  have m_iw := PySem.W.mg_of X Gm a_iw
  have G_ci := ok_cinit (P := P) (w := w) (base := base) F_ci T
  have G_wi := ok_winit (P := P) (w := w) (base := base) F_wi T
  have O : MethOk P w K mg base 1 C "out" ["self"] (spOut C) f_co _ := ⟨ok_out F_co T, b_co, ⟨a_co, i_co, k_co⟩⟩
  have TH : MethOk P w K mg base 2 C "through" ["self", "number"] (spThr C) f_ct _ := ⟨ok_thr F_ct T G_iw b_iw m_iw k_iw, b_ct, ⟨a_ct, i_ct, k_ct⟩⟩
  have LA : MethOk P w K mg base 1 C "last" ["self"] (spLast C) f_cl _ := ⟨ok_last F_cl T, b_cl, ⟨a_cl, i_cl, k_cl⟩⟩
  have CL : MethOk P w K mg base 1 C "clear" ["self"] (spClear C) f_cc _ := ⟨ok_clear F_cc T, b_cc, ⟨a_cc, i_cc, k_cc⟩⟩
  have S : MethOk P w K mg base 1 W "send" ["self", "word"] (spSend W) f_ws _ := ⟨ok_send F_ws T, b_ws, ⟨a_ws, i_ws, k_ws⟩⟩
  have N : MethOk P w K mg base 2 W "need" ["self", "number"] (spNeed W) f_wn _ := ⟨ok_need F_wn T G_iw b_iw m_iw k_iw, b_wn, ⟨a_wn, i_wn, k_wn⟩⟩
  have G : MethOk P w K mg base 3 W "get" ["self", "number"] (spGet W) f_wg _ := ⟨ok_get F_wg T N.ok N.b N.m, b_wg, ⟨a_wg, i_wg, k_wg⟩⟩
  have L : MethOk P w K mg base 3 W "lose" ["self", "number"] (spLose W) f_wl _ := ⟨ok_lose F_wl T N.ok N.b N.m, b_wl, ⟨a_wl, i_wl, k_wl⟩⟩
  have U : MethOk P w K mg base 1 W "under_way" ["self"] (spWay W) f_wu _ := ⟨ok_way F_wu T, b_wu, ⟨a_wu, i_wu, k_wu⟩⟩
  have CE : DefOk P w K mg base 1 "_law_cell" ["_law_script", "_law_k"] (spCell K) f_ce _ := ⟨ok_cell F_ce T, b_ce, PySem.W.mg_of X Gm a_ce, k_ce⟩
  have BX : DefOk P w K mg base 1 "_law_box" ["_law_cell_here"] spBox f_bx _ := ⟨ok_box F_bx T, b_bx, PySem.W.mg_of X Gm a_bx, k_bx⟩
  have TK : DefOk P w K mg base 1 "_law_take" ["_law_box_here", "_law_many"] spTake f_tk _ := ⟨ok_take F_tk, b_tk, PySem.W.mg_of X Gm a_tk, k_tk⟩
  have DE : DefOk P w K mg base 4 "_law_deed" ["_law_box_here", "_law_count", "_law_wire", "_law_state"] (spDeed C W) f_de _ := ⟨ok_deed F_de T TK U O S L G TH, b_de, PySem.W.mg_of X Gm a_de, k_de⟩
  exact ok_law F_la (fun s v => .of_eq rfl) T ⟨mk_C, a_ci, i_ci, kc_C⟩ G_ci b_ci ⟨mk_W, a_wi, i_wi, kc_W⟩ G_wi b_wi CE BX TK DE U S L G TH LA CL
end Sf

open PySem PySem.W PyProof.Rows in
set_option maxRecDepth 100000 in
set_option maxHeartbeats 0 in
theorem PySem.Challenge.cw_onestaff_k14_whole_never_clear_too_soon_holds : PySem.Challenge.rw_onestaff_k14_whole_never_clear_too_soon.Holds := by
  w_on; o_law; k_head; (case hw => w_witness2)
  k_fill
  refine Sf.law_end (l := PySem.Challenge.rw_onestaff_k14_whole_never_clear_too_soon) rfl rfl (fun w h Y => PySem.W.kIn_of Y) ?F
  case F =>
    intro w mg fa h KX G hmg base _ _
    refine' Sf.all_mk KX G hmg ?aX_C ?aX_W ?a_ci ?i_ci ?l_ci ?c_ci ?k_ci ?a_co ?i_co ?l_co ?c_co ?k_co ?a_ct ?i_ct ?l_ct ?c_ct ?k_ct ?a_cl ?i_cl ?l_cl ?c_cl ?k_cl ?a_cc ?i_cc ?l_cc ?c_cc ?k_cc ?a_wi ?i_wi ?l_wi ?c_wi ?k_wi ?a_ws ?i_ws ?l_ws ?c_ws ?k_ws ?a_wn ?i_wn ?l_wn ?c_wn ?k_wn ?a_wg ?i_wg ?l_wg ?c_wg ?k_wg ?a_wl ?i_wl ?l_wl ?c_wl ?k_wl ?a_wu ?i_wu ?l_wu ?c_wu ?k_wu ?a_iw ?l_iw ?c_iw ?k_iw ?a_ce ?l_ce ?c_ce ?k_ce ?a_bx ?l_bx ?c_bx ?k_bx ?a_tk ?l_tk ?c_tk ?k_tk ?a_de ?l_de ?c_de ?k_de ?a_la ?l_la ?c_la ?k_la ?pg_C ?hd_C ?po_C ?sa_C ?mk_C ?kc_C ?pg_W ?hd_W ?po_W ?sa_W ?mk_W ?kc_W ?nL ?nT ?nK ?nS ?z_isinstance ?z_int ?z_bool ?z_max ?z_min ?z_len ?z_sorted ?z_range ?z_repr
    (case aX_C => k_is)
    (case aX_W => k_is)
    (case a_ci => k_is)
    (case i_ci => k_is)
    (case l_ci => k_is)
    (case c_ci => k_is)
    (case k_ci => k_is)
    (case a_co => k_is)
    (case i_co => k_is)
    (case l_co => k_is)
    (case c_co => k_is)
    (case k_co => k_is)
    (case a_ct => k_is)
    (case i_ct => k_is)
    (case l_ct => k_is)
    (case c_ct => k_is)
    (case k_ct => k_is)
    (case a_cl => k_is)
    (case i_cl => k_is)
    (case l_cl => k_is)
    (case c_cl => k_is)
    (case k_cl => k_is)
    (case a_cc => k_is)
    (case i_cc => k_is)
    (case l_cc => k_is)
    (case c_cc => k_is)
    (case k_cc => k_is)
    (case a_wi => k_is)
    (case i_wi => k_is)
    (case l_wi => k_is)
    (case c_wi => k_is)
    (case k_wi => k_is)
    (case a_ws => k_is)
    (case i_ws => k_is)
    (case l_ws => k_is)
    (case c_ws => k_is)
    (case k_ws => k_is)
    (case a_wn => k_is)
    (case i_wn => k_is)
    (case l_wn => k_is)
    (case c_wn => k_is)
    (case k_wn => k_is)
    (case a_wg => k_is)
    (case i_wg => k_is)
    (case l_wg => k_is)
    (case c_wg => k_is)
    (case k_wg => k_is)
    (case a_wl => k_is)
    (case i_wl => k_is)
    (case l_wl => k_is)
    (case c_wl => k_is)
    (case k_wl => k_is)
    (case a_wu => k_is)
    (case i_wu => k_is)
    (case l_wu => k_is)
    (case c_wu => k_is)
    (case k_wu => k_is)
    (case a_iw => k_is)
    (case l_iw => k_is)
    (case c_iw => k_is)
    (case k_iw => k_is)
    (case a_ce => k_is)
    (case l_ce => k_is)
    (case c_ce => k_is)
    (case k_ce => k_is)
    (case a_bx => k_is)
    (case l_bx => k_is)
    (case c_bx => k_is)
    (case k_bx => k_is)
    (case a_tk => k_is)
    (case l_tk => k_is)
    (case c_tk => k_is)
    (case k_tk => k_is)
    (case a_de => k_is)
    (case l_de => k_is)
    (case c_de => k_is)
    (case k_de => k_is)
    (case a_la => k_is)
    (case l_la => k_is)
    (case c_la => k_is)
    (case k_la => k_is)
    (case pg_C => k_is)
    (case hd_C => k_is)
    (case po_C => k_is)
    (case sa_C => k_is)
    (case mk_C => k_is)
    (case kc_C => k_is)
    (case pg_W => k_is)
    (case hd_W => k_is)
    (case po_W => k_is)
    (case sa_W => k_is)
    (case mk_W => k_is)
    (case kc_W => k_is)
    (case nL => k_is)
    (case nT => k_is)
    (case nK => k_is)
    (case nS => k_is)
    (case z_isinstance => k_is)
    (case z_int => k_is)
    (case z_bool => k_is)
    (case z_max => k_is)
    (case z_min => k_is)
    (case z_len => k_is)
    (case z_sorted => k_is)
    (case z_range => k_is)
    (case z_repr => k_is)
#print axioms PySem.Challenge.cw_onestaff_k14_whole_never_clear_too_soon_holds
