import PyProof.Rows.All
import Wide.All
import OpenK.AllK
import Wide.FinOn
import HandS.ForMost
import HandS.Evl
import HandS.Words
import HandS.Style
import HandS.Defaults
import HandS.Wide
import HandS.EndBits
import HandS.ListItems
import KE.SortData
import KE.DataMinMax
import HandS.Steps
import PySem.Challenge.RW_crossheaps_k29_pages_emptied_by_all_sets
set_option Elab.async false
set_option linter.all false
set_option maxRecDepth 100000
set_option maxHeartbeats 4000000
/-! Part 1: defs that are called where no repr is being made (the repr guard is empty): their promise, their call, the law's end. -/
namespace Gu
open PySem PySem.Spec PyProof.Rows L2
/-- as FnOk, asked only where no repr is on the way -/
structure FnG (P : Program) (w : World) (K : PySem.W.Frag) (mg : Str → Option Value) (base : Heap) (cx : CXT) (k : Nat) (f : Addr) (fd : FuncData) (ps : List Str) (sp : Sp) : Prop where
  len : ∀ vs H Q E, sp vs H Q E → vs.length = ps.length
  run : ∀ (A : Around) (out : List Env) (s : Shared) (H : Hp) (ar : Args) (us : List Value) (vs : List V) (Q : VK) (E : XK), Room k A → A.guards = some [] → Env0 P w K mg base A out s H →
    BindsTo s fd ar (ps.zip us) → Vals vs us → sp vs H Q E → codeAny (model P w) A (.call (.ref f) ar) (CR cx out P w H s Q E) s
theorem FnG.of {P : Program} {w : World} {K : PySem.W.Frag} {mg : Str → Option Value} {base : Heap} {cx : CXT} {k : Nat} {f : Addr} {fd : FuncData} {ps : List Str} {sp : Sp}
    (F : FnOk P w K mg base cx k f fd ps sp) : FnG P w K mg base cx k f fd ps sp :=
  ⟨F.len, fun A out s H ar us vs Q E hr _ he hb hv hs => F.run A out s H ar us vs Q E hr he hb hv hs⟩
theorem fnG_of {cx : CXT} {P : Program} {w : World} {K : PySem.W.Frag} {mg : Str → Option Value} {base : Heap} {k : Nat} {f : Addr} {nm ql : Str} {pr : Arguments} {bd : List Stmt} {sc : Scope}
    {dV kV dc pm cdv ct oc : Value} {an od : Option Addr} {osl : Array (Option Value)} {N ps : List Str} {sp : Sp}
    (lk : K.lookup f = some ⟨oc, od, .func (PySem.W.fnOf nm ql pr bd sc dV kV dc pm an cdv ct), osl⟩) (hcd : PySem.W.codeIn K cdv ql = true) (S : FnScope N ps sc)
    (len : ∀ vs H Q E, sp vs H Q E → vs.length = ps.length)
    (hb0 : ∀ (A : Around) (out : List Env) (s : Shared) (H : Hp) (vs : List V) (Q : VK) (E : XK), Room k (A.deeper (envOfC ql sc s.heap.objs.size f cdv)) → A.guards = some [] → sp vs H Q E →
      ∃ t, PSs (cxOf cx P w K mg base N ql sc f cdv A out s H E) bd t ∧ t { nx := fun _ H' => Q .non H', rt := Q } (start N vs) H) :
    FnG P w K mg base cx (k + 1) f (PySem.W.fnOf nm ql pr bd sc dV kV dc pm an cdv ct) ps sp := by
  refine ⟨len, fun A out s H ar us vs Q E hr hg e0 hb r hsp => ?_⟩
  have hl := len _ _ _ _ hsp
  have KX : K.In s.heap := e0.mod.kin.keeps fun b o z => (e0.bs b o z).1
  have lim : s.heap.NoLimit := e0.mod.nolimit.keeps fun b o z => (e0.bs b o z).1
  have hkd : ∀ y ∈ ps.zip us, sc.names.lookup y.1 = some .local ∨ (sc.names.lookup y.1 = some .cell ∧ ((cellsFrom (s.heap.objs.size + 1) sc.names []).lookup y.1).isSome = true) := fun ⟨n, v⟩ hy =>
    (S.par n (List.of_mem_zip hy).1).elim .inl fun q => .inr ⟨q, PySem.W.cellsFrom_some _ _ _ (.inl q)⟩
  refine codeAny_call_function hr.depth (KX _ _ lk) rfl S.co S.gen rfl (PySem.W.codeRec_of KX hcd) (hb _ _ _ _ ?_)
  refine wpAny_newFunctionEnv_cells S.kind hkd fun env hev s1 x => ?_
  subst hev
  refine ⟨lim.keeps x.toInCall.keep, codeAny_func ?_⟩
  obtain ⟨t, ht, hq⟩ := hb0 A out s H vs Q E (hr.deeper _) hg hsp
  have I : Inv (cxOf cx P w K mg base N ql sc f cdv A out s H E) [] (start N vs) H s1 := inv_start S hr.hd e0 hl r x
  refine wpAny_mono (ht.run [] s1 (start N vs) H _ I hq) (fun fl s' hs => ?_) fun e s' hs => hs
  have done : ∀ {σ' : L2.St} {H' : Hp} {v : V} {u : Value}, Inv (cxOf cx P w K mg base N ql sc f cdv A out s H E) [] σ' H' s' → RelV v u → Q v H' → CE out P w H s Q u s' :=
    fun {σ' H' v u} J rv q => ⟨v, H', J.os, J.bare, J.base, J.hok, rv, q⟩
  match fl, hs with
  | .ret u, ⟨v, σ', H', J, rv, q⟩ => exact done J rv q
  | .next, ⟨σ', H', J, q⟩ => exact done (v := V.non) (u := Value.none) J rfl q
  | .brk, ⟨_, _, _, q⟩ => exact False.elim q
  | .cont, ⟨_, _, _, q⟩ => exact False.elim q
section
variable {P : Program} {w : World} {K : PySem.W.Frag} {mg : Str → Option Value} {base : Heap}
theorem okG {x ql : Str} {st : Stmt} {f : Addr} {fd : FuncData} {N ps : List Str} {k : Nat} {sp : Sp} (F : Fun K x ql st f fd) (S : FnScope N ps (defScope st)) (len : ∀ vs H Q E, sp vs H Q E → vs.length = ps.length)
    (hb0 : ∀ (cdv : Value) (A : Around) (out : List Env) (s : Shared) (H : Hp) (vs : List V) (Q : VK) (E : XK), Room k (A.deeper (envOfC ql (defScope st) s.heap.objs.size f cdv)) → A.guards = some [] → sp vs H Q E →
      ∃ t, PSs (cxOf CX0 P w K mg base N ql (defScope st) f cdv A out s H E).nox (defBody st) t ∧ t { nx := fun _ H' => Q .non H', rt := Q } (start N vs) H) : FnG P w K mg base CX0 (k + 1) f fd ps sp := by
  obtain ⟨oc, od, kV, dc, pm, an, cdv, ct, osl, rfl, lk, hcd⟩ := F.ex
  refine fnG_of lk hcd S len fun A out s H vs Q E hr hg hsp => ?_
  obtain ⟨t, h, q⟩ := hb0 cdv A out s H vs Q E hr hg hsp
  exact ⟨t, h.nox, q⟩
end
/-! ### data, item by item -/
theorem _root_.L2.DpAll.len {K : PySem.W.Frag} {H : Hp} : ∀ {vs : List V} {ds : List PyData}, DpAll K H vs ds → vs.length = ds.length
  | _, _, .nil => rfl
  | _, _, .cons _ h => by rw [List.length_cons, List.length_cons, h.len]
theorem dp_zip {K : PySem.W.Frag} {H : Hp} : ∀ {vs : List V} {ds : List PyData}, DpAll K H vs ds → ∀ b ∈ vs.zip ds, Dp K H b.1 b.2
  | _, _, .nil, b, hb => by cases hb
  | _, _, .cons h1 h2, b, hb => by
    rcases List.mem_cons.mp hb with rfl | hb
    · exact h1
    · exact dp_zip h2 b hb
theorem dpAll_pairs {K : PySem.W.Frag} {H : Hp} : ∀ {bs : List (V × PyData)}, (∀ b ∈ bs, Dp K H b.1 b.2) → DpAll K H (bs.map Prod.fst) (bs.map Prod.snd)
  | [], _ => .nil
  | b :: bs, h => .cons (h b (List.mem_cons_self ..)) (dpAll_pairs fun c hc => h c (List.mem_cons_of_mem _ hc))
theorem each_zip {K : PySem.W.Frag} {H : Hp} : ∀ {vs : List V} {ds : List PyData} {us : List Value}, DpAll K H vs ds → Vals vs us → PySem.W.EachIs (fun (u : Value) (b : V × PyData) => RelV b.1 u ∧ Dp K H b.1 b.2) us (vs.zip ds)
  | _, _, _, .nil, .nil => .nil
  | _, _, _, .cons h1 h2, .cons r1 r2 => .cons ⟨r1, h1⟩ (each_zip h2 r2)
theorem vals_each : ∀ {us : List Value} {bs : List (V × PyData)}, PySem.W.EachIs (fun (u : Value) (b : V × PyData) => RelV b.1 u) us bs → Vals (bs.map Prod.fst) us
  | _, _, .nil => .nil
  | _, _, .cons h1 h2 => .cons h1 (vals_each h2)
section
variable {X : Cx} {cx : CXT} {k : Nat} {f : Addr} {fd : FuncData} {ps : List Str} {sp : Sp} {dvs : List V} {ds : List Value} {E : XK} {x : Str} {p pos : Pos} {e : Expr} {es : List Expr} {t : TA}
theorem run_G {pins : List (Addr × Obj)} {σ : L2.St} {H : Hp} {s : Shared} {Q : VK} {us : List Value} {vs : List V} (F : FnG X.prog X.w X.K X.mg X.base cx k f fd ps sp) (hr : Room k X.A) (hgd : X.A.guards = some [])
    (hb : Binds X.K fd ps ds) (hd : Vals dvs ds) (hx : Passes cx X E) (I : Inv X pins σ H s) (r : Vals vs us) (h : sp (vs ++ dvs) H Q E) : wpAny (model X.prog X.w) X.A (call (.ref f) us) (EP X pins σ Q) X.xe s := by
  have rr : Vals (vs ++ dvs) (us ++ ds) := r.append hd
  have hl : (us ++ ds).length = ps.length := by rw [← rr.length]; exact F.len _ _ _ _ h
  refine wpAny_call (codeAny_mono (F.run X.A X.stack s H ⟨us, []⟩ (us ++ ds) (vs ++ dvs) Q E hr hgd I.env0 (hb s us I.kIn hl) rr h) fun res s' hq => ?_)
  match res, hq with
  | .error e, hq => exact hx pins σ H s e s' I hq
  | .ok (.ret u), hq => exact I.after hq
theorem pe_callG (F : FnG X.prog X.w X.K X.mg X.base cx k f fd ps sp) (hr : Room k X.A) (hgd : X.A.guards = some []) (hg : Gl X x) (hm : X.mg x = some (.ref f)) (hk : PySem.W.keepIn X.K (.ref f) = true)
    (hb : Binds X.K fd ps ds) (hd : Vals dvs ds) (hx : Passes cx X E) (ha : PA X (e :: es) t) (hdb : (x == ("__debug__" : Str)) = false := by decide)
    (he : starEach (e :: es) X.env = (false, eval e X.env) :: starEach es X.env := by rfl) (hpl : (backTo pos (starEach es X.env)).any (·.1) = false := by rfl) :
    PE X (.Call (.Name x p) (e :: es) [] pos) (tCall sp dvs E t) := by
  refine ⟨fun pins s σ H Q I h => wpAny_Call_Name_kw (ld_glob I hg hm ?_ hdb)⟩
  exact PySem.W.callWith_K (h₀ := X.base) I.ok.mod.kin hk (thn (ha.run pos pins s σ H _ I h) fun us s1 ⟨vs, H1, I1, r, q⟩ => ⟨I1.kIn, run_G F hr hgd hb hd hx I1 r q⟩) he hpl
/-- repr of data -/
def rRepr (K : PySem.W.Frag) : List V → Hp → VK → Prop := fun xs H Q => ∃ a d, xs = [.ref a] ∧ Dp K H (.ref a) d ∧ d.showable = true ∧ d.hasDict = false ∧ d.depth ≤ 60 ∧ d.shown.length ≤ sizeLine ∧ Q (.str d.shown) H
theorem call_reprD (hgd : X.A.guards = some []) (hu : X.A.units + 64 < cLine) : CallR X (.builtin "repr") (rRepr X.K) := by
  intro pins s σ H xs us Q I r h
  obtain ⟨a, d, rfl, hd, h1, h2, h3, h4, q⟩ := h
  rw [Vals.ref1 r]
  obtain ⟨as, rd⟩ := Dp.reads I d (.ref a) (.ref a) hd rfl
  refine PySem.repr_of_reads' rd h1 (fun z => by rw [h2] at z; cases z) hgd (by omega) (fun _ _ z => z) (fun h' u tk hk => ?_) h4
  exact ⟨.str _, H, I.kept hk, ⟨_, rfl⟩, q⟩
/-- sorted of data of one shape -/
def rSortD (K : PySem.W.Frag) : List V → Hp → VK → Prop := fun xs H Q => ∃ (a : Addr) (vs : List V) (ds : List PyData), xs = [.ref a] ∧ SqL K H a vs ∧ DpAll K H vs ds ∧ PySem.W.AllAlike ds ∧ PySem.W.Sortable ds ∧ (∀ d ∈ ds, d.depth ≤ 60) ∧
  ∀ (p : Addr) (bs : List (V × PyData)), H p = none → bs.Perm (vs.zip ds) → bs.map Prod.snd = ds.mergeSort (PySem.W.dataLe false id) → Q (.ref p) (upd H p (.lst (bs.map Prod.fst)))
theorem call_sortD (hu : X.A.units + 64 < cLine) : CallR X (.builtin "sorted") (rSortD X.K) := by
  intro pins s σ H xs us Q I r h
  obtain ⟨a, vs, ds, rfl, hs, hd, h1, h2, h3, q⟩ := h
  rw [Vals.ref1 r]
  obtain ⟨its, rv, hl, hz⟩ := I.list hs
  have hlen : vs.length = ds.length := hd.len
  have er : PySem.W.EachIs (fun (u : Value) (b : V × PyData) => RelV b.1 u ∧ Dp X.K H b.1 b.2) its (vs.zip ds) := each_zip hd rv
  have er2 : PySem.W.EachIs (fun (u : Value) (b : V × PyData) => ∃ as, Reads s.heap u b.2 as) its (vs.zip ds) := er.mono fun u b z => Dp.reads I b.2 b.1 u z.2 z.1
  have em : (vs.zip ds).map Prod.snd = ds := List.map_snd_zip (by omega)
  have ez : (vs.zip ds).map Prod.fst = vs := List.map_fst_zip (by omega)
  have lz : (vs.zip ds).length = vs.length := by rw [← ez, List.length_map]; congr 1; rw [ez]
  refine PySem.W.sorted_data (enc := Prod.snd) (bs := vs.zip ds) hl.isList er er2 (by rw [em]; exact h1) (by rw [em]; exact h2) (by rw [lz]; exact hz) (fun b hb => ?_) fun out ho eo => ?_
  · have := h3 b.2 (List.of_mem_zip hb).2
    omega
  · obtain ⟨n, hn⟩ := PyProof.Rows.sortedAll_at s.heap its out.toArray
    have pm : ((vs.zip ds).mergeSort (PySem.W.dataLe false Prod.snd)).Perm (vs.zip ds) := List.mergeSort_perm _ _
    have rel : Vals (((vs.zip ds).mergeSort (PySem.W.dataLe false Prod.snd)).map Prod.fst) out := vals_each (eo.mono fun u b z => z.1)
    have e2 : ((vs.zip ds).mergeSort (PySem.W.dataLe false Prod.snd)).map Prod.snd = ds.mergeSort (PySem.W.dataLe false id) := by
      rw [PySem.W.sort_maps (r := PySem.W.dataLe false Prod.snd) (s := PySem.W.dataLe false id) Prod.snd (fun _ _ _ _ => rfl), em]
    have pm2 : (((vs.zip ds).mergeSort (PySem.W.dataLe false Prod.snd)).map Prod.fst).Perm vs := by
      have := pm.map Prod.fst
      rw [ez] at this
      exact this
    exact ⟨.ref _, upd H (s.heap.objs.size + 1) (.lst _), I.laid (t' := s.toks) (fun _ _ => PyProof.Rows.sortedAll_old) (Nat.le_succ _) ⟨by rw [pm2.length_eq]; exact hz, out, n, rel, hn⟩, rfl, q _ _ (I.hok.fresh (Nat.le_succ _)) pm e2⟩
end
/-! ### the law's own call -/
theorem law_callG {P : Program} {w : World} {K : PySem.W.Frag} {mg mb : Str → Option Value} {cx : CXT} {k : Nat} {fa a : Addr} {fd : FuncData} {x : Str} {sp : Sp} {s : Shared} {vs : List Value} {ns : List Int}
    (KX : K.In s.heap) (hns : s.heap.Ns mainGlobals mg) (hb : s.heap.Ns builtinsNs mb) (hbb : ∀ y : Str, y ≠ "__name__" → mb y = bootBuiltins y) (hlim : s.heap.NoLimit) (hg : s.gens = #[])
    (ha : s.heap.get? a = some { cls := .type "list", data := .seq vs.toArray }) (hi : IntsAre vs ns) (hl : ns.length ≤ sizeLine) (hr : Room k callerA)
    (F : ∀ base : Heap, K.In base → base.Ns mainGlobals mg → FnG P w K mg base cx k fa fd [x] sp) (hbind : ∀ (s' : Shared) (u : Value), BindsTo s' fd ⟨[u], []⟩ [(x, u)])
    (hsp : ∀ H : Hp, Only H → SqL K H a (ns.map V.int) → sp [.ref a] H (fun v _ => v = .bl true) fun _ _ _ => False)
    (hcx : ∀ H e s', cx [] H s (fun _ _ _ => False) e s' → False) :
    codeAny (model P w) callerA (.call (.ref fa) ⟨[.ref a], []⟩) (fun r s' => r = .ok (.ret (.bool true)) ∧ OldK s.heap s'.heap ∧ s'.os = s.os ∧ AllBare s'.gens) s := by
  have rv := vals_ints hi
  have main : ∀ H : Hp, Only H → SqL K H a (ns.map V.int) → HOk P w H s.heap → (∀ b, H b ≠ none → b = a) → (H a ≠ none → K.lookup a = none) →
      codeAny (model P w) callerA (.call (.ref fa) ⟨[.ref a], []⟩) (fun r s' => r = .ok (.ret (.bool true)) ∧ OldK s.heap s'.heap ∧ s'.os = s.os ∧ AllBare s'.gens) s := by
    intro H hO hS hok hA hK
    have isA : ∀ {b u}, H b = some u → b = a := fun {b u} q => hA b (by rw [q]; intro z; cases z)
    have keepB : ∀ {b : Addr} {o : Obj}, s.heap.get? b = some o → H b = none → (hidT s.heap H).get? b = some o := fun e n => hidT_get e n
    have noDict : ∀ {b : Addr} {o : Obj} {es : Array DictEntry} {ep : Nat}, s.heap.get? b = some o → o.data = .dict es ep → H b = none := fun {b o es ep} e d => by
      match q : H b with
      | none => rfl
      | some u =>
        obtain rfl := isA q
        rw [ha] at e
        cases e
        exact absurd (show Data.seq vs.toArray _ = Data.dict es ep from d) (by intro z; cases z)
    have nsB : ∀ {b : Addr} {m : Str → Option Value}, s.heap.Ns b m → (hidT s.heap H).Ns b m := fun {b m} ⟨o, es, ep, e, d, r⟩ => ⟨o, es, ep, keepB e (noDict e d), d, r⟩
    have kinB : K.In (hidT s.heap H) := fun b o e => keepB (KX b o e) (by
      match q : H b with
      | none => rfl
      | some u =>
        obtain rfl := isA q
        rw [hK (by rw [q]; intro z; cases z)] at e
        cases e)
    have md : Mod K mg (hidT s.heap H) := ⟨kinB, nsB hns, ⟨mb, nsB hb, hbb⟩, hlim.elim fun mc h => ⟨mc, nsB h.1, h.2⟩⟩
    have ev : Env0 P w K mg (hidT s.heap H) callerA [] s H := ⟨rfl, md, fun b o e => of_hidT e, Nat.le_of_eq (hidT_size _ _), trivial, fun b hb => absurd (show b ∈ ([] : List Addr) from hb) (by simp), hok, .of_eq hg⟩
    refine codeAny_mono ((F _ kinB (nsB hns)).run callerA [] s H ⟨[.ref a], []⟩ [.ref a] [.ref a] _ _ hr rfl ev (hbind s (.ref a)) (.cons rfl .nil) (hsp H hO hS)) fun r s' h => ?_
    match r, h with
    | .error e, h => exact (hcx H e s' h).elim
    | .ok (.ret u), ⟨v, H', os, bare, un, hok', r', q⟩ =>
      obtain rfl : v = .bl true := q
      obtain rfl : u = Value.bool true := r'
      refine ⟨rfl, OldK.of_keep fun b o e => ?_, os, bare⟩
      match q : H b with
      | none => exact un.keep b o e q (fun z => absurd (show b ∈ ([] : List Addr) from z) (by simp)) (by simp)
      | some u =>
        rcases hO b with z | ⟨ob, xs, z⟩
        · rw [q] at z
          cases z
        · obtain ⟨e1, _⟩ := hok b _ z
          obtain ⟨e2, _⟩ := hok' b _ (un.frzs b ob _ z)
          rw [e] at e1
          cases e1
          exact e2
  match hk : K.lookup a with
  | some o =>
    have e := KX a o hk
    rw [ha] at e
    cases e
    exact main (fun _ => none) (fun _ => .inl rfl) (.inr ⟨_, vs.toArray, _, hk, rfl, rfl, rfl, by rw [List.size_toArray, hi.length]; exact hl, by simpa using rv⟩) (fun b u z => absurd (show (none : Option HO) = some u from z) (by intro q; cases q)) (fun b z => absurd rfl z) fun z => absurd rfl z
  | none =>
    refine main (fun b => if b = a then some (.frz { cls := .type "list", data := .seq vs.toArray } (.lst (ns.map V.int))) else none) (fun b => ?_) (.inl (.inr ⟨{ cls := .type "list", data := .seq vs.toArray }, if_pos rfl⟩)) (fun b u z => ?_) (fun b z => ?_) fun _ => hk
    · by_cases hb : b = a
      · exact .inr ⟨_, _, if_pos hb⟩
      · exact .inl (if_neg hb)
    · by_cases hb : b = a
      · cases (if_pos hb).symm.trans z
        subst hb
        exact ⟨ha, by rw [List.length_map]; exact hl, vs, _, rv, ha⟩
      · cases (if_neg hb).symm.trans z
    · by_cases hb : b = a
      · exact hb
      · exact absurd (if_neg hb) z
theorem walk_G {l : PySem.W.OpenLaw} {n k : Nat} {q : Program} {loose : List Str} {XP : (Str → Option Value) → Heap → Prop} {YP : World → Heap → Prop} {d : DefRec} {K : Params → PySem.W.Frag} {cx : World → CXT} {sp : World → Sp} {x : Str}
    (hn : l.most = some n) (hn2 : n ≤ sizeLine) (hdf : d.params.defaults = []) (hr : Room k callerA) (hY : ∀ (w : World) (h : Heap), YP w h → (K w.params).In h)
    (F : ∀ (w : World) (mg : Str → Option Value) (fa : Addr) (h : Heap), (K w.params).In h → h.Ns mainGlobals mg → mg d.name = some (.ref fa) →
      ∃ fd : FuncData, (∀ (s : Shared) (u : Value), BindsTo s fd ⟨[u], []⟩ [(x, u)]) ∧ ∀ base : Heap, (K w.params).In base → base.Ns mainGlobals mg → FnG l.prog w (K w.params) mg base (cx w) k fa fd [x] (sp w))
    (hsp : ∀ (w : World) (H : Hp) (a : Addr) (ns : List Int), ns.length ≤ n → Only H → SqL (K w.params) H a (ns.map V.int) → sp w [.ref a] H (fun v _ => v = .bl true) fun _ _ _ => False)
    (hcx : ∀ (w : World) (H : Hp) (s : Shared) (e : Value) (s' : Shared), cx w [] H s (fun _ _ _ => False) e s' → False) :
    PySem.W.WalkO q loose XP YP l.row.toRowW d [] (fun f vs => PySem.call f vs) := by
  refine Att.attach_call hn hdf fun w s₀ s₁ mg mb fa o pm cd doc a vs ns G Y ho hd hcd hmg hobj hints hlen hg => ?_
  obtain ⟨fd, hb, hF⟩ := F w mg fa _ (hY w _ Y) G.T.g hmg
  exact law_callG (hY w _ Y) G.T.g G.T.b G.T.builtins G.T.nolimit hg hobj hints (Nat.le_trans hlen hn2) hr hF hb (fun H hO hS => hsp w H a ns hlen hO hS) fun H e s' => hcx w H s₁ e s'
end Gu
/-! Part 2: cells: what a slot holds, as data; evaluation in words of cells. -/
namespace Dx
open PySem PySem.Spec PyProof.Rows L2 Gu
abbrev Ex := Evl.Ex
mutual
theorem dp_mono {K : PySem.W.Frag} {H H' : Hp} (e : Ex H H') : ∀ (d : PyData) (v : V), Dp K H v d → Dp K H' v d
  | .none, _, h => by cases h; exact .non
  | .bool _, _, h => by cases h; exact .bl _
  | .int _, _, h => by cases h; exact .int _
  | .str _, _, h => by cases h; exact .str _
  | .list ds, _, h => by
    cases h with
    | lst hs ha => exact .lst (Evl.ex_l e hs) (dpAll_mono e ds _ ha)
  | .tuple ds, _, h => by
    cases h with
    | tup hs ha => exact .tup (Evl.ex_t e hs) (dpAll_mono e ds _ ha)
  | .dict _, _, h => by cases h
theorem dpAll_mono {K : PySem.W.Frag} {H H' : Hp} (e : Ex H H') : ∀ (ds : List PyData) (vs : List V), DpAll K H vs ds → DpAll K H' vs ds
  | [], _, h => by cases h; exact .nil
  | d :: ds, _, h => by
    cases h with
    | cons h1 h2 => exact .cons (dp_mono e d _ h1) (dpAll_mono e ds _ h2)
end
/-- what a mutable object holds -/
inductive MO where
  | lst (ds : List PyData)
  | dic (kvs : List (Key × PyData))
/-- what is known of a slot: nothing; data; a mutable object that it owns; where it points -/
inductive Cell where
  | any
  | d (x : PyData)
  | m (a : Addr) (o : MO)
  | b (a : Addr)
  | f (φ : Hp → Prop) (up : ∀ B B', Evl.Ex B B' → φ B → φ B')
def kvOk (K : PySem.W.Frag) (B : Hp) : List (Key × V) → List (Key × PyData) → Prop
  | [], [] => True
  | p :: ps, q :: qs => p.1 = q.1 ∧ Dp K B p.2 q.2 ∧ kvOk K B ps qs
  | _, _ => False
def MOk (K : PySem.W.Frag) (B : Hp) : MO → HO → Prop
  | .lst ds, h => ∃ xs, h = .lst xs ∧ DpAll K B xs ds
  | .dic kvs, h => ∃ ps, h = .dK ps ∧ kvOk K B ps kvs
def Sl (K : PySem.W.Frag) (B H : Hp) (o : Option V) : Cell → Prop
  | .any => True
  | .d x => ∃ v, o = some v ∧ Dp K B v x
  | .m a mo => o = some (.ref a) ∧ B a = none ∧ ∃ h, H a = some h ∧ MOk K B mo h
  | .b a => o = some (.ref a)
  | .f φ _ => φ B
abbrev Sm := Option V × Cell
def own1 : Cell → Option Addr
  | .m a _ => some a
  | _ => none
def owned (z : List Sm) : List Addr := z.filterMap fun p => own1 p.2
structure Env (K : PySem.W.Frag) (B H : Hp) (z : List Sm) : Prop where
  bh : Ex B H
  sl : ∀ p ∈ z, Sl K B H p.1 p.2
  nd : (owned z).Nodup
theorem kvOk_mono {K : PySem.W.Frag} {B B' : Hp} (e : Ex B B') : ∀ {ps : List (Key × V)} {qs : List (Key × PyData)}, kvOk K B ps qs → kvOk K B' ps qs
  | [], [], _ => trivial
  | _ :: _, _ :: _, h => ⟨h.1, dp_mono e _ _ h.2.1, kvOk_mono e h.2.2⟩
  | [], _ :: _, h => h.elim
  | _ :: _, [], h => h.elim
theorem MOk.mono {K : PySem.W.Frag} {B B' : Hp} (e : Ex B B') : ∀ {mo : MO} {h : HO}, MOk K B mo h → MOk K B' mo h
  | .lst _, _, ⟨xs, e1, e2⟩ => ⟨xs, e1, dpAll_mono e _ _ e2⟩
  | .dic _, _, ⟨xs, e1, e2⟩ => ⟨xs, e1, kvOk_mono e e2⟩
/-- what only grows keeps every cell -/
theorem Sl.grow {K : PySem.W.Frag} {B H B2 H2 : Hp} {o : Option V} (g : Ex B B2) : ∀ {c : Cell}, (∀ a, own1 c = some a → B2 a = none ∧ ∀ h, H a = some h → H2 a = some h) → Sl K B H o c → Sl K B2 H2 o c
  | .any, _, _ => trivial
  | .d _, _, ⟨v, e1, e2⟩ => ⟨v, e1, dp_mono g _ _ e2⟩
  | .m a _, k, ⟨e1, e2, h, e3, e4⟩ => ⟨e1, (k a rfl).1, h, (k a rfl).2 h e3, e4.mono g⟩
  | .b _, _, h => h
  | .f _ up, _, h => up _ _ g h
theorem mem_owned {z : List Sm} {p : Sm} {a : Addr} (h : p ∈ z) (e : own1 p.2 = some a) : a ∈ owned z := List.mem_filterMap.mpr ⟨p, h, e⟩
theorem Env.grow {K : PySem.W.Frag} {B H B2 H2 : Hp} {z : List Sm} (E : Env K B H z) (g : Ex B B2) (bh : Ex B2 H2) (k : ∀ a ∈ owned z, B2 a = none ∧ ∀ h, H a = some h → H2 a = some h) : Env K B2 H2 z :=
  ⟨bh, fun p hp => (E.sl p hp).grow g fun a e => k a (mem_owned hp e), E.nd⟩
theorem Env.sub {K : PySem.W.Frag} {B H : Hp} {z z' : List Sm} (E : Env K B H z) (s : List.Sublist z' z) : Env K B H z' :=
  ⟨E.bh, fun p hp => E.sl p (s.subset hp), (s.filterMap _).nodup E.nd⟩
theorem Env.perm {K : PySem.W.Frag} {B H : Hp} {z z' : List Sm} (E : Env K B H z) (s : z'.Perm z) : Env K B H z' :=
  ⟨E.bh, fun p hp => E.sl p (s.mem_iff.mp hp), ((s.filterMap _).nodup_iff).mpr E.nd⟩
/-- one more that owns nothing -/
theorem Env.put {K : PySem.W.Frag} {B H : Hp} {z y : List Sm} {o : Option V} {c : Cell} (E : Env K B H (z ++ y)) (h : Sl K B H o c) (hc : own1 c = none) : Env K B H (z ++ (o, c) :: y) := by
  refine ⟨E.bh, fun p hp => ?_, ?_⟩
  · rcases List.mem_append.mp hp with hp | hp
    · exact E.sl p (List.mem_append_left _ hp)
    · rcases List.mem_cons.mp hp with rfl | hp
      · exact h
      · exact E.sl p (List.mem_append_right _ hp)
  · have e : owned (z ++ (o, c) :: y) = owned (z ++ y) := by
      unfold owned
      have e1 : List.filterMap (fun p : Sm => own1 p.2) ((o, c) :: y) = List.filterMap (fun p : Sm => own1 p.2) y := List.filterMap_cons_none hc
      rw [List.filterMap_append, List.filterMap_append, e1]
    rw [e]
    exact E.nd
/-- one more that owns a new object -/
theorem Env.putM {K : PySem.W.Frag} {B H : Hp} {z y : List Sm} {o : Option V} {a : Addr} {mo : MO} (E : Env K B H (z ++ y)) (h : Sl K B H o (.m a mo)) (hc : a ∉ owned (z ++ y)) : Env K B H (z ++ (o, .m a mo) :: y) := by
  refine ⟨E.bh, fun p hp => ?_, ?_⟩
  · rcases List.mem_append.mp hp with hp | hp
    · exact E.sl p (List.mem_append_left _ hp)
    · rcases List.mem_cons.mp hp with rfl | hp
      · exact h
      · exact E.sl p (List.mem_append_right _ hp)
  · have e : (owned (z ++ (o, .m a mo) :: y)).Perm (a :: owned (z ++ y)) := by
      unfold owned
      have : List.filterMap (fun p : Sm => own1 p.2) ((o, Cell.m a mo) :: (z ++ y)) = a :: List.filterMap (fun p : Sm => own1 p.2) (z ++ y) := List.filterMap_cons_some rfl
      rw [← this]
      exact (List.perm_middle).filterMap _
    exact (e.nodup_iff).mpr (List.nodup_cons.mpr ⟨hc, E.nd⟩)
/-- a tracked object owned by a cell is not frozen -/
theorem Env.ownB {K : PySem.W.Frag} {B H : Hp} {z : List Sm} {a : Addr} (E : Env K B H z) (h : a ∈ owned z) : B a = none ∧ H a ≠ none := by
  obtain ⟨p, hp, e⟩ := List.mem_filterMap.mp h
  have s := E.sl p hp
  match hc : p.2 with
  | .m b mo =>
    rw [hc] at e s
    cases e
    obtain ⟨_, h2, x, h3, _⟩ := s
    exact ⟨h2, by rw [h3]; intro z; cases z⟩
  | .any => rw [hc] at e; cases e
  | .d _ => rw [hc] at e; cases e
  | .b _ => rw [hc] at e; cases e
  | .f _ _ => rw [hc] at e; cases e
/-! ### evaluation -/
abbrev KC := Cell → List Cell → Prop
/-- an expression, from cells to cells -/
def WE (K : PySem.W.Frag) (te : TE) (cs : List Cell) (k : KC) : Prop := ∀ (B H : Hp) (σ : L2.St) (fr : List Sm), σ.length = cs.length → Env K B H (σ.zip cs ++ fr) → ∀ Q : VK,
  (∀ v c cs2 B2 H2, cs2.length = cs.length → Env K B2 H2 (σ.zip cs2 ++ (some v, c) :: fr) → k c cs2 → Q v H2) → te σ H Q
/-- a test -/
def WT (K : PySem.W.Frag) (tt : TT) (cs : List Cell) (k : Bool → List Cell → Prop) : Prop := ∀ (B H : Hp) (σ : L2.St) (fr : List Sm), σ.length = cs.length → Env K B H (σ.zip cs ++ fr) → ∀ Q : Bool → Hp → Prop,
  (∀ b cs2 B2 H2, cs2.length = cs.length → Env K B2 H2 (σ.zip cs2 ++ fr) → k b cs2 → Q b H2) → tt σ H Q
/-- arguments -/
def WA (K : PySem.W.Frag) (ta : TA) (cs : List Cell) (k : List Cell → List Cell → Prop) : Prop := ∀ (B H : Hp) (σ : L2.St) (fr : List Sm), σ.length = cs.length → Env K B H (σ.zip cs ++ fr) → ∀ Q : List V → Hp → Prop,
  (∀ vs cl cs2 B2 H2, vs.length = cl.length → cs2.length = cs.length → Env K B2 H2 (σ.zip cs2 ++ ((vs.map some).zip cl ++ fr)) → k cl cs2 → Q vs H2) → ta σ H Q
/-- what an operation on values does -/
def RD (K : PySem.W.Frag) (r : R2) (c1 c2 : Cell) (cs : List Cell) (k : KC) : Prop := ∀ (B H : Hp) (σ : L2.St) (fr : List Sm) (v1 v2 : V), σ.length = cs.length → Env K B H (σ.zip cs ++ (some v2, c2) :: (some v1, c1) :: fr) → ∀ Q : VK,
  (∀ v c cs2 B2 H2, cs2.length = cs.length → Env K B2 H2 (σ.zip cs2 ++ (some v, c) :: fr) → k c cs2 → Q v H2) → r v1 v2 H Q
def RA (K : PySem.W.Frag) (r : List V → Hp → VK → Prop) (cl cs : List Cell) (k : KC) : Prop := ∀ (B H : Hp) (σ : L2.St) (fr : List Sm) (vs : List V), σ.length = cs.length → vs.length = cl.length → Env K B H (σ.zip cs ++ ((vs.map some).zip cl ++ fr)) → ∀ Q : VK,
  (∀ v c cs2 B2 H2, cs2.length = cs.length → Env K B2 H2 (σ.zip cs2 ++ (some v, c) :: fr) → k c cs2 → Q v H2) → r vs H Q
/-! the words of continuations -/
def IsB (c : Cell) (k : Bool → Prop) : Prop := ∃ b, c = .d (.bool b) ∧ k b
def IsI (c : Cell) (k : Int → Prop) : Prop := ∃ i, c = .d (.int i) ∧ k i
def IsD (c : Cell) (k : PyData → Prop) : Prop := ∃ x, c = .d x ∧ k x
def BB (b : Bool) (p q : Prop) : Prop := (b = true → p) ∧ (b = false → q)
def AtM (cs : List Cell) (i : Nat) (a : Addr) (k : List PyData → Prop) : Prop := ∃ ds, cs[i]? = some (.m a (.lst ds)) ∧ k ds
def AtI (ds : List PyData) (n : Int) (k : PyData → Prop) : Prop := ∃ x, atI ds n = some x ∧ k x
def IxJ (ds : List PyData) (n : Int) (k : Nat → Prop) : Prop := ∃ j, ixN ds.length n = some j ∧ k j
def Less (ds : List PyData) (p : Prop) : Prop := ds.length < 100000 ∧ p
def Two (cl : List Cell) (k : Cell → Cell → Prop) : Prop := ∃ c1 c2, cl = [c1, c2] ∧ k c1 c2
def Three (cl : List Cell) (k : Cell → Cell → Cell → Prop) : Prop := ∃ c1 c2 c3, cl = [c1, c2, c3] ∧ k c1 c2 c3
theorem isB {b : Bool} {k : Bool → Prop} (h : k b) : IsB (.d (.bool b)) k := ⟨b, rfl, h⟩
theorem isI {b : Int} {k : Int → Prop} (h : k b) : IsI (.d (.int b)) k := ⟨b, rfl, h⟩
theorem isD {b : PyData} {k : PyData → Prop} (h : k b) : IsD (.d b) k := ⟨b, rfl, h⟩
theorem bb {b : Bool} {p q : Prop} (h1 : b = true → p) (h2 : b = false → q) : BB b p q := ⟨h1, h2⟩
theorem bbT {p q : Prop} (h : p) : BB true p q := ⟨fun _ => h, fun e => by cases e⟩
theorem bbF {p q : Prop} (h : q) : BB false p q := ⟨(fun e => by cases e), fun _ => h⟩
theorem atM {cs : List Cell} {i : Nat} {a : Addr} {ds : List PyData} {k : List PyData → Prop} (e : cs[i]? = some (.m a (.lst ds))) (h : k ds) : AtM cs i a k := ⟨ds, e, h⟩
theorem atX {ds : List PyData} {n : Int} {x : PyData} {k : PyData → Prop} (e : atI ds n = some x) (h : k x) : AtI ds n k := ⟨x, e, h⟩
theorem ixJ {ds : List PyData} {n : Int} {j : Nat} {k : Nat → Prop} (e : ixN ds.length n = some j) (h : k j) : IxJ ds n k := ⟨j, e, h⟩
theorem less {ds : List PyData} {p : Prop} (e : ds.length < 100000) (h : p) : Less ds p := ⟨e, h⟩
theorem two {c1 c2 : Cell} {k : Cell → Cell → Prop} (h : k c1 c2) : Two [c1, c2] k := ⟨c1, c2, rfl, h⟩
theorem three {c1 c2 c3 : Cell} {k : Cell → Cell → Cell → Prop} (h : k c1 c2 c3) : Three [c1, c2, c3] k := ⟨c1, c2, c3, rfl, h⟩
section
variable {K : PySem.W.Frag} {cs : List Cell} {k : KC} {ta tb te : TE}
theorem WE.imp {k' : KC} (h : WE K te cs k) (i : ∀ c cs2, k c cs2 → k' c cs2) : WE K te cs k' := fun B H σ fr hl E Q q => h B H σ fr hl E Q fun v c cs2 B2 H2 h1 h2 h3 => q v c cs2 B2 H2 h1 h2 (i c cs2 h3)
theorem zip_mem {σ : L2.St} {i : Nat} {c : Cell} (hl : σ.length = cs.length) (h : cs[i]? = some c) : ∃ o, σ[i]? = some o ∧ (o, c) ∈ σ.zip cs := by
  obtain ⟨hi, e⟩ := List.getElem?_eq_some_iff.mp h
  have hj : i < σ.length := by omega
  refine ⟨σ[i], List.getElem?_eq_getElem hj, ?_⟩
  have : (σ.zip cs)[i]'(by rw [List.length_zip]; omega) = (σ[i], cs[i]) := List.getElem_zip
  rw [e] at this
  rw [← this]
  exact List.getElem_mem _
theorem we_var {i : Nat} {x : PyData} (h : cs[i]? = some (.d x)) (hk : k (.d x) cs) : WE K (tVar i) cs k := by
  intro B H σ fr hl E Q q
  obtain ⟨o, ho, hm⟩ := zip_mem hl h
  obtain ⟨v, e1, e2⟩ := E.sl _ (List.mem_append_left _ hm)
  have e1' : o = some v := e1
  subst e1'
  exact ⟨v, ho, q v (.d x) cs B H rfl (E.put ⟨v, rfl, e2⟩ rfl) hk⟩
theorem we_c {v : V} {x : PyData} (h : ∀ B, Dp K B v x) (hk : k (.d x) cs) : WE K (tC v) cs k := fun B H σ fr hl E Q q => q v (.d x) cs B H rfl (E.put ⟨v, rfl, h B⟩ rfl) hk
theorem we_int {i : Int} (hk : k (.d (.int i)) cs) : WE K (tC (.int i)) cs k := we_c (fun _ => .int i) hk
theorem we_str {i : Str} (hk : k (.d (.str i)) cs) : WE K (tC (.str i)) cs k := we_c (fun _ => .str i) hk
theorem we_bl {i : Bool} (hk : k (.d (.bool i)) cs) : WE K (tC (.bl i)) cs k := we_c (fun _ => .bl i) hk
theorem we_non (hk : k (.d .none) cs) : WE K (tC .non) cs k := we_c (fun _ => .non) hk
theorem we_op {r : R2} (h : WE K ta cs fun c1 cs1 => WE K tb cs1 fun c2 cs2 => RD K r c1 c2 cs2 k) : WE K (tOp r ta tb) cs k := by
  intro B H σ fr hl E Q q
  refine h B H σ fr hl E _ fun v1 c1 cs1 B1 H1 l1 E1 w1 => ?_
  refine w1 B1 H1 σ ((some v1, c1) :: fr) (by omega) E1 _ fun v2 c2 cs2 B2 H2 l2 E2 w2 => ?_
  exact w2 B2 H2 σ fr v1 v2 (by omega) E2 Q fun v c cs3 B3 H3 l3 E3 hk => q v c cs3 B3 H3 (by omega) E3 hk
/-- two ints -/
theorem Env.int {B H : Hp} {z : List Sm} {o : Option V} {i : Int} (E : Env K B H z) (h : (o, Cell.d (.int i)) ∈ z) : o = some (.int i) := by
  obtain ⟨v, e, d⟩ := E.sl _ h
  cases d
  exact e
theorem Env.str {B H : Hp} {z : List Sm} {o : Option V} {i : Str} (E : Env K B H z) (h : (o, Cell.d (.str i)) ∈ z) : o = some (.str i) := by
  obtain ⟨v, e, d⟩ := E.sl _ h
  cases d
  exact e
theorem Env.bl {B H : Hp} {z : List Sm} {o : Option V} {i : Bool} (E : Env K B H z) (h : (o, Cell.d (.bool i)) ∈ z) : o = some (.bl i) := by
  obtain ⟨v, e, d⟩ := E.sl _ h
  cases d
  exact e
theorem drop2 {z fr : List Sm} {p q : Sm} : List.Sublist (z ++ fr) (z ++ p :: q :: fr) := List.Sublist.append (List.Sublist.refl z) ((List.sublist_cons_self q fr).cons p)
theorem drop1 {z fr : List Sm} {p : Sm} : List.Sublist (z ++ fr) (z ++ p :: fr) := List.Sublist.append (List.Sublist.refl z) (List.sublist_cons_self p fr)
theorem rd_I {C : Int → Int → Prop} {g : Int → Int → V} {i j : Int} {x : PyData} (hc : C i j) (hg : ∀ B, Dp K B (g i j) x) (hk : k (.d x) cs) : RD K (rI C g) (.d (.int i)) (.d (.int j)) cs k := by
  intro B H σ fr v1 v2 hl E Q q
  have e1 : some v1 = some (V.int i) := E.int (List.mem_append_right _ (List.mem_cons_of_mem _ (List.mem_cons_self ..)))
  have e2 : some v2 = some (V.int j) := E.int (List.mem_append_right _ (List.mem_cons_self ..))
  cases e1
  cases e2
  exact ⟨i, j, rfl, rfl, hc, q _ (.d x) cs B H rfl ((E.sub drop2).put ⟨_, rfl, hg B⟩ rfl) hk⟩
theorem rd_I0 {g : Int → Int → V} {i j : Int} {x : PyData} (hg : ∀ B, Dp K B (g i j) x) (hk : k (.d x) cs) : RD K (rI0 g) (.d (.int i)) (.d (.int j)) cs k := by
  intro B H σ fr v1 v2 hl E Q q
  have e1 : some v1 = some (V.int i) := E.int (List.mem_append_right _ (List.mem_cons_of_mem _ (List.mem_cons_self ..)))
  have e2 : some v2 = some (V.int j) := E.int (List.mem_append_right _ (List.mem_cons_self ..))
  cases e1
  cases e2
  exact ⟨i, j, rfl, rfl, q _ (.d x) cs B H rfl ((E.sub drop2).put ⟨_, rfl, hg B⟩ rfl) hk⟩
end
end Dx
/-! Part 3: the rules of expressions, tests, arguments, calls. -/
namespace Dx
open PySem PySem.Spec PyProof.Rows L2 Gu
section
variable {K : PySem.W.Frag} {cs : List Cell} {k : KC} {ta tb te : TE} {t u : TT} {kt : Bool → List Cell → Prop}
/-! ### tests -/
theorem wt_test (h : WE K te cs fun c cs2 => IsB c fun b => kt b cs2) : WT K (tTest te) cs kt := by
  intro B H σ fr hl E Q q
  refine h B H σ fr hl E _ fun v c cs2 B2 H2 l2 E2 ⟨b, e, hk⟩ => ?_
  subst e
  have ev : some v = some (V.bl b) := E2.bl (List.mem_append_right _ (List.mem_cons_self ..))
  cases ev
  exact ⟨b, rfl, q b cs2 B2 H2 l2 (E2.sub drop1) hk⟩
theorem wt_B (h : WE K te cs fun c cs2 => IsB c fun b => kt b cs2) : WT K (tB te) cs kt := wt_test h
theorem wt_and (h : WT K t cs fun b cs1 => BB b (WT K u cs1 kt) (kt false cs1)) : WT K (tAnd t u) cs kt := by
  intro B H σ fr hl E Q q
  refine h B H σ fr hl E _ fun b cs2 B2 H2 l2 E2 hk => ?_
  cases b with
  | true => exact iteT (hk.1 rfl B2 H2 σ fr (by omega) E2 Q fun b3 cs3 B3 H3 l3 E3 k3 => q b3 cs3 B3 H3 (by omega) E3 k3)
  | false => exact iteF (q false cs2 B2 H2 l2 E2 (hk.2 rfl))
theorem wt_or (h : WT K t cs fun b cs1 => BB b (kt true cs1) (WT K u cs1 kt)) : WT K (tOr t u) cs kt := by
  intro B H σ fr hl E Q q
  refine h B H σ fr hl E _ fun b cs2 B2 H2 l2 E2 hk => ?_
  cases b with
  | false => exact iteF (hk.2 rfl B2 H2 σ fr (by omega) E2 Q fun b3 cs3 B3 H3 l3 E3 k3 => q b3 cs3 B3 H3 (by omega) E3 k3)
  | true => exact iteT (q true cs2 B2 H2 l2 E2 (hk.1 rfl))
theorem wt_not (h : WT K t cs fun b cs1 => kt (!b) cs1) : WT K (tNot t) cs kt := fun B H σ fr hl E Q q => h B H σ fr hl E _ fun b cs2 B2 H2 l2 E2 hk => q _ cs2 B2 H2 l2 E2 hk
theorem we_if (h : WT K t cs fun b cs1 => BB b (WE K ta cs1 k) (WE K tb cs1 k)) : WE K (tIf t ta tb) cs k := by
  intro B H σ fr hl E Q q
  refine h B H σ fr hl E _ fun b cs2 B2 H2 l2 E2 hk => ?_
  cases b with
  | true => exact iteT (hk.1 rfl B2 H2 σ fr (by omega) E2 Q fun v c cs3 B3 H3 l3 E3 k3 => q v c cs3 B3 H3 (by omega) E3 k3)
  | false => exact iteF (hk.2 rfl B2 H2 σ fr (by omega) E2 Q fun v c cs3 B3 H3 l3 E3 k3 => q v c cs3 B3 H3 (by omega) E3 k3)
theorem we_andV (h : WE K ta cs fun c cs1 => IsB c fun b => BB b (WE K tb cs1 k) (k (.d (.bool false)) cs1)) : WE K (tAndV ta tb) cs k := by
  intro B H σ fr hl E Q q
  refine h B H σ fr hl E _ fun v c cs2 B2 H2 l2 E2 ⟨b, e, h1, h2⟩ => ?_
  subst e
  have ev : some v = some (V.bl b) := E2.bl (List.mem_append_right _ (List.mem_cons_self ..))
  cases ev
  refine ⟨b, rfl, ?_⟩
  cases b with
  | true => exact iteT (h1 rfl B2 H2 σ fr (by omega) (E2.sub drop1) Q fun v c cs3 B3 H3 l3 E3 k3 => q v c cs3 B3 H3 (by omega) E3 k3)
  | false => exact iteF (q _ _ cs2 B2 H2 l2 E2 (h2 rfl))
theorem we_orV (h : WE K ta cs fun c cs1 => IsB c fun b => BB b (k (.d (.bool true)) cs1) (WE K tb cs1 k)) : WE K (tOrV ta tb) cs k := by
  intro B H σ fr hl E Q q
  refine h B H σ fr hl E _ fun v c cs2 B2 H2 l2 E2 ⟨b, e, h2, h1⟩ => ?_
  subst e
  have ev : some v = some (V.bl b) := E2.bl (List.mem_append_right _ (List.mem_cons_self ..))
  cases ev
  refine ⟨b, rfl, ?_⟩
  cases b with
  | false => exact iteF (h1 rfl B2 H2 σ fr (by omega) (E2.sub drop1) Q fun v c cs3 B3 H3 l3 E3 k3 => q v c cs3 B3 H3 (by omega) E3 k3)
  | true => exact iteT (q _ _ cs2 B2 H2 l2 E2 (h2 rfl))
theorem we_notV (h : WE K te cs fun c cs1 => IsB c fun b => k (.d (.bool (!b))) cs1) : WE K (tNotV te) cs k := by
  intro B H σ fr hl E Q q
  refine h B H σ fr hl E _ fun v c cs2 B2 H2 l2 E2 ⟨b, e, h1⟩ => ?_
  subst e
  have ev : some v = some (V.bl b) := E2.bl (List.mem_append_right _ (List.mem_cons_self ..))
  cases ev
  exact ⟨b, rfl, q _ (.d (.bool !b)) cs2 B2 H2 l2 ((E2.sub drop1).put ⟨_, rfl, .bl _⟩ rfl) h1⟩
/-! ### arguments, displays -/
variable {ka : List Cell → List Cell → Prop} {tr : TA}
theorem wa_nil (h : ka [] cs) : WA K tNil cs ka := fun B H σ fr hl E Q q => q [] [] cs B H rfl rfl E h
theorem wa_cons (h : WE K te cs fun c cs1 => WA K tr cs1 fun cl cs2 => ka (c :: cl) cs2) : WA K (tCons te tr) cs ka := by
  intro B H σ fr hl E Q q
  refine h B H σ fr hl E _ fun v c cs1 B1 H1 l1 E1 h1 => ?_
  refine h1 B1 H1 σ ((some v, c) :: fr) (by omega) E1 _ fun vs cl cs2 B2 H2 lv l2 E2 h2 => ?_
  refine q (v :: vs) (c :: cl) cs2 B2 H2 (by simp [lv]) (by omega) (E2.perm ?_) h2
  refine List.Perm.append (List.Perm.refl _) ?_
  show ((some v, c) :: ((vs.map some).zip cl ++ fr)).Perm ((vs.map some).zip cl ++ (some v, c) :: fr)
  exact List.perm_middle.symm
theorem dpAll_of {B : Hp} : ∀ {vs : List V} {ds : List PyData}, vs.length = ds.length → (∀ p ∈ (vs.map some).zip (ds.map Cell.d), Sl K B B p.1 p.2) → DpAll K B vs ds
  | [], [], _, _ => .nil
  | v :: vs, d :: ds, hl, h => by
    obtain ⟨w, e, hd⟩ := h (some v, .d d) (List.mem_cons_self ..)
    cases e
    exact .cons hd (dpAll_of (by simpa using hl) fun p hp => h p (List.mem_cons_of_mem _ hp))
  | [], _ :: _, h, _ => by simp at h
  | _ :: _, [], h, _ => by simp at h
theorem Env.dpAll {B H : Hp} {z : List Sm} {vs : List V} {ds : List PyData} (E : Env K B H z) (hl : vs.length = ds.length) (hm : ∀ p ∈ (vs.map some).zip (ds.map Cell.d), p ∈ z) : DpAll K B vs ds := by
  refine dpAll_of hl fun p hp => ?_
  have s := E.sl p (hm p hp)
  have hc := (List.of_mem_zip (show (p.1, p.2) ∈ _ from hp)).2
  obtain ⟨d, _, e⟩ := List.mem_map.mp hc
  rw [← e] at s ⊢
  exact s
/-- a new object: frozen, or a cell's own -/
theorem free_of {B H : Hp} {p : Addr} (bh : Ex B H) (hp : H p = none) : B p = none := by
  match e : B p with
  | none => rfl
  | some x => rw [bh p x e] at hp; cases hp
theorem Env.newF {B H : Hp} {z : List Sm} {p : Addr} {o : HO} (E : Env K B H z) (hp : H p = none) : Env K (upd B p o) (upd H p o) z := by
  refine E.grow (Evl.Ex.new (free_of E.bh hp)) (fun a x h => ?_) fun a ha => ?_
  · by_cases e : a = p
    · subst e
      rw [upd_same] at h ⊢
      exact h
    · rw [upd_ne e] at h ⊢
      exact E.bh a x h
  · obtain ⟨h1, h2⟩ := E.ownB ha
    have ne : a ≠ p := fun e => h2 (by rw [e]; exact hp)
    exact ⟨by rw [upd_ne ne]; exact h1, fun h hh => by rw [upd_ne ne]; exact hh⟩
theorem Env.newO {B H : Hp} {z : List Sm} {p : Addr} {o : HO} (E : Env K B H z) (hp : H p = none) : Env K B (upd H p o) z :=
  E.grow (fun _ _ h => h) (fun a x h => Evl.Ex.new hp a x (E.bh a x h)) fun a ha => ⟨(E.ownB ha).1, fun h hh => Evl.Ex.new hp a h hh⟩
theorem dropZ {z y fr : List Sm} : List.Sublist (z ++ fr) (z ++ (y ++ fr)) := List.Sublist.append (List.Sublist.refl z) (List.sublist_append_right y fr)
theorem Env.newM {B H : Hp} {z : List Sm} {p : Addr} (E : Env K B H z) (hp : H p = none) : p ∉ owned z := fun h => (E.ownB h).2 hp
def undata : List Cell → Option (List PyData)
  | [] => some []
  | .d x :: r => (undata r).map (x :: ·)
  | _ => none
theorem undata_eq : ∀ {cl : List Cell} {ds : List PyData}, undata cl = some ds → cl = ds.map .d
  | [], ds, h => by cases h; rfl
  | .d x :: r, ds, h => by
    obtain ⟨es, h1, h2⟩ := Option.map_eq_some_iff.mp h
    rw [← h2, undata_eq h1]
    rfl
  | .any :: _, _, h => by cases h
  | .m _ _ :: _, _, h => by cases h
  | .b _ :: _, _, h => by cases h
  | .f _ _ :: _, _, h => by cases h
def Und (cl : List Cell) (k : List PyData → Prop) : Prop := ∃ ds, undata cl = some ds ∧ Nat.ble ds.length 100000 = true ∧ k ds
theorem und {cl : List Cell} {ds : List PyData} {k : List PyData → Prop} (e : undata cl = some ds) (hz : Nat.ble ds.length 100000 = true) (h : k ds) : Und cl k := ⟨ds, e, hz, h⟩
theorem we_tup (h : WA K tr cs fun cl cs2 => Und cl fun ds => k (.d (.tuple ds)) cs2) : WE K (tTup tr) cs k := by
  intro B H σ fr hl E Q q
  refine h B H σ fr hl E _ fun vs cl cs2 B2 H2 lv l2 E2 ⟨ds, e, hz, hk⟩ => ?_
  replace hz := Nat.le_of_ble_eq_true hz
  obtain rfl := undata_eq e
  have lv' : vs.length = ds.length := by simpa using lv
  refine ⟨Evl.sz_of (by omega), fun p hp => ?_⟩
  have hd := E2.dpAll lv' fun p hp => List.mem_append_right _ (List.mem_append_left _ hp)
  have E3 := (E2.newF (o := .tup vs) hp).sub (dropZ (z := σ.zip cs2) (y := (vs.map some).zip (ds.map .d)) (fr := fr))
  exact q (.ref p) (.d (.tuple ds)) cs2 _ _ l2 (E3.put ⟨_, rfl, .tup (.inl (.inl upd_same)) (dpAll_mono (Evl.Ex.new (free_of E2.bh hp)) _ _ hd)⟩ rfl) hk
/-- a list of one's own -/
theorem we_lstM (h : WA K tr cs fun cl cs2 => Und cl fun ds => ∀ a, k (.m a (.lst ds)) cs2) : WE K (tLst tr) cs k := by
  intro B H σ fr hl E Q q
  refine h B H σ fr hl E _ fun vs cl cs2 B2 H2 lv l2 E2 ⟨ds, e, hz, hk⟩ => ?_
  replace hz := Nat.le_of_ble_eq_true hz
  obtain rfl := undata_eq e
  have lv' : vs.length = ds.length := by simpa using lv
  refine ⟨Evl.sz_of (by omega), fun p hp => ?_⟩
  have hd := E2.dpAll lv' fun p hp => List.mem_append_right _ (List.mem_append_left _ hp)
  have E3 := (E2.newO (o := .lst vs) hp).sub (dropZ (z := σ.zip cs2) (y := (vs.map some).zip (ds.map .d)) (fr := fr))
  have np : p ∉ owned (σ.zip cs2 ++ fr) := (E2.sub dropZ).newM hp
  exact q (.ref p) (.m p (.lst ds)) cs2 _ _ l2 (E3.putM ⟨rfl, free_of E2.bh hp, _, upd_same, vs, rfl, hd⟩ np) (hk p)
/-- frozen: it is never changed again -/
theorem we_frz (h : WE K te cs fun c cs2 => ∃ a ds, c = .m a (.lst ds) ∧ k (.d (.list ds)) cs2) : WE K te cs k := by
  intro B H σ fr hl E Q q
  refine h B H σ fr hl E _ fun v c cs2 B2 H2 l2 E2 ⟨a, ds, e, hk⟩ => ?_
  subst e
  obtain ⟨e1, hb, o, ho, xs, eo, hd⟩ := E2.sl (some v, .m a (.lst ds)) (List.mem_append_right _ (List.mem_cons_self ..))
  have e1' : some v = some (V.ref a) := e1
  cases e1'
  subst eo
  have nd : a ∉ owned (σ.zip cs2 ++ fr) := by
    have n := E2.nd
    have pm : (owned (σ.zip cs2 ++ (some (V.ref a), Cell.m a (.lst ds)) :: fr)).Perm (a :: owned (σ.zip cs2 ++ fr)) := (List.perm_middle).filterMap _
    exact (List.nodup_cons.mp ((pm.nodup_iff).mp n)).1
  have nb : ∀ b ∈ owned (σ.zip cs2 ++ fr), b ≠ a := fun b hb' e => nd (e ▸ hb')
  have E3 : Env K (upd B2 a (.lst xs)) H2 (σ.zip cs2 ++ fr) := (E2.sub drop1).grow (Evl.Ex.new hb) (fun b x h => by
    by_cases e : b = a
    · subst e
      rw [upd_same] at h
      rw [ho, ← h]
    · rw [upd_ne e] at h
      exact E2.bh b x h) fun b hb' => ⟨by rw [upd_ne (nb b hb')]; exact ((E2.sub drop1).ownB hb').1, fun _ h => h⟩
  exact q _ (.d (.list ds)) cs2 _ _ l2 (E3.put ⟨_, rfl, .lst (.inl (.inl upd_same)) (dpAll_mono (Evl.Ex.new hb) _ _ hd)⟩ rfl) hk
/-- a list that is never changed -/
theorem we_lstD (h : WA K tr cs fun cl cs2 => Und cl fun ds => k (.d (.list ds)) cs2) : WE K (tLst tr) cs k := by
  refine we_frz (we_lstM fun B H σ fr hl E Q q => h B H σ fr hl E Q fun vs cl cs2 B2 H2 lv l2 E2 ⟨ds, e, hz, hk⟩ => ?_)
  exact q vs cl cs2 B2 H2 lv l2 E2 ⟨ds, e, hz, fun a => ⟨a, ds, rfl, hk⟩⟩
end
end Dx
/-! Part 4: owned objects, calls, statements, loops. -/
namespace Dx
open PySem PySem.Spec PyProof.Rows L2 Gu
section
variable {K : PySem.W.Frag} {cs : List Cell} {k : KC} {ta tb te tl : TE} {tr : TA} {B H : Hp}
theorem zip_split : ∀ {σ : L2.St} {cs : List Cell} {i : Nat} {c : Cell}, σ.length = cs.length → cs[i]? = some c → ∃ o l1 l2, σ[i]? = some o ∧ σ.zip cs = l1 ++ (o, c) :: l2 ∧ (∀ c', σ.zip (cs.set i c') = l1 ++ (o, c') :: l2) ∧ ∀ v c', (σ.set i v).zip (cs.set i c') = l1 ++ (v, c') :: l2
  | o :: σ, _ :: cs, 0, c, _, h => by
    cases h
    exact ⟨o, [], σ.zip cs, rfl, rfl, fun _ => rfl, fun _ _ => rfl⟩
  | o :: σ, c0 :: cs, i + 1, c, hl, h => by
    obtain ⟨o', l1, l2, h1, h2, h3, h4⟩ := zip_split (σ := σ) (cs := cs) (i := i) (by simpa using hl) h
    exact ⟨o', (o, c0) :: l1, l2, h1, by rw [List.zip_cons_cons, h2]; rfl, fun c' => by rw [List.set_cons_succ, List.zip_cons_cons, h3]; rfl, fun v c' => by rw [List.set_cons_succ, List.set_cons_succ, List.zip_cons_cons, h4]; rfl⟩
  | [], _ :: _, _, _, hl, _ => by simp at hl
  | _, [], i, c, _, h => by simp at h
theorem envM {l1 l2 fr : List Sm} {x : Sm} : Env K B H ((l1 ++ x :: l2) ++ fr) ↔ Env K B H (x :: (l1 ++ l2 ++ fr)) := by
  have p : ((l1 ++ x :: l2) ++ fr).Perm (x :: (l1 ++ l2 ++ fr)) := by
    rw [List.append_assoc, List.append_assoc, List.cons_append]
    exact List.perm_middle
  exact ⟨fun E => E.perm p.symm, fun E => E.perm p⟩
theorem envF {z fr : List Sm} {x : Sm} : Env K B H (z ++ x :: fr) ↔ Env K B H (x :: (z ++ fr)) := ⟨fun E => E.perm List.perm_middle.symm, fun E => E.perm List.perm_middle⟩
theorem Env.tail {x : Sm} {z : List Sm} (E : Env K B H (x :: z)) : Env K B H z := E.sub (List.sublist_cons_self x z)
theorem Env.swap {x y : Sm} {z : List Sm} (E : Env K B H (x :: y :: z)) : Env K B H (y :: x :: z) := E.perm (List.Perm.swap ..)
theorem Env.head {x : Sm} {z : List Sm} (E : Env K B H (x :: z)) : Sl K B H x.1 x.2 := E.sl x (List.mem_cons_self ..)
theorem Env.add {o : Option V} {c : Cell} {z : List Sm} (E : Env K B H z) (h : Sl K B H o c) (hc : own1 c = none) : Env K B H ((o, c) :: z) := Env.put (z := []) E h hc
theorem Env.notIn {o : Option V} {a : Addr} {mo : MO} {z : List Sm} (E : Env K B H ((o, .m a mo) :: z)) : a ∉ owned z := by
  have n : (a :: owned z).Nodup := E.nd
  exact (List.nodup_cons.mp n).1
/-- an owned object changes -/
theorem Env.chg {o : Option V} {a : Addr} {mo mo' : MO} {h' : HO} {z : List Sm} (E : Env K B H ((o, .m a mo) :: z)) (hm : MOk K B mo' h') : Env K B (upd H a h') ((o, .m a mo') :: z) := by
  obtain ⟨e1, e2, h, e3, e4⟩ := E.head
  have na := E.notIn
  refine ⟨fun b x hb => ?_, fun p hp => ?_, E.nd⟩
  · have : b ≠ a := fun e => by rw [e, e2] at hb; cases hb
    rw [upd_ne this]
    exact E.bh b x hb
  · rcases List.mem_cons.mp hp with rfl | hp
    · exact ⟨e1, e2, h', upd_same, hm⟩
    · refine (E.tail.sl p hp).grow (fun _ _ h => h) fun b hb => ?_
      have hbo := mem_owned hp hb
      have : b ≠ a := fun e => na (e ▸ hbo)
      exact ⟨(E.tail.ownB hbo).1, fun x hx => by rw [upd_ne this]; exact hx⟩
theorem we_varM {i : Nat} {a : Addr} {mo : MO} (h : cs[i]? = some (.m a mo)) (hk : k (.m a mo) (cs.set i (.b a))) : WE K (tVar i) cs k := by
  intro B H σ fr hl E Q q
  obtain ⟨o, l1, l2, ho, e1, e2, _⟩ := zip_split hl h
  rw [e1] at E
  have E1 := envM.mp E
  obtain ⟨eo, _⟩ := E1.head
  have eo' : o = some (V.ref a) := eo
  subst eo'
  refine ⟨.ref a, ho, q (.ref a) _ _ B H (by simp) ?_ hk⟩
  rw [e2]
  have E2 := (E1.add (c := .b a) (o := some (V.ref a)) rfl rfl).swap
  refine envF.mpr (E2.perm (List.Perm.cons _ ?_))
  rw [List.append_assoc, List.append_assoc, List.cons_append]
  exact List.perm_middle
theorem dpAll_at : ∀ {vs : List V} {ds : List PyData} {j : Nat} {x : PyData}, DpAll K B vs ds → ds[j]? = some x → ∃ v, vs[j]? = some v ∧ Dp K B v x
  | _, _, _, _, .nil, h => by simp at h
  | _, _, 0, _, .cons h1 _, h => by cases h; exact ⟨_, rfl, h1⟩
  | _, _, j + 1, _, .cons _ h2, h => dpAll_at (j := j) h2 h
theorem dpAll_atI {vs : List V} {ds : List PyData} {n : Int} {x : PyData} (h : DpAll K B vs ds) (e : atI ds n = some x) : ∃ v, atI vs n = some v ∧ Dp K B v x := by
  unfold atI at e ⊢
  rw [h.len]
  obtain ⟨j, h1, h2⟩ := Option.bind_eq_some_iff.mp e
  obtain ⟨v, h3, h4⟩ := dpAll_at h h2
  exact ⟨v, Option.bind_eq_some_iff.mpr ⟨j, h1, h3⟩, h4⟩
/-- xs[e], xs a list of one's own -/
theorem we_ixM {i : Nat} {a : Addr} {mo : MO} (h0 : cs[i]? = some (.m a mo)) (h : WE K tb cs fun c cs2 => IsI c fun n => AtM cs2 i a fun ds => AtI ds n fun x => k (.d x) cs2) : WE K (tOp (rIxL K) (tVar i) tb) cs k := by
  intro B H σ fr hl E Q q
  obtain ⟨o, ho, hm⟩ := zip_mem hl h0
  obtain ⟨eo, _⟩ := E.sl _ (List.mem_append_left _ hm)
  have eo' : o = some (V.ref a) := eo
  subst eo'
  refine ⟨.ref a, ho, h B H σ fr hl E _ fun v c cs2 B2 H2 l2 E2 ⟨n, h2, ds, h1, x, h3, hk⟩ => ?_⟩
  subst h2
  have ev : some v = some (V.int n) := E2.int (List.mem_append_right _ (List.mem_cons_self ..))
  cases ev
  obtain ⟨o2, ho2, hm2⟩ := zip_mem (σ := σ) (by omega) h1
  obtain ⟨_, _, ob, hob, xs, e, hd⟩ := E2.sl _ (List.mem_append_left _ hm2)
  subst e
  obtain ⟨w, hw, hdw⟩ := dpAll_atI hd h3
  exact ⟨a, xs, n, w, rfl, rfl, .inl (.inl hob), hw, q w (.d x) cs2 B2 H2 l2 ((E2.sub drop1).put ⟨w, rfl, hdw⟩ rfl) hk⟩
/-- t[e], xs[e] of data -/
theorem rd_ixT {ds : List PyData} {n : Int} (h : AtI ds n fun x => k (.d x) cs) : RD K (rIxT K) (.d (.tuple ds)) (.d (.int n)) cs k := by
  intro B H σ fr v1 v2 hl E Q q
  have e2 : some v2 = some (V.int n) := E.int (List.mem_append_right _ (List.mem_cons_self ..))
  cases e2
  obtain ⟨v, e, d⟩ := E.sl (some v1, .d (.tuple ds)) (List.mem_append_right _ (List.mem_cons_of_mem _ (List.mem_cons_self ..)))
  cases e
  cases d with
  | tup hs ha =>
    obtain ⟨x, hx, hk⟩ := h
    obtain ⟨w, hw, hdw⟩ := dpAll_atI ha hx
    exact ⟨_, _, n, w, rfl, rfl, Evl.ex_t E.bh hs, hw, q w (.d x) cs B H rfl ((E.sub drop2).put ⟨w, rfl, hdw⟩ rfl) hk⟩
theorem rd_ixL {ds : List PyData} {n : Int} (h : AtI ds n fun x => k (.d x) cs) : RD K (rIxL K) (.d (.list ds)) (.d (.int n)) cs k := by
  intro B H σ fr v1 v2 hl E Q q
  have e2 : some v2 = some (V.int n) := E.int (List.mem_append_right _ (List.mem_cons_self ..))
  cases e2
  obtain ⟨v, e, d⟩ := E.sl (some v1, .d (.list ds)) (List.mem_append_right _ (List.mem_cons_of_mem _ (List.mem_cons_self ..)))
  cases e
  cases d with
  | lst hs ha =>
    obtain ⟨x, hx, hk⟩ := h
    obtain ⟨w, hw, hdw⟩ := dpAll_atI ha hx
    exact ⟨_, _, n, w, rfl, rfl, Evl.ex_l E.bh hs, hw, q w (.d x) cs B H rfl ((E.sub drop2).put ⟨w, rfl, hdw⟩ rfl) hk⟩
/-! ### calls of defs -/
def spC (K : PySem.W.Frag) (S : List Cell → KC → Prop) : Sp := fun vs H Q _ => ∃ (B : Hp) (cl : List Cell) (fr : List Sm) (k : KC), vs.length = cl.length ∧ Env K B H ((vs.map some).zip cl ++ fr) ∧ S cl k ∧
  ∀ v c cl2 B2 H2, cl2.length = cl.length → Env K B2 H2 ((vs.map some).zip cl2 ++ (some v, c) :: fr) → k c cl2 → Q v H2
/-- owned arguments go back to the slots that lent them -/
inductive Rest : List Cell → List Cell → List Cell → Prop
  | nil {cs : List Cell} : Rest cs [] cs
  | skip {cs cl cs2 : List Cell} {c : Cell} : Rest cs cl cs2 → Rest cs (c :: cl) cs2
  | back {cs cl cs2 : List Cell} {a : Addr} {o : MO} (i : Nat) : cs[i]? = some (.b a) → Rest (cs.set i (.m a o)) cl cs2 → Rest cs (.m a o :: cl) cs2
theorem Rest.len {cs cl cs2 : List Cell} (r : Rest cs cl cs2) : cs2.length = cs.length := by
  induction r with
  | nil => rfl
  | skip _ ih => exact ih
  | back i _ _ ih => rw [ih, List.length_set]
theorem Rest.env {cs cl cs2 : List Cell} (r : Rest cs cl cs2) : ∀ {σ : L2.St} {vs : List V} {z : List Sm}, σ.length = cs.length → vs.length = cl.length → Env K B H ((vs.map some).zip cl ++ (σ.zip cs ++ z)) → Env K B H (σ.zip cs2 ++ z) := by
  induction r with
  | nil =>
    intro σ vs z hl hv E
    rw [List.zip_nil_right] at E
    exact E
  | skip _ ih =>
    intro σ vs z hl hv E
    match vs, hv with
    | v :: vs, hv => exact ih hl (by simpa using hv) (Env.tail E)
  | @back cs cl cs2 a o i hi _ ih =>
    intro σ vs z hl hv E
    match vs, hv with
    | v :: vs, hv =>
      obtain ⟨o', l1, l2, ho, e1, e2, _⟩ := zip_split hl hi
      refine ih (by rw [List.length_set]; exact hl) (by simpa using hv) ?_
      have E1 : Env K B H ((some v, Cell.m a o) :: ((vs.map some).zip cl ++ (σ.zip cs ++ z))) := E
      rw [e1] at E1
      rw [e2]
      obtain ⟨ev, _⟩ := E1.head
      have hb : Sl K B H o' (.b a) := E1.sl (o', .b a) (by simp)
      have eo : o' = some (V.ref a) := hb
      have ev' : some v = some (V.ref a) := ev
      rw [ev'] at E1
      rw [eo] at E1 ⊢
      have s : List.Sublist ((some (V.ref a), Cell.m a o) :: ((vs.map some).zip cl ++ (l1 ++ l2 ++ z))) ((some (V.ref a), Cell.m a o) :: ((vs.map some).zip cl ++ (l1 ++ (some (V.ref a), Cell.b a) :: l2 ++ z))) :=
        List.Sublist.cons_cons _ (List.Sublist.append (List.Sublist.refl _) (List.Sublist.append (List.Sublist.append (List.Sublist.refl _) (List.sublist_cons_self ..)) (List.Sublist.refl _)))
      refine (E1.sub s).perm ?_
      have p1 : (l1 ++ (some (V.ref a), Cell.m a o) :: l2 ++ z).Perm ((some (V.ref a), Cell.m a o) :: (l1 ++ l2 ++ z)) := by
        rw [List.append_assoc, List.append_assoc, List.cons_append]
        exact List.perm_middle
      exact (List.Perm.append (List.Perm.refl _) p1).trans List.perm_middle
theorem we_call {S : List Cell → KC → Prop} {xk : XK} (h : WA K tr cs fun cl cs1 => S cl fun c cl2 => ∃ cs2, Rest cs1 cl2 cs2 ∧ k c cs2) : WE K (tCall (spC K S) [] xk tr) cs k := by
  intro B H σ fr hl E Q q
  refine h B H σ fr hl E _ fun vs cl cs1 B1 H1 lv l1 E1 hS => ?_
  rw [List.append_nil]
  refine ⟨B1, cl, σ.zip cs1 ++ fr, _, lv, E1.perm ?_, hS, fun v c cl2 B2 H2 l2 E2 ⟨cs2, hr, hk⟩ => ?_⟩
  · rw [← List.append_assoc, ← List.append_assoc]
    exact List.Perm.append List.perm_append_comm (List.Perm.refl _)
  · have E3 : Env K B2 H2 ((vs.map some).zip cl2 ++ (σ.zip cs1 ++ (some v, c) :: fr)) := E2.perm (List.Perm.append (List.Perm.refl _) List.perm_middle)
    exact q v c cs2 B2 H2 (by rw [hr.len]; exact l1) (hr.env (by omega) (by omega) E3) hk
/-- a built-in -/
theorem we_cb {r : List V → Hp → VK → Prop} (h : WA K tr cs fun cl cs2 => RA K r cl cs2 k) : WE K (tCB r tr) cs k := by
  intro B H σ fr hl E Q q
  refine h B H σ fr hl E _ fun vs cl cs1 B1 H1 lv l1 E1 hr => ?_
  exact hr B1 H1 σ fr vs (by omega) lv E1 Q fun v c cs2 B2 H2 l2 E2 hk => q v c cs2 B2 H2 (by omega) E2 hk
end
/-! ### statements -/
def Nt (K : PySem.W.Frag) (fr : List Sm) (nx : L2.St → Hp → Prop) (cs : List Cell) : Prop := ∀ (B H : Hp) (σ : L2.St), σ.length = cs.length → Env K B H (σ.zip cs ++ fr) → nx σ H
def Nx (K : PySem.W.Frag) (fr : List Sm) (I : List Cell → Prop) : L2.St → Hp → Prop := fun σ H => ∃ cs B, σ.length = cs.length ∧ Env K B H (σ.zip cs ++ fr) ∧ I cs
def keepC : Cell → Cell
  | .m a _ => .b a
  | c => c
inductive Back : List Cell → List Cell → List Cell → Prop
  | nil {cs : List Cell} : Back [] cs []
  | keep {cl cs cl2 : List Cell} {c x : Cell} : own1 c = none → Back cl cs cl2 → Back (c :: cl) (x :: cs) (c :: cl2)
  | own {cl cs cl2 : List Cell} {a : Addr} {o o' : MO} : Back cl cs cl2 → Back (.m a o :: cl) (.m a o' :: cs) (.m a o' :: cl2)
/-- what a return does -/
structure Fc (K : PySem.W.Frag) (cl : List Cell) (k : KC) (rt : VK) (fr : List Sm) : Prop where
  ret : ∀ (v : V) (c : Cell) (cs : List Cell) (σ : L2.St) (B H : Hp), σ.length = cs.length → Env K B H (σ.zip cs ++ (some v, c) :: fr) → ∀ cl2, Back cl cs cl2 → k c cl2 → rt v H
section
variable {K : PySem.W.Frag} {cs : List Cell} {k : KC} {ta tb te tl : TE} {tr : TA} {fr : List Sm} {D : Ends} {tu tw : TS} {t : TT}
theorem Fc.cons {cl : List Cell} {rt : VK} {x : Sm} (R : Fc K cl k rt fr) : Fc K cl k rt (x :: fr) := ⟨fun v c cs σ B H hl E cl2 b hk => R.ret v c cs σ B H hl (E.sub (List.Sublist.append (List.Sublist.refl _) (List.Sublist.cons_cons _ (List.sublist_cons_self ..)))) cl2 b hk⟩
theorem Nt.cons {nx : L2.St → Hp → Prop} {x : Sm} (h : Nt K fr nx cs) : Nt K (x :: fr) nx cs := fun B H σ hl E => h B H σ hl (E.sub drop1)
theorem nt_nx {I : List Cell → Prop} (h : I cs) : Nt K fr (Nx K fr I) cs := fun B H σ hl E => ⟨cs, B, hl, E, h⟩
theorem nt_is {nx : L2.St → Hp → Prop} (cs' : List Cell) (e : cs = cs') (h : Nt K fr nx cs') : Nt K fr nx cs := e ▸ h
theorem nt_mk {n b c : L2.St → Hp → Prop} {r : VK} (h : Nt K fr n cs) : Nt K fr ({ nx := n, rt := r, bk := b, ct := c : Ends }).nx cs := h
theorem nt_mkb {n b c : L2.St → Hp → Prop} {r : VK} (h : Nt K fr b cs) : Nt K fr ({ nx := n, rt := r, bk := b, ct := c : Ends }).bk cs := h
theorem nt_mkc {n b c : L2.St → Hp → Prop} {r : VK} (h : Nt K fr c cs) : Nt K fr ({ nx := n, rt := r, bk := b, ct := c : Ends }).ct cs := h
theorem nt_seq (h : Nt K fr (tu { D with nx := tw D }) cs) : Nt K fr (tSeq tu tw D) cs := h
theorem nt_next (h : Nt K fr D.nx cs) : Nt K fr (tNext D) cs := h
theorem nt_break (h : Nt K fr D.bk cs) : Nt K fr (tBreak D) cs := h
theorem nt_cont (h : Nt K fr D.ct cs) : Nt K fr (tCont D) cs := h
theorem nt_drop (h : WE K te cs fun _ cs2 => Nt K fr D.nx cs2) : Nt K fr (tDrop te D) cs := fun B H σ hl E => h B H σ fr hl E _ fun v c cs2 B2 H2 l2 E2 hk => hk B2 H2 σ (by omega) (E2.sub drop1)
theorem nt_ret {cl : List Cell} {rt : VK} (R : Fc K cl k rt fr) (h : WE K te cs fun c cs2 => ∃ cl2, Back cl cs2 cl2 ∧ k c cl2) (er : D.rt = rt := by rfl) : Nt K fr (tRet te D) cs := by
  subst er
  exact fun B H σ hl E => h B H σ fr hl E _ fun v c cs2 B2 H2 l2 E2 ⟨cl2, hb, hk⟩ => R.ret v c cs2 σ B2 H2 (by omega) E2 cl2 hb hk
theorem nt_if (h : WT K t cs fun b cs2 => BB b (Nt K fr (tu D) cs2) (Nt K fr (tw D) cs2)) : Nt K fr (tIfS t tu tw D) cs := by
  intro B H σ hl E
  refine h B H σ fr hl E _ fun b cs2 B2 H2 l2 E2 hk => ?_
  cases b with
  | true => exact iteT (hk.1 rfl B2 H2 σ (by omega) E2)
  | false => exact iteF (hk.2 rfl B2 H2 σ (by omega) E2)
/-! targets -/
def WG (K : PySem.W.Frag) (g : TG) (cs : List Cell) (c : Cell) (kk : List Cell → Prop) : Prop := ∀ (B H : Hp) (σ : L2.St) (fr : List Sm) (v : V), σ.length = cs.length → Env K B H (σ.zip cs ++ (some v, c) :: fr) → ∀ Q : L2.St → Hp → Prop,
  (∀ σ2 cs2, σ2.length = cs2.length → cs2.length = cs.length → Env K B H (σ2.zip cs2 ++ fr) → kk cs2 → Q σ2 H) → g v σ H Q
def WGs (K : PySem.W.Frag) (g : TGs) (cs : List Cell) (ds : List PyData) (kk : List Cell → Prop) : Prop := ∀ (B H : Hp) (σ : L2.St) (fr : List Sm) (vs : List V), σ.length = cs.length → DpAll K B vs ds → Env K B H (σ.zip cs ++ fr) → ∀ Q : L2.St → Hp → Prop,
  (∀ σ2 cs2, σ2.length = cs2.length → cs2.length = cs.length → Env K B H (σ2.zip cs2 ++ fr) → kk cs2 → Q σ2 H) → g vs σ H Q
variable {kk : List Cell → Prop} {g : TG} {gs : TGs}
theorem env_set {B H : Hp} {σ : L2.St} {j : Nat} {v : Option V} {c : Cell} (hl : σ.length = cs.length) (E : Env K B H (σ.zip cs ++ (v, c) :: fr)) : Env K B H ((σ.set j v).zip (cs.set j c) ++ fr) := by
  match h : cs[j]? with
  | none =>
    have hj : cs.length ≤ j := List.getElem?_eq_none_iff.mp h
    rw [List.set_eq_of_length_le hj, List.set_eq_of_length_le (by omega)]
    exact E.sub drop1
  | some c0 =>
    obtain ⟨o, l1, l2, _, e1, _, e3⟩ := zip_split hl h
    rw [e1] at E
    rw [e3]
    refine envM.mpr ?_
    have E2 : Env K B H ((v, c) :: (l1 ++ (o, c0) :: l2 ++ fr)) := envF.mp E
    exact E2.sub (List.Sublist.cons_cons _ (List.Sublist.append (List.Sublist.append (List.Sublist.refl _) (List.sublist_cons_self ..)) (List.Sublist.refl _)))
theorem wg_name {j : Nat} {c : Cell} (h : kk (cs.set j c)) : WG K (gName j) cs c kk := fun B H σ fr v hl E Q q => q _ _ (by simp [hl]) (by simp) (env_set hl E) h
theorem wgs_nil (h : kk cs) : WGs K gNil cs [] kk := fun B H σ fr vs hl hd E Q q => by
  cases hd
  exact ⟨rfl, q σ cs hl rfl E h⟩
theorem wgs_cons {d : PyData} {ds : List PyData} (h : WG K g cs (.d d) fun cs1 => WGs K gs cs1 ds kk) : WGs K (gCons g gs) cs (d :: ds) kk := fun B H σ fr vs hl hd E Q q => by
  cases hd with
  | cons h1 h2 => exact ⟨_, _, rfl, h B H σ fr _ hl (E.put ⟨_, rfl, h1⟩ rfl) _ fun σ2 cs2 l2 l3 E2 hk => hk B H σ2 fr _ l2 h2 E2 Q fun σ3 cs3 l4 l5 E3 hk3 => q σ3 cs3 l4 (by omega) E3 hk3⟩
theorem wg_tup {n : Nat} {ds : List PyData} (hn : ds.length = n) (h : WGs K gs cs ds kk) : WG K (gTup K n gs) cs (.d (.tuple ds)) kk := fun B H σ fr v hl E Q q => by
  obtain ⟨w, e, hd⟩ := E.sl (some v, .d (.tuple ds)) (List.mem_append_right _ (List.mem_cons_self ..))
  cases e
  cases hd with
  | tup hs ha => exact ⟨_, _, rfl, Evl.ex_t E.bh hs, by rw [ha.len]; exact hn, h B H σ fr _ hl ha (E.sub drop1) Q q⟩
theorem nt_asg (h : WE K te cs fun c cs1 => WG K g cs1 c fun cs2 => Nt K fr D.nx cs2) : Nt K fr (tAsg te g D) cs := fun B H σ hl E =>
  h B H σ fr hl E _ fun v c cs1 B1 H1 l1 E1 hg => hg B1 H1 σ fr v (by omega) E1 _ fun σ2 cs2 l2 l3 E2 hk => hk B1 H1 σ2 l2 E2
theorem nt_set {i : Nat} (h : WE K te cs fun c cs1 => Nt K fr D.nx (cs1.set i c)) : Nt K fr (tAsg te (gName i) D) cs := nt_asg (h.imp fun c cs1 hk => wg_name hk)
end
end Dx
/-! Part 5: lists of one's own in statements, loops, comprehensions. -/
namespace Dx
open PySem PySem.Spec PyProof.Rows L2 Gu
section
variable {K : PySem.W.Frag} {cs : List Cell} {k : KC} {ta tb te tl : TE} {tr : TA} {fr : List Sm} {D : Ends} {tu tw : TS} {t : TT} {g : TG}
theorem nt_par {i j : Nat} (h : WA K tr cs fun cl cs1 => Two cl fun c1 c2 => Nt K fr D.nx ((cs1.set i c1).set j c2)) : Nt K fr (tPar i j tr D) cs := by
  intro B H σ hl E
  refine h B H σ fr hl E _ fun vs cl cs1 B1 H1 lv l1 E1 ⟨c1, c2, e, hk⟩ => ?_
  subst e
  match vs, lv with
  | [v, w], _ =>
    refine ⟨v, w, rfl, hk B1 H1 _ (by simp; omega) ?_⟩
    have E2 : Env K B1 H1 (σ.zip cs1 ++ (some v, c1) :: (some w, c2) :: fr) := E1
    exact env_set (by simp; omega) (env_set (by omega) E2)
theorem nt_par3 {i j l : Nat} (h : WA K tr cs fun cl cs1 => Three cl fun c1 c2 c3 => Nt K fr D.nx (((cs1.set i c1).set j c2).set l c3)) : Nt K fr (tPar3 i j l tr D) cs := by
  intro B H σ hl E
  refine h B H σ fr hl E _ fun vs cl cs1 B1 H1 lv l1 E1 ⟨c1, c2, c3, e, hk⟩ => ?_
  subst e
  match vs, lv with
  | [v, w, x], _ =>
    refine ⟨v, w, x, rfl, hk B1 H1 _ (by simp; omega) ?_⟩
    have E2 : Env K B1 H1 (σ.zip cs1 ++ (some v, c1) :: (some w, c2) :: (some x, c3) :: fr) := E1
    exact env_set (by simp; omega) (env_set (by simp; omega) (env_set (by omega) E2))
theorem nt_aug {i : Nat} {f : Int → Int → Int} {a : Int} (h0 : cs[i]? = some (.d (.int a))) (h : WE K te cs fun c cs2 => IsI c fun b => Nt K fr D.nx (cs2.set i (.d (.int (f a b))))) : Nt K fr (tAug i te (ipI f) D) cs := by
  intro B H σ hl E
  obtain ⟨o, ho, hm⟩ := zip_mem hl h0
  have eo : o = some (V.int a) := E.int (List.mem_append_left _ hm)
  subst eo
  refine ⟨.int a, ho, h B H σ fr hl E _ fun v c cs2 B2 H2 l2 E2 ⟨b, e, hk⟩ => ?_⟩
  subst e
  have ev : some v = some (V.int b) := E2.int (List.mem_append_right _ (List.mem_cons_self ..))
  cases ev
  exact ⟨a, b, rfl, rfl, hk B2 H2 _ (by simp; omega) (env_set (by omega) ((E2.sub drop1).put ⟨_, rfl, .int _⟩ rfl))⟩
/-- xs.append(e) -/
theorem dpAll_snoc {B : Hp} {v : V} {d : PyData} (hd : Dp K B v d) : ∀ {vs : List V} {ds : List PyData}, DpAll K B vs ds → DpAll K B (vs ++ [v]) (ds ++ [d])
  | _, _, .nil => .cons hd .nil
  | _, _, .cons h1 h2 => .cons h1 (dpAll_snoc hd h2)
theorem dpAll_set {B : Hp} {v : V} {d : PyData} (hd : Dp K B v d) : ∀ {vs : List V} {ds : List PyData} {j : Nat}, DpAll K B vs ds → DpAll K B (vs.set j v) (ds.set j d)
  | _, _, _, .nil => .nil
  | _, _, 0, .cons _ h2 => .cons hd h2
  | _, _, _ + 1, .cons h1 h2 => .cons h1 (dpAll_set hd h2)
theorem nt_app {i : Nat} {a : Addr} {ds0 : List PyData} (h0 : cs[i]? = some (.m a (.lst ds0)))
    (h : WE K te cs fun c cs2 => IsD c fun x => AtM cs2 i a fun ds => Less ds (Nt K fr D.nx (cs2.set i (.m a (.lst (ds ++ [x])))))) :
    Nt K fr (tDrop (tBM K "list" rAppend (tVar i) (tCons te tNil)) D) cs := by
  intro B H σ hl E
  obtain ⟨o, ho, hm⟩ := zip_mem hl h0
  obtain ⟨eo, _, ob, hob, xs0, e0, _⟩ := E.sl _ (List.mem_append_left _ hm)
  have eo' : o = some (V.ref a) := eo
  subst eo'
  subst e0
  refine ⟨.ref a, ho, .inl ⟨rfl, xs0, .inl (.inl hob)⟩, h B H σ fr hl E _ fun v c cs2 B2 H2 l2 E2 ⟨x, e, ds, h1, hz, hk⟩ => ?_⟩
  subst e
  obtain ⟨o2, l1, l3, ho2, e1, e2, _⟩ := zip_split (σ := σ) (by omega) h1
  obtain ⟨w, ew, hw⟩ := E2.sl (some v, .d x) (List.mem_append_right _ (List.mem_cons_self ..))
  cases ew
  have E3 := E2.sub drop1
  rw [e1] at E3
  have E4 := envM.mp E3
  obtain ⟨_, _, ob2, hob2, xs, e4, hd⟩ := E4.head
  subst e4
  refine ⟨a, xs, v, rfl, rfl, hob2, Evl.sz_lt (by rw [hd.len]; exact hz), hk B2 _ σ (by simp; omega) ?_⟩
  rw [e2]
  exact envM.mpr (E4.chg ⟨_, rfl, dpAll_snoc hw hd⟩)
/-- xs[e] = v -/
theorem nt_setM {i : Nat} {a : Addr} {mo0 : MO} (h0 : cs[i]? = some (.m a mo0)) (h : WE K te cs fun c cs1 => IsD c fun x => AtM cs1 i a fun _ => WE K tb cs1 fun c2 cs2 => IsI c2 fun n => AtM cs2 i a fun ds => IxJ ds n fun j => Nt K fr D.nx (cs2.set i (.m a (.lst (ds.set j x))))) :
    Nt K fr (tAsg te (gSub (tVar i) tb rSetL) D) cs := by
  intro B H σ hl E
  refine h B H σ fr hl E _ fun v c cs1 B1 H1 l1 E1 ⟨x, e, _, h1, h2⟩ => ?_
  obtain ⟨o, ho, hm⟩ := zip_mem (σ := σ) (by omega) h1
  obtain ⟨eo, _⟩ := E1.sl _ (List.mem_append_left _ hm)
  have eo' : o = some (V.ref a) := eo
  subst eo'
  refine ⟨.ref a, ho, h2 B1 H1 σ ((some v, c) :: fr) (by omega) E1 _ fun v2 c2 cs2 B2 H2 l2 E2 ⟨n, e', ds, h3, j, hj, hk⟩ => ?_⟩
  subst e
  subst e'
  have ev : some v2 = some (V.int n) := E2.int (List.mem_append_right _ (List.mem_cons_self ..))
  cases ev
  obtain ⟨o2, l1', l3, ho2, e1, e2, _⟩ := zip_split (σ := σ) (by omega) h3
  obtain ⟨w, ew, hw⟩ := E2.sl (some v, .d x) (List.mem_append_right _ (List.mem_cons_of_mem _ (List.mem_cons_self ..)))
  cases ew
  have E3 := E2.sub drop2
  rw [e1] at E3
  have E4 := envM.mp E3
  obtain ⟨_, _, ob2, hob2, xs, e4, hd⟩ := E4.head
  subst e4
  refine ⟨a, xs, n, j, rfl, rfl, hob2, by rw [hd.len]; exact hj, hk B2 _ σ (by simp; omega) ?_⟩
  rw [e2]
  exact envM.mpr (E4.chg ⟨_, rfl, dpAll_set hw hd⟩)
/-! ### for -/
def pin (B1 : Hp) : Sm := (none, .f (fun B => Ex B1 B) fun _ _ e h => Evl.Ex.trans h e)
theorem Env.pinned {B1 B H : Hp} {z : List Sm} (E : Env K B H z) (h : pin B1 ∈ z) : Ex B1 B := E.sl _ h
theorem Env.addPin {B H : Hp} {z : List Sm} (E : Env K B H (z ++ fr)) : Env K B H (z ++ pin B :: fr) := E.put (fun _ _ h => h) rfl
abbrev lp (D : Ends) (N : L2.St → Hp → Prop) : Ends := { D with nx := N, ct := N, bk := D.nx }
theorem nt_forT (h : WE K tl cs fun c cs1 => ∃ ds, c = .d (.tuple ds) ∧ ∃ I : Nat → List Cell → Prop, I 0 cs1 ∧
      (∀ x i d cs', ds[i]? = some d → I i cs' → WG K g cs' (.d d) fun cs2 => Nt K (x :: fr) (tu (lp D (Nx K (x :: fr) (I (i + 1))))) cs2) ∧ ∀ cs', I ds.length cs' → Nt K fr D.nx cs') :
    Nt K fr (tFor (iTup K tl) g tu D) cs := by
  intro B H σ hl E
  refine h B H σ fr hl E _ fun v c cs1 B1 H1 l1 E1 ⟨ds, e, I, h0, hs, hd⟩ => ?_
  subst e
  obtain ⟨w, ew, hw⟩ := E1.sl (some v, .d (.tuple ds)) (List.mem_append_right _ (List.mem_cons_self ..))
  cases ew
  cases hw with
  | @tup a xs _ hq ha =>
    have ln := ha.len
    refine ⟨a, rfl, ⟨xs, Evl.ex_t E1.bh hq⟩, for_tup (xs := xs) (fun i σ' H' => Nx K (pin B1 :: fr) (I i) σ' H') ⟨cs1, B1, by omega, (E1.sub drop1).addPin, h0⟩ ?_ ?_ ?_⟩
    · rintro i σ' H' _ ⟨cs', B', hl', E', _⟩
      exact Evl.ex_t E'.bh (Evl.ex_t (E'.pinned (B1 := B1) (by simp)) hq)
    · rintro i x σ' H' hx ⟨cs', B', hl', E', hi⟩
      have hi2 : i < ds.length := by have := (List.getElem?_eq_some_iff.mp hx).1; omega
      obtain ⟨v', hv', hdv⟩ := dpAll_at (j := i) ha (List.getElem?_eq_getElem hi2)
      rw [hx] at hv'
      cases hv'
      refine hs (pin B1) i ds[i] cs' (List.getElem?_eq_getElem hi2) hi B' H' σ' (pin B1 :: fr) x hl' (E'.put ⟨x, rfl, dp_mono (E'.pinned (B1 := B1) (by simp)) _ _ hdv⟩ rfl) _ fun σ2 cs2 l2 l3 E2 hk => ?_
      exact hk B' H' σ2 l2 E2
    · rintro σ' H' ⟨cs', B', hl', E', hi⟩
      rw [ln] at hi
      exact hd cs' hi B' H' σ' hl' (E'.sub drop1)
theorem nt_forL (h : WE K tl cs fun c cs1 => ∃ ds, c = .d (.list ds) ∧ ∃ I : Nat → List Cell → Prop, I 0 cs1 ∧
      (∀ x i d cs', ds[i]? = some d → I i cs' → WG K g cs' (.d d) fun cs2 => Nt K (x :: fr) (tu (lp D (Nx K (x :: fr) (I (i + 1))))) cs2) ∧ ∀ cs', I ds.length cs' → Nt K fr D.nx cs') :
    Nt K fr (tFor (iList K tl) g tu D) cs := by
  intro B H σ hl E
  refine h B H σ fr hl E _ fun v c cs1 B1 H1 l1 E1 ⟨ds, e, I, h0, hs, hd⟩ => ?_
  subst e
  obtain ⟨w, ew, hw⟩ := E1.sl (some v, .d (.list ds)) (List.mem_append_right _ (List.mem_cons_self ..))
  cases ew
  cases hw with
  | @lst a xs _ hq ha =>
    have ln := ha.len
    refine ⟨a, rfl, ⟨xs, Evl.ex_l E1.bh hq⟩, for_list (xs := xs) (fun i σ' H' => Nx K (pin B1 :: fr) (I i) σ' H') ⟨cs1, B1, by omega, (E1.sub drop1).addPin, h0⟩ ?_ ?_ ?_⟩
    · rintro i σ' H' _ ⟨cs', B', hl', E', _⟩
      exact Evl.ex_l E'.bh (Evl.ex_l (E'.pinned (B1 := B1) (by simp)) hq)
    · rintro i x σ' H' hx ⟨cs', B', hl', E', hi⟩
      have hi2 : i < ds.length := by have := (List.getElem?_eq_some_iff.mp hx).1; omega
      obtain ⟨v', hv', hdv⟩ := dpAll_at (j := i) ha (List.getElem?_eq_getElem hi2)
      rw [hx] at hv'
      cases hv'
      refine hs (pin B1) i ds[i] cs' (List.getElem?_eq_getElem hi2) hi B' H' σ' (pin B1 :: fr) x hl' (E'.put ⟨x, rfl, dp_mono (E'.pinned (B1 := B1) (by simp)) _ _ hdv⟩ rfl) _ fun σ2 cs2 l2 l3 E2 hk => ?_
      exact hk B' H' σ2 l2 E2
    · rintro σ' H' ⟨cs', B', hl', E', hi⟩
      rw [ln] at hi
      exact hd cs' hi B' H' σ' hl' (E'.sub drop1)
theorem nt_forR (h : WA K tr cs fun cl cs1 => ∃ n : Nat, cl = [.d (.int n)] ∧ n ≤ 1000000000 ∧ ∃ I : Nat → List Cell → Prop, I 0 cs1 ∧
      (∀ x i cs', i < n → I i cs' → WG K g cs' (.d (.int (i : Int))) fun cs2 => Nt K (x :: fr) (tu (lp D (Nx K (x :: fr) (I (i + 1))))) cs2) ∧ ∀ cs', I n cs' → Nt K fr D.nx cs') :
    Nt K fr (tFor (iRng1 tr) g tu D) cs := by
  intro B H σ hl E
  refine h B H σ fr hl E _ fun vs cl cs1 B1 H1 lv l1 E1 ⟨n, e, hn, I, h0, hs, hd⟩ => ?_
  subst e
  match vs, lv with
  | [v], _ =>
    have E1' : Env K B1 H1 (σ.zip cs1 ++ (some v, Cell.d (.int n)) :: fr) := E1
    have ev : some v = some (V.int n) := E1'.int (List.mem_append_right _ (List.mem_cons_self ..))
    cases ev
    refine ⟨n, rfl, by omega, by omega, ?_⟩
    rw [Int.toNat_natCast]
    refine for_range (lo := 0) (n := n) (fun i σ' H' => Nx K (pin B1 :: fr) (I i) σ' H') ⟨cs1, B1, by omega, (E1'.sub drop1).addPin, h0⟩ ?_ ?_
    · rintro i σ' H' hx ⟨cs', B', hl', E', hi⟩
      have e0 : (0 : Int) + (i : Int) = (i : Int) := Int.zero_add _
      rw [e0]
      refine hs (pin B1) i cs' hx hi B' H' σ' (pin B1 :: fr) (.int i) hl' (E'.put ⟨_, rfl, .int _⟩ rfl) _ fun σ2 cs2 l2 l3 E2 hk => ?_
      exact hk B' H' σ2 l2 E2
    · rintro σ' H' ⟨cs', B', hl', E', hi⟩
      exact hd cs' hi B' H' σ' hl' (E'.sub drop1)
end
end Dx
/-! Part 6: comprehensions. -/
namespace Dx
open PySem PySem.Spec PyProof.Rows L2 Gu
/-- the slots that a target stores -/
structure Tg (g : TG) (js : List Nat) : Prop where
  mono : ∀ (v : V) (σ : L2.St) (H : Hp) (Q Q' : L2.St → Hp → Prop), (∀ σ2 H2, Q σ2 H2 → Q' σ2 H2) → g v σ H Q → g v σ H Q'
  keep : ∀ (v : V) (σ : L2.St) (H : Hp) (Q : L2.St → Hp → Prop), g v σ H Q → g v σ H fun σ2 H2 => Q σ2 H2 ∧ σ2.length = σ.length ∧ ∀ i, i ∉ js → σ2[i]? = σ[i]?
structure Tgs (g : TGs) (js : List Nat) : Prop where
  mono : ∀ (v : List V) (σ : L2.St) (H : Hp) (Q Q' : L2.St → Hp → Prop), (∀ σ2 H2, Q σ2 H2 → Q' σ2 H2) → g v σ H Q → g v σ H Q'
  keep : ∀ (v : List V) (σ : L2.St) (H : Hp) (Q : L2.St → Hp → Prop), g v σ H Q → g v σ H fun σ2 H2 => Q σ2 H2 ∧ σ2.length = σ.length ∧ ∀ i, i ∉ js → σ2[i]? = σ[i]?
theorem tg_name {j : Nat} : Tg (gName j) [j] := ⟨fun v σ H Q Q' m h => m _ _ h, fun v σ H Q h => ⟨h, by simp, fun i hi => List.getElem?_set_ne fun e => hi (by simp [e])⟩⟩
theorem tgs_nil : Tgs gNil [] := ⟨fun v σ H Q Q' m h => ⟨h.1, m _ _ h.2⟩, fun v σ H Q h => ⟨h.1, h.2, rfl, fun _ _ => rfl⟩⟩
theorem tgs_cons {g : TG} {gs : TGs} {js ks : List Nat} (h1 : Tg g js) (h2 : Tgs gs ks) : Tgs (gCons g gs) (js ++ ks) := by
  refine ⟨?_, ?_⟩
  · rintro v σ H Q Q' m ⟨x, r, e, h⟩
    exact ⟨x, r, e, h1.mono _ _ _ _ _ (fun σ2 H2 hq => h2.mono _ _ _ _ _ m hq) h⟩
  · rintro v σ H Q ⟨x, r, e, h⟩
    refine ⟨x, r, e, h1.mono _ _ _ _ _ ?_ (h1.keep _ _ _ _ h)⟩
    rintro σ2 H2 ⟨hq, hl, hi⟩
    refine h2.mono _ _ _ _ _ ?_ (h2.keep _ _ _ _ hq)
    rintro σ3 H3 ⟨hq3, hl3, hi3⟩
    exact ⟨hq3, by omega, fun i hn => by
      rw [hi3 i fun z => hn (List.mem_append_right _ z), hi i fun z => hn (List.mem_append_left _ z)]⟩
theorem tg_tup {K : PySem.W.Frag} {n : Nat} {gs : TGs} {js : List Nat} (h : Tgs gs js) : Tg (gTup K n gs) js :=
  ⟨fun v σ H Q Q' m ⟨a, xs, h1, h2, h3, h4⟩ => ⟨a, xs, h1, h2, h3, h.mono _ _ _ _ _ m h4⟩, fun v σ H Q ⟨a, xs, h1, h2, h3, h4⟩ => ⟨a, xs, h1, h2, h3, h.keep _ _ _ _ h4⟩⟩
theorem wipe_get (σ : L2.St) : ∀ (vs : List Nat) (i : Nat), (wipe σ vs)[i]? = if i ∈ vs then (σ[i]?.map fun _ => none) else σ[i]?
  | [], i => by simp [wipe]
  | v :: vs, i => by
    show ((wipe σ vs).set v none)[i]? = _
    by_cases e : v = i
    · subst e
      rw [List.getElem?_set_self', wipe_get σ vs v]
      by_cases hv : v ∈ vs
      · simp only [hv, if_true, List.mem_cons, true_or]
        cases σ[v]? <;> rfl
      · simp only [hv, if_false, List.mem_cons, true_or, if_true]
        cases σ[v]? <;> rfl
    · rw [List.getElem?_set_ne e, wipe_get σ vs i]
      have : (i ∈ v :: vs) ↔ i ∈ vs := by simp [Ne.symm e]
      simp only [this]
theorem wipe_same {σ σ2 : L2.St} {vs js : List Nat} (hj : ∀ j ∈ js, j ∈ vs) (hl : σ2.length = σ.length) (h : ∀ i, i ∉ js → σ2[i]? = (wipe σ vs)[i]?) : wipe σ2 vs = wipe σ vs := by
  refine List.ext_getElem? fun i => ?_
  rw [wipe_get, wipe_get]
  by_cases hi : i ∈ vs
  · simp only [hi, if_true]
    by_cases hs : i < σ.length
    · rw [List.getElem?_eq_getElem hs, List.getElem?_eq_getElem (by omega)]
      rfl
    · rw [List.getElem?_eq_none (by omega), List.getElem?_eq_none (by omega)]
  · simp only [hi, if_false]
    rw [h i fun z => hi (hj i z), wipe_get]
    simp only [hi, if_false]
def wipeC (cs : List Cell) : List Nat → List Cell
  | [] => cs
  | v :: vs => (wipeC cs vs).set v .any
theorem wipeC_len (cs : List Cell) : ∀ vs, (wipeC cs vs).length = cs.length
  | [] => rfl
  | v :: vs => by rw [wipeC, List.length_set, wipeC_len cs vs]
def AnyAt (cs : List Cell) (vs : List Nat) : Prop := ∀ v ∈ vs, cs[v]? = none ∨ cs[v]? = some .any
theorem wipeC_any (cs : List Cell) : ∀ vs, AnyAt (wipeC cs vs) vs
  | [], v, h => by cases h
  | w :: vs, v, h => by
    show ((wipeC cs vs).set w .any)[v]? = none ∨ ((wipeC cs vs).set w .any)[v]? = some .any
    by_cases e : w = v
    · subst e
      rw [List.getElem?_set_self']
      cases (wipeC cs vs)[w]? with
      | none => exact .inl rfl
      | some _ => exact .inr rfl
    · rw [List.getElem?_set_ne e]
      rcases List.mem_cons.mp h with h | h
      · exact absurd h.symm e
      · exact wipeC_any cs vs v h
section
variable {K : PySem.W.Frag} {cs : List Cell} {k : KC} {ta tb te tl : TE} {tr : TA} {fr : List Sm} {tt : TT} {g : TG} {B H : Hp}
theorem env_wipe {σ : L2.St} (hl : σ.length = cs.length) (E : Env K B H (σ.zip cs ++ fr)) : ∀ vs, Env K B H ((wipe σ vs).zip (wipeC cs vs) ++ fr)
  | [] => E
  | v :: vs => env_set (v := none) (c := .any) (by rw [wipe_length, wipeC_len]; exact hl) ((env_wipe hl E vs).put trivial rfl)
theorem env_unwipe {σ : L2.St} (hl : σ.length = cs.length) : ∀ vs, AnyAt cs vs → Env K B H ((wipe σ vs).zip cs ++ fr) → Env K B H (σ.zip cs ++ fr)
  | [], _, E => E
  | v :: vs, ha, E => by
    refine env_unwipe hl vs (fun w hw => ha w (List.mem_cons_of_mem _ hw)) ?_
    have E' : Env K B H (((wipe σ vs).set v none).zip cs ++ fr) := E
    rcases ha v (List.mem_cons_self ..) with h | h
    · have hv : cs.length ≤ v := List.getElem?_eq_none_iff.mp h
      rw [List.set_eq_of_length_le (by rw [wipe_length]; omega)] at E'
      exact E'
    · obtain ⟨o, l1, l2, _, e1, _, e3⟩ := zip_split (σ := wipe σ vs) (by rw [wipe_length]; exact hl) h
      have ec : cs.set v .any = cs := by
        obtain ⟨hv, ev⟩ := List.getElem?_eq_some_iff.mp h
        conv => rhs; rw [← List.set_getElem_self hv]
        rw [ev]
      have e4 := e3 none .any
      rw [ec] at e4
      rw [e4] at E'
      rw [e1]
      exact envM.mpr ((envM.mp E').tail.add trivial rfl)
/-- one turn of a comprehension -/
def PvL (K : PySem.W.Frag) (σ : L2.St) (vs : List Nat) (B1 : Hp) (Dl : Addr) (fr : List Sm) (I : Nat → List PyData → List Cell → Prop) (i : Nat) (H : Hp) : Prop :=
  ∃ B cs acc, σ.length = cs.length ∧ Env K B H ((wipe σ vs).zip cs ++ (some (.ref Dl), .m Dl (.lst acc)) :: pin B1 :: fr) ∧ AnyAt cs vs ∧ acc.length ≤ i ∧ I i acc cs
theorem lc_turn {σ : L2.St} {vs js : List Nat} {B1 : Hp} {Dl : Addr} {I : Nat → List PyData → List Cell → Prop} {i : Nat} {x : V} {d : PyData} (hg : Tg g js) (hj : ∀ j ∈ js, j ∈ vs) (hi : i < 100000)
    (hx : ∀ B, Ex B1 B → Dp K B x d) (p : PvL K σ vs B1 Dl fr I i H)
    (hs : ∀ acc cs', I i acc cs' → WG K g cs' (.d d) fun cs2 => WT K tt cs2 fun b cs3 => BB b (WE K te cs3 fun c cs4 => IsD c fun y => I (i + 1) (acc ++ [y]) (wipeC cs4 vs)) (I (i + 1) acc (wipeC cs3 vs))) :
    g x (wipe σ vs) H fun σ2 H2 => wipe σ2 vs = wipe σ vs ∧ tt σ2 H2 fun b H3 =>
      if b = true then te σ2 H3 fun y H4 => ∃ acc, H4 Dl = some (.lst acc) ∧ acc.length < sizeLine ∧ PvL K σ vs B1 Dl fr I (i + 1) (upd H4 Dl (.lst (acc ++ [y]))) else PvL K σ vs B1 Dl fr I (i + 1) H3 := by
  obtain ⟨B, cs', acc, hl, E, ha, hn, hI⟩ := p
  have hp : Ex B1 B := E.pinned (by simp)
  have w := hs acc cs' hI B H (wipe σ vs) _ x (by rw [wipe_length]; exact hl) (E.put ⟨x, rfl, hx B hp⟩ rfl)
    (fun σ2 H2 => σ2.length = σ.length → wipe σ2 vs = wipe σ vs → tt σ2 H2 fun b H3 =>
      if b = true then te σ2 H3 fun y H4 => ∃ acc, H4 Dl = some (.lst acc) ∧ acc.length < sizeLine ∧ PvL K σ vs B1 Dl fr I (i + 1) (upd H4 Dl (.lst (acc ++ [y]))) else PvL K σ vs B1 Dl fr I (i + 1) H3)
    fun σ2 cs2 l2 l3 E2 hk hl2 hw => ?_
  · refine hg.mono _ _ _ _ _ ?_ (hg.keep _ _ _ _ w)
    rintro σ2 H2 ⟨hq, hl2, hi2⟩
    rw [wipe_length] at hl2
    have hw := wipe_same hj hl2 hi2
    exact ⟨hw, hq hl2 hw⟩
  · refine hk B H σ2 _ l2 E2 _ fun b cs3 B3 H3 l4 E3 hk3 => ?_
    cases b with
    | false =>
      refine iteF ⟨B3, wipeC cs3 vs, acc, by rw [wipeC_len]; omega, ?_, wipeC_any _ _, by omega, hk3.2 rfl⟩
      rw [← hw]
      exact env_wipe (by omega) E3 vs
    | true =>
      refine iteT (hk3.1 rfl B3 H3 σ2 _ (by omega) E3 _ fun y c cs4 B4 H4 l5 E4 ⟨yd, ey, hk4⟩ => ?_)
      subst ey
      obtain ⟨w, ew, hw4⟩ := E4.sl (some y, .d yd) (List.mem_append_right _ (List.mem_cons_self ..))
      cases ew
      have E5 := envF.mp (E4.sub drop1)
      obtain ⟨_, _, ob, hob, xs, e5, hd⟩ := E5.head
      subst e5
      refine ⟨xs, hob, Evl.sz_lt (by rw [hd.len]; omega), B4, wipeC cs4 vs, acc ++ [yd], by rw [wipeC_len]; omega, ?_, wipeC_any _ _, by rw [List.length_append, List.length_singleton]; omega, hk4⟩
      rw [← hw]
      exact env_wipe (by omega) (envF.mpr (E5.chg (mo' := .lst (acc ++ [yd])) (h' := .lst (xs ++ [y])) ⟨_, rfl, dpAll_snoc hw4 hd⟩)) vs
theorem lc_start {σ : L2.St} {vs : List Nat} {Dl : Addr} {I : Nat → List PyData → List Cell → Prop} (hl : σ.length = cs.length) (E : Env K B H (σ.zip cs ++ fr)) (hD : H Dl = none) (h0 : I 0 [] (wipeC cs vs)) : PvL K σ vs B Dl fr I 0 (upd H Dl (.lst [])) := by
  refine ⟨B, wipeC cs vs, [], by rw [wipeC_len]; exact hl, ?_, wipeC_any _ _, Nat.le_refl _, h0⟩
  have E1 := (env_wipe hl E vs)
  have np : Dl ∉ owned ((wipe σ vs).zip (wipeC cs vs) ++ pin B :: fr) := (Env.addPin E1).newM hD
  exact ((Env.addPin E1).newO hD).putM ⟨rfl, free_of E.bh hD, _, upd_same, [], rfl, .nil⟩ np
theorem lc_end {σ : L2.St} {vs : List Nat} {B1 : Hp} {Dl : Addr} {I : Nat → List PyData → List Cell → Prop} {n m : Nat} {Q : VK} (hm : σ.length = m) (p : PvL K σ vs B1 Dl fr I n H) (hd : ∀ acc cs', acc.length ≤ n → I n acc cs' → ∀ a, k (.m a (.lst acc)) cs')
    (q : ∀ v c cs2 B2 H2, cs2.length = m → Env K B2 H2 (σ.zip cs2 ++ (some v, c) :: fr) → k c cs2 → Q v H2) : Q (.ref Dl) H := by
  obtain ⟨B, cs', acc, hl, E, ha, hn, hI⟩ := p
  have E2 : Env K B H ((wipe σ vs).zip cs' ++ (some (.ref Dl), .m Dl (.lst acc)) :: fr) := E.sub (List.Sublist.append (List.Sublist.refl _) (List.Sublist.cons_cons _ (List.sublist_cons_self ..)))
  exact q _ _ cs' B H (by omega) (env_unwipe hl vs ha E2) (hd acc cs' hn hI Dl)
theorem we_lcT {vs js : List Nat} (hg : Tg g js) (hj : ∀ j ∈ js, j ∈ vs) (h : WE K tl cs fun c cs1 => ∃ ds, c = .d (.tuple ds) ∧ ds.length ≤ 99999 ∧ ∃ I : Nat → List PyData → List Cell → Prop, I 0 [] (wipeC cs1 vs) ∧
      (∀ i d acc cs', ds[i]? = some d → I i acc cs' → WG K g cs' (.d d) fun cs2 => WT K tt cs2 fun b cs3 => BB b (WE K te cs3 fun c cs4 => IsD c fun y => I (i + 1) (acc ++ [y]) (wipeC cs4 vs)) (I (i + 1) acc (wipeC cs3 vs))) ∧
      ∀ acc cs', acc.length ≤ ds.length → I ds.length acc cs' → ∀ a, k (.m a (.lst acc)) cs') : WE K (tLc (iTup K tl) g tt te vs) cs k := by
  intro B H σ fr hl E Q q
  refine h B H σ fr hl E _ fun v c cs1 B1 H1 l1 E1 ⟨ds, e, hz, I, h0, hs, hd⟩ => ?_
  subst e
  obtain ⟨w, ew, hw⟩ := E1.sl (some v, .d (.tuple ds)) (List.mem_append_right _ (List.mem_cons_self ..))
  cases ew
  cases hw with
  | @tup a xs _ hq ha =>
    have ln := ha.len
    refine ⟨a, rfl, ⟨xs, Evl.ex_t E1.bh hq⟩, fun Dl hD => lc_tup (xs := xs) (PvL K σ vs B1 Dl fr I) (lc_start (by omega) (E1.sub drop1) hD h0) ?_ ?_ ?_⟩
    · rintro i H' _ ⟨B', cs', acc, hl', E', _⟩
      exact Evl.ex_t E'.bh (Evl.ex_t (E'.pinned (B1 := B1) (by simp)) hq)
    · intro i x H' hx p
      have hi2 : i < ds.length := by have := (List.getElem?_eq_some_iff.mp hx).1; omega
      obtain ⟨v', hv', hdv⟩ := dpAll_at (j := i) ha (List.getElem?_eq_getElem hi2)
      rw [hx] at hv'
      cases hv'
      exact lc_turn hg hj (by omega) (fun B e => dp_mono e _ _ hdv) p fun acc cs' hI => hs i ds[i] acc cs' (List.getElem?_eq_getElem hi2) hI
    · intro H' p
      rw [ln] at p
      exact lc_end hl p hd fun v c cs2 B2 H2 l2 E2 hk => q v c cs2 B2 H2 l2 E2 hk
theorem we_lcL {vs js : List Nat} (hg : Tg g js) (hj : ∀ j ∈ js, j ∈ vs) (h : WE K tl cs fun c cs1 => ∃ ds, c = .d (.list ds) ∧ ds.length ≤ 99999 ∧ ∃ I : Nat → List PyData → List Cell → Prop, I 0 [] (wipeC cs1 vs) ∧
      (∀ i d acc cs', ds[i]? = some d → I i acc cs' → WG K g cs' (.d d) fun cs2 => WT K tt cs2 fun b cs3 => BB b (WE K te cs3 fun c cs4 => IsD c fun y => I (i + 1) (acc ++ [y]) (wipeC cs4 vs)) (I (i + 1) acc (wipeC cs3 vs))) ∧
      ∀ acc cs', acc.length ≤ ds.length → I ds.length acc cs' → ∀ a, k (.m a (.lst acc)) cs') : WE K (tLc (iList K tl) g tt te vs) cs k := by
  intro B H σ fr hl E Q q
  refine h B H σ fr hl E _ fun v c cs1 B1 H1 l1 E1 ⟨ds, e, hz, I, h0, hs, hd⟩ => ?_
  subst e
  obtain ⟨w, ew, hw⟩ := E1.sl (some v, .d (.list ds)) (List.mem_append_right _ (List.mem_cons_self ..))
  cases ew
  cases hw with
  | @lst a xs _ hq ha =>
    have ln := ha.len
    refine ⟨a, rfl, ⟨xs, Evl.ex_l E1.bh hq⟩, fun Dl hD => lc_list (xs := xs) (PvL K σ vs B1 Dl fr I) (lc_start (by omega) (E1.sub drop1) hD h0) ?_ ?_ ?_⟩
    · rintro i H' _ ⟨B', cs', acc, hl', E', _⟩
      exact Evl.ex_l E'.bh (Evl.ex_l (E'.pinned (B1 := B1) (by simp)) hq)
    · intro i x H' hx p
      have hi2 : i < ds.length := by have := (List.getElem?_eq_some_iff.mp hx).1; omega
      obtain ⟨v', hv', hdv⟩ := dpAll_at (j := i) ha (List.getElem?_eq_getElem hi2)
      rw [hx] at hv'
      cases hv'
      exact lc_turn hg hj (by omega) (fun B e => dp_mono e _ _ hdv) p fun acc cs' hI => hs i ds[i] acc cs' (List.getElem?_eq_getElem hi2) hI
    · intro H' p
      rw [ln] at p
      exact lc_end hl p hd fun v c cs2 B2 H2 l2 E2 hk => q v c cs2 B2 H2 l2 E2 hk
theorem we_lcR {vs js : List Nat} (hg : Tg g js) (hj : ∀ j ∈ js, j ∈ vs) (h : WA K tr cs fun cl cs1 => ∃ n : Nat, cl = [.d (.int n)] ∧ n ≤ 99999 ∧ ∃ I : Nat → List PyData → List Cell → Prop, I 0 [] (wipeC cs1 vs) ∧
      (∀ i acc cs', i < n → I i acc cs' → WG K g cs' (.d (.int (i : Int))) fun cs2 => WT K tt cs2 fun b cs3 => BB b (WE K te cs3 fun c cs4 => IsD c fun y => I (i + 1) (acc ++ [y]) (wipeC cs4 vs)) (I (i + 1) acc (wipeC cs3 vs))) ∧
      ∀ acc cs', acc.length ≤ n → I n acc cs' → ∀ a, k (.m a (.lst acc)) cs') : WE K (tLc (iRng1 tr) g tt te vs) cs k := by
  intro B H σ fr hl E Q q
  refine h B H σ fr hl E _ fun us cl cs1 B1 H1 lv l1 E1 ⟨n, e, hz, I, h0, hs, hd⟩ => ?_
  subst e
  match us, lv with
  | [v], _ =>
    have E1' : Env K B1 H1 (σ.zip cs1 ++ (some v, Cell.d (.int n)) :: fr) := E1
    have ev : some v = some (V.int n) := E1'.int (List.mem_append_right _ (List.mem_cons_self ..))
    cases ev
    refine ⟨n, rfl, by omega, by omega, fun Dl hD => ?_⟩
    rw [Int.toNat_natCast]
    refine lc_range (lo := 0) (n := n) (PvL K σ vs B1 Dl fr I) (lc_start (by omega) (E1'.sub drop1) hD h0) ?_ ?_
    · intro i H' hx p
      have e0 : (0 : Int) + (i : Int) = (i : Int) := Int.zero_add _
      rw [e0]
      exact lc_turn hg hj (by omega) (fun B e => .int _) p fun acc cs' hI => hs i acc cs' hx hI
    · intro H' p
      exact lc_end hl p hd fun v c cs2 B2 H2 l2 E2 hk => q v c cs2 B2 H2 l2 E2 hk
theorem wt_yes {kt : Bool → List Cell → Prop} (h : kt true cs) : WT K tYes cs kt := fun B H σ fr hl E Q q => q true cs B H rfl E h
end
end Dx
/-! Part 7: a def by its body; built-ins on data. -/
namespace Dx
open PySem PySem.Spec PyProof.Rows L2 Gu
theorem zip_append' {α β : Type} : ∀ {a b : List α} {c d : List β}, a.length = c.length → (a ++ b).zip (c ++ d) = a.zip c ++ b.zip d
  | [], _, [], _, _ => rfl
  | x :: a, b, y :: c, d, h => by
    show (x, y) :: (a ++ b).zip (c ++ d) = (x, y) :: (a.zip c ++ b.zip d)
    rw [zip_append' (by simpa using h)]
  | [], _, _ :: _, _, h => by simp at h
  | _ :: _, _, [], _, h => by simp at h
section
variable {K : PySem.W.Frag} {B H : Hp}
theorem keepC_own : ∀ c : Cell, own1 (keepC c) = none
  | .m _ _ => rfl
  | .any => rfl
  | .d _ => rfl
  | .b _ => rfl
  | .f _ _ => rfl
theorem Sl.kept {o : Option V} : ∀ {c : Cell}, Sl K B H o c → Sl K B H o (keepC c)
  | .m _ _, h => h.1
  | .any, h => h
  | .d _, h => h
  | .b _, h => h
  | .f _ _, h => h
theorem env_kept : ∀ {ps : List Sm} {z : List Sm}, Env K B H z → (∀ p ∈ ps, Sl K B H p.1 p.2) → Env K B H (z ++ ps.map fun p => (p.1, keepC p.2))
  | [], z, E, _ => by simpa using E
  | p :: ps, z, E, h => by
    have E1 := env_kept (ps := ps) E fun q hq => h q (List.mem_cons_of_mem _ hq)
    exact E1.put (h p (List.mem_cons_self ..)).kept (keepC_own _)
theorem zip_keep : ∀ (vs : List (Option V)) (cl : List Cell), (vs.zip cl).map (fun p => (p.1, keepC p.2)) = vs.zip (cl.map keepC)
  | [], _ => rfl
  | _ :: _, [] => rfl
  | v :: vs, c :: cl => congrArg ((v, keepC c) :: ·) (zip_keep vs cl)
theorem env_any : ∀ (n : Nat) {z y : List Sm}, Env K B H (z ++ y) → Env K B H (z ++ (List.replicate n ((none : Option V), Cell.any) ++ y))
  | 0, _, _, E => E
  | n + 1, _, _, E => (env_any n E).put trivial rfl
theorem zip_rep (n : Nat) : (List.replicate n (none : Option V)).zip (List.replicate n Cell.any) = List.replicate n (none, Cell.any) := by
  induction n with
  | zero => rfl
  | succ n ih => rw [List.replicate_succ, List.replicate_succ, List.replicate_succ, List.zip_cons_cons, ih]
/-- what goes back to the caller stands in the slots or in the frame -/
theorem back_env {cl cs cl2 : List Cell} (b : Back cl cs cl2) : ∀ {vs : List V} {σ : L2.St} {z : List Sm}, vs.length = cl.length → σ.length = cs.length → Env K B H (σ.zip cs ++ ((vs.map some).zip (cl.map keepC) ++ z)) → cl2.length = cl.length ∧ Env K B H ((vs.map some).zip cl2 ++ z) := by
  induction b with
  | nil =>
    intro vs σ z hv hl E
    match vs, hv with
    | [], _ => exact ⟨rfl, E.sub (List.sublist_append_right _ _)⟩
  | @keep cl cs cl2 c x hc _ ih =>
    intro vs σ z hv hl E
    match vs, hv, σ, hl with
    | v :: vs, hv, o :: σ, hl =>
      have hk : keepC c = c := by cases c <;> first | rfl | (cases hc)
      have E1 : Env K B H ((o, x) :: (σ.zip cs ++ ((some v, keepC c) :: ((vs.map some).zip (cl.map keepC) ++ z)))) := E
      rw [hk] at E1
      have E2 := envF.mp E1.tail
      obtain ⟨h1, h2⟩ := ih (by simpa using hv) (by simpa using hl) E2.tail
      exact ⟨by simp [h1], h2.add E2.head hc⟩
  | @own cl cs cl2 a o o' _ ih =>
    intro vs σ z hv hl E
    match vs, hv, σ, hl with
    | v :: vs, hv, ov :: σ, hl =>
      have E1 : Env K B H ((ov, .m a o') :: (σ.zip cs ++ ((some v, .b a) :: ((vs.map some).zip (cl.map keepC) ++ z)))) := E
      have hb : Sl K B H (some v) (.b a) := E1.sl (some v, .b a) (by simp)
      have ho := E1.head.1
      have e1 : ov = some (V.ref a) := ho
      have e2 : some v = some (V.ref a) := hb
      have E2 : Env K B H (σ.zip cs ++ ((vs.map some).zip (cl.map keepC) ++ (ov, .m a o') :: z)) := by
        refine (E1.sub (List.Sublist.cons_cons _ (List.Sublist.append (List.Sublist.refl _) (List.sublist_cons_self ..)))).perm ?_
        rw [← List.append_assoc, ← List.append_assoc]
        exact List.perm_middle
      obtain ⟨h1, h2⟩ := ih (by simpa using hv) (by simpa using hl) E2
      refine ⟨by simp [h1], ?_⟩
      have E3 := envF.mp h2
      rw [e1, ← e2] at E3
      exact E3
/-- the body of a def -/
def Body (K : PySem.W.Frag) (n : Nat) (cl : List Cell) (k : KC) (t : TS) : Prop := ∀ (fr : List Sm) (Q : VK), Fc K cl k Q fr → Nt K fr (t { nx := fun _ H' => Q .non H', rt := Q }) (cl ++ List.replicate n .any)
theorem sp_body {S : List Cell → KC → Prop} {N : List Str} {m : Nat} {vs : List V} {H : Hp} {Q : VK} {E : XK} {t : TS} (hN : N.length = m) (hl : ∀ cl k, S cl k → cl.length ≤ m) (h : spC K S vs H Q E) (hb : ∀ cl k, S cl k → Body K (m - cl.length) cl k t) :
    t { nx := fun _ H' => Q .non H', rt := Q } (L2.start N vs) H := by
  obtain ⟨B, cl, fr, k, lv, Ev, hS, hq⟩ := h
  have F : Fc K cl k Q ((vs.map some).zip (cl.map keepC) ++ fr) := by
    refine ⟨fun v c cs σ B2 H2 hl2 E2 cl2 hbk hk => ?_⟩
    have E3 : Env K B2 H2 (σ.zip cs ++ ((vs.map some).zip (cl.map keepC) ++ (some v, c) :: fr)) := E2.perm (by
      refine List.Perm.append (List.Perm.refl _) ?_
      exact List.perm_middle)
    obtain ⟨h1, h2⟩ := back_env hbk lv hl2 E3
    exact hq v c cl2 B2 H2 h1 h2 hk
  refine hb cl k hS _ Q F B H (L2.start N vs) ?_ ?_
  · have := hl cl k hS
    simp [L2.start, lv, hN]
  · have e : (L2.start N vs).zip (cl ++ List.replicate (m - cl.length) .any) = (vs.map some).zip cl ++ List.replicate (m - cl.length) (none, Cell.any) := by
      unfold L2.start
      rw [zip_append' (by simpa using lv), hN, lv, zip_rep]
    rw [e, List.append_assoc]
    refine env_any _ ?_
    have E1 := env_kept (ps := (vs.map some).zip cl) Ev fun p hp => Ev.sl p (List.mem_append_left _ hp)
    rw [zip_keep] at E1
    refine E1.perm ?_
    rw [List.append_assoc]
    exact List.Perm.append (List.Perm.refl _) List.perm_append_comm
end
theorem nt_end {K : PySem.W.Frag} {cs cl : List Cell} {k : KC} {Q : VK} {fr : List Sm} (R : Fc K cl k Q fr) {cl2 : List Cell} (hb : Back cl cs cl2) (hk : k (.d .none) cl2) : Nt K fr (fun _ H' => Q .non H') cs :=
  fun B H σ hl E => R.ret .non (.d .none) cs σ B H hl (E.put ⟨_, rfl, .non⟩ rfl) cl2 hb hk
section
variable {P : Program} {w : World} {K : PySem.W.Frag} {mg : Str → Option Value} {base : Heap}
theorem okC {x ql : Str} {st : Stmt} {f : Addr} {fd : FuncData} {N ps : List Str} {k n : Nat} {S : List Cell → KC → Prop} (F : Fun K x ql st f fd) (Sc : FnScope N ps (defScope st)) (hN : N.length = n) (len : ∀ cl kk, S cl kk → cl.length = ps.length) (hn : ps.length ≤ n)
    (hb : ∀ (cdv : Value) (A : Around) (out : List PySem.Env) (s : Shared) (H : Hp) (E : XK), Room k (A.deeper (envOfC ql (defScope st) s.heap.objs.size f cdv)) →
      ∃ t, PSs (cxOf CX0 P w K mg base N ql (defScope st) f cdv A out s H E).nox (defBody st) t ∧ ∀ cl kk, S cl kk → Body K (n - cl.length) cl kk t) : FnOk P w K mg base CX0 (k + 1) f fd ps (spC K S) := by
  refine F.ok Sc (fun vs H Q E h => ?_) (fun cdv A out s H vs Q E hr h => ?_)
  · obtain ⟨B, cl, fr, kk, lv, _, hS, _⟩ := h
    rw [lv]
    exact len cl kk hS
  · obtain ⟨t, ht, hq⟩ := hb cdv A out s H E hr
    exact ⟨t, ht, sp_body hN (fun cl kk hS => by rw [len cl kk hS]; exact hn) h hq⟩
theorem okCG {x ql : Str} {st : Stmt} {f : Addr} {fd : FuncData} {N ps : List Str} {k n : Nat} {S : List Cell → KC → Prop} (F : Fun K x ql st f fd) (Sc : FnScope N ps (defScope st)) (hN : N.length = n) (len : ∀ cl kk, S cl kk → cl.length = ps.length) (hn : ps.length ≤ n)
    (hb : ∀ (cdv : Value) (A : Around) (out : List PySem.Env) (s : Shared) (H : Hp) (E : XK), Room k (A.deeper (envOfC ql (defScope st) s.heap.objs.size f cdv)) → A.guards = some [] →
      ∃ t, PSs (cxOf CX0 P w K mg base N ql (defScope st) f cdv A out s H E).nox (defBody st) t ∧ ∀ cl kk, S cl kk → Body K (n - cl.length) cl kk t) : FnG P w K mg base CX0 (k + 1) f fd ps (spC K S) := by
  refine okG F Sc (fun vs H Q E h => ?_) (fun cdv A out s H vs Q E hr hg h => ?_)
  · obtain ⟨B, cl, fr, kk, lv, _, hS, _⟩ := h
    rw [lv]
    exact len cl kk hS
  · obtain ⟨t, ht, hq⟩ := hb cdv A out s H E hr hg
    exact ⟨t, ht, sp_body hN (fun cl kk hS => by rw [len cl kk hS]; exact hn) h hq⟩
end
end Dx
/-! Part 8: built-ins on data. -/
namespace Dx
open PySem PySem.Spec PyProof.Rows L2 Gu
section
variable {K : PySem.W.Frag} {cs : List Cell} {k : KC} {ta tb te tl : TE} {tr : TA} {r : List V → Hp → VK → Prop} {ds : List PyData} {d : PyData}
def RL (K : PySem.W.Frag) (B H : Hp) (v : V) (ds : List PyData) : Prop := ∃ a xs, v = .ref a ∧ SqL K H a xs ∧ DpAll K B xs ds
def RT (K : PySem.W.Frag) (B H : Hp) (v : V) (ds : List PyData) : Prop := ∃ a xs, v = .ref a ∧ SqT K H a xs ∧ DpAll K B xs ds
def BL (K : PySem.W.Frag) (r : List V → Hp → VK → Prop) (ds : List PyData) (d : PyData) : Prop := ∀ (B H : Hp) (v : V), Ex B H → RL K B H v ds → ∀ Q : VK, (∀ v2 B2 H2, (∀ z, Env K B H z → Env K B2 H2 z) → Dp K B2 v2 d → Q v2 H2) → r [v] H Q
def BT (K : PySem.W.Frag) (r : List V → Hp → VK → Prop) (ds : List PyData) (d : PyData) : Prop := ∀ (B H : Hp) (v : V), Ex B H → RT K B H v ds → ∀ Q : VK, (∀ v2 B2 H2, (∀ z, Env K B H z → Env K B2 H2 z) → Dp K B2 v2 d → Q v2 H2) → r [v] H Q
theorem one_arg {σ : L2.St} {fr : List Sm} {B H : Hp} {vs : List V} {c : Cell} (lv : vs.length = [c].length) (E : Env K B H (σ.zip cs ++ ((vs.map some).zip [c] ++ fr))) : ∃ v, vs = [v] ∧ Env K B H (σ.zip cs ++ (some v, c) :: fr) := by
  match vs, lv with
  | [v], _ => exact ⟨v, rfl, E⟩
theorem two_args {σ : L2.St} {fr : List Sm} {B H : Hp} {vs : List V} {c c' : Cell} (lv : vs.length = [c, c'].length) (E : Env K B H (σ.zip cs ++ ((vs.map some).zip [c, c'] ++ fr))) : ∃ v v', vs = [v, v'] ∧ Env K B H (σ.zip cs ++ (some v, c) :: (some v', c') :: fr) := by
  match vs, lv with
  | [v, v'], _ => exact ⟨v, v', rfl, E⟩
theorem ra_L (h : BL K r ds d) (hk : k (.d d) cs) : RA K r [.d (.list ds)] cs k := by
  intro B H σ fr vs hl lv E Q q
  obtain ⟨v, rfl, E1⟩ := one_arg lv E
  obtain ⟨w, ew, hw⟩ := E1.sl (some v, .d (.list ds)) (List.mem_append_right _ (List.mem_cons_self ..))
  cases ew
  cases hw with
  | lst hs ha => exact h B H _ E1.bh ⟨_, _, rfl, Evl.ex_l E1.bh hs, ha⟩ Q fun v2 B2 H2 p hd => q v2 (.d d) cs B2 H2 rfl ((p _ (E1.sub drop1)).put ⟨_, rfl, hd⟩ rfl) hk
theorem ra_T (h : BT K r ds d) (hk : k (.d d) cs) : RA K r [.d (.tuple ds)] cs k := by
  intro B H σ fr vs hl lv E Q q
  obtain ⟨v, rfl, E1⟩ := one_arg lv E
  obtain ⟨w, ew, hw⟩ := E1.sl (some v, .d (.tuple ds)) (List.mem_append_right _ (List.mem_cons_self ..))
  cases ew
  cases hw with
  | tup hs ha => exact h B H _ E1.bh ⟨_, _, rfl, Evl.ex_t E1.bh hs, ha⟩ Q fun v2 B2 H2 p hd => q v2 (.d d) cs B2 H2 rfl ((p _ (E1.sub drop1)).put ⟨_, rfl, hd⟩ rfl) hk
theorem we_bM {i : Nat} {a : Addr} (h0 : cs[i]? = some (.m a (.lst ds))) (h : BL K r ds d) (hk : k (.d d) cs) : WE K (tCB r (tCons (tVar i) tNil)) cs k := by
  intro B H σ fr hl E Q q
  obtain ⟨o, ho, hm⟩ := zip_mem hl h0
  obtain ⟨eo, hb, ob, hob, xs, e, hd⟩ := E.sl _ (List.mem_append_left _ hm)
  have eo' : o = some (V.ref a) := eo
  subst eo'
  subst e
  exact ⟨.ref a, ho, h B H _ E.bh ⟨a, xs, rfl, .inl (.inl hob), hd⟩ Q fun v2 B2 H2 p hd2 => q v2 (.d d) cs B2 H2 rfl ((p _ E).put ⟨_, rfl, hd2⟩ rfl) hk⟩
def rLenSq (K : PySem.W.Frag) : List V → Hp → VK → Prop := fun xs H Q => ∃ p ys, xs = [.ref p] ∧ (SqL K H p ys ∨ SqT K H p ys) ∧ Q (.int ys.length) H
theorem bl_len : BL K (rLenSq K) ds (.int ds.length) := by
  rintro B H v bh ⟨a, xs, rfl, hs, hd⟩ Q q
  refine ⟨a, xs, rfl, .inl hs, ?_⟩
  rw [hd.len]
  exact q _ B H (fun _ E => E) (.int _)
theorem bt_len : BT K (rLenSq K) ds (.int ds.length) := by
  rintro B H v bh ⟨a, xs, rfl, hs, hd⟩ Q q
  refine ⟨a, xs, rfl, .inr hs, ?_⟩
  rw [hd.len]
  exact q _ B H (fun _ E => E) (.int _)
theorem dpAll_ints {B : Hp} : ∀ {ns : List Int} {xs : List V}, DpAll K B xs (ns.map PyData.int) → xs = ns.map V.int
  | [], _, h => by cases h; rfl
  | n :: ns, _, h => by
    cases h with
    | cons h1 h2 =>
      cases h1
      rw [dpAll_ints h2]
      rfl
theorem bl_sum {ns : List Int} : BL K (rSum K) (ns.map PyData.int) (.int ns.sum) := by
  rintro B H v bh ⟨a, xs, rfl, hs, hd⟩ Q q
  rw [dpAll_ints hd] at hs
  exact ⟨a, ns, rfl, hs, q _ B H (fun _ E => E) (.int _)⟩
def rTupleOf (K : PySem.W.Frag) : List V → Hp → VK → Prop := fun xs H Q => ∃ p ys, xs = [.ref p] ∧ ((SqL K H p ys ∧ ∀ l, H l = none → Q (.ref l) (upd H l (.tup ys))) ∨ (SqT K H p ys ∧ Q (.ref p) H))
theorem bl_tuple : BL K (rTupleOf K) ds (.tuple ds) := by
  rintro B H v bh ⟨a, xs, rfl, hs, hd⟩ Q q
  refine ⟨a, xs, rfl, .inl ⟨hs, fun l hl => ?_⟩⟩
  exact q _ (upd B l (.tup xs)) _ (fun z E => E.newF hl) (.tup (.inl (.inl upd_same)) (dpAll_mono (Evl.Ex.new (free_of bh hl)) _ _ hd))
theorem bl_sorted (h1 : PySem.W.AllAlike ds) (h2 : PySem.W.Sortable ds) (h3 : ∀ d ∈ ds, d.depth ≤ 60) : BL K (rSortD K) ds (.list (ds.mergeSort (PySem.W.dataLe false id))) := by
  rintro B H v bh ⟨a, xs, rfl, hs, hd⟩ Q q
  refine ⟨a, xs, ds, rfl, hs, dpAll_mono bh _ _ hd, h1, h2, h3, fun p bs hp pm hw => ?_⟩
  have hb : DpAll K B (bs.map Prod.fst) (ds.mergeSort (PySem.W.dataLe false id)) := by
    rw [← hw]
    exact dpAll_pairs fun b hb => dp_zip hd b (pm.mem_iff.mp hb)
  exact q _ (upd B p (.lst (bs.map Prod.fst))) _ (fun z E => E.newF hp) (.lst (.inl (.inl upd_same)) (dpAll_mono (Evl.Ex.new (free_of bh hp)) _ _ hb))
/-! ints -/
def r1I (g : Int → V) : List V → Hp → VK → Prop := fun xs H Q => ∃ i, xs = [.int i] ∧ Q (g i) H
def r2I (g : Int → Int → V) : List V → Hp → VK → Prop := fun xs H Q => ∃ i j, xs = [.int i, .int j] ∧ Q (g i j) H
theorem ra_1I {g : Int → V} {i : Int} (hg : ∀ B, Dp K B (g i) d) (hk : k (.d d) cs) : RA K (r1I g) [.d (.int i)] cs k := by
  intro B H σ fr vs hl lv E Q q
  obtain ⟨v, rfl, E1⟩ := one_arg lv E
  have ev : some v = some (V.int i) := E1.int (List.mem_append_right _ (List.mem_cons_self ..))
  cases ev
  exact ⟨i, rfl, q _ (.d d) cs B H rfl ((E1.sub drop1).put ⟨_, rfl, hg B⟩ rfl) hk⟩
theorem ra_2I {g : Int → Int → V} {i j : Int} (hg : ∀ B, Dp K B (g i j) d) (hk : k (.d d) cs) : RA K (r2I g) [.d (.int i), .d (.int j)] cs k := by
  intro B H σ fr vs hl lv E Q q
  obtain ⟨v, v', rfl, E1⟩ := two_args lv E
  have ev : some v = some (V.int i) := E1.int (List.mem_append_right _ (List.mem_cons_self ..))
  have ev' : some v' = some (V.int j) := E1.int (List.mem_append_right _ (List.mem_cons_of_mem _ (List.mem_cons_self ..)))
  cases ev
  cases ev'
  exact ⟨i, j, rfl, q _ (.d d) cs B H rfl ((E1.sub drop2).put ⟨_, rfl, hg B⟩ rfl) hk⟩
def rIntOf : List V → Hp → VK → Prop := fun xs H Q => (∃ i, xs = [.int i] ∧ Q (.int i) H) ∨ ∃ b, xs = [.bl b] ∧ Q (.int (if b then 1 else 0)) H
theorem ra_intB {b : Bool} (hk : k (.d (.int (if b then 1 else 0))) cs) : RA K rIntOf [.d (.bool b)] cs k := by
  intro B H σ fr vs hl lv E Q q
  obtain ⟨v, rfl, E1⟩ := one_arg lv E
  have ev : some v = some (V.bl b) := E1.bl (List.mem_append_right _ (List.mem_cons_self ..))
  cases ev
  exact .inr ⟨b, rfl, q _ (.d (.int (if b then 1 else 0))) cs B H rfl ((E1.sub drop1).put ⟨_, rfl, .int _⟩ rfl) hk⟩
/-- repr of a tuple or list -/
theorem ra_repr (hs : (∃ ds, d = .tuple ds) ∨ ∃ ds, d = .list ds) (h1 : d.showable = true) (h2 : d.hasDict = false) (h3 : d.depth ≤ 60) (h4 : d.shown.length ≤ sizeLine) (hk : k (.d (.str d.shown)) cs) : RA K (rRepr K) [.d d] cs k := by
  intro B H σ fr vs hl lv E Q q
  obtain ⟨v, rfl, E1⟩ := one_arg lv E
  obtain ⟨w, ew, hw⟩ := E1.sl (some v, .d d) (List.mem_append_right _ (List.mem_cons_self ..))
  cases ew
  have hr : ∃ a, v = .ref a := by
    rcases hs with ⟨ds, rfl⟩ | ⟨ds, rfl⟩
    · cases hw; exact ⟨_, rfl⟩
    · cases hw; exact ⟨_, rfl⟩
  obtain ⟨a, rfl⟩ := hr
  exact ⟨a, d, rfl, dp_mono E1.bh _ _ hw, h1, h2, h3, h4, q _ (.d (.str d.shown)) cs B H rfl ((E1.sub drop1).put ⟨_, rfl, .str _⟩ rfl) hk⟩
/-! comparisons -/
def scalD : PyData → Option V
  | .none => some .non
  | .bool b => some (.bl b)
  | .int i => some (.int i)
  | .str s => some (.str s)
  | _ => none
theorem dp_scal {B : Hp} {v u : V} (h : Dp K B v d) (e : scalD d = some u) : v = u := by
  cases h <;> first | (cases e; rfl) | cases e
theorem rd_eq {d1 d2 : PyData} {u1 u2 : V} (e1 : scalD d1 = some u1) (e2 : scalD d2 = some u2) (hs : scal u1 u2 = true) (hk : k (.d (.bool (decide (u1 = u2)))) cs) : RD K rEq (.d d1) (.d d2) cs k := by
  intro B H σ fr v1 v2 hl E Q q
  obtain ⟨w1, x1, h1⟩ := E.sl (some v1, .d d1) (List.mem_append_right _ (List.mem_cons_of_mem _ (List.mem_cons_self ..)))
  obtain ⟨w2, x2, h2⟩ := E.sl (some v2, .d d2) (List.mem_append_right _ (List.mem_cons_self ..))
  cases x1
  cases x2
  rw [dp_scal h1 e1, dp_scal h2 e2]
  exact ⟨hs, q _ (.d (.bool (decide (u1 = u2)))) cs B H rfl ((E.sub drop2).put ⟨_, rfl, .bl _⟩ rfl) hk⟩
theorem rd_ne {d1 d2 : PyData} {u1 u2 : V} (e1 : scalD d1 = some u1) (e2 : scalD d2 = some u2) (hs : scal u1 u2 = true) (hk : k (.d (.bool (!decide (u1 = u2)))) cs) : RD K rNe (.d d1) (.d d2) cs k := by
  intro B H σ fr v1 v2 hl E Q q
  obtain ⟨w1, x1, h1⟩ := E.sl (some v1, .d d1) (List.mem_append_right _ (List.mem_cons_of_mem _ (List.mem_cons_self ..)))
  obtain ⟨w2, x2, h2⟩ := E.sl (some v2, .d d2) (List.mem_append_right _ (List.mem_cons_self ..))
  cases x1
  cases x2
  rw [dp_scal h1 e1, dp_scal h2 e2]
  exact ⟨hs, q _ (.d (.bool (!decide (u1 = u2)))) cs B H rfl ((E.sub drop2).put ⟨_, rfl, .bl _⟩ rfl) hk⟩
theorem rd_eqD {d1 d2 : PyData} (s1 : SeqAt.shaped d1 = true) (s2 : SeqAt.shaped d2 = true) (hk : k (.d (.bool (PyData.eqv d1 d2))) cs) : RD K (rEqD K) (.d d1) (.d d2) cs k := by
  intro B H σ fr v1 v2 hl E Q q
  obtain ⟨w1, x1, h1⟩ := E.sl (some v1, .d d1) (List.mem_append_right _ (List.mem_cons_of_mem _ (List.mem_cons_self ..)))
  obtain ⟨w2, x2, h2⟩ := E.sl (some v2, .d d2) (List.mem_append_right _ (List.mem_cons_self ..))
  cases x1
  cases x2
  exact ⟨d1, d2, dp_mono E.bh _ _ h1, dp_mono E.bh _ _ h2, s1, s2, q _ (.d (.bool (PyData.eqv d1 d2))) cs B H rfl ((E.sub drop2).put ⟨_, rfl, .bl _⟩ rfl) hk⟩
theorem rd_neD {d1 d2 : PyData} (s1 : SeqAt.shaped d1 = true) (s2 : SeqAt.shaped d2 = true) (hk : k (.d (.bool (!PyData.eqv d1 d2))) cs) : RD K (rNeD K) (.d d1) (.d d2) cs k := by
  intro B H σ fr v1 v2 hl E Q q
  obtain ⟨w1, x1, h1⟩ := E.sl (some v1, .d d1) (List.mem_append_right _ (List.mem_cons_of_mem _ (List.mem_cons_self ..)))
  obtain ⟨w2, x2, h2⟩ := E.sl (some v2, .d d2) (List.mem_append_right _ (List.mem_cons_self ..))
  cases x1
  cases x2
  exact ⟨d1, d2, dp_mono E.bh _ _ h1, dp_mono E.bh _ _ h2, s1, s2, q _ (.d (.bool (!PyData.eqv d1 d2))) cs B H rfl ((E.sub drop2).put ⟨_, rfl, .bl _⟩ rfl) hk⟩
end
end Dx
/-! Part 9: defs by name; built-ins' rules in the readings' words. -/
namespace Dx
open PySem PySem.Spec PyProof.Rows L2 Gu
/-- a def of the text, by its name: its promise in words of cells -/
def Cal (P : Program) (w : World) (K : PySem.W.Frag) (mg : Str → Option Value) (base : Heap) (lvl : Nat) (x : Str) (ps : List Str) (S : List Cell → KC → Prop) : Prop :=
  ∃ (a : Addr) (fd : FuncData), FnOk P w K mg base CX0 lvl a fd ps (spC K S) ∧ mg x = some (.ref a) ∧ PySem.W.keepIn K (.ref a) = true ∧ Binds K fd ps []
def CalG (P : Program) (w : World) (K : PySem.W.Frag) (mg : Str → Option Value) (base : Heap) (lvl : Nat) (x : Str) (ps : List Str) (S : List Cell → KC → Prop) : Prop :=
  ∃ (a : Addr) (fd : FuncData), FnG P w K mg base CX0 lvl a fd ps (spC K S) ∧ mg x = some (.ref a) ∧ PySem.W.keepIn K (.ref a) = true ∧ Binds K fd ps []
/-- the same, called by keywords alone -/
def CalK (P : Program) (w : World) (K : PySem.W.Frag) (mg : Str → Option Value) (base : Heap) (lvl : Nat) (x : Str) (ps ks : List Str) (g : List Value → List Value → List Value) (gV : List V → List V → List V) (S : List Cell → KC → Prop) : Prop :=
  ∃ (a : Addr) (fd : FuncData), FnOk P w K mg base CX0 lvl a fd ps (spC K S) ∧ mg x = some (.ref a) ∧ PySem.W.keepIn K (.ref a) = true ∧ KBinds K fd ps ks g gV
section
variable {X : Cx} {lvl : Nat} {x : Str} {ps : List Str} {S : List Cell → KC → Prop} {p pos : Pos} {e : Expr} {es : List Expr} {t : TA}
theorem pe_cal (C : Cal X.prog X.w X.K X.mg X.base lvl x ps S) (hr : Room lvl X.A) (hg : Gl X x) (ha : PA X (e :: es) t) (hdb : (x == ("__debug__" : Str)) = false := by decide)
    (he : starEach (e :: es) X.env = (false, eval e X.env) :: starEach es X.env := by rfl) (hpl : (backTo pos (starEach es X.env)).any (·.1) = false := by rfl) :
    PE X (.Call (.Name x p) (e :: es) [] pos) (tCall (spC X.K S) [] E0 t) := by
  obtain ⟨a, fd, F, hm, hk, hb⟩ := C
  exact pe_call F hr hg hm hk hb .nil pass0 ha hdb he hpl
theorem pe_calG (C : CalG X.prog X.w X.K X.mg X.base lvl x ps S) (hr : Room lvl X.A) (hgd : X.A.guards = some []) (hg : Gl X x) (ha : PA X (e :: es) t) (hdb : (x == ("__debug__" : Str)) = false := by decide)
    (he : starEach (e :: es) X.env = (false, eval e X.env) :: starEach es X.env := by rfl) (hpl : (backTo pos (starEach es X.env)).any (·.1) = false := by rfl) :
    PE X (.Call (.Name x p) (e :: es) [] pos) (tCall (spC X.K S) [] E0 t) := by
  obtain ⟨a, fd, F, hm, hk, hb⟩ := C
  exact pe_callG F hr hgd hg hm hk hb .nil pass0 ha hdb he hpl
def tCalK0 (sp : Sp) (gV : List V → List V → List V) (tk : TA) : TE := fun σ H Q => tk σ H fun zs H2 => sp (gV [] zs) H2 Q E0
theorem pe_calK0 {ks : List Str} {g : List Value → List Value → List Value} {gV : List V → List V → List V} {kws : List Keyword} {tk : TA} (C : CalK X.prog X.w X.K X.mg X.base lvl x ps ks g gV S) (hr : Room lvl X.A) (hg : Gl X x) (hkw : PK X kws tk)
    (hall : (backToKw pos (keywordEach kws X.env)).all (·.1.isSome) = true := by rfl) (hks : (backToKw pos (keywordEach kws X.env)).filterMap (·.1) = ks := by rfl) (hdb : (x == ("__debug__" : Str)) = false := by decide)
    (hpl : ((backTo pos (starEach [] X.env)).any (·.1) || (backToKw pos (keywordEach kws X.env)).any (·.1.isNone)) = false := by rfl) :
    PE X (.Call (.Name x p) [] kws pos) (tCalK0 (spC X.K S) gV tk) := by
  obtain ⟨a, fd, F, hm, hk, hb⟩ := C
  refine ⟨fun pins s σ H Q I h => wpAny_Call_Name_kw (ld_glob I hg hm ?_ hdb)⟩
  refine PySem.W.callWith_KW0 (h₀ := X.base) I.ok.mod.kin hk hall (thn (hkw.run pos pins s σ H _ I h) fun ws s2 ⟨zs, H2, I2, rz, q2⟩ => ⟨I2.kIn, ?_⟩) hpl
  rw [hks]
  exact run_fnk (us := []) (vs := []) F hr hb pass0 I2 .nil rz q2
theorem op_powW : OpR X (binaryOp .Pow) (rI (fun i j => 0 ≤ j ∧ (Builtin.Int.intBits i : Int) * j ≤ 2 ^ 27) fun i j => .int (i ^ j.toNat)) := opI fun _ _ _ _ _ _ _ hc q => pow_int hc.1 hc.2 q
theorem cr_len : CallR X (.builtin "len") (rLenSq X.K) := call_len_seq
theorem cr_tuple : CallR X (.type "tuple") (rTupleOf X.K) := call_tuple_of
theorem cr_abs : CallR X (.builtin "abs") (r1I fun i => .int (if i < 0 then -i else i)) := call_abs
theorem cr_max2 (hc : X.calm = true) : CallR X (.builtin "max") (r2I fun i j => .int (if j > i then j else i)) := call_max2 hc
theorem cr_min2 (hc : X.calm = true) : CallR X (.builtin "min") (r2I fun i j => .int (if j < i then j else i)) := call_min2 hc
theorem cr_int : CallR X (.type "int") rIntOf := call_int1
end
section
variable {K : PySem.W.Frag} {cs : List Cell} {k : KC} {tk : TA}
theorem perm_args {B H : Hp} {vs vs' : List V} {cl cl' : List Cell} {z : List Sm} (p : ((vs'.map some).zip cl').Perm ((vs.map some).zip cl)) (E : Env K B H ((vs.map some).zip cl ++ z)) : Env K B H ((vs'.map some).zip cl' ++ z) := E.perm (List.Perm.append p (List.Perm.refl _))
/-- f(a=.., b=..) with two keywords in the other order, data alone -/
theorem we_calK2 {S : List Cell → KC → Prop} {gV : List V → List V → List V} (hgv : ∀ a b, gV [] [a, b] = [b, a]) (h : WA K tk cs fun cl cs1 => ∃ d1 d2, cl = [.d d1, .d d2] ∧ S [.d d2, .d d1] fun c _ => k c cs1) : WE K (tCalK0 (spC K S) gV tk) cs k := by
  intro B H σ fr hl E Q q
  refine h B H σ fr hl E _ fun vs cl cs1 B1 H1 lv l1 E1 ⟨d1, d2, e, hS⟩ => ?_
  subst e
  match vs, lv with
  | [a, b], _ =>
    rw [hgv]
    have E2 : Env K B1 H1 (σ.zip cs1 ++ (some a, .d d1) :: (some b, .d d2) :: fr) := E1
    refine ⟨B1, [.d d2, .d d1], σ.zip cs1 ++ fr, _, rfl, ?_, hS, fun v c cl2 B2 H2 l2 E3 hk => ?_⟩
    · have E3 := envF.mp E2
      have E4 : Env K B1 H1 ((some a, .d d1) :: (some b, .d d2) :: (σ.zip cs1 ++ fr)) := E3.perm (List.Perm.cons _ List.perm_middle.symm)
      exact E4.swap
    · have E4 : Env K B2 H2 (σ.zip cs1 ++ (some v, c) :: fr) := (E3.sub (List.sublist_append_right _ _)).perm List.perm_middle
      exact q v c cs1 B2 H2 (by omega) E4 hk
end
end Dx
/-! Part 10: comprehensions that change nothing; sorted lists of a kind; dicts. -/
namespace Dx
open PySem PySem.Spec PyProof.Rows L2 Gu
section
variable {K : PySem.W.Frag} {cs : List Cell} {k : KC} {ta tb te tl : TE} {tr : TA} {tt : TT} {g : TG} {β : Type}
/-- what a turn of a plain comprehension hands on -/
def Turns (p : β → Bool) (f : β → PyData) (vs : List Nat) (W : List Cell) (b : β) (cs : List Cell) (y : PyData) : Prop := y = f b ∧ p b = true ∧ wipeC cs vs = W
def Skips (p : β → Bool) (vs : List Nat) (W : List Cell) (b : β) (cs : List Cell) : Prop := p b = false ∧ wipeC cs vs = W
theorem take_step {bs : List β} {i : Nat} {b : β} {p : β → Bool} {f : β → PyData} (h : bs[i]? = some b) : ((bs.take (i + 1)).filter p).map f = ((bs.take i).filter p).map f ++ if p b = true then [f b] else [] := by
  rw [List.take_add_one, h, List.filter_append, List.map_append]
  congr 1
  show (List.filter p [b]).map f = _
  by_cases hp : p b = true
  · rw [List.filter_cons_of_pos hp, if_pos hp]
    rfl
  · rw [List.filter_cons_of_neg hp, if_neg hp]
    rfl
theorem we_lcTp {vs js : List Nat} (bs : List β) (enc : β → PyData) (p : β → Bool) (f : β → PyData) (hg : Tg g js) (hj : ∀ j ∈ js, j ∈ vs) (hz : bs.length ≤ 99999)
    (h : WE K tl cs fun c cs1 => c = .d (.tuple (bs.map enc)) ∧ (∀ b ∈ bs, WG K g (wipeC cs1 vs) (.d (enc b)) fun cs2 => WT K tt cs2 fun t cs3 => BB t (WE K te cs3 fun c cs4 => IsD c fun y => Turns p f vs (wipeC cs1 vs) b cs4 y) (Skips p vs (wipeC cs1 vs) b cs3)) ∧ ∀ a, k (.m a (.lst ((bs.filter p).map f))) (wipeC cs1 vs)) :
    WE K (tLc (iTup K tl) g tt te vs) cs k := by
  refine we_lcT hg hj (h.imp ?_)
  rintro c cs1 ⟨rfl, hs, hk⟩
  refine ⟨_, rfl, by rw [List.length_map]; exact hz, fun i acc cs' => acc = ((bs.take i).filter p).map f ∧ cs' = wipeC cs1 vs, ⟨by simp, rfl⟩, ?_, ?_⟩
  · rintro i d acc cs' hd ⟨rfl, rfl⟩
    rw [List.getElem?_map] at hd
    obtain ⟨b, hb, rfl⟩ := Option.map_eq_some_iff.mp hd
    intro B H σ fr v hl E Q q
    refine hs b (List.mem_of_getElem? hb) B H σ fr v hl E Q fun σ2 cs2 l2 l3 E2 ht => q σ2 cs2 l2 l3 E2 ?_
    intro B H σ fr hl E Q q
    refine ht B H σ fr hl E Q fun t cs3 B3 H3 l4 E3 hb2 => q t cs3 B3 H3 l4 E3 ⟨fun e => (hb2.1 e).imp ?_, fun e => ?_⟩
    · rintro c cs4 ⟨y, rfl, rfl, hp, hw⟩
      exact ⟨f b, rfl, by rw [take_step hb, if_pos hp], hw⟩
    · obtain ⟨hp, hw⟩ := hb2.2 e
      exact ⟨by rw [take_step hb, if_neg (by rw [hp]; decide), List.append_nil], hw⟩
  · rintro acc cs' _ ⟨rfl, rfl⟩ a
    rw [List.length_map, List.take_length]
    exact hk a
theorem we_lcLp {vs js : List Nat} (bs : List β) (enc : β → PyData) (p : β → Bool) (f : β → PyData) (hg : Tg g js) (hj : ∀ j ∈ js, j ∈ vs) (hz : bs.length ≤ 99999)
    (h : WE K tl cs fun c cs1 => c = .d (.list (bs.map enc)) ∧ (∀ b ∈ bs, WG K g (wipeC cs1 vs) (.d (enc b)) fun cs2 => WT K tt cs2 fun t cs3 => BB t (WE K te cs3 fun c cs4 => IsD c fun y => Turns p f vs (wipeC cs1 vs) b cs4 y) (Skips p vs (wipeC cs1 vs) b cs3)) ∧ ∀ a, k (.m a (.lst ((bs.filter p).map f))) (wipeC cs1 vs)) :
    WE K (tLc (iList K tl) g tt te vs) cs k := by
  refine we_lcL hg hj (h.imp ?_)
  rintro c cs1 ⟨rfl, hs, hk⟩
  refine ⟨_, rfl, by rw [List.length_map]; exact hz, fun i acc cs' => acc = ((bs.take i).filter p).map f ∧ cs' = wipeC cs1 vs, ⟨by simp, rfl⟩, ?_, ?_⟩
  · rintro i d acc cs' hd ⟨rfl, rfl⟩
    rw [List.getElem?_map] at hd
    obtain ⟨b, hb, rfl⟩ := Option.map_eq_some_iff.mp hd
    intro B H σ fr v hl E Q q
    refine hs b (List.mem_of_getElem? hb) B H σ fr v hl E Q fun σ2 cs2 l2 l3 E2 ht => q σ2 cs2 l2 l3 E2 ?_
    intro B H σ fr hl E Q q
    refine ht B H σ fr hl E Q fun t cs3 B3 H3 l4 E3 hb2 => q t cs3 B3 H3 l4 E3 ⟨fun e => (hb2.1 e).imp ?_, fun e => ?_⟩
    · rintro c cs4 ⟨y, rfl, rfl, hp, hw⟩
      exact ⟨f b, rfl, by rw [take_step hb, if_pos hp], hw⟩
    · obtain ⟨hp, hw⟩ := hb2.2 e
      exact ⟨by rw [take_step hb, if_neg (by rw [hp]; decide), List.append_nil], hw⟩
  · rintro acc cs' _ ⟨rfl, rfl⟩ a
    rw [List.length_map, List.take_length]
    exact hk a
/-! sorted, by an order of one's own -/
theorem bl_sortedBy {bs : List β} {enc : β → PyData} {le : β → β → Bool} (hle : ∀ a ∈ bs, ∀ b ∈ bs, le a b = PySem.W.dataLe false id (enc a) (enc b)) (h1 : PySem.W.AllAlike (bs.map enc)) (h2 : PySem.W.Sortable (bs.map enc)) (h3 : ∀ d ∈ bs.map enc, d.depth ≤ 60) :
    BL K (rSortD K) (bs.map enc) (.list ((bs.mergeSort le).map enc)) := by
  have e := PySem.W.sort_maps (r := le) (s := PySem.W.dataLe false id) enc hle
  rw [e]
  exact bl_sorted h1 h2 h3
theorem bl_sortI {ns : List Int} {le : Int → Int → Bool} (hle : ∀ a b, le a b = decide (a ≤ b)) : BL K (rSortD K) (ns.map PyData.int) (.list ((ns.mergeSort le).map PyData.int)) := by
  refine bl_sortedBy (fun a _ b _ => ?_) ?_ ?_ ?_
  · rw [hle]
    exact (congrFun (congrFun (PySem.W.dataLe_int (β := Int) id) a) b).symm
  · intro d hd d' hd'
    obtain ⟨x, _, rfl⟩ := List.mem_map.mp hd
    obtain ⟨y, _, rfl⟩ := List.mem_map.mp hd'
    rfl
  · right
    intro d hd
    obtain ⟨x, _, rfl⟩ := List.mem_map.mp hd
    exact ⟨(by intro z; cases z), (by intro xs z; cases z)⟩
  · intro d hd
    obtain ⟨x, _, rfl⟩ := List.mem_map.mp hd
    exact Nat.le_of_ble_eq_true rfl
theorem bl_sortII {bs : List β} {x y : β → Int} {le : β → β → Bool} (hle : ∀ a b, le a b = decide (x a < x b ∨ (x a = x b ∧ y a ≤ y b))) : BL K (rSortD K) (bs.map fun b => .tuple [.int (x b), .int (y b)]) (.list ((bs.mergeSort le).map fun b => .tuple [.int (x b), .int (y b)])) := by
  refine bl_sortedBy (fun a _ b _ => ?_) ?_ ?_ ?_
  · rw [hle]
    exact (congrFun (congrFun (PySem.W.dataLe_ii x y) a) b).symm
  · intro d hd d' hd'
    obtain ⟨x, _, rfl⟩ := List.mem_map.mp hd
    obtain ⟨y, _, rfl⟩ := List.mem_map.mp hd'
    rfl
  · left
    intro d hd
    obtain ⟨x, _, rfl⟩ := List.mem_map.mp hd
    exact ⟨_, _, rfl⟩
  · intro d hd
    obtain ⟨x, _, rfl⟩ := List.mem_map.mp hd
    exact Nat.le_of_ble_eq_true rfl
/-! dicts with int and text keys -/
def keyD : Key → PyData
  | .inl i => .int i
  | .inr s => .str s
theorem dp_key {B : Hp} {v : V} : ∀ {key : Key}, Dp K B v (keyD key) → v = kV key
  | .inl _, h => by cases h; rfl
  | .inr _, h => by cases h; rfl
def valP (kvs : List (Key × PyData)) (key : Key) : Option PyData := (kvs.find? fun kv => decide (kv.1 = key)).map (·.2)
def putP (kvs : List (Key × PyData)) (key : Key) (v : PyData) : List (Key × PyData) :=
  if (kvs.any fun kv => decide (kv.1 = key)) = true then kvs.map (fun kv => if kv.1 = key then (kv.1, v) else kv) else kvs ++ [(key, v)]
def mergeP (kvs more : List (Key × PyData)) : List (Key × PyData) := more.foldl (fun acc kv => putP acc kv.1 kv.2) kvs
theorem kv_val {B : Hp} {key : Key} : ∀ {ps : List (Key × V)} {kvs : List (Key × PyData)}, kvOk K B ps kvs → ∀ {x : PyData}, valP kvs key = some x → ∃ v, valV ps key = some v ∧ Dp K B v x
  | [], [], _, x, h => by cases h
  | p :: ps, q :: qs, ⟨e1, e2, e3⟩, x, h => by
    by_cases e : q.1 = key
    · have hx : q.2 = x := by
        simp only [valP, List.find?_cons, e, decide_true] at h
        exact Option.some.inj h
      exact ⟨p.2, valV_pos (e1.trans e), by rw [← hx]; exact e2⟩
    · have h' : valP qs key = some x := by
        simp only [valP, List.find?_cons, e, decide_false] at h
        exact h
      obtain ⟨v, h1, h2⟩ := kv_val e3 h'
      exact ⟨v, by rw [valV_neg (fun z => e (e1.symm.trans z))]; exact h1, h2⟩
  | [], _ :: _, h, _, _ => h.elim
  | _ :: _, [], h, _, _ => h.elim
theorem kv_none {B : Hp} {key : Key} : ∀ {ps : List (Key × V)} {kvs : List (Key × PyData)}, kvOk K B ps kvs → valP kvs key = none → valV ps key = none
  | [], [], _, _ => rfl
  | p :: ps, q :: qs, ⟨e1, e2, e3⟩, h => by
    by_cases e : q.1 = key
    · simp only [valP, List.find?_cons, e, decide_true] at h
      cases h
    · have h' : valP qs key = none := by
        simp only [valP, List.find?_cons, e, decide_false] at h
        exact h
      rw [valV_neg (fun z => e (e1.symm.trans z))]
      exact kv_none e3 h'
  | [], _ :: _, h, _ => h.elim
  | _ :: _, [], h, _ => h.elim
theorem kv_any {B : Hp} {key : Key} : ∀ {ps : List (Key × V)} {kvs : List (Key × PyData)}, kvOk K B ps kvs → (ps.any fun kv => decide (kv.1 = key)) = kvs.any fun kv => decide (kv.1 = key)
  | [], [], _ => rfl
  | p :: ps, q :: qs, ⟨e1, _, e3⟩ => by rw [List.any_cons, List.any_cons, e1, kv_any e3]
  | [], _ :: _, h => h.elim
  | _ :: _, [], h => h.elim
theorem kv_map {B : Hp} {key : Key} {v : V} {x : PyData} (hv : Dp K B v x) : ∀ {ps : List (Key × V)} {kvs : List (Key × PyData)}, kvOk K B ps kvs → kvOk K B (ps.map fun kv => if kv.1 = key then (kv.1, v) else kv) (kvs.map fun kv => if kv.1 = key then (kv.1, x) else kv)
  | [], [], _ => trivial
  | p :: ps, q :: qs, ⟨e1, e2, e3⟩ => by
    refine ⟨?_, ?_, kv_map hv e3⟩
    · show (if p.1 = key then (p.1, v) else p).1 = (if q.1 = key then (q.1, x) else q).1
      by_cases e : q.1 = key
      · rw [if_pos (e1.trans e), if_pos e]
        exact e1
      · rw [if_neg (fun z => e (e1.symm.trans z)), if_neg e]
        exact e1
    · show Dp K B (if p.1 = key then (p.1, v) else p).2 (if q.1 = key then (q.1, x) else q).2
      by_cases e : q.1 = key
      · rw [if_pos (e1.trans e), if_pos e]
        exact hv
      · rw [if_neg (fun z => e (e1.symm.trans z)), if_neg e]
        exact e2
  | [], _ :: _, h => h.elim
  | _ :: _, [], h => h.elim
theorem kv_snoc {B : Hp} {key : Key} {v : V} {x : PyData} (hv : Dp K B v x) : ∀ {ps : List (Key × V)} {kvs : List (Key × PyData)}, kvOk K B ps kvs → kvOk K B (ps ++ [(key, v)]) (kvs ++ [(key, x)])
  | [], [], _ => ⟨rfl, hv, trivial⟩
  | p :: ps, q :: qs, ⟨e1, e2, e3⟩ => ⟨e1, e2, kv_snoc hv e3⟩
  | [], _ :: _, h => h.elim
  | _ :: _, [], h => h.elim
theorem kv_put {B : Hp} {key : Key} {v : V} {x : PyData} (hv : Dp K B v x) {ps : List (Key × V)} {kvs : List (Key × PyData)} (h : kvOk K B ps kvs) : kvOk K B (putK ps key v) (putP kvs key x) := by
  unfold putK putP
  rw [kv_any h]
  split
  · exact kv_map hv h
  · exact kv_snoc hv h
theorem kv_merge {B : Hp} : ∀ {more : List (Key × V)} {md : List (Key × PyData)} {ps : List (Key × V)} {kvs : List (Key × PyData)}, kvOk K B more md → kvOk K B ps kvs → kvOk K B (mergeK ps more) (mergeP kvs md)
  | [], [], _, _, _, h => h
  | p :: more, q :: md, ps, kvs, ⟨e1, e2, e3⟩, h => by
    show kvOk K B (mergeK (putK ps p.1 p.2) more) (mergeP (putP kvs q.1 q.2) md)
    rw [e1]
    exact kv_merge e3 (kv_put e2 h)
  | [], _ :: _, _, _, h, _ => h.elim
  | _ :: _, [], _, _, h, _ => h.elim
def rDictP (K : PySem.W.Frag) : List V → Hp → VK → Prop := fun xs H Q => ∃ (a : Addr) (ps : List Addr) (kvs : List (Key × V)), xs = [.ref a] ∧ SqL K H a (ps.map V.ref) ∧ Paired (fun p kv => SqT K H p [kV kv.1, kv.2]) ps kvs ∧
    ∀ p, H p = none → Q (.ref p) (upd H p (.dK (mergeK [] kvs)))
theorem dp_tup {B : Hp} {v : V} {ds : List PyData} (h : Dp K B v (.tuple ds)) : ∃ a us, v = .ref a ∧ SqT K B a us ∧ DpAll K B us ds := by
  cases h with
  | tup hs ha => exact ⟨_, _, rfl, hs, ha⟩
theorem dp_two {B : Hp} {us : List V} {d1 d2 : PyData} (h : DpAll K B us [d1, d2]) : ∃ u v, us = [u, v] ∧ Dp K B u d1 ∧ Dp K B v d2 := by
  cases h with
  | cons h1 h2 =>
    cases h2 with
    | cons h3 h4 =>
      cases h4
      exact ⟨_, _, rfl, h1, h3⟩
theorem pairs_of {B H : Hp} (bh : Ex B H) {kf : β → Key} {vf : β → PyData} : ∀ {bs : List β} {xs : List V}, DpAll K B xs (bs.map fun b => .tuple [keyD (kf b), vf b]) → ∃ (ps : List Addr) (kvs : List (Key × V)), xs = ps.map V.ref ∧ Paired (fun p kv => SqT K H p [kV kv.1, kv.2]) ps kvs ∧ kvOk K B kvs (bs.map fun b => (kf b, vf b))
  | [], _, h => by cases h; exact ⟨[], [], rfl, .nil, trivial⟩
  | b :: bs, _, h => by
    cases h with
    | cons h1 h2 =>
      obtain ⟨ps, kvs, e1, e2, e3⟩ := pairs_of bh h2
      obtain ⟨a, us, rfl, hs, ha⟩ := dp_tup h1
      obtain ⟨u, v, rfl, hu, hv⟩ := dp_two ha
      obtain rfl := dp_key hu
      exact ⟨a :: ps, (kf b, v) :: kvs, by rw [e1, List.map_cons], .cons (Evl.ex_t bh hs) e2, rfl, hv, e3⟩
theorem ra_dictP {kf : β → Key} {vf : β → PyData} {bs : List β} (hk : ∀ a, k (.m a (.dic (mergeP [] (bs.map fun b => (kf b, vf b))))) cs) : RA K (rDictP K) [.d (.list (bs.map fun b => .tuple [keyD (kf b), vf b]))] cs k := by
  intro B H σ fr vs hl lv E Q q
  obtain ⟨v, rfl, E1⟩ := one_arg lv E
  obtain ⟨w, ew, hw⟩ := E1.sl (some v, .d _) (List.mem_append_right _ (List.mem_cons_self ..))
  cases ew
  cases hw with
  | @lst a xs _ hs ha =>
    obtain ⟨ps, kvs, e1, e2, e3⟩ := pairs_of E1.bh ha
    subst e1
    refine ⟨a, ps, kvs, rfl, Evl.ex_l E1.bh hs, e2, fun p hp => ?_⟩
    have E2 := E1.sub drop1
    exact q (.ref p) (.m p (.dic _)) cs B _ rfl ((E2.newO hp).putM ⟨rfl, free_of E1.bh hp, _, upd_same, _, rfl, kv_merge (ps := []) (kvs := []) e3 trivial⟩ (E2.newM hp)) (hk p)
/-- d[e], d a dict of one's own -/
theorem we_dget {i : Nat} {a : Addr} {mo : MO} (h0 : cs[i]? = some (.m a mo)) (h : WE K tb cs fun c cs2 => ∃ kvs key x, cs2[i]? = some (.m a (.dic kvs)) ∧ c = .d (keyD key) ∧ valP kvs key = some x ∧ k (.d x) cs2) : WE K (tDGet (tVar i) tb) cs k := by
  intro B H σ fr hl E Q q
  obtain ⟨o, ho, hm⟩ := zip_mem hl h0
  obtain ⟨eo, _⟩ := E.sl _ (List.mem_append_left _ hm)
  have eo' : o = some (V.ref a) := eo
  subst eo'
  refine ⟨.ref a, ho, h B H σ fr hl E _ fun v c cs2 B2 H2 l2 E2 ⟨kvs, key, x, h1, h2, h3, hk⟩ => ?_⟩
  subst h2
  obtain ⟨w, ew, hw⟩ := E2.sl (some v, .d (keyD key)) (List.mem_append_right _ (List.mem_cons_self ..))
  cases ew
  have := dp_key hw
  subst this
  obtain ⟨o2, ho2, hm2⟩ := zip_mem (σ := σ) (by omega) h1
  obtain ⟨_, _, ob, hob, ps, e, hd⟩ := E2.sl _ (List.mem_append_left _ hm2)
  subst e
  obtain ⟨u, hu, hdu⟩ := kv_val hd h3
  refine ⟨a, u, rfl, ?_, q u (.d x) cs2 B2 H2 l2 ((E2.sub drop1).put ⟨u, rfl, hdu⟩ rfl) hk⟩
  have g : DGet H2 a (kV key) (valV ps key) := DGet.k hob
  rw [hu] at g
  exact g
end
section
variable {X : Cx}
theorem cr_dictP (hc : X.calm = true) : CallR X (.type "dict") (rDictP X.K) := call_dictP hc
end
end Dx
/-! Part 11: tame data (it can be shown and compared); dicts of different keys. -/
namespace Dx
open PySem PySem.Spec PyProof.Rows L2 Gu
/-- depth at most k, bulk at most b, ints below 10 ^ 12 -/
structure Gd (k b : Nat) (d : PyData) : Prop where
  sh : d.showable = true
  hd : d.hasDict = false
  dp : d.depth ≤ k
  lv : d.leavesShort 13 = true
  cl : d.canLay0 = true
  bk : d.bulk ≤ b
theorem Gd.mono {k b k' b' : Nat} {d : PyData} (h : Gd k b d) (h1 : k ≤ k') (h2 : b ≤ b') : Gd k' b' d := ⟨h.sh, h.hd, Nat.le_trans h.dp h1, h.lv, h.cl, Nat.le_trans h.bk h2⟩
theorem gd_none : Gd 0 0 .none := ⟨rfl, rfl, Nat.le_refl _, rfl, rfl, Nat.le_refl _⟩
theorem gd_bool {b : Bool} : Gd 0 0 (.bool b) := ⟨rfl, rfl, Nat.le_refl _, rfl, rfl, Nat.le_refl _⟩
theorem gd_int {i : Int} (h1 : -999999999999 ≤ i) (h2 : i ≤ 999999999999) : Gd 0 0 (.int i) := by
  have h : i.natAbs < 10 ^ 12 := by omega
  refine ⟨decide_eq_true ?_, rfl, Nat.le_refl _, decide_eq_true (PyData.shown_int_le h), rfl, Nat.le_refl _⟩
  have h2 : i.natAbs < 2 ^ 1920 := Nat.lt_trans h (by decide +kernel)
  by_cases h0 : i.natAbs = 0
  · rw [h0]
    decide
  · exact (Nat.log2_lt h0).mpr h2
theorem gd_all {k b : Nat} : ∀ {ds : List PyData}, (∀ d ∈ ds, Gd k b d) → PyData.showableAll ds = true ∧ PyData.hasDictAll ds = false ∧ PyData.depthAll ds ≤ k ∧ PyData.leavesShortAll 13 ds = true ∧ PyData.canLayAll0 ds = true ∧ PyData.bulkAll ds ≤ ds.length * (b + 1)
  | [], _ => ⟨rfl, rfl, Nat.zero_le _, rfl, rfl, Nat.zero_le _⟩
  | d :: ds, h => by
    have g := h d (List.mem_cons_self ..)
    obtain ⟨h1, h2, h3, h4, h5, h6⟩ := gd_all (ds := ds) fun x hx => h x (List.mem_cons_of_mem _ hx)
    refine ⟨?_, ?_, ?_, ?_, ?_, ?_⟩
    · show (d.showable && PyData.showableAll ds) = true
      rw [g.sh, h1]
      rfl
    · show (d.hasDict || PyData.hasDictAll ds) = false
      rw [g.hd, h2]
      rfl
    · show max d.depth (PyData.depthAll ds) ≤ k
      exact Nat.max_le.mpr ⟨g.dp, h3⟩
    · show (d.leavesShort 13 && PyData.leavesShortAll 13 ds) = true
      rw [g.lv, h4]
      rfl
    · show (d.canLay0 && PyData.canLayAll0 ds) = true
      rw [g.cl, h5]
      rfl
    · show d.bulk + 1 + PyData.bulkAll ds ≤ (ds.length + 1) * (b + 1)
      have := g.bk
      rw [Nat.add_mul]
      omega
theorem gd_tuple {k b n : Nat} {ds : List PyData} (h : ∀ d ∈ ds, Gd k b d) (hn : ds.length ≤ n) : Gd (k + 1) (n * (b + 1)) (.tuple ds) := by
  obtain ⟨h1, h2, h3, h4, h5, h6⟩ := gd_all h
  exact ⟨h1, h2, Nat.succ_le_succ h3, h4, h5, Nat.le_trans h6 (Nat.mul_le_mul_right _ hn)⟩
theorem gd_list {k b n : Nat} {ds : List PyData} (h : ∀ d ∈ ds, Gd k b d) (hn : ds.length ≤ n) : Gd (k + 1) (n * (b + 1)) (.list ds) := by
  obtain ⟨h1, h2, h3, h4, h5, h6⟩ := gd_all h
  exact ⟨h1, h2, Nat.succ_le_succ h3, h4, h5, Nat.le_trans h6 (Nat.mul_le_mul_right _ hn)⟩
theorem Gd.shaped {k b : Nat} {d : PyData} (h : Gd k b d) (hk : k ≤ 60) : SeqAt.shaped d = true := by
  unfold SeqAt.shaped
  rw [h.cl, decide_eq_true (show d.depth ≤ 64 by have := h.dp; omega)]
  rfl
theorem Gd.fits {k b : Nat} {d : PyData} (h : Gd k b d) (hb : b ≤ 2 ^ 20) : d.shown.length ≤ sizeLine := PyData.shown_fits_bulk (B := 13) (by decide) (by decide) h.lv (Nat.le_trans h.bk hb)
theorem Gd.eqv {k b : Nat} {d : PyData} (h : Gd k b d) : PyData.eqv d d = true := SeqAt.eqv_refl d h.cl
section
variable {K : PySem.W.Frag} {cs : List Cell} {k : KC}
theorem ra_reprT {n b : Nat} {ds : List PyData} (h : Gd n b (.tuple ds)) (hn : n ≤ 60) (hb : b ≤ 2 ^ 20) (hk : k (.d (.str (PyData.shown (.tuple ds)))) cs) : RA K (rRepr K) [.d (.tuple ds)] cs k :=
  ra_repr (.inl ⟨ds, rfl⟩) h.sh h.hd (Nat.le_trans h.dp hn) (h.fits hb) hk
theorem ra_reprL {n b : Nat} {ds : List PyData} (h : Gd n b (.list ds)) (hn : n ≤ 60) (hb : b ≤ 2 ^ 20) (hk : k (.d (.str (PyData.shown (.list ds)))) cs) : RA K (rRepr K) [.d (.list ds)] cs k :=
  ra_repr (.inr ⟨ds, rfl⟩) h.sh h.hd (Nat.le_trans h.dp hn) (h.fits hb) hk
end
/-! dicts whose keys differ -/
theorem putP_new {kvs : List (Key × PyData)} {key : Key} {v : PyData} (h : key ∉ kvs.map Prod.fst) : putP kvs key v = kvs ++ [(key, v)] := by
  unfold putP
  rw [if_neg]
  intro e
  obtain ⟨p, hp, he⟩ := List.any_eq_true.mp e
  exact h (List.mem_map.mpr ⟨p, hp, of_decide_eq_true he⟩)
theorem mergeP_new : ∀ {more kvs : List (Key × PyData)}, ((kvs ++ more).map Prod.fst).Nodup → mergeP kvs more = kvs ++ more
  | [], kvs, _ => by simp [mergeP]
  | q :: more, kvs, h => by
    show mergeP (putP kvs q.1 q.2) more = _
    have hq : q.1 ∉ kvs.map Prod.fst := by
      rw [List.map_append, List.map_cons] at h
      have := (List.nodup_append.mp h).2.2
      intro hm
      exact this _ hm _ (List.mem_cons_self ..) rfl
    rw [putP_new hq, mergeP_new (by rw [List.append_assoc]; exact h), List.append_assoc]
    rfl
theorem valP_mem : ∀ {kvs : List (Key × PyData)} {key : Key} {v : PyData}, (kvs.map Prod.fst).Nodup → (key, v) ∈ kvs → valP kvs key = some v
  | [], _, _, _, h => by cases h
  | q :: kvs, key, v, hn, h => by
    obtain ⟨h1, h2⟩ := List.nodup_cons.mp (show (q.1 :: kvs.map Prod.fst).Nodup from hn)
    rcases List.mem_cons.mp h with rfl | h
    · simp [valP]
    · have ne : ¬ q.1 = key := fun e => h1 (List.mem_map.mpr ⟨(key, v), h, e.symm⟩)
      have := valP_mem h2 h
      simp only [valP, List.find?_cons, ne, decide_false] at this ⊢
      exact this
end Dx
/-! min of two things that are data -/
namespace Gu
open PySem PySem.Spec PyProof.Rows L2
section
variable {prog : Program} {w : World} {A : Around} {E : Value → Shared → Prop} {s : Shared}
theorem min2_data {u v : Value} {d e : PyData} {as bs : List Addr} {Q : Value → Shared → Prop} (hh : A.handled = none) (ru : Reads s.heap u d as) (rv : Reads s.heap v e bs) (ha : PySem.W.AlikeAll [d, e]) (hu : A.units + 1 + PyData.depthAll [d, e] < cLine)
    (h : ∀ h' tk, (∀ b o, s.heap.get? b = some o → h'.get? b = some o) → Q (if PySem.W.dataLt e d = true then v else u) { s with heap := h', toks := tk }) : wpAny (model prog w) A (call (.builtin "min") [u, v]) Q E s := by
  have nm : (toString "min" ++ toString ".loop" : String) = "min.loop" := by decide
  refine call_function_tree F.kind_min F.plain_min F.entry_min (F.args_min2 _ _) ?_ ; show wpAny _ A.in1 (Builtin.Builtins.bindParams "min" ["key", "default"] 0 ⟨[], []⟩ >>= _) _ _ s
  refine wpAny_bind (wpAny_of_eq (show Builtin.Builtins.bindParams "min" ["key", "default"] 0 ⟨[], []⟩ = pure [none, none] from rfl) ?_) ; show wpAny _ A.in1 (newTuple [u, v] >>= _) _ _ s
  refine wpAny_bind (wpAny_newObj_type ?_)
  have old : ∀ b o, s.heap.get? b = some o → (s.heap.push { cls := .type "tuple", data := .seq #[u, v] }).get? b = some o := fun b o z => Heap.get?_push_of_some _ z
  have hT : (s.heap.push { cls := .type "tuple", data := .seq #[u, v] }).IsTuple s.heap.objs.size #[u, v] := ⟨_, Heap.get?_push_size _ rfl, rfl, 0, rfl⟩
  have hr : ReadsAll (s.heap.push { cls := .type "tuple", data := .seq #[u, v] }) (#[u, v] : Array Value).toList [d, e] (as ++ (bs ++ [])) := .cons (Reads.keeps old ru) (.cons (Reads.keeps old rv) .nil)
  refine wpAny_bind (PySem.W.iter_tupleW (A := A.in1) (s := { s with heap := s.heap.push { cls := .type "tuple", data := .seq #[u, v] } }) hh hT fun s2 e2 W st hfp hw hk => ?_)
  refine wpAny_bind (wpAny_newObj_type ?_)
  have hS : s2.heap.objs.size ∉ [(s.heap.push { cls := .type "tuple", data := .seq #[u, v] }).objs.size, s.heap.objs.size] := fun hm => Nat.lt_irrefl _ (hfp _ hm)
  rw [nm]
  refine wpAny_pure ⟨plainId_quiet F.plain_min_loop _, PySem.codeAny_min_loop_firstH W (s.heap.push { cls := .type "tuple", data := .seq #[u, v] }) hw _ (PySem.W.cmpIn_lt (A := A.in1) (s := { s with heap := s.heap.push { cls := .type "tuple", data := .seq #[u, v] } }) hr ha hu) s2.heap.objs.size hS
    (PySem.fresh_in hk) _ (Nat.zero_lt_succ 1) (fun b o z => Heap.get?_push_of_some _ (hk b o z)) (W.frame 0 s2 _ s2.toks st (Nat.le_refl _) fun b _ o z => Heap.get?_push_of_some _ z) (Heap.get?_push_size _ rfl) fun x s' hP hm => ?_⟩
  obtain ⟨h', tk, rfl, hk'⟩ := PySem.W.moved_old (s := { s with heap := s.heap.push { cls := .type "tuple", data := .seq #[u, v] } }) e2 rfl (PySem.Moved.drop_new (tk := s2.toks) hm (Nat.le_refl _))
  have hx : x = if PySem.W.dataLt e d = true then v else u := by
    by_cases hlt : PySem.W.dataLt e d = true
    · rw [if_pos hlt]
      have : (#[u, v] : Array Value)[1]? = some x := by
        have q : (#[u, v] : Array Value)[if PySem.W.dataLt e d = true then 1 else 0]? = some x := hP
        rw [if_pos hlt] at q
        exact q
      exact (Option.some.inj this).symm
    · rw [if_neg hlt]
      have : (#[u, v] : Array Value)[0]? = some x := by
        have q : (#[u, v] : Array Value)[if PySem.W.dataLt e d = true then 1 else 0]? = some x := hP
        rw [if_neg hlt] at q
        exact q
      exact (Option.some.inj this).symm
  rw [hx]
  exact h h' tk fun b o z => hk' b o (old b o z)
end
section
variable {X : Cx}
/-- min(a, b) of data of one shape -/
def rMinD (K : PySem.W.Frag) : List V → Hp → VK → Prop := fun xs H Q => ∃ (v1 v2 : V) (d e : PyData), xs = [v1, v2] ∧ Dp K H v1 d ∧ Dp K H v2 e ∧ PySem.W.AlikeAll [d, e] ∧ PyData.depthAll [d, e] ≤ 60 ∧ Q (if PySem.W.dataLt e d = true then v2 else v1) H
theorem call_minD (hc : X.calm = true) (hu : X.A.units + 64 < cLine) : CallR X (.builtin "min") (rMinD X.K) := by
  intro pins s σ H xs us Q I r h
  obtain ⟨v1, v2, d, e, rfl, h1, h2, h3, h4, q⟩ := h
  obtain ⟨u1, u2, rfl, r1, r2⟩ := vals2 r
  obtain ⟨as, rd1⟩ := Dp.reads I d v1 u1 h1 r1
  obtain ⟨bs, rd2⟩ := Dp.reads I e v2 u2 h2 r2
  refine min2_data (I.ok.hd hc) rd1 rd2 h3 (by omega) fun h' tk hk => ⟨_, H, I.kept hk, ?_, q⟩
  by_cases hlt : PySem.W.dataLt e d = true
  · rw [if_pos hlt, if_pos hlt]
    exact r2
  · rw [if_neg hlt, if_neg hlt]
    exact r1
end
end Gu
/-! Part 12: arguments that point at what a slot owns; lists joined; min of data. -/
namespace Dx
open PySem PySem.Spec PyProof.Rows L2 Gu
section
variable {K : PySem.W.Frag} {cs : List Cell} {k : KC} {ta tb te : TE} {tr : TA} {B H : Hp}
/-- a name that owns an object: where it points -/
theorem we_varB {i : Nat} {a : Addr} {mo : MO} (h : cs[i]? = some (.m a mo)) (hk : k (.b a) cs) : WE K (tVar i) cs k := by
  intro B H σ fr hl E Q q
  obtain ⟨o, ho, hm⟩ := zip_mem hl h
  obtain ⟨eo, _⟩ := E.sl _ (List.mem_append_left _ hm)
  have eo' : o = some (V.ref a) := eo
  subst eo'
  exact ⟨.ref a, ho, q (.ref a) (.b a) cs B H rfl (E.put rfl rfl) hk⟩
/-- what a slot owns goes into the call -/
inductive Lend : List Cell → List Cell → List Cell → List Cell → Prop
  | nil {cs : List Cell} : Lend [] cs [] cs
  | keep {c : Cell} {cl cs cl' cs' : List Cell} : Lend cl cs cl' cs' → Lend (c :: cl) cs (c :: cl') cs'
  | lend {a : Addr} {o : MO} {cl cs cl' cs' : List Cell} (i : Nat) : cs[i]? = some (.m a o) → Lend cl (cs.set i (.b a)) cl' cs' → Lend (.b a :: cl) cs (.m a o :: cl') cs'
theorem Lend.len {cl cs cl' cs' : List Cell} (h : Lend cl cs cl' cs') : cl'.length = cl.length ∧ cs'.length = cs.length := by
  induction h with
  | nil => exact ⟨rfl, rfl⟩
  | keep _ ih => exact ⟨by simp [ih.1], ih.2⟩
  | lend i _ _ ih => exact ⟨by simp [ih.1], by rw [ih.2, List.length_set]⟩
theorem Lend.env {cl cs cl' cs' : List Cell} (h : Lend cl cs cl' cs') : ∀ {σ : L2.St} {vs : List V} {z : List Sm}, σ.length = cs.length → vs.length = cl.length → Env K B H (σ.zip cs ++ ((vs.map some).zip cl ++ z)) → Env K B H (σ.zip cs' ++ ((vs.map some).zip cl' ++ z)) := by
  induction h with
  | nil =>
    intro σ vs z _ _ E
    exact E
  | @keep c cl cs cl' cs' _ ih =>
    intro σ vs z hl hv E
    match vs, hv with
    | v :: vs, hv =>
      have E1 : Env K B H (σ.zip cs ++ (some v, c) :: ((vs.map some).zip cl ++ z)) := E
      have E2 : Env K B H (σ.zip cs ++ ((vs.map some).zip cl ++ (some v, c) :: z)) := E1.perm (List.Perm.append (List.Perm.refl _) List.perm_middle)
      have E3 := ih hl (by simpa using hv) E2
      exact E3.perm (List.Perm.append (List.Perm.refl _) List.perm_middle.symm)
  | @lend a o cl cs cl' cs' i hi _ ih =>
    intro σ vs z hl hv E
    match vs, hv with
    | v :: vs, hv =>
      obtain ⟨o', l1, l2, _, e1, e2, _⟩ := zip_split hl hi
      have E1 : Env K B H (σ.zip cs ++ (some v, Cell.b a) :: ((vs.map some).zip cl ++ z)) := E
      rw [e1] at E1
      have hb : Sl K B H (some v) (.b a) := E1.sl (some v, .b a) (by simp)
      have hm := E1.sl (o', .m a o) (by simp)
      have ev : some v = some (V.ref a) := hb
      have eo : o' = some (V.ref a) := hm.1
      rw [ev, eo] at E1
      have E2 : Env K B H (σ.zip (cs.set i (.b a)) ++ ((vs.map some).zip cl ++ (some v, Cell.m a o) :: z)) := by
        rw [e2, ev, eo]
        refine E1.perm ?_
        rw [List.append_assoc, List.append_assoc]
        refine List.Perm.append (List.Perm.refl _) ?_
        rw [List.cons_append, List.cons_append]
        have p1 : (l2 ++ ((vs.map some).zip cl ++ (some (V.ref a), Cell.m a o) :: z)).Perm ((some (V.ref a), Cell.m a o) :: (l2 ++ ((vs.map some).zip cl ++ z))) := by
          rw [← List.append_assoc, ← List.append_assoc]
          exact List.perm_middle
        have p2 : (l2 ++ (some (V.ref a), Cell.b a) :: ((vs.map some).zip cl ++ z)).Perm ((some (V.ref a), Cell.b a) :: (l2 ++ ((vs.map some).zip cl ++ z))) := List.perm_middle
        exact (p1.cons _).trans ((List.Perm.swap ..).trans (p2.symm.cons _))
      have E3 := ih (by rw [List.length_set]; exact hl) (by simpa using hv) E2
      exact E3.perm (List.Perm.append (List.Perm.refl _) List.perm_middle.symm)
theorem we_callL {S : List Cell → KC → Prop} {xk : XK} (h : WA K tr cs fun cl cs1 => ∃ cl' cs', Lend cl cs1 cl' cs' ∧ S cl' fun c cl2 => ∃ cs2, Rest cs' cl2 cs2 ∧ k c cs2) : WE K (tCall (spC K S) [] xk tr) cs k := by
  intro B H σ fr hl E Q q
  refine h B H σ fr hl E _ fun vs cl cs1 B1 H1 lv l1 E1 ⟨cl', cs', hL, hS⟩ => ?_
  have E2 := hL.env (by omega) lv E1
  obtain ⟨n1, n2⟩ := hL.len
  rw [List.append_nil]
  refine ⟨B1, cl', σ.zip cs' ++ fr, _, by omega, E2.perm ?_, hS, fun v c cl2 B2 H2 l2 E3 ⟨cs2, hr, hk⟩ => ?_⟩
  · rw [← List.append_assoc, ← List.append_assoc]
    exact List.Perm.append List.perm_append_comm (List.Perm.refl _)
  · have E4 : Env K B2 H2 ((vs.map some).zip cl2 ++ (σ.zip cs' ++ (some v, c) :: fr)) := E3.perm (List.Perm.append (List.Perm.refl _) List.perm_middle)
    exact q v c cs2 B2 H2 (by rw [hr.len]; omega) (hr.env (by omega) (by omega) E4) hk
/-- min(a, b) of data -/
theorem ra_minD {d e : PyData} (ha : PySem.W.AlikeAll [d, e]) (hd : PyData.depthAll [d, e] ≤ 60) (hk : k (.d (if PySem.W.dataLt e d = true then e else d)) cs) : RA K (rMinD K) [.d d, .d e] cs k := by
  intro B H σ fr vs hl lv E Q q
  obtain ⟨v, v', rfl, E1⟩ := two_args lv E
  obtain ⟨w, ew, hw⟩ := E1.sl (some v, .d d) (List.mem_append_right _ (List.mem_cons_self ..))
  cases ew
  obtain ⟨w', ew', hw'⟩ := E1.sl (some v', .d e) (List.mem_append_right _ (List.mem_cons_of_mem _ (List.mem_cons_self ..)))
  cases ew'
  refine ⟨v, v', d, e, rfl, dp_mono E1.bh _ _ hw, dp_mono E1.bh _ _ hw', ha, hd, ?_⟩
  refine q _ (.d (if PySem.W.dataLt e d = true then e else d)) cs B H rfl ((E1.sub drop2).put ⟨_, rfl, ?_⟩ rfl) hk
  by_cases hlt : PySem.W.dataLt e d = true
  · rw [if_pos hlt, if_pos hlt]
    exact hw'
  · rw [if_neg hlt, if_neg hlt]
    exact hw
theorem dpAll_app {B : Hp} : ∀ {xs ys : List V} {ds es : List PyData}, DpAll K B xs ds → DpAll K B ys es → DpAll K B (xs ++ ys) (ds ++ es)
  | _, _, _, _, .nil, h => h
  | _, _, _, _, .cons h1 h2, h => .cons h1 (dpAll_app h2 h)
/-! lists joined -/
def rCatS (K : PySem.W.Frag) : R2 := fun x y H Q => ∃ a b xs ys, x = .ref a ∧ y = .ref b ∧ SqL K H a xs ∧ SqL K H b ys ∧ xs.length + ys.length ≤ sizeLine ∧ ∀ p, H p = none → Q (.ref p) (upd H p (.lst (xs ++ ys)))
theorem op_catS {X : Cx} : OpR X (binaryOp .Add) (rCatS X.K) := by
  intro pins s σ H x y v u Q I rx ry h
  obtain ⟨a, b, xs, ys, rfl, rfl, h1, h2, hz, q⟩ := h
  cases rx
  cases ry
  obtain ⟨is1, r1, p1, z1⟩ := I.list h1
  obtain ⟨is2, r2, p2, z2⟩ := I.list h2
  obtain ⟨⟨cls, dd, data, sl⟩, n, ho, hc, _, hd⟩ := p1
  obtain ⟨⟨cls2, dd2, data2, sl2⟩, n2, ho2, hc2, _, hd2⟩ := p2
  simp only at hc hd hc2 hd2
  subst hc hd hc2 hd2
  have e : is1.toArray ++ is2.toArray = (is1 ++ is2).toArray := by simp
  have hl1 := r1.length
  have hl2 := r2.length
  refine concat_meets ⟨_, ho, rfl⟩ ⟨_, ho2, rfl⟩ noFill_list_add seq_list_add PySem.F.slot_list_add PySem.F.entry_list_add (PySem.F.args_list_add_2 _ _)
    (list_addW a b is1.toArray is2.toArray n n2 dd dd2 sl sl2 (by rw [List.size_toArray, List.size_toArray]; omega)) ⟨ho, ho2, ?_⟩
  rw [e]
  exact ⟨.ref _, _, I.lnew (t' := s.toks) (r1.append r2) (by rw [List.length_append]; omega), rfl, q _ I.fresh⟩
theorem rd_cat {ds es : List PyData} (hz : ds.length + es.length ≤ 100000) (hk : ∀ a, k (.m a (.lst (ds ++ es))) cs) : RD K (rCatS K) (.d (.list ds)) (.d (.list es)) cs k := by
  intro B H σ fr v1 v2 hl E Q q
  obtain ⟨w1, x1, h1⟩ := E.sl (some v1, .d (.list ds)) (List.mem_append_right _ (List.mem_cons_of_mem _ (List.mem_cons_self ..)))
  obtain ⟨w2, x2, h2⟩ := E.sl (some v2, .d (.list es)) (List.mem_append_right _ (List.mem_cons_self ..))
  cases x1
  cases x2
  cases h1 with
  | @lst a xs _ hs ha =>
    cases h2 with
    | @lst b ys _ hs2 ha2 =>
      have l1 := ha.len
      have l2 := ha2.len
      refine ⟨a, b, xs, ys, rfl, rfl, Evl.ex_l E.bh hs, Evl.ex_l E.bh hs2, Evl.sz_of (by omega), fun p hp => ?_⟩
      have E2 := E.sub drop2
      exact q (.ref p) (.m p (.lst (ds ++ es))) cs B _ rfl ((E2.newO hp).putM ⟨rfl, free_of E.bh hp, _, upd_same, _, rfl, dpAll_app ha ha2⟩ (E2.newM hp)) (hk p)
/-- frozen: never changed again -/
theorem env_frz {z fr : List Sm} {v : V} {a : Addr} {ds : List PyData} (E : Env K B H (z ++ (some v, .m a (.lst ds)) :: fr)) : ∃ B', Env K B' H (z ++ (some v, .d (.list ds)) :: fr) := by
  have E1 := envF.mp E
  obtain ⟨e1, hb, o, ho, xs, eo, hd⟩ := E1.head
  have e1' : some v = some (V.ref a) := e1
  cases e1'
  subst eo
  have na := E1.notIn
  refine ⟨upd B a (.lst xs), envF.mpr ?_⟩
  have E3 : Env K (upd B a (.lst xs)) H (z ++ fr) := E1.tail.grow (Evl.Ex.new hb) (fun b x h => by
    by_cases e : b = a
    · subst e
      rw [upd_same] at h
      rw [ho, ← h]
    · rw [upd_ne e] at h
      exact E.bh b x h) fun b hb' => by
    have ne : b ≠ a := fun e => na (e ▸ hb')
    exact ⟨by rw [upd_ne ne]; exact (E1.tail.ownB hb').1, fun _ h => h⟩
  exact E3.add ⟨_, rfl, .lst (.inl (.inl upd_same)) (dpAll_mono (Evl.Ex.new hb) _ _ hd)⟩ rfl
/-- joined and never changed -/
theorem rd_catD {ds es : List PyData} (hz : ds.length + es.length ≤ 100000) (hk : k (.d (.list (ds ++ es))) cs) : RD K (rCatS K) (.d (.list ds)) (.d (.list es)) cs k := fun B H σ fr v1 v2 hl E Q q =>
  rd_cat (k := fun c cs2 => ∃ a, c = .m a (.lst (ds ++ es)) ∧ cs2 = cs) hz (fun a => ⟨a, rfl, rfl⟩) B H σ fr v1 v2 hl E Q fun v c cs2 B2 H2 l2 E2 ⟨a, e1, e2⟩ => by
    subst e1
    subst e2
    obtain ⟨B3, E3⟩ := env_frz E2
    exact q v _ cs2 B3 H2 rfl E3 hk
end
end Dx
/-! Part 13: is None. -/
namespace Dx
open PySem PySem.Spec PyProof.Rows L2 Gu
section
variable {K : PySem.W.Frag} {cs : List Cell} {k : KC}
def isNn : PyData → Bool
  | .none => true
  | _ => false
theorem dp_nn {B : Hp} : ∀ {v : V} {d : PyData}, Dp K B v d → decide (v = .non) = isNn d
  | _, _, .non => rfl
  | _, _, .bl _ => rfl
  | _, _, .int _ => rfl
  | _, _, .str _ => rfl
  | _, _, .lst _ _ => rfl
  | _, _, .tup _ _ => rfl
theorem rd_isN {d : PyData} (hk : k (.d (.bool (isNn d))) cs) : RD K rIsN (.d d) (.d .none) cs k := by
  intro B H σ fr v1 v2 hl E Q q
  obtain ⟨w1, x1, h1⟩ := E.sl (some v1, .d d) (List.mem_append_right _ (List.mem_cons_of_mem _ (List.mem_cons_self ..)))
  obtain ⟨w2, x2, h2⟩ := E.sl (some v2, .d .none) (List.mem_append_right _ (List.mem_cons_self ..))
  cases x1
  cases x2
  cases h2
  refine ⟨rfl, ?_⟩
  rw [dp_nn h1]
  exact q _ (.d (.bool (isNn d))) cs B H rfl ((E.sub drop2).put ⟨_, rfl, .bl _⟩ rfl) hk
theorem rd_notN {d : PyData} (hk : k (.d (.bool (!isNn d))) cs) : RD K rNotN (.d d) (.d .none) cs k := by
  intro B H σ fr v1 v2 hl E Q q
  obtain ⟨w1, x1, h1⟩ := E.sl (some v1, .d d) (List.mem_append_right _ (List.mem_cons_of_mem _ (List.mem_cons_self ..)))
  obtain ⟨w2, x2, h2⟩ := E.sl (some v2, .d .none) (List.mem_append_right _ (List.mem_cons_self ..))
  cases x1
  cases x2
  cases h2
  refine ⟨rfl, ?_⟩
  rw [dp_nn h1]
  exact q _ (.d (.bool (!isNn d))) cs B H rfl ((E.sub drop2).put ⟨_, rfl, .bl _⟩ rfl) hk
end
/-! rules with the written part said (inside comprehensions) -/
section
variable {X : Cx} {K : PySem.W.Frag}
theorem op_catK (hK : X.K = K := by rfl) : OpR X (binaryOp .Add) (rCatS K) := hK ▸ op_catS
theorem ix_listK (hK : X.K = K := by rfl) : IxR X (rIxL K) := hK ▸ ix_list
theorem ix_tupK (hK : X.K = K := by rfl) : IxR X (rIxT K) := hK ▸ ix_tup
theorem cr_lenK (hK : X.K = K := by rfl) : CallR X (.builtin "len") (rLenSq K) := hK ▸ cr_len
theorem cr_tupleK (hK : X.K = K := by rfl) : CallR X (.type "tuple") (rTupleOf K) := hK ▸ cr_tuple
theorem call_sortK (hu : X.A.units + 64 < cLine) (hK : X.K = K := by rfl) : CallR X (.builtin "sorted") (rSortD K) := hK ▸ call_sortD hu
theorem call_reprK (hg : X.A.guards = some []) (hu : X.A.units + 64 < cLine) (hK : X.K = K := by rfl) : CallR X (.builtin "repr") (rRepr K) := hK ▸ call_reprD hg hu
theorem cr_sumK (hc : X.calm = true) (hK : X.K = K := by rfl) : CallR X (.builtin "sum") (rSum K) := hK ▸ cr_sum hc
theorem op_eqK (hu : X.A.units + 64 < cLine) (hK : X.K = K := by rfl) : OpR X (compareOp .Eq) (rEqD K) := hK ▸ op_eqD hu
theorem op_neK (hu : X.A.units + 64 < cLine) (hK : X.K = K := by rfl) : OpR X (compareOp .NotEq) (rNeD K) := hK ▸ op_neD hu
variable {lvl : Nat} {x : Str} {ps : List Str} {S : List Cell → KC → Prop} {p pos : Pos} {e : Expr} {es : List Expr} {t : TA}
theorem pe_calX (C : Cal X.prog X.w X.K X.mg X.base lvl x ps S) (hr : Room lvl X.A) (hg : Gl X x) (ha : PA X (e :: es) t) (hK : X.K = K := by rfl) (hdb : (x == ("__debug__" : Str)) = false := by decide)
    (he : starEach (e :: es) X.env = (false, eval e X.env) :: starEach es X.env := by rfl) (hpl : (backTo pos (starEach es X.env)).any (·.1) = false := by rfl) :
    PE X (.Call (.Name x p) (e :: es) [] pos) (tCall (spC K S) [] E0 t) := by
  subst hK
  exact pe_cal C hr hg ha hdb he hpl
theorem pe_calGX (C : CalG X.prog X.w X.K X.mg X.base lvl x ps S) (hr : Room lvl X.A) (hgd : X.A.guards = some []) (hg : Gl X x) (ha : PA X (e :: es) t) (hK : X.K = K := by rfl) (hdb : (x == ("__debug__" : Str)) = false := by decide)
    (he : starEach (e :: es) X.env = (false, eval e X.env) :: starEach es X.env := by rfl) (hpl : (backTo pos (starEach es X.env)).any (·.1) = false := by rfl) :
    PE X (.Call (.Name x p) (e :: es) [] pos) (tCall (spC K S) [] E0 t) := by
  subst hK
  exact pe_calG C hr hgd hg ha hdb he hpl
end
end Dx
namespace K30
abbrev Row := Int × Int × Bool
def le2 (p q : Int × Int) : Bool := decide (p.1 < q.1 ∨ (p.1 = q.1 ∧ p.2 ≤ q.2))
def leI (p q : Int) : Bool := decide (p ≤ q)
def pairs (rows : List Row) : List (Int × Int) := (rows.filter fun r => !r.2.2).map fun r => (r.2.1, r.1)
def srt (rows : List Row) : List (Int × Int) := (pairs rows).mergeSort le2
def roomOf (rows : List Row) : Int := (rows.map fun r => 8 - r.2.1).sum
def emp1 (room : Int) : List (Int × Int) → List Int → Int → List Int
  | [], f, _ => f
  | q :: r, f, left => if (f.length : Int) < room ∧ q.1 ≤ left then emp1 room r (f ++ [q.2]) (left - q.1) else emp1 room r f left
def due1 (s : Int) : List (Int × Int) → List Int → Int → List Int
  | [], f, _ => f
  | q :: r, f, left => if q.1 > left ∨ 8 * (f.length : Int) + 8 > s then f else due1 s r (f ++ [q.2]) (left - q.1)
def emp (rows : List Row) (m : Int) : List Int := (emp1 ((roomOf rows).fdiv 8) (srt rows) [] m).mergeSort leI
def due (rows : List Row) (m : Int) : List Int := (due1 (roomOf rows) (srt rows) [] m).mergeSort leI
theorem emp1_cons {room : Int} {q : Int × Int} {r : List (Int × Int)} {f : List Int} {left : Int} : emp1 room (q :: r) f left = if (f.length : Int) < room ∧ q.1 ≤ left then emp1 room r (f ++ [q.2]) (left - q.1) else emp1 room r f left := rfl
theorem due1_cons {s : Int} {q : Int × Int} {r : List (Int × Int)} {f : List Int} {left : Int} : due1 s (q :: r) f left = if q.1 > left ∨ 8 * (f.length : Int) + 8 > s then f else due1 s r (f ++ [q.2]) (left - q.1) := rfl
/-- how many are taken -/
def cnt : Int → List (Int × Int) → Int → Nat
  | _, [], _ => 0
  | room, q :: r, left => if 0 < room ∧ q.1 ≤ left then cnt (room - 1) r (left - q.1) + 1 else 0
abbrev Up (l : List (Int × Int)) : Prop := l.Pairwise fun p q => p.1 ≤ q.1
theorem emp1_stop {room : Int} : ∀ {l : List (Int × Int)} {f : List Int} {left : Int}, (room ≤ f.length ∨ ∀ q ∈ l, left < q.1) → emp1 room l f left = f
  | [], _, _, _ => rfl
  | q :: r, f, left, h => by
    unfold emp1
    rw [if_neg (by
      rintro ⟨h1, h2⟩
      rcases h with h | h
      · omega
      · have := h q (List.mem_cons_self ..)
        omega)]
    exact emp1_stop (h.imp id fun h p hp => h p (List.mem_cons_of_mem _ hp))
theorem emp1_eq {room : Int} : ∀ {l : List (Int × Int)} {f : List Int} {left : Int}, Up l → emp1 room l f left = f ++ (l.take (cnt (room - f.length) l left)).map Prod.snd
  | [], f, left, _ => by simp [emp1, cnt]
  | q :: r, f, left, hu => by
    obtain ⟨h1, h2⟩ := List.pairwise_cons.mp hu
    unfold emp1 cnt
    by_cases hc : (f.length : Int) < room ∧ q.1 ≤ left
    · rw [if_pos hc, if_pos ⟨by omega, hc.2⟩, emp1_eq h2, List.take_succ_cons, List.map_cons, List.append_assoc]
      have e : room - ((f ++ [q.2]).length : Int) = room - f.length - 1 := by
        rw [List.length_append, List.length_singleton]
        omega
      rw [e]
      rfl
    · rw [if_neg hc, if_neg (by omega), List.take_zero, List.map_nil, List.append_nil]
      refine emp1_stop ?_
      by_cases hr : (f.length : Int) < room
      · right
        intro p hp
        have := h1 p hp
        omega
      · left
        omega
theorem due1_eq {s : Int} : ∀ {l : List (Int × Int)} {f : List Int} {left : Int}, due1 s l f left = f ++ (l.take (cnt (s.fdiv 8 - f.length) l left)).map Prod.snd
  | [], f, left => by simp [due1, cnt]
  | q :: r, f, left => by
    have hd : s.fdiv 8 = s / 8 := Int.fdiv_eq_ediv_of_nonneg _ (by decide)
    unfold due1 cnt
    by_cases hc : q.1 > left ∨ 8 * (f.length : Int) + 8 > s
    · rw [if_pos hc, if_neg (by rw [hd]; omega), List.take_zero, List.map_nil, List.append_nil]
    · rw [if_neg hc, if_pos (by rw [hd]; omega), due1_eq, List.take_succ_cons, List.map_cons, List.append_assoc]
      have e : s.fdiv 8 - ((f ++ [q.2]).length : Int) = s.fdiv 8 - f.length - 1 := by
        rw [List.length_append, List.length_singleton]
        omega
      rw [e]
      rfl
theorem le2_total (a b : Int × Int) : (le2 a b || le2 b a) = true := by
  unfold le2
  simp only [Bool.or_eq_true, decide_eq_true_eq]
  omega
theorem le2_trans (a b c : Int × Int) (h1 : le2 a b = true) (h2 : le2 b c = true) : le2 a c = true := by
  unfold le2 at *
  simp only [decide_eq_true_eq] at *
  omega
theorem srt_up (rows : List Row) : Up (srt rows) := by
  refine (List.pairwise_mergeSort le2_trans le2_total (pairs rows)).imp fun {p q} h => ?_
  unfold le2 at h
  simp only [decide_eq_true_eq] at h
  omega
theorem srt_mem {rows : List Row} {q : Int × Int} (h : q ∈ srt rows) : ∃ r ∈ rows, r.2.1 = q.1 ∧ r.1 = q.2 := by
  have h := (List.mergeSort_perm (pairs rows) le2).mem_iff.mp h
  unfold pairs at h
  obtain ⟨r, hr, e⟩ := List.mem_map.mp h
  exact ⟨r, (List.mem_filter.mp hr).1, by rw [← e], by rw [← e]⟩
/-- law and package take the same pages -/
theorem due_emp (rows : List Row) (m : Int) : due rows m = emp rows m := by
  unfold due emp
  rw [due1_eq, emp1_eq (srt_up rows)]
def tk (rows : List Row) (m : Int) : List (Int × Int) := (srt rows).take (cnt ((roomOf rows).fdiv 8) (srt rows) m)
theorem emp_eq (rows : List Row) (m : Int) : emp rows m = ((tk rows m).map Prod.snd).mergeSort leI := by
  unfold emp tk
  rw [emp1_eq (srt_up rows)]
  simp
theorem cnt_le : ∀ (room : Int) (l : List (Int × Int)) (left : Int), cnt room l left ≤ l.length
  | _, [], _ => by simp [cnt]
  | room, q :: r, left => by
    unfold cnt
    split
    · have := cnt_le (room - 1) r (left - q.1)
      simp
      exact this
    · exact Nat.zero_le _
abbrev Pos (l : List (Int × Int)) : Prop := ∀ q ∈ l, 1 ≤ q.1
def paid (l : List (Int × Int)) : Int := (l.map Prod.fst).sum
theorem paid_nn : ∀ {l : List (Int × Int)}, Pos l → (l.length : Int) ≤ paid l
  | [], _ => by simp [paid]
  | q :: r, h => by
    have h1 := h q (List.mem_cons_self ..)
    have h2 := paid_nn (l := r) fun p hp => h p (List.mem_cons_of_mem _ hp)
    unfold paid at *
    rw [List.map_cons, List.sum_cons, List.length_cons]
    omega
theorem paid_cons (q : Int × Int) (r : List (Int × Int)) : paid (q :: r) = q.1 + paid r := by unfold paid; rw [List.map_cons, List.sum_cons]
theorem cnt_fits : ∀ {room : Int} {l : List (Int × Int)} {left : Int}, 0 ≤ left → paid (l.take (cnt room l left)) ≤ left
  | _, [], left, h => by simpa [cnt, paid] using h
  | room, q :: r, left, h => by
    unfold cnt
    split
    · rename_i hc
      rw [List.take_succ_cons, paid_cons]
      have := cnt_fits (room := room - 1) (l := r) (left := left - q.1) (by omega)
      omega
    · rw [List.take_zero]
      simpa [paid] using h
theorem cnt_same : ∀ {room : Int} {l : List (Int × Int)} {left : Int}, Pos l → cnt room l (paid (l.take (cnt room l left))) = cnt room l left
  | _, [], left, h => by simp [cnt]
  | room, q :: r, left, h => by
    have h1 := h q (List.mem_cons_self ..)
    have hr : Pos r := fun p hp => h p (List.mem_cons_of_mem _ hp)
    by_cases hc : 0 < room ∧ q.1 ≤ left
    · have e : cnt room (q :: r) left = cnt (room - 1) r (left - q.1) + 1 := by
        conv => lhs; unfold cnt
        rw [if_pos hc]
      rw [e, List.take_succ_cons, paid_cons]
      have hp := paid_nn (l := r.take (cnt (room - 1) r (left - q.1))) fun p hp => hr p (List.mem_of_mem_take hp)
      conv => lhs; unfold cnt
      rw [if_pos ⟨hc.1, by omega⟩]
      have e2 : q.1 + paid (r.take (cnt (room - 1) r (left - q.1))) - q.1 = paid (r.take (cnt (room - 1) r (left - q.1))) := by omega
      rw [e2, cnt_same hr]
    · have e : cnt room (q :: r) left = 0 := by
        conv => lhs; unfold cnt
        rw [if_neg hc]
      rw [e, List.take_zero]
      have : paid [] = 0 := rfl
      rw [this]
      unfold cnt
      rw [if_neg (by omega)]
theorem cnt_less : ∀ {room : Int} {l : List (Int × Int)} {left : Int}, Pos l → 0 < cnt room l left → cnt room l (paid (l.take (cnt room l left)) - 1) = cnt room l left - 1
  | _, [], left, h, h0 => by simp [cnt] at h0
  | room, q :: r, left, h, h0 => by
    have h1 := h q (List.mem_cons_self ..)
    have hr : Pos r := fun p hp => h p (List.mem_cons_of_mem _ hp)
    by_cases hc : 0 < room ∧ q.1 ≤ left
    · have e : cnt room (q :: r) left = cnt (room - 1) r (left - q.1) + 1 := by
        conv => lhs; unfold cnt
        rw [if_pos hc]
      rw [e, List.take_succ_cons, paid_cons, Nat.add_sub_cancel]
      have hp := paid_nn (l := r.take (cnt (room - 1) r (left - q.1))) fun p hp => hr p (List.mem_of_mem_take hp)
      rw [List.length_take, Nat.min_eq_left (cnt_le ..)] at hp
      by_cases hz : cnt (room - 1) r (left - q.1) = 0
      · rw [hz, List.take_zero]
        have : paid [] = 0 := rfl
        rw [this]
        unfold cnt
        rw [if_neg (by omega)]
      · conv => lhs; unfold cnt
        rw [if_pos ⟨hc.1, by omega⟩]
        have e2 : q.1 + paid (r.take (cnt (room - 1) r (left - q.1))) - 1 - q.1 = paid (r.take (cnt (room - 1) r (left - q.1))) - 1 := by omega
        rw [e2, cnt_less hr (by omega)]
        omega
    · have e : cnt room (q :: r) left = 0 := by
        conv => lhs; unfold cnt
        rw [if_neg hc]
      omega
theorem tk_pos {rows : List Row} (h : ∀ r ∈ rows, 1 ≤ r.2.1) : Pos (srt rows) := fun q hq => by
  obtain ⟨r, hr, e, _⟩ := srt_mem hq
  rw [← e]
  exact h r hr
theorem paid_le {rows : List Row} {m : Int} (hm : 0 ≤ m) : paid (tk rows m) ≤ m := cnt_fits hm
theorem emp_paid {rows : List Row} {m : Int} (h : ∀ r ∈ rows, 1 ≤ r.2.1) : emp rows (paid (tk rows m)) = emp rows m := by
  rw [emp_eq, emp_eq]
  unfold tk
  rw [cnt_same (tk_pos h)]
theorem emp_len (rows : List Row) (m : Int) : (emp rows m).length = cnt ((roomOf rows).fdiv 8) (srt rows) m := by
  rw [emp_eq, List.length_mergeSort, List.length_map]
  unfold tk
  rw [List.length_take, Nat.min_eq_left (cnt_le ..)]
theorem emp_mem {rows : List Row} {m p : Int} (h : p ∈ emp rows m) : ∃ r ∈ rows, r.1 = p := by
  rw [emp_eq] at h
  have h := (List.mergeSort_perm ((tk rows m).map Prod.snd) leI).mem_iff.mp h
  obtain ⟨q, hq, rfl⟩ := List.mem_map.mp h
  obtain ⟨r, hr, _, e⟩ := srt_mem (List.mem_of_mem_take hq)
  exact ⟨r, hr, e⟩
theorem emp_less {rows : List Row} {m : Int} (h : ∀ r ∈ rows, 1 ≤ r.2.1) (h0 : 0 < paid (tk rows m)) : ((emp rows (paid (tk rows m) - 1)).length : Int) = (emp rows m).length - 1 := by
  rw [emp_len, emp_len]
  have hc : 0 < cnt ((roomOf rows).fdiv 8) (srt rows) m := by
    rcases Nat.eq_zero_or_pos (cnt ((roomOf rows).fdiv 8) (srt rows) m) with e | e
    · unfold tk at h0
      rw [e, List.take_zero] at h0
      exact absurd h0 (by decide)
    · exact e
  have := cnt_less (tk_pos h) hc
  unfold tk
  rw [this]
  omega
theorem perm_sum {a b : List Int} (p : a.Perm b) : a.sum = b.sum := by
  induction p with
  | nil => rfl
  | cons x _ ih => rw [List.sum_cons, List.sum_cons, ih]
  | swap x y l => rw [List.sum_cons, List.sum_cons, List.sum_cons, List.sum_cons]; omega
  | trans _ _ h1 h2 => exact h1.trans h2
/-- the price of what is told, by a book of pages -/
theorem told_paid {rows : List Row} {m : Int} {look : Int → Int} (hl : ∀ r ∈ rows, look r.1 = r.2.1) : ((emp rows m).map look).sum = paid (tk rows m) := by
  rw [emp_eq]
  have p : (((tk rows m).map Prod.snd).mergeSort leI).Perm ((tk rows m).map Prod.snd) := List.mergeSort_perm _ _
  have e1 : ((((tk rows m).map Prod.snd).mergeSort leI).map look).sum = (((tk rows m).map Prod.snd).map look).sum := perm_sum (p.map look)
  rw [e1]
  unfold paid
  congr 1
  rw [List.map_map]
  refine List.map_congr_left fun q hq => ?_
  obtain ⟨r, hr, h1, h2⟩ := srt_mem (List.mem_of_mem_take hq)
  show look q.2 = q.1
  rw [← h2, ← h1]
  exact hl r hr
end K30
namespace K30
/-! all sets, the best of them -/
def sets {α : Type} (l : List α) : List (List α) := l.foldl (fun f x => f ++ f.map (· ++ [x])) [[]]
theorem mem_fold {α : Type} : ∀ (l : List α) (f : List (List α)) (s : List α), s ∈ l.foldl (fun f x => f ++ f.map (· ++ [x])) f ↔ ∃ u ∈ f, ∃ v, v.Sublist l ∧ s = u ++ v
  | [], f, s => by
    constructor
    · intro h
      exact ⟨s, h, [], List.Sublist.refl _, by rw [List.append_nil]⟩
    · rintro ⟨u, hu, v, hv, rfl⟩
      obtain rfl := List.sublist_nil.mp hv
      rw [List.append_nil]
      exact hu
  | x :: l, f, s => by
    rw [List.foldl_cons, mem_fold l]
    constructor
    · rintro ⟨u, hu, v, hv, rfl⟩
      rcases List.mem_append.mp hu with hu | hu
      · exact ⟨u, hu, v, hv.cons x, rfl⟩
      · obtain ⟨u0, h0, rfl⟩ := List.mem_map.mp hu
        exact ⟨u0, h0, x :: v, hv.cons_cons x, by rw [List.append_assoc]; rfl⟩
    · rintro ⟨u, hu, v, hv, rfl⟩
      cases hv with
      | cons _ h => exact ⟨u, List.mem_append_left _ hu, v, h, rfl⟩
      | cons_cons _ h => exact ⟨u ++ [x], List.mem_append_right _ (List.mem_map.mpr ⟨u, hu, rfl⟩), _, h, by rw [List.append_assoc]; rfl⟩
theorem mem_sets {α : Type} (l s : List α) : s ∈ sets l ↔ s.Sublist l := by
  unfold sets
  rw [mem_fold]
  constructor
  · rintro ⟨u, hu, v, hv, rfl⟩
    obtain rfl := List.mem_singleton.mp hu
    exact hv
  · intro h
    exact ⟨[], List.mem_singleton.mpr rfl, s, h, rfl⟩
/-! a list that is sorted by the first parts: its beginning pays least -/
theorem paid_append (a b : List (Int × Int)) : paid (a ++ b) = paid a + paid b := by
  unfold paid
  rw [List.map_append, List.sum_append]
theorem take_step {l : List (Int × Int)} {n : Nat} (h : n < l.length) : l.take (n + 1) = l.take n ++ [l[n]] := by
  rw [List.take_add_one, List.getElem?_eq_getElem h]
  rfl
theorem sub_paid : ∀ {q l : List (Int × Int)}, q.Sublist l → Up l → paid (l.take q.length) ≤ paid q := by
  intro q l h
  induction h with
  | slnil => intro _; exact Int.le_refl _
  | @cons q l a hs ih =>
    intro hu
    obtain ⟨h1, h2⟩ := List.pairwise_cons.mp hu
    have := ih h2
    match hq : q.length with
    | 0 =>
      have : q = [] := List.eq_nil_of_length_eq_zero hq
      subst this
      exact Int.le_refl _
    | n + 1 =>
      rw [hq] at this
      have hn : n < l.length := by have := hs.length_le; omega
      rw [take_step hn, paid_append] at this
      rw [List.take_succ_cons, paid_cons]
      have h3 := h1 l[n] (List.getElem_mem _)
      have e : paid [l[n]] = l[n].1 := by simp [paid]
      omega
  | @cons_cons q l a hs ih =>
    intro hu
    have := ih (List.pairwise_cons.mp hu).2
    rw [List.length_cons, List.take_succ_cons, paid_cons, paid_cons]
    omega
theorem cnt_most : ∀ {l : List (Int × Int)} {room left : Int} {q : Nat}, Pos l → q ≤ l.length → (q : Int) ≤ room → paid (l.take q) ≤ left → q ≤ cnt room l left
  | [], room, left, q, _, h1, _, _ => by
    have : q = 0 := by simpa using h1
    rw [this]
    exact Nat.zero_le _
  | a :: l, room, left, q, hp, h1, h2, h3 => by
    match q with
    | 0 => exact Nat.zero_le _
    | n + 1 =>
      have hr : Pos l := fun p hp' => hp p (List.mem_cons_of_mem _ hp')
      rw [List.take_succ_cons, paid_cons] at h3
      have h4 := paid_nn (l := l.take n) fun p hp' => hr p (List.mem_of_mem_take hp')
      have h5 : (0 : Int) ≤ ((l.take n).length : Int) := Int.natCast_nonneg _
      unfold cnt
      rw [if_pos ⟨by omega, by omega⟩]
      have := cnt_most (l := l) (room := room - 1) (left := left - a.1) (q := n) hr (by simpa using h1) (by omega) (by omega)
      omega
theorem cnt_room : ∀ {l : List (Int × Int)} {room left : Int}, (cnt room l left : Int) ≤ room ∨ cnt room l left = 0
  | [], _, _ => .inr rfl
  | a :: l, room, left => by
    unfold cnt
    split
    · rename_i hc
      rcases cnt_room (l := l) (room := room - 1) (left := left - a.1) with h | h
      · left; omega
      · left; rw [h]; omega
    · exact .inr rfl
/-! place by place -/
inductive Dom : List Int → List Int → Prop
  | nil : Dom [] []
  | cons {x y : Int} {a b : List Int} : x ≤ y → Dom a b → Dom (x :: a) (y :: b)
def ins (x : Int) : List Int → List Int
  | [] => [x]
  | y :: l => if x ≤ y then x :: y :: l else y :: ins x l
def isort : List Int → List Int
  | [] => []
  | x :: l => ins x (isort l)
abbrev Asc (l : List Int) : Prop := l.Pairwise (· ≤ ·)
theorem ins_perm (x : Int) : ∀ l, (ins x l).Perm (x :: l)
  | [] => List.Perm.refl _
  | y :: l => by
    unfold ins
    split
    · exact List.Perm.refl _
    · exact ((ins_perm x l).cons y).trans (List.Perm.swap ..)
theorem ins_asc {x : Int} : ∀ {l : List Int}, Asc l → Asc (ins x l)
  | [], _ => List.pairwise_singleton _ _
  | y :: l, h => by
    obtain ⟨h1, h2⟩ := List.pairwise_cons.mp h
    unfold ins
    split
    · rename_i hx
      exact List.pairwise_cons.mpr ⟨fun z hz => by
        rcases List.mem_cons.mp hz with rfl | hz
        · exact hx
        · exact Int.le_trans hx (h1 z hz), h⟩
    · rename_i hx
      exact List.pairwise_cons.mpr ⟨fun z hz => by
        rcases List.mem_cons.mp ((ins_perm x l).mem_iff.mp hz) with rfl | hz
        · omega
        · exact h1 z hz, ins_asc h2⟩
theorem isort_asc : ∀ l, Asc (isort l)
  | [] => List.Pairwise.nil
  | _ :: l => ins_asc (isort_asc l)
theorem isort_perm : ∀ l, (isort l).Perm l
  | [] => List.Perm.refl _
  | x :: l => (ins_perm x _).trans ((isort_perm l).cons x)
theorem asc_uniq : ∀ {a b : List Int}, Asc a → Asc b → a.Perm b → a = b
  | [], b, _, _, p => (List.nil_perm.mp p).symm
  | x :: a, [], _, _, p => by simpa using p.length_eq
  | x :: a, y :: b, ha, hb, p => by
    obtain ⟨h1, h2⟩ := List.pairwise_cons.mp ha
    obtain ⟨h3, h4⟩ := List.pairwise_cons.mp hb
    have e : x = y := by
      have m1 : y ∈ x :: a := p.mem_iff.mpr (List.mem_cons_self ..)
      have m2 : x ∈ y :: b := p.mem_iff.mp (List.mem_cons_self ..)
      have l1 : x ≤ y := by
        rcases List.mem_cons.mp m1 with e | m
        · omega
        · exact h1 y m
      have l2 : y ≤ x := by
        rcases List.mem_cons.mp m2 with e | m
        · omega
        · exact h3 x m
      omega
    subst e
    rw [asc_uniq h2 h4 (List.Perm.cons_inv p)]
theorem leI_total (a b : Int) : (leI a b || leI b a) = true := by unfold leI; simp; omega
theorem leI_trans (a b c : Int) (h1 : leI a b = true) (h2 : leI b c = true) : leI a c = true := by unfold leI at *; simp at *; omega
theorem sortI_asc (l : List Int) : Asc (l.mergeSort leI) := (List.pairwise_mergeSort leI_trans leI_total l).imp fun h => of_decide_eq_true h
theorem sortI_is (l : List Int) : l.mergeSort leI = isort l := asc_uniq (sortI_asc l) (isort_asc l) ((List.mergeSort_perm l leI).trans (isort_perm l).symm)
theorem sortI_perm {a b : List Int} (p : a.Perm b) : a.mergeSort leI = b.mergeSort leI := asc_uniq (sortI_asc a) (sortI_asc b) (((List.mergeSort_perm a leI).trans p).trans (List.mergeSort_perm b leI).symm)
theorem sortI_self {a : List Int} (h : Asc a) : a.mergeSort leI = a := asc_uniq (sortI_asc a) h (List.mergeSort_perm a leI)
theorem ins_small {x : Int} : ∀ {l : List Int}, (∀ y ∈ l, x ≤ y) → ins x l = x :: l
  | [], _ => rfl
  | y :: l, h => by unfold ins; rw [if_pos (h y (List.mem_cons_self ..))]
theorem dom_ins : ∀ {a b : List Int} {x y : Int}, Dom a b → Asc a → Asc b → x ≤ y → Dom (ins x a) (ins y b)
  | _, _, _, _, .nil, _, _, h => .cons h .nil
  | _, _, x, y, @Dom.cons u v a b huv hd, ha, hb, h => by
    obtain ⟨h1, h2⟩ := List.pairwise_cons.mp ha
    obtain ⟨h3, h4⟩ := List.pairwise_cons.mp hb
    unfold ins
    by_cases hx : x ≤ u
    · rw [if_pos hx]
      by_cases hy : y ≤ v
      · rw [if_pos hy]
        exact .cons h (.cons huv hd)
      · rw [if_neg hy]
        refine .cons (by omega) ?_
        have := dom_ins (x := u) (y := y) hd h2 h4 (by omega)
        rw [ins_small h1] at this
        exact this
    · rw [if_neg hx]
      by_cases hy : y ≤ v
      · rw [if_pos hy]
        refine .cons (by omega) ?_
        have := dom_ins (x := x) (y := v) hd h2 h4 (by omega)
        rw [ins_small h3] at this
        exact this
      · rw [if_neg hy]
        exact .cons huv (dom_ins hd h2 h4 h)
theorem dom_sort : ∀ {a b : List Int}, Dom a b → Dom (isort a) (isort b)
  | _, _, .nil => .nil
  | _, _, .cons h hd => dom_ins (dom_sort hd) (isort_asc _) (isort_asc _) h
end K30
namespace K30
theorem dom_lt : ∀ {a b : List Int}, Dom a b → ¬ b < a
  | _, _, .nil => by intro h; cases h
  | _, _, .cons (x := x) (y := y) (a := a) (b := b) h hd => by
    rw [List.cons_lt_cons_iff]
    rintro (h1 | ⟨h1, h2⟩)
    · omega
    · exact dom_lt hd h2
theorem dom_ne : ∀ {a b : List Int}, Dom a b → a ≠ b → a < b
  | _, _, .nil, h => absurd rfl h
  | _, _, .cons (x := x) (y := y) (a := a) (b := b) h hd, hn => by
    rw [List.cons_lt_cons_iff]
    by_cases e : x = y
    · subst e
      exact .inr ⟨rfl, dom_ne hd fun z => hn (by rw [z])⟩
    · exact .inl (by omega)
/-! sets of rows -/
def P (r : Row) : Int × Int := (r.2.1, r.1)
def unp (rows : List Row) : List Row := rows.filter fun r => !r.2.2
theorem pairs_is (rows : List Row) : pairs rows = (unp rows).map P := rfl
def pays (s : List Row) : Int := (s.map fun r => r.2.1).sum
theorem pays_P (s : List Row) : pays s = paid (s.map P) := by
  unfold pays paid
  rw [List.map_map]
  rfl
theorem perm_paid {a b : List (Int × Int)} (p : a.Perm b) : paid a = paid b := perm_sum (p.map Prod.fst)
theorem filter_sub {α : Type} [DecidableEq α] {s l : List α} (h : s.Sublist l) (hn : l.Nodup) : l.filter (fun x => decide (x ∈ s)) = s := by
  induction h with
  | slnil => rfl
  | @cons s l a hs ih =>
    obtain ⟨h1, h2⟩ := List.nodup_cons.mp hn
    rw [List.filter_cons_of_neg (by simpa using fun hm => h1 (hs.subset hm)), ih h2]
  | @cons_cons s l a hs ih =>
    obtain ⟨h1, h2⟩ := List.nodup_cons.mp hn
    rw [List.filter_cons_of_pos (by simp)]
    congr 1
    conv => rhs; rw [← ih h2]
    refine List.filter_congr fun x hx => ?_
    have : x ≠ a := fun e => h1 (e ▸ hx)
    simp [this]
/-- the part of a sorted list that a set is -/
theorem part_of {U l : List (Int × Int)} {s : List (Int × Int)} (hp : l.Perm U) (hn : U.Nodup) (hs : s.Sublist U) : ∃ q : List (Int × Int), q.Sublist l ∧ q.Perm s := by
  refine ⟨l.filter fun x => decide (x ∈ s), List.filter_sublist, ?_⟩
  have := hp.filter fun x => decide (x ∈ s)
  refine this.trans (List.Perm.of_eq ?_)
  exact Eq.trans (List.filter_congr fun x _ => decide_eq_decide.mpr Iff.rfl) (filter_sub hs hn)
abbrev Up2 (l : List (Int × Int)) : Prop := l.Pairwise fun p q => le2 p q = true
/-- what pays no more than the beginning has its first parts, and no smaller second ones -/
theorem tie : ∀ {q l : List (Int × Int)}, q.Sublist l → Up2 l → Up l → paid q = paid (l.take q.length) → Dom ((l.take q.length).map Prod.snd) (q.map Prod.snd) := by
  intro q l h
  induction h with
  | slnil => intro _ _ _; exact .nil
  | @cons q l a hs ih =>
    intro h2 hu he
    obtain ⟨u1, u2⟩ := List.pairwise_cons.mp hu
    obtain ⟨v1, v2⟩ := List.pairwise_cons.mp h2
    match hq : q with
    | [] => exact .nil
    | b :: r =>
      have hb := hs.length_le
      rw [List.length_cons] at hb
      have hsp := sub_paid hs u2
      rw [List.length_cons, List.take_succ_cons, paid_cons a] at he
      rw [List.length_cons] at hsp
      have hst := take_step (l := l) (n := r.length) (by omega)
      have hz := u1 l[r.length] (List.getElem_mem _)
      have ep : paid (l.take (r.length + 1)) = paid (l.take r.length) + l[r.length].1 := by
        rw [hst, paid_append]
        simp [paid]
      -- so all is equal
      have e1 : paid (b :: r) = paid (l.take (r.length + 1)) := by omega
      have e2 : l[r.length].1 = a.1 := by omega
      have d := ih v2 u2 (by rw [List.length_cons]; exact e1)
      rw [List.length_cons] at d ⊢
      rw [List.take_succ_cons]
      -- a and the first ones of l have the same first part: a's second part is the least
      have chain : ∀ (k : Nat) (l : List (Int × Int)) (a : Int × Int), (∀ p ∈ l, a.1 ≤ p.1) → (∀ p ∈ l, le2 a p = true) → Up2 l → Up l → (hk : k < l.length) → l[k].1 = a.1 → Dom ((a :: l.take k).map Prod.snd) ((l.take (k + 1)).map Prod.snd) := by
        intro k
        induction k with
        | zero =>
          intro l a h1 h2 h3 h4 hk e
          match l, hk with
          | x :: l, _ =>
            refine .cons ?_ .nil
            have := h2 x (List.mem_cons_self ..)
            unfold le2 at this
            have e' : x.1 = a.1 := e
            have := of_decide_eq_true this
            omega
        | succ k ih =>
          intro l a h1 h2 h3 h4 hk e
          match l, hk with
          | x :: l, hk =>
            obtain ⟨p1, p2⟩ := List.pairwise_cons.mp h3
            obtain ⟨p3, p4⟩ := List.pairwise_cons.mp h4
            have hk' : k < l.length := by simpa using hk
            have e' : l[k].1 = a.1 := e
            have f1 := h1 x (List.mem_cons_self ..)
            have f2 := p3 l[k] (List.getElem_mem _)
            have fx : x.1 = a.1 := by omega
            rw [List.take_succ_cons, List.take_succ_cons, List.map_cons, List.map_cons]
            refine .cons ?_ ?_
            · have := h2 x (List.mem_cons_self ..)
              unfold le2 at this
              have := of_decide_eq_true this
              omega
            · exact ih l x p3 p1 p2 p4 hk' (by omega)
      have c := chain r.length l a u1 v1 v2 u2 (by omega) e2
      -- Dom is transitive
      have trans : ∀ {x y z : List Int}, Dom x y → Dom y z → Dom x z := by
        intro x y z h
        induction h generalizing z with
        | nil => intro h; exact h
        | cons h _ ih =>
          intro h2
          cases h2 with
          | cons h3 h4 => exact .cons (Int.le_trans h h3) (ih h4)
      exact trans c d
  | @cons_cons q l a hs ih =>
    intro h2 hu he
    rw [List.length_cons, List.take_succ_cons, paid_cons, paid_cons] at he
    rw [List.length_cons, List.take_succ_cons, List.map_cons, List.map_cons]
    exact .cons (Int.le_refl _) (ih (List.pairwise_cons.mp h2).2 (List.pairwise_cons.mp hu).2 (by omega))
theorem srt_up2 (rows : List Row) : Up2 (srt rows) := List.pairwise_mergeSort le2_trans le2_total (pairs rows)
abbrev Pages (rows : List Row) : Prop := rows.Pairwise fun r r' => r.1 < r'.1
theorem unp_pages {rows : List Row} (h : Pages rows) : Pages (unp rows) := h.sublist List.filter_sublist
theorem pairs_nodup {rows : List Row} (h : Pages rows) : (pairs rows).Nodup := by
  rw [pairs_is, List.nodup_iff_pairwise_ne, List.pairwise_map]
  refine (unp_pages h).imp fun {r r'} hr e => ?_
  have : r.1 = r'.1 := congrArg Prod.snd e
  omega
/-- a set's key: as many as possible, as cheap, the least pages -/
abbrev Ky := Int × Int × List Int
def key (s : List Row) : Ky := (0 - (s.length : Int), pays s, s.map Prod.fst)
def ltK (a b : Ky) : Prop := a.1 < b.1 ∨ (a.1 = b.1 ∧ (a.2.1 < b.2.1 ∨ (a.2.1 = b.2.1 ∧ a.2.2 < b.2.2)))
def feas (rows : List Row) (m : Int) (s : List Row) : Prop := pays s ≤ m ∧ (rows.map fun r => r.2.1).sum ≤ 8 * ((rows.length : Int) - (s.length : Int))
theorem room_held : ∀ rows : List Row, roomOf rows = 8 * (rows.length : Int) - (rows.map fun r => r.2.1).sum
  | [] => rfl
  | r :: rows => by
    have := room_held rows
    unfold roomOf at *
    rw [List.map_cons, List.sum_cons, List.map_cons, List.sum_cons, List.length_cons, this]
    omega
def best (rows : List Row) (m : Int) : Ky := (0 - (cnt ((roomOf rows).fdiv 8) (srt rows) m : Int), paid (tk rows m), emp rows m)
/-- the set that the package empties -/
theorem best_is {rows : List Row} {m : Int} (hp : Pages rows) (h1 : ∀ r ∈ rows, 1 ≤ r.2.1) (h8 : ∀ r ∈ rows, r.2.1 ≤ 8) (hm : 0 ≤ m) : ∃ s, s.Sublist (unp rows) ∧ feas rows m s ∧ key s = best rows m := by
  have hn := pairs_nodup hp
  have hl : (srt rows).Perm (pairs rows) := List.mergeSort_perm _ _
  have hln : (srt rows).Nodup := hl.nodup_iff.mpr hn
  let t := tk rows m
  let s := (unp rows).filter fun r => decide (P r ∈ t)
  have hs : s.Sublist (unp rows) := List.filter_sublist
  have hsub : t.Sublist (srt rows) := List.take_sublist _ _
  -- its pairs are those taken
  have e1 : s.map P = (pairs rows).filter fun q => decide (q ∈ t) := by
    rw [pairs_is, List.filter_map]
    rfl
  have p1 : (s.map P).Perm t := by
    rw [e1]
    refine (hl.symm.filter fun q => decide (q ∈ t)).trans (List.Perm.of_eq ?_)
    exact Eq.trans (List.filter_congr fun x _ => decide_eq_decide.mpr Iff.rfl) (filter_sub hsub hln)
  have hlen : s.length = cnt ((roomOf rows).fdiv 8) (srt rows) m := by
    have := p1.length_eq
    rw [List.length_map] at this
    rw [this]
    show ((srt rows).take _).length = _
    rw [List.length_take, Nat.min_eq_left (cnt_le ..)]
  have hpay : pays s = paid t := by
    rw [pays_P]
    exact perm_paid p1
  have hpg : s.map Prod.fst = emp rows m := by
    rw [emp_eq]
    have asc : Asc (s.map Prod.fst) := by
      refine List.pairwise_map.mpr (((unp_pages hp).sublist hs).imp fun {r r'} hr => ?_)
      exact Int.le_of_lt hr
    rw [← sortI_self asc]
    refine sortI_perm ?_
    have := p1.map Prod.snd
    rw [List.map_map] at this
    exact this
  refine ⟨s, hs, ⟨by rw [hpay]; exact paid_le hm, ?_⟩, ?_⟩
  · have hr := room_held rows
    have hd : (roomOf rows).fdiv 8 = roomOf rows / 8 := Int.fdiv_eq_ediv_of_nonneg _ (by decide)
    have h0 : 0 ≤ roomOf rows := by
      unfold roomOf
      clear hr hd hpg hpay hlen p1 e1 hsub hs hln hl hn
      induction rows with
      | nil => exact Int.le_refl _
      | cons r rows ih =>
        rw [List.map_cons, List.sum_cons]
        have := h8 r (List.mem_cons_self ..)
        have := ih (List.pairwise_cons.mp hp).2 (fun x hx => h1 x (List.mem_cons_of_mem _ hx)) (fun x hx => h8 x (List.mem_cons_of_mem _ hx))
        omega
    rcases cnt_room (l := srt rows) (room := (roomOf rows).fdiv 8) (left := m) with h | h
    · rw [hlen]
      omega
    · rw [hlen, h]
      omega
  · show (0 - (s.length : Int), pays s, s.map Prod.fst) = _
    rw [hlen, hpay, hpg]
    rfl
/-- no set is better -/
theorem best_le {rows : List Row} {m : Int} (hp : Pages rows) (h1 : ∀ r ∈ rows, 1 ≤ r.2.1) {s : List Row} (hs : s.Sublist (unp rows)) (hf : feas rows m s) : ¬ ltK (key s) (best rows m) ∧ (key s ≠ best rows m → ltK (best rows m) (key s)) := by
  have hn := pairs_nodup hp
  have hl : (srt rows).Perm (pairs rows) := List.mergeSort_perm _ _
  obtain ⟨q, hq, pq⟩ := part_of (s := s.map P) hl hn (by rw [pairs_is]; exact hs.map P)
  have lq : q.length = s.length := by
    rw [pq.length_eq, List.length_map]
  have payq : paid q = pays s := by
    rw [pays_P]
    exact perm_paid pq
  have hsp := sub_paid hq (srt_up rows)
  obtain ⟨f1, f2⟩ := hf
  have hr := room_held rows
  have hd : (roomOf rows).fdiv 8 = roomOf rows / 8 := Int.fdiv_eq_ediv_of_nonneg _ (by decide)
  have hc : s.length ≤ cnt ((roomOf rows).fdiv 8) (srt rows) m := by
    refine cnt_most (tk_pos h1) ?_ ?_ ?_
    · rw [← lq]
      exact hq.length_le
    · rw [hd]
      omega
    · rw [lq] at hsp
      omega
  have tl : (tk rows m).length = cnt ((roomOf rows).fdiv 8) (srt rows) m := by
    unfold tk
    rw [List.length_take, Nat.min_eq_left (cnt_le ..)]
  unfold ltK
  show ¬ (0 - (s.length : Int) < 0 - (cnt ((roomOf rows).fdiv 8) (srt rows) m : Int) ∨ _) ∧ (_ → 0 - (cnt ((roomOf rows).fdiv 8) (srt rows) m : Int) < 0 - (s.length : Int) ∨ _)
  by_cases e : s.length = cnt ((roomOf rows).fdiv 8) (srt rows) m
  · have et : tk rows m = (srt rows).take q.length := by
      unfold tk
      rw [lq, e]
    have h2 : paid (tk rows m) ≤ pays s := by
      rw [et, ← payq]
      exact hsp
    by_cases e2 : pays s = paid (tk rows m)
    · have d := tie hq (srt_up2 rows) (srt_up rows) (by rw [payq, ← et]; exact e2)
      rw [← et] at d
      have d2 := dom_sort d
      rw [← sortI_is, ← sortI_is, ← emp_eq] at d2
      have asc : Asc (s.map Prod.fst) := List.pairwise_map.mpr (((unp_pages hp).sublist hs).imp fun {r r'} hr => Int.le_of_lt hr)
      have e3 : (q.map Prod.snd).mergeSort leI = s.map Prod.fst := by
        rw [← sortI_self asc]
        refine sortI_perm ?_
        have := pq.map Prod.snd
        rw [List.map_map] at this
        exact this
      rw [e3] at d2
      refine ⟨?_, fun hne => .inr ⟨by show (0 : Int) - _ = 0 - _; rw [e], .inr ⟨e2.symm, dom_ne d2 fun z => hne ?_⟩⟩⟩
      · rintro (h | ⟨_, h | ⟨_, h⟩⟩)
        · omega
        · have : pays s < paid (tk rows m) := h
          omega
        · exact dom_lt d2 h
      · show (0 - (s.length : Int), pays s, s.map Prod.fst) = (0 - (cnt ((roomOf rows).fdiv 8) (srt rows) m : Int), paid (tk rows m), emp rows m)
        have z' : emp rows m = s.map Prod.fst := z
        rw [e, e2, z']
    · refine ⟨?_, fun _ => .inr ⟨by show (0 : Int) - _ = 0 - _; rw [e], .inl (by show paid (tk rows m) < pays s; omega)⟩⟩
      rintro (h | ⟨_, h | ⟨h, _⟩⟩)
      · omega
      · have : pays s < paid (tk rows m) := h
        omega
      · exact e2 h
  · refine ⟨?_, fun _ => .inl (by omega)⟩
    rintro (h | ⟨h, _⟩)
    · omega
    · have : 0 - (s.length : Int) = 0 - (cnt ((roomOf rows).fdiv 8) (srt rows) m : Int) := h
      omega
instance (rows : List Row) (m : Int) (s : List Row) : Decidable (feas rows m s) := by unfold feas; infer_instance
instance (a b : Ky) : Decidable (ltK a b) := by unfold ltK; infer_instance
def stepB (rows : List Row) (m : Int) (b : Option Ky) (s : List Row) : Option Ky :=
  if feas rows m s then some (match b with
    | none => key s
    | some k => if ltK (key s) k then key s else k) else b
abbrev Fine (rows : List Row) (m : Int) (k : Ky) : Prop := ¬ ltK k (best rows m) ∧ (k ≠ best rows m → ltK (best rows m) k)
theorem fold_keep {rows : List Row} {m : Int} : ∀ {l : List (List Row)}, (∀ s ∈ l, feas rows m s → Fine rows m (key s)) → l.foldl (stepB rows m) (some (best rows m)) = some (best rows m)
  | [], _ => rfl
  | s :: l, h => by
    rw [List.foldl_cons]
    have e : stepB rows m (some (best rows m)) s = some (best rows m) := by
      unfold stepB
      split
      · rename_i hf
        show some (if ltK (key s) (best rows m) then key s else best rows m) = _
        rw [if_neg (h s (List.mem_cons_self ..) hf).1]
      · rfl
    rw [e]
    exact fold_keep fun t ht => h t (List.mem_cons_of_mem _ ht)
theorem fold_best {rows : List Row} {m : Int} : ∀ {l : List (List Row)} {b : Option Ky}, (∀ s ∈ l, feas rows m s → Fine rows m (key s)) → (∀ k, b = some k → Fine rows m k) → (∃ s ∈ l, feas rows m s ∧ key s = best rows m) → l.foldl (stepB rows m) b = some (best rows m)
  | [], _, _, _, h => by obtain ⟨s, hs, _⟩ := h; cases hs
  | s :: l, b, h, hb, he => by
    rw [List.foldl_cons]
    have hl : ∀ t ∈ l, feas rows m t → Fine rows m (key t) := fun t ht => h t (List.mem_cons_of_mem _ ht)
    by_cases hs : feas rows m s ∧ key s = best rows m
    · have e : stepB rows m b s = some (best rows m) := by
        unfold stepB
        rw [if_pos hs.1]
        match b, hb with
        | none, _ => show some (key s) = _; rw [hs.2]
        | some k, hb =>
          show some (if ltK (key s) k then key s else k) = _
          rw [hs.2]
          by_cases hk : k = best rows m
          · rw [hk]
            split <;> rfl
          · rw [if_pos ((hb k rfl).2 hk)]
      rw [e]
      exact fold_keep hl
    · refine fold_best hl (fun k hk => ?_) ?_
      · unfold stepB at hk
        by_cases hf : feas rows m s
        · rw [if_pos hf] at hk
          have hk := Option.some.inj hk
          match b, hb with
          | none, _ => rw [← hk]; exact h s (List.mem_cons_self ..) hf
          | some k', hb =>
            rw [← hk]
            show Fine rows m (if ltK (key s) k' then key s else k')
            split
            · exact h s (List.mem_cons_self ..) hf
            · exact hb k' rfl
        · rw [if_neg hf] at hk
          exact hb k hk
      · obtain ⟨t, ht, h1, h2⟩ := he
        rcases List.mem_cons.mp ht with rfl | ht
        · exact absurd ⟨h1, h2⟩ hs
        · exact ⟨t, ht, h1, h2⟩
/-- the law's search finds what the package empties -/
theorem all_best {rows : List Row} {m : Int} (hp : Pages rows) (h1 : ∀ r ∈ rows, 1 ≤ r.2.1) (h8 : ∀ r ∈ rows, r.2.1 ≤ 8) (hm : 0 ≤ m) : (sets (unp rows)).foldl (stepB rows m) none = some (best rows m) := by
  refine fold_best (fun s hs hf => best_le hp h1 ((mem_sets _ _).mp hs) hf) (fun k hk => by cases hk) ?_
  obtain ⟨s, h2, h3, h4⟩ := best_is hp h1 h8 hm
  exact ⟨s, (mem_sets _ _).mpr h2, h3, h4⟩
end K30
namespace K29
open PySem PySem.Spec PyProof.Rows L2 Gu Dx
def topS (i : Nat) : Stmt := PySem.Challenge.pw_crossheaps_k29_pages_emptied_by_all_sets.main.body.getD i (.Pass ⟨0, 0, 0, 0⟩)
abbrev s_emptied : Stmt := topS 2
abbrev N_emptied : List Str := ["pages", "moves", "room", "page", "many", "is_pinned", "found", "left"]
theorem sc_emptied : FnScope N_emptied ["pages", "moves"] (defScope s_emptied) := ⟨rfl, rfl, rfl, by decide +kernel, rfl, by decide +kernel, by decide +kernel⟩
abbrev s__law_draws : Stmt := topS 4
abbrev N__law_draws : List Str := ["_law_script", "_law_k", "_law_cell", "_law_great"]
theorem sc__law_draws : FnScope N__law_draws ["_law_script", "_law_k"] (defScope s__law_draws) := ⟨rfl, rfl, rfl, by decide +kernel, rfl, by decide +kernel, by decide +kernel⟩
abbrev s__law_below : Stmt := topS 5
abbrev N__law_below : List Str := ["_law_draws_here", "_law_many", "_law_digit", "_law_nth", "_law_prime", "_law_mixed"]
theorem sc__law_below : FnScope N__law_below ["_law_draws_here", "_law_many"] (defScope s__law_below) := ⟨rfl, rfl, rfl, by decide +kernel, rfl, by decide +kernel, by decide +kernel⟩
abbrev s__law_pick : Stmt := topS 6
abbrev N__law_pick : List Str := ["_law_draws_here", "_law_items"]
theorem sc__law_pick : FnScope N__law_pick ["_law_draws_here", "_law_items"] (defScope s__law_pick) := ⟨rfl, rfl, rfl, by decide +kernel, rfl, by decide +kernel, by decide +kernel⟩
abbrev s__law_sets : Stmt := topS 7
abbrev N__law_sets : List Str := ["_law_some", "_law_found", "_law_one", "_law_row"]
theorem sc__law_sets : FnScope N__law_sets ["_law_some"] (defScope s__law_sets) := ⟨rfl, rfl, rfl, by decide +kernel, rfl, by decide +kernel, by decide +kernel⟩
abbrev s__law_best : Stmt := topS 8
abbrev N__law_best : List Str := ["_law_rows_here", "_law_moves", "_law_held", "_law_page", "_law_many", "_law_is_pinned", "_law_best_here", "_law_some", "_law_row", "_law_paid", "_law_here"]
theorem sc__law_best : FnScope N__law_best ["_law_rows_here", "_law_moves"] (defScope s__law_best) := ⟨rfl, rfl, rfl, by decide +kernel, rfl, by decide +kernel, by decide +kernel⟩
abbrev s__law_rows : Stmt := topS 9
abbrev N__law_rows : List Str := ["_law_draws_here", "_law_found", "_law_page", "_law_turn", "_law_many"]
theorem sc__law_rows : FnScope N__law_rows ["_law_draws_here"] (defScope s__law_rows) := ⟨rfl, rfl, rfl, by decide +kernel, rfl, by decide +kernel, by decide +kernel⟩
abbrev s_law : Stmt := topS 10
abbrev N_law : List Str := ["_law_script", "_law_k", "_law_draws_here", "_law_turn", "_law_rows_here", "_law_held", "_law_most"]
theorem sc_law : FnScope N_law ["_law_script"] (defScope s_law) := ⟨rfl, rfl, rfl, by decide +kernel, rfl, by decide +kernel, by decide +kernel⟩
local macro_rules | `(tactic| walk_at "we") => `(tactic| with_reducible first
  | (refine nt_mk ?_; walk_at "norm") | refine nt_mkb ?_ | refine nt_mkc ?_ | refine nt_seq ?_ | refine nt_break ?_ | refine nt_next ?_ | refine nt_if ?_
  | refine nt_setM (by with_unfolding_all rfl) ?_ | refine nt_set ?_ | refine nt_app (by with_unfolding_all rfl) ?_ | refine nt_aug (by with_unfolding_all rfl) ?_ | refine nt_par ?_ | refine nt_par3 ?_
  | refine wt_test ?_ | refine wt_B ?_ | refine wt_and ?_ | refine wt_or ?_ | refine wt_not ?_ | refine wt_yes ?_ | refine we_if ?_
  | refine isB ?_ | refine isI ?_ | refine isD ?_ | refine bbT ?_ | refine bbF ?_ | refine bb (fun _ => ?_) (fun _ => ?_)
  | refine atM (by with_unfolding_all rfl) ?_ | refine ixJ (by with_unfolding_all rfl) ?_ | refine und (by with_unfolding_all rfl) (by with_unfolding_all rfl) ?_ | refine two ?_ | refine three ?_ | refine atX (by with_unfolding_all rfl) ?_ | refine less ?_ ?_
  | refine we_ixM (by with_unfolding_all rfl) ?_ | refine we_op ?_ | refine we_var (by with_unfolding_all rfl) ?_ | refine we_varM (by with_unfolding_all rfl) ?_ | refine we_int ?_ | refine we_str ?_ | refine we_bl ?_ | refine we_non ?_
  | refine we_tup ?_ | refine we_andV ?_ | refine we_orV ?_ | refine we_notV ?_
  | refine rd_ixL ?_ | refine rd_ixT ?_ | refine rd_I0 (fun _ => .int _) ?_ | refine rd_I0 (fun _ => .bl _) ?_ | refine rd_I ?_ (fun _ => .int _) ?_ | refine rd_eq (by with_unfolding_all rfl) (by with_unfolding_all rfl) (by with_unfolding_all rfl) ?_ | refine rd_ne (by with_unfolding_all rfl) (by with_unfolding_all rfl) (by with_unfolding_all rfl) ?_
  | refine wa_cons ?_ | refine wa_nil ?_ | refine we_bM (by with_unfolding_all rfl) bl_len ?_ | refine we_bM (by with_unfolding_all rfl) bl_tuple ?_ | refine we_cb ?_ | refine we_call ?_
  | refine ra_L bl_len ?_ | refine ra_T bt_len ?_ | refine ra_1I (fun _ => .int _) ?_ | refine ra_2I (fun _ => .int _) ?_ | refine ra_intB ?_ | refine ra_L bl_tuple ?_
  | refine wg_name ?_ | refine wg_tup (by with_unfolding_all rfl) ?_ | refine wgs_cons ?_ | refine wgs_nil ?_ | fail)
local macro_rules | `(tactic| walk_at "side") => `(tactic| first
  | exact (show (_ : Int) ≠ 0 by omega) | exact (show CDivN _ _ from ⟨by omega, by omega⟩) | exact (show CMul _ _ from Or.inl ⟨by omega, by omega⟩) | exact (show CMul _ _ from Or.inr ⟨by omega, by omega⟩)
  | exact (show CPow _ _ from ⟨by omega, by omega, by omega⟩))
local macro_rules | `(tactic| walk_at "start") => `(tactic| dsimp only [cxOf, Cx.nox, Cx.wish])
local macro_rules | `(tactic| walk_at "norm") => `(tactic| try dsimp only [List.set_cons_zero, List.set_cons_succ])
theorem atI_in {ds : List PyData} {r : Int} (h0 : 0 ≤ r) (h1 : r < ds.length) : ∃ x ∈ ds, atI ds r = some x := by
  refine ⟨ds[r.toNat]'(by omega), List.getElem_mem _, ?_⟩
  unfold atI ixN
  rw [if_pos h0, if_pos h1]
  exact List.getElem?_eq_getElem _
theorem b01 (b : Bool) : 0 ≤ (if b = true then (1 : Int) else 0) ∧ (if b = true then (1 : Int) else 0) ≤ 1 := by cases b <;> decide
theorem fm_lo {a b : Int} (hb : 0 < b) : 0 ≤ a.fmod b := by
  rw [Int.fmod_eq_emod_of_nonneg _ (by omega)]
  exact Int.emod_nonneg _ (by omega)
theorem fm_hi {a b : Int} (hb : 0 < b) : a.fmod b < b := by
  rw [Int.fmod_eq_emod_of_nonneg _ (by omega)]
  exact Int.emod_lt_of_pos _ hb
theorem fd_lo {a b : Int} (ha : 0 ≤ a) (hb : 0 < b) : 0 ≤ a.fdiv b := by
  rw [Int.fdiv_eq_ediv_of_nonneg _ (by omega)]
  exact Int.ediv_nonneg ha (by omega)
theorem fd_hi {a b : Int} (ha : 0 ≤ a) (hb : 0 < b) : a.fdiv b ≤ a := by
  rw [Int.fdiv_eq_ediv_of_nonneg _ (by omega)]
  exact Int.ediv_le_self _ ha
/-! ### the draws -/
abbrev jc (a : Addr) (g x n : Int) : Cell := .m a (.lst [.int g, .int x, .int n])
structure JP (N : Nat) (g x n : Int) : Prop where
  g0 : 0 ≤ g
  x0 : 0 ≤ x
  x1 : x < 2305843009213693952
  n0 : 0 ≤ n
  n1 : n ≤ N
theorem JP.mono {N M : Nat} {g x n : Int} (h : JP N g x n) (e : N ≤ M) : JP M g x n := ⟨h.g0, h.x0, h.x1, h.n0, by have := h.n1; omega⟩
def S__law_below : List Cell → KC → Prop := fun cl k => ∃ (a : Addr) (N : Nat) (m g x n : Int), cl = [jc a g x n, .d (.int m)] ∧ JP N g x n ∧ 0 < m ∧ m < 100000 ∧ N ≤ 1000000 ∧
  ∀ r g' x' n', 0 ≤ r → r < m → JP (N + 1) g' x' n' → k (.d (.int r)) [jc a g' x' n', .d (.int m)]
theorem ok__law_below {P : Program} {w : World} {K : PySem.W.Frag} {mg : Str → Option Value} {base : Heap} {f0 : Addr} {fd0 : FuncData} (F : Fun K "_law_below" "_law_below" s__law_below f0 fd0) :
    FnOk P w K mg base CX0 1 f0 fd0 ["_law_draws_here", "_law_many"] (spC K (S__law_below)) := by
  refine okC F sc__law_below rfl (n := 6) (fun cl kk h => ?_) (by decide) (fun cdv A out s H E hr => ?_)
  · obtain ⟨a, N, m, g, x, n, rfl, _⟩ := h
    rfl
  refine ⟨_, (pss_cons (ps_if (pt_cmpR op_gt (pe_ix ix_list (pv 0) pe_int (fun _ _ => rfl)) pe_int (nomark _)) (pss_cons (ps_set (i := 2) sc__law_below.nd rfl (.inl rfl) (pe_op op_modN (pe_ix ix_list (pv 0) pe_int (fun _ _ => rfl)) (pv 1)))
      (pss_cons (ps_asg (pe_op op_fdivN (pe_ix ix_list (pv 0) pe_int (fun _ _ => rfl)) (pv 1)) (pg_sub (pv 0) pe_int set_list))
      (pss_one (ps_ret (pv 2))))) pss_nil)
      (pss_cons (ps_set (i := 3) sc__law_below.nd rfl (.inl rfl) (pe_op op_add (pe_ix ix_list (pv 0) pe_int (fun _ _ => rfl)) pe_int))
      (pss_cons (ps_asg (pv 3) (pg_sub (pv 0) pe_int set_list))
      (pss_cons (ps_set (i := 4) sc__law_below.nd rfl (.inl rfl) (pe_ix ix_list (pe_lst (pa_cons pe_int (pa_cons pe_int (pa_cons pe_int (pa_cons pe_int pa_nil))))) (pe_op op_modN (pv 3) pe_int) (fun _ _ => rfl)))
      (pss_cons (ps_set (i := 5) sc__law_below.nd rfl (.inl rfl) (pe_op op_modN (pe_op op_add (pe_op op_add (pe_ix ix_list (pv 0) pe_int (fun _ _ => rfl)) (pe_op op_mul (pe_op op_mul pe_int (pv 3)) (pv 3))) (pe_op op_mul pe_int (pv 3))) (pv 4)))
      (pss_cons (ps_set (i := 5) sc__law_below.nd rfl (.inl rfl) (pe_op op_modN (pe_op op_pow (pv 5) pe_int) (pv 4)))
      (pss_one (ps_ret (pe_op op_modN (pe_op op_add (pe_op op_fdivN (pv 5) pe_int) (pe_op op_mul (pe_op op_fdivN (pv 5) pe_int) pe_int)) (pv 1)))))))))), fun cl kk h => ?_⟩
  obtain ⟨a, N, m, g, x, n, rfl, ⟨hg, hx, hx2, hn, hnN⟩, hm, hm2, hN, hk⟩ := h
  walk_at "start"
  intro fr Q R
  repeat' walk_at "we"
  · walk_at "side"
  · walk_at "side"
  · exact nt_ret R (we_var rfl ⟨_, .own (.keep rfl .nil), hk _ _ _ _ (fm_lo hm) (fm_hi hm) ⟨fd_lo hg hm, hx, hx2, hn, by omega⟩⟩)
  · refine we_lstD ?_
    repeat' walk_at "we"
    · walk_at "side"
    obtain ⟨z, hz, ez⟩ := atI_in (ds := [.int 2305843009213693951, .int 999999999989, .int 1000000000039, .int 67280421310721]) (r := (n + 1).fmod 4) (fm_lo (by decide)) (fm_hi (by decide))
    obtain ⟨p, rfl, hp1, hp2⟩ : ∃ p, z = PyData.int p ∧ 0 < p ∧ p < 2305843009213693952 := by
      simp only [List.mem_cons, List.not_mem_nil, or_false] at hz
      rcases hz with rfl | rfl | rfl | rfl <;> exact ⟨_, rfl, by decide, by decide⟩
    refine atX ez ?_
    repeat' walk_at "we"
    all_goals first | walk_at "side" | skip
    · have h1 := fm_lo (a := x + 7919 * (n + 1) * (n + 1) + 65537 * (n + 1)) hp1
      have h2 := fm_hi (a := x + 7919 * (n + 1) * (n + 1) + 65537 * (n + 1)) hp1
      exact ⟨by decide, by decide, by omega⟩
    refine nt_ret R ?_
    repeat' walk_at "we"
    · walk_at "side"
    · walk_at "side"
    · walk_at "side"
    · walk_at "side"
    exact ⟨_, .own (.keep rfl .nil), hk _ _ _ _ (fm_lo hm) (fm_hi hm) ⟨hg, hx, hx2, by omega, by omega⟩⟩
def S__law_draws : List Cell → KC → Prop := fun cl k => ∃ (ns : List Int) (i : Int), cl = [.d (.list (ns.map .int)), .d (.int i)] ∧ ns.length ≤ 63 ∧ 0 ≤ i ∧ i < 100 ∧
  ∀ a g x n, JP 0 g x n → k (jc a g x n) cl
theorem ok__law_draws {P : Program} {w : World} {K : PySem.W.Frag} {mg : Str → Option Value} {base : Heap} {f0 : Addr} {fd0 : FuncData} (F : Fun K "_law_draws" "_law_draws" s__law_draws f0 fd0) (m_abs : mg "abs" = none) (m_int : mg "int" = none) (m_len : mg "len" = none) :
    FnOk P w K mg base CX0 1 f0 fd0 ["_law_script", "_law_k"] (spC K (S__law_draws)) := by
  refine okC F sc__law_draws rfl (n := 4) (fun cl kk h => ?_) (by decide) (fun cdv A out s H E hr => ?_)
  · obtain ⟨ns, i, rfl, _⟩ := h
    rfl
  refine ⟨_, (pss_cons (ps_set (i := 2) sc__law_draws.nd rfl (.inl rfl) (pe_ifExp (pt_cmpR op_lt (pv 1) (pe_callB cr_len (by rfl) m_len PySem.boot_len (pa_cons (pv 0) pa_nil)) (nomark _)) (pe_ix ix_list (pv 0) (pv 1) (fun _ _ => rfl)) (pe_op op_add (pe_op op_mul pe_int (pv 1)) pe_int)))
      (pss_cons (ps_set (i := 3) sc__law_draws.nd rfl (.inl rfl) (pe_op op_mul (pe_op op_modN (pe_callB cr_abs (by rfl) m_abs (by decide +kernel) (pa_cons (pv 2) pa_nil)) (pe_op op_powW (pe_op op_pow pe_int pe_int) pe_int)) (pe_callTy cr_int (by rfl) m_int (by decide +kernel) (pa_cons (pe_cmpR op_ge (pe_callB cr_abs (by rfl) m_abs (by decide +kernel) (pa_cons (pv 2) pa_nil)) (pe_op op_pow pe_int pe_int) (nomark _)) pa_nil))))
      (pss_one (ps_ret (pe_lst (pa_cons (pv 3) (pa_cons (pe_op op_modN (pe_op op_mul (pe_op op_add (pe_op op_add (pe_op op_modN (pv 2) pe_int) (pe_op op_mul (pe_op op_mul pe_int (pv 1)) (pv 1))) pe_int) pe_int) pe_int) (pa_cons pe_int pa_nil)))))))), fun cl kk h => ?_⟩
  obtain ⟨ns, i, rfl, hl, hi, hi2, hk⟩ := h
  walk_at "start"
  intro fr Q R
  refine nt_seq (nt_set (WE.imp (k := fun c cs2 => ∃ z : Int, c = .d (.int z) ∧ cs2 = [.d (.list (ns.map .int)), .d (.int i), .any, .any]) ?_ ?_))
  · repeat' walk_at "we"
    · rename_i e
      have e2 : i < (ns.length : Int) := by
        have e3 : i < ((ns.map PyData.int).length : Int) := of_decide_eq_true e
        rw [List.length_map] at e3
        exact e3
      obtain ⟨z, hz, ez⟩ := atI_in (ds := ns.map PyData.int) (r := i) hi (by rw [List.length_map]; exact e2)
      obtain ⟨y, _, rfl⟩ := List.mem_map.mp hz
      exact atX ez ⟨_, rfl, rfl⟩
    · walk_at "side"
    · exact ⟨_, rfl, rfl⟩
  · rintro c cs2 ⟨z, rfl, rfl⟩
    repeat' walk_at "we"
    · exact ⟨by decide, by decide, by decide⟩
    · exact ⟨by decide, by decide +kernel⟩
    · exact (by decide +kernel : ((10 : Int) ^ Int.toNat 60) ^ Int.toNat 5 ≠ 0)
    · exact ⟨by decide, by decide, by decide⟩
    · exact .inr ⟨by have := (b01 (decide (10 ^ Int.toNat 18 ≤ if z < 0 then -z else z))).1; omega, by have := (b01 (decide (10 ^ Int.toNat 18 ≤ if z < 0 then -z else z))).2; omega⟩
    refine nt_ret R (we_lstM ?_)
    repeat' walk_at "we"
    all_goals first | walk_at "side" | skip
    refine fun a => ⟨_, .keep rfl (.keep rfl .nil), hk _ _ _ _ ⟨?_, fm_lo (by decide), ?_, by decide, by decide⟩⟩
    · refine Int.mul_nonneg (fm_lo (by decide +kernel)) (b01 _).1
    · exact Int.lt_trans (fm_hi (by decide)) (by decide)
end K29
namespace K29
open PySem PySem.Spec PyProof.Rows L2 Gu Dx K30
local macro_rules | `(tactic| walk_at "we") => `(tactic| with_reducible first
  | (refine nt_mk ?_; walk_at "norm") | refine nt_mkb ?_ | refine nt_mkc ?_ | refine nt_seq ?_ | refine nt_break ?_ | refine nt_next ?_ | refine nt_if ?_
  | refine nt_setM (by with_unfolding_all rfl) ?_ | refine nt_set ?_ | refine nt_app (by with_unfolding_all rfl) ?_ | refine nt_aug (by with_unfolding_all rfl) ?_ | refine nt_par ?_ | refine nt_par3 ?_
  | refine wt_test ?_ | refine wt_B ?_ | refine wt_and ?_ | refine wt_or ?_ | refine wt_not ?_ | refine wt_yes ?_ | refine we_if ?_
  | refine isB ?_ | refine isI ?_ | refine isD ?_ | refine bbT ?_ | refine bbF ?_ | refine bb (fun _ => ?_) (fun _ => ?_)
  | refine atM (by with_unfolding_all rfl) ?_ | refine ixJ (by with_unfolding_all rfl) ?_ | refine und (by with_unfolding_all rfl) (by with_unfolding_all rfl) ?_ | refine two ?_ | refine three ?_ | refine atX (by with_unfolding_all rfl) ?_ | refine less ?_ ?_
  | refine we_ixM (by with_unfolding_all rfl) ?_ | refine we_op ?_ | refine we_var (by with_unfolding_all rfl) ?_ | refine we_varB (by with_unfolding_all rfl) ?_ | refine we_int ?_ | refine we_str ?_ | refine we_bl ?_ | refine we_non ?_
  | refine we_tup ?_ | refine we_andV ?_ | refine we_orV ?_ | refine we_notV ?_
  | refine rd_ixL ?_ | refine rd_ixT ?_ | refine rd_I0 (fun _ => .int _) ?_ | refine rd_I0 (fun _ => .bl _) ?_ | refine rd_I ?_ (fun _ => .int _) ?_ | refine rd_eq (by with_unfolding_all rfl) (by with_unfolding_all rfl) (by with_unfolding_all rfl) ?_ | refine rd_ne (by with_unfolding_all rfl) (by with_unfolding_all rfl) (by with_unfolding_all rfl) ?_
  | refine wa_cons ?_ | refine wa_nil ?_ | refine we_bM (by with_unfolding_all rfl) bl_len ?_ | refine we_bM (by with_unfolding_all rfl) bl_tuple ?_ | refine we_cb ?_ | refine we_callL ?_
  | refine ra_L bl_len ?_ | refine ra_T bt_len ?_ | refine ra_1I (fun _ => .int _) ?_ | refine ra_2I (fun _ => .int _) ?_ | refine ra_intB ?_ | refine ra_L bl_tuple ?_
  | refine rd_catD ?_ ?_ | refine wg_name ?_ | refine wg_tup (by with_unfolding_all rfl) ?_ | refine wgs_cons ?_ | refine wgs_nil ?_ | fail)
local macro_rules | `(tactic| walk_at "side") => `(tactic| first
  | exact (show (_ : Int) ≠ 0 by omega) | exact (show CDivN _ _ from ⟨by omega, by omega⟩) | exact (show CMul _ _ from Or.inl ⟨by omega, by omega⟩) | exact (show CMul _ _ from Or.inr ⟨by omega, by omega⟩)
  | exact (show CPow _ _ from ⟨by omega, by omega, by omega⟩))
local macro_rules | `(tactic| walk_at "start") => `(tactic| dsimp only [cxOf, Cx.nox, Cx.wish])
local macro_rules | `(tactic| walk_at "norm") => `(tactic| try dsimp only [List.set_cons_zero, List.set_cons_succ])
abbrev Row := K30.Row
abbrev rowD (r : Row) : PyData := .tuple [.int r.1, .int r.2.1, .bool r.2.2]
structure RowsOk (rows : List Row) : Prop where
  len : rows.length ≤ 8
  many : ∀ r ∈ rows, 1 ≤ r.2.1 ∧ r.2.1 ≤ 8
  page : ∀ r ∈ rows, 0 ≤ r.1 ∧ r.1 ≤ 100
  asc : Pages rows
def S__law_pick : List Cell → KC → Prop := fun cl k => ∃ (a : Addr) (N : Nat) (g x n : Int) (ds : List PyData), cl = [jc a g x n, .d (.list ds)] ∧ JP N g x n ∧ N ≤ 900000 ∧ ds ≠ [] ∧ ds.length ≤ 1000 ∧
  ∀ d g' x' n', d ∈ ds → JP (N + 1) g' x' n' → k (.d d) [jc a g' x' n', .d (.list ds)]
theorem ok__law_pick {P : Program} {w : World} {K : PySem.W.Frag} {mg : Str → Option Value} {base : Heap} {f0 : Addr} {fd0 : FuncData} (F : Fun K "_law_pick" "_law_pick" s__law_pick f0 fd0) (m_len : mg "len" = none) (C__law_below : Cal P w K mg base 1 "_law_below" ["_law_draws_here", "_law_many"] (S__law_below)) :
    FnOk P w K mg base CX0 2 f0 fd0 ["_law_draws_here", "_law_items"] (spC K (S__law_pick)) := by
  refine okC F sc__law_pick rfl (n := 2) (fun cl kk h => ?_) (by decide) (fun cdv A out s H E hr => ?_)
  · obtain ⟨a, N, g, x, n, ds, rfl, _⟩ := h
    rfl
  refine ⟨_, (pss_one (ps_ret (pe_ix ix_list (pv 1) (pe_cal C__law_below (hr.mono (by decide)) (by rfl) (pa_cons (pv 0) (pa_cons (pe_callB cr_len (by rfl) m_len PySem.boot_len (pa_cons (pv 1) pa_nil)) pa_nil))) (fun _ _ => rfl)))), fun cl kk h => ?_⟩
  obtain ⟨a, N, g, x, n, ds, rfl, hJ, hN, hd, hl, hk⟩ := h
  walk_at "start"
  intro fr Q R
  refine nt_is [jc a g x n, .d (.list ds)] rfl ?_
  refine nt_ret R ?_
  have hpos : 0 < ds.length := List.length_pos_iff.mpr hd
  repeat' walk_at "we"
  refine ⟨_, _, .lend 0 rfl (.keep .nil), a, N, ds.length, g, x, n, rfl, hJ, by omega, by omega, by omega, fun r g1 x1 n1 h0 h1 J1 => ⟨_, .back 0 rfl (.skip .nil), ?_⟩⟩
  repeat' walk_at "we"
  obtain ⟨z, hz, ez⟩ := atI_in (ds := ds) (r := r) h0 h1
  exact atX ez ⟨_, .own (.keep rfl .nil), hk z _ _ _ hz J1⟩
def S__law_rows : List Cell → KC → Prop := fun cl k => ∃ (a : Addr) (N : Nat) (g x n : Int), cl = [jc a g x n] ∧ JP N g x n ∧ N ≤ 500000 ∧
  ∀ rows g' x' n', RowsOk rows → JP (N + 100) g' x' n' → k (.d (.tuple (rows.map rowD))) [jc a g' x' n']
theorem ok__law_rows {P : Program} {w : World} {K : PySem.W.Frag} {mg : Str → Option Value} {base : Heap} {f0 : Addr} {fd0 : FuncData} (F : Fun K "_law_rows" "_law_rows" s__law_rows f0 fd0) (m_range : mg "range" = none) (m_tuple : mg "tuple" = none) (C__law_below : Cal P w K mg base 1 "_law_below" ["_law_draws_here", "_law_many"] (S__law_below)) (C__law_pick : Cal P w K mg base 2 "_law_pick" ["_law_draws_here", "_law_items"] (S__law_pick)) :
    FnOk P w K mg base CX0 3 f0 fd0 ["_law_draws_here"] (spC K (S__law_rows)) := by
  refine okC F sc__law_rows rfl (n := 5) (fun cl kk h => ?_) (by decide) (fun cdv A out s H E hr => ?_)
  · obtain ⟨a, N, g, x, n, rfl, _⟩ := h
    rfl
  refine ⟨_, (pss_cons (ps_par (i := 1) (j := 2) (by rfl) sc__law_rows.nd rfl rfl (by decide) rfl rfl (pa_cons (pe_lst pa_nil) (pa_cons pe_int pa_nil)) (by rfl))
      (pss_cons (ps_for PassesOwn.never (by rfl) (pi_range1 (by rfl) m_range (pa_cons (pe_cal C__law_below (hr.mono (by decide)) (by rfl) (pa_cons (pv 0) (pa_cons pe_int pa_nil))) pa_nil)) (pg_name (i := 3) sc__law_rows.nd rfl (.inl rfl)) (pss_cons (ps_set (i := 2) sc__law_rows.nd rfl (.inl rfl) (pe_op op_add (pe_op op_add (pv 2) pe_int) (pe_cal C__law_pick (hr.mono (by decide)) (by rfl) (pa_cons (pv 0) (pa_cons (pe_lst (pa_cons pe_int (pa_cons pe_int (pa_cons (pe_cal C__law_below (hr.mono (by decide)) (by rfl) (pa_cons (pv 0) (pa_cons pe_int pa_nil))) pa_nil)))) pa_nil)))))
      (pss_cons (ps_set (i := 4) sc__law_rows.nd rfl (.inl rfl) (pe_op op_add pe_int (pe_cal C__law_pick (hr.mono (by decide)) (by rfl) (pa_cons (pv 0) (pa_cons (pe_lst (pa_cons (pe_cal C__law_below (hr.mono (by decide)) (by rfl) (pa_cons (pv 0) (pa_cons pe_int pa_nil))) (pa_cons (pe_cal C__law_below (hr.mono (by decide)) (by rfl) (pa_cons (pv 0) (pa_cons pe_int pa_nil))) (pa_cons pe_int pa_nil)))) pa_nil)))))
      (pss_one (ps_expr (pe_bm PySem.F.plainAttrs_list PySem.F.slot_list_append PySem.F.type_list_append mt_append (pv 1) (pa_cons (pe_tup (pa_cons (pv 2) (pa_cons (pv 4) (pa_cons (pe_cmpR op_eq (pe_cal C__law_below (hr.mono (by decide)) (by rfl) (pa_cons (pv 0) (pa_cons pe_int pa_nil))) pe_int (nomark _)) pa_nil)))) pa_nil)))))))
      (pss_one (ps_ret (pe_callTy cr_tuple (by rfl) m_tuple (by decide +kernel) (pa_cons (pv 1) pa_nil)))))), fun cl kk h => ?_⟩
  obtain ⟨a, N, g, x, n, rfl, hJ, hN, hk⟩ := h
  walk_at "start"
  intro fr Q R
  refine nt_is [jc a g x n, .any, .any, .any, .any] rfl ?_
  refine nt_seq (nt_par (wa_cons (we_lstM ?_)))
  repeat' walk_at "we"
  intro pf
  repeat' walk_at "we"
  refine nt_forR ?_
  repeat' walk_at "we"
  refine ⟨_, _, .lend 0 rfl (.keep .nil), a, N, 9, g, x, n, rfl, hJ, by decide, by decide, by omega, fun r2 g2 x2 n2 hr0 hr1 J2 => ⟨_, .back 0 rfl (.skip .nil), ?_⟩⟩
  repeat' walk_at "we"
  obtain ⟨m, rfl⟩ : ∃ m : Nat, r2 = (m : Int) := ⟨r2.toNat, by omega⟩
  refine ⟨m, rfl, by omega, fun i cs' => ∃ rows g' x' n' pg c3 c4, cs' = [jc a g' x' n', .m pf (.lst (rows.map rowD)), .d (.int pg), c3, c4] ∧ JP (N + 1 + 8 * i) g' x' n' ∧ RowsOk rows ∧ rows.length = i ∧ 0 ≤ pg ∧ pg ≤ 6 * i ∧ ∀ r ∈ rows, r.1 ≤ pg, ⟨[], g2, x2, n2, 0, .any, .any, rfl, J2, ⟨by decide, fun r hr => (by cases hr), fun r hr => (by cases hr), List.Pairwise.nil⟩, rfl, by decide, by decide, fun r hr => (by cases hr)⟩, ?_, ?_⟩
  · rintro y i cs' hi ⟨rows, g3, x3, n3, pg, c3, c4, rfl, J3, hro, hlen, hpg, hpg2, hle⟩
    repeat' walk_at "we"
    refine we_lstD ?_
    repeat' walk_at "we"
    refine ⟨_, _, .lend 0 rfl (.keep .nil), a, N + 1 + 8 * i, 5, g3, x3, n3, rfl, J3, by decide, by decide, by omega, fun r4 g4 x4 n4 h40 h41 J4 => ⟨_, .back 0 rfl (.skip .nil), ?_⟩⟩
    repeat' walk_at "we"
    refine ⟨_, _, .lend 0 rfl (.keep .nil), a, N + 1 + 8 * i + 1, g4, x4, n4, _, rfl, J4, by omega, by simp, by simp, fun d5 g5 x5 n5 hd5 J5 => ⟨_, .back 0 rfl (.skip .nil), ?_⟩⟩
    obtain ⟨p5, rfl, h50, h51⟩ : ∃ p, d5 = PyData.int p ∧ 0 ≤ p ∧ p ≤ 4 := by
      have hd5' : d5 ∈ [PyData.int 0, PyData.int 0, PyData.int r4] := hd5
      simp only [List.mem_cons, List.not_mem_nil, or_false] at hd5'
      rcases hd5' with rfl | rfl | rfl
      · exact ⟨_, rfl, by decide, by decide⟩
      · exact ⟨_, rfl, by decide, by decide⟩
      · exact ⟨_, rfl, h40, by omega⟩
    repeat' walk_at "we"
    refine we_lstD ?_
    repeat' walk_at "we"
    refine ⟨_, _, .lend 0 rfl (.keep .nil), a, N + 1 + 8 * i + 2, 8, g5, x5, n5, rfl, J5, by decide, by decide, by omega, fun r6 g6 x6 n6 h60 h61 J6 => ⟨_, .back 0 rfl (.skip .nil), ?_⟩⟩
    repeat' walk_at "we"
    refine ⟨_, _, .lend 0 rfl (.keep .nil), a, N + 1 + 8 * i + 3, 3, g6, x6, n6, rfl, J6, by decide, by decide, by omega, fun r7 g7 x7 n7 h70 h71 J7 => ⟨_, .back 0 rfl (.skip .nil), ?_⟩⟩
    repeat' walk_at "we"
    refine ⟨_, _, .lend 0 rfl (.keep .nil), a, N + 1 + 8 * i + 4, g7, x7, n7, _, rfl, J7, by omega, by simp, by simp, fun d8 g8 x8 n8 hd8 J8 => ⟨_, .back 0 rfl (.skip .nil), ?_⟩⟩
    obtain ⟨p8, rfl, h80, h81⟩ : ∃ p, d8 = PyData.int p ∧ 0 ≤ p ∧ p ≤ 7 := by
      have hd8' : d8 ∈ [PyData.int r6, PyData.int r7, PyData.int 7] := hd8
      simp only [List.mem_cons, List.not_mem_nil, or_false] at hd8'
      rcases hd8' with rfl | rfl | rfl
      · exact ⟨_, rfl, h60, by omega⟩
      · exact ⟨_, rfl, h70, by omega⟩
      · exact ⟨_, rfl, by decide, by decide⟩
    repeat' walk_at "we"
    refine ⟨_, _, .lend 0 rfl (.keep .nil), a, N + 1 + 8 * i + 5, 4, g8, x8, n8, rfl, J8, by decide, by decide, by omega, fun r9 g9 x9 n9 h90 h91 J9 => ⟨_, .back 0 rfl (.skip .nil), ?_⟩⟩
    repeat' walk_at "we"
    · rw [List.length_map]
      omega
    · refine nt_nx ⟨rows ++ [(pg + 1 + p5, 1 + p8, decide (V.int r9 = V.int 0))], g9, x9, n9, pg + 1 + p5, _, _, by rw [List.map_append]; rfl, J9.mono (by omega), ⟨?_, ?_, ?_, ?_⟩, by rw [List.length_append, List.length_singleton, hlen], by omega, by omega, ?_⟩
      · rw [List.length_append, List.length_singleton]
        omega
      · intro r hr
        rcases List.mem_append.mp hr with hr | hr
        · exact hro.many r hr
        · obtain rfl := List.mem_singleton.mp hr
          exact ⟨by show 1 ≤ 1 + p8; omega, by show 1 + p8 ≤ 8; omega⟩
      · intro r hr
        rcases List.mem_append.mp hr with hr | hr
        · exact hro.page r hr
        · obtain rfl := List.mem_singleton.mp hr
          exact ⟨by show 0 ≤ pg + 1 + p5; omega, by show pg + 1 + p5 ≤ 100; omega⟩
      · refine List.pairwise_append.mpr ⟨hro.asc, List.pairwise_singleton _ _, fun r hr r' hr' => ?_⟩
        obtain rfl := List.mem_singleton.mp hr'
        have := hle r hr
        show r.1 < pg + 1 + p5
        omega
      · intro r hr
        rcases List.mem_append.mp hr with hr | hr
        · have := hle r hr
          omega
        · obtain rfl := List.mem_singleton.mp hr
          exact Int.le_refl _
  · rintro cs' ⟨rows, g3, x3, n3, pg, c3, c4, rfl, J3, hro, hlen, hpg, hpg2, hle⟩
    repeat' walk_at "we"
    refine nt_ret R ?_
    repeat' walk_at "we"
    exact ⟨_, .own .nil, hk rows _ _ _ hro (J3.mono (by omega))⟩
end K29
namespace K29
open PySem PySem.Spec PyProof.Rows L2 Gu Dx K30
local macro_rules | `(tactic| walk_at "we") => `(tactic| with_reducible first
  | (refine nt_mk ?_; walk_at "norm") | refine nt_mkb ?_ | refine nt_mkc ?_ | refine nt_seq ?_ | refine nt_break ?_ | refine nt_next ?_ | refine nt_if ?_
  | refine nt_setM (by with_unfolding_all rfl) ?_ | refine nt_set ?_ | refine nt_app (by with_unfolding_all rfl) ?_ | refine nt_aug (by with_unfolding_all rfl) ?_ | refine nt_par ?_ | refine nt_par3 ?_
  | refine wt_test ?_ | refine wt_B ?_ | refine wt_and ?_ | refine wt_or ?_ | refine wt_not ?_ | refine wt_yes ?_ | refine we_if ?_
  | refine isB ?_ | refine isI ?_ | refine isD ?_ | refine bbT ?_ | refine bbF ?_ | refine bb (fun _ => ?_) (fun _ => ?_)
  | refine atM (by with_unfolding_all rfl) ?_ | refine ixJ (by with_unfolding_all rfl) ?_ | refine und (by with_unfolding_all rfl) (by with_unfolding_all rfl) ?_ | refine two ?_ | refine three ?_ | refine atX (by with_unfolding_all rfl) ?_ | refine less ?_ ?_
  | refine we_ixM (by with_unfolding_all rfl) ?_ | refine we_op ?_ | refine we_var (by with_unfolding_all rfl) ?_ | refine we_varM (by with_unfolding_all rfl) ?_ | refine we_int ?_ | refine we_str ?_ | refine we_bl ?_ | refine we_non ?_
  | refine we_tup ?_ | refine we_andV ?_ | refine we_orV ?_ | refine we_notV ?_
  | refine rd_ixL ?_ | refine rd_ixT ?_ | refine rd_I0 (fun _ => .int _) ?_ | refine rd_I0 (fun _ => .bl _) ?_ | refine rd_I ?_ (fun _ => .int _) ?_ | refine rd_eq (by with_unfolding_all rfl) (by with_unfolding_all rfl) (by with_unfolding_all rfl) ?_ | refine rd_ne (by with_unfolding_all rfl) (by with_unfolding_all rfl) (by with_unfolding_all rfl) ?_
  | refine wa_cons ?_ | refine wa_nil ?_ | refine we_bM (by with_unfolding_all rfl) bl_len ?_ | refine we_bM (by with_unfolding_all rfl) bl_tuple ?_ | refine we_cb ?_ | refine we_call ?_
  | refine ra_L bl_len ?_ | refine ra_T bt_len ?_ | refine ra_1I (fun _ => .int _) ?_ | refine ra_2I (fun _ => .int _) ?_ | refine ra_intB ?_ | refine ra_L bl_tuple ?_
  | refine wg_name ?_ | refine wg_tup (by with_unfolding_all rfl) ?_ | refine wgs_cons ?_ | refine wgs_nil ?_ | fail)
local macro_rules | `(tactic| walk_at "side") => `(tactic| first
  | exact (show (_ : Int) ≠ 0 by omega) | exact (show CDivN _ _ from ⟨by omega, by omega⟩) | exact (show CMul _ _ from Or.inl ⟨by omega, by omega⟩) | exact (show CMul _ _ from Or.inr ⟨by omega, by omega⟩)
  | exact (show CPow _ _ from ⟨by omega, by omega, by omega⟩))
local macro_rules | `(tactic| walk_at "start") => `(tactic| dsimp only [cxOf, Cx.nox, Cx.wish])
local macro_rules | `(tactic| walk_at "norm") => `(tactic| try dsimp only [List.set_cons_zero, List.set_cons_succ])
theorem tg3 {K : PySem.W.Frag} {i j l : Nat} : Tg (gTup K 3 (gCons (gName i) (gCons (gName j) (gCons (gName l) gNil)))) [i, j, l] := tg_tup (tgs_cons tg_name (tgs_cons tg_name (tgs_cons tg_name tgs_nil)))
theorem filt_pairs (rows : List Row) : (rows.filter fun r => !r.2.2).map (fun r => PyData.tuple [.int r.2.1, .int r.1]) = (pairs rows).map fun q => PyData.tuple [.int q.1, .int q.2] := by
  unfold pairs
  rw [List.map_map]
  rfl
theorem srt_len (rows : List Row) : (srt rows).length = (pairs rows).length := List.length_mergeSort _
theorem pairs_len (rows : List Row) : (pairs rows).length ≤ rows.length := by
  unfold pairs
  rw [List.length_map]
  exact List.length_filter_le _ _
def S_emptied : List Cell → KC → Prop := fun cl k => ∃ (rows : List Row) (m : Int), cl = [.d (.tuple (rows.map rowD)), .d (.int m)] ∧ RowsOk rows ∧ k (.d (.tuple ((emp rows m).map PyData.int))) cl
theorem ok_emptied {P : Program} {w : World} {K : PySem.W.Frag} {mg : Str → Option Value} {base : Heap} {f0 : Addr} {fd0 : FuncData} {tk_CELLS : Tok} (F : Fun K "emptied" "emptied" s_emptied f0 fd0) (m_len : mg "len" = none) (m_sorted : mg "sorted" = none) (m_sum : mg "sum" = none) (m_tuple : mg "tuple" = none) (c_CELLS : mg "CELLS" = some (.int 8 tk_CELLS)) :
    FnOk P w K mg base CX0 1 f0 fd0 ["pages", "moves"] (spC K (S_emptied)) := by
  refine okC F sc_emptied rfl (n := 8) (fun cl kk h => ?_) (by decide) (fun cdv A out s H E hr => ?_)
  · obtain ⟨rows, m, rfl, _⟩ := h
    rfl
  refine ⟨_, (pss_cons (ps_set (i := 2) sc_emptied.nd rfl (.inl rfl) (pe_op op_fdivN (pe_callB (cr_sum rfl) (by rfl) m_sum (by decide +kernel) (pa_cons (pe_lc (own := [("page", 3), ("many", 4), ("is_pinned", 5)]) (g := gTup K 3 (gCons (gName 3) (gCons (gName 4) (gCons (gName 5) (gNil))))) (tt := tYes) (by rfl) sc_emptied.nd (pi_tup (pv 0)) (blkOk_by (own := [("page", 3), ("many", 4), ("is_pinned", 5)]) (N := N_emptied) (sc := defScope s_emptied) (by decide +kernel)) (fun _ _ _ _ _ => (pg_tup (by rfl) (pgs_cons (pg_name (i := 3) sc_emptied.nd rfl (.inl rfl)) (pgs_cons (pg_name (i := 4) sc_emptied.nd rfl (.inl rfl)) (pgs_cons (pg_name (i := 5) sc_emptied.nd rfl (.inl rfl)) pgs_nil))))) (fun _ _ _ _ _ => pts_nil) (fun _ _ _ _ _ => (pe_op op_sub (pe_glob (v := .int 8) (by rfl) c_CELLS ⟨_, rfl⟩) (pv 4)))) pa_nil)) (pe_glob (v := .int 8) (by rfl) c_CELLS ⟨_, rfl⟩)))
      (pss_cons (ps_par (i := 6) (j := 7) (by rfl) sc_emptied.nd rfl rfl (by decide) rfl rfl (pa_cons (pe_lst pa_nil) (pa_cons (pv 1) pa_nil)) (by rfl))
      (pss_cons (ps_for PassesOwn.never (by rfl) (pi_list (pe_callB (call_sortD hr.units) (by rfl) m_sorted (by decide +kernel) (pa_cons (pe_lc (own := [("page", 3), ("many", 4), ("is_pinned", 5)]) (g := gTup K 3 (gCons (gName 3) (gCons (gName 4) (gCons (gName 5) (gNil))))) (tt := _) (by rfl) sc_emptied.nd (pi_tup (pv 0)) (blkOk_by (own := [("page", 3), ("many", 4), ("is_pinned", 5)]) (N := N_emptied) (sc := defScope s_emptied) (by decide +kernel)) (fun _ _ _ _ _ => (pg_tup (by rfl) (pgs_cons (pg_name (i := 3) sc_emptied.nd rfl (.inl rfl)) (pgs_cons (pg_name (i := 4) sc_emptied.nd rfl (.inl rfl)) (pgs_cons (pg_name (i := 5) sc_emptied.nd rfl (.inl rfl)) pgs_nil))))) (fun _ _ _ _ _ => (pts_one (pt_not (pt_val (pv 5))))) (fun _ _ _ _ _ => (pe_tup (pa_cons (pv 4) (pa_cons (pv 3) pa_nil))))) pa_nil))) (pg_tup (by rfl) (pgs_cons (pg_name (i := 4) sc_emptied.nd rfl (.inl rfl)) (pgs_cons (pg_name (i := 3) sc_emptied.nd rfl (.inl rfl)) pgs_nil))) (pss_one (ps_if (PW.pt (pw_and (pt_cmpR op_lt (pe_callB cr_len (by rfl) m_len PySem.boot_len (pa_cons (pv 6) pa_nil)) (pv 2) (nomark _)) (pw_and1 (pt_cmpR op_le (pv 4) (pv 7) (nomark _))))) (pss_cons (ps_expr (pe_bm PySem.F.plainAttrs_list PySem.F.slot_list_append PySem.F.type_list_append mt_append (pv 6) (pa_cons (pv 3) pa_nil)))
      (pss_one (ps_aug (i := 7) sc_emptied.nd rfl (.inl rfl) (pv 4) ip_sub))) pss_nil)))
      (pss_one (ps_ret (pe_callTy cr_tuple (by rfl) m_tuple (by decide +kernel) (pa_cons (pe_callB (call_sortD hr.units) (by rfl) m_sorted (by decide +kernel) (pa_cons (pv 6) pa_nil)) pa_nil))))))), fun cl kk h => ?_⟩
  obtain ⟨rows, m, rfl, hro, hk⟩ := h
  walk_at "start"
  intro fr Q R
  have hlen := hro.len
  refine nt_is [.d (.tuple (rows.map rowD)), .d (.int m), .any, .any, .any, .any, .any, .any] rfl ?_
  refine nt_seq (nt_set (we_op (we_cb (wa_cons (we_frz (we_lcTp rows rowD (fun _ => true) (fun r => .int (8 - r.2.1)) tg3 (by decide) (by omega) (we_var rfl ⟨rfl, ?_, ?_⟩)))))))
  · intro b hb
    repeat' walk_at "we"
    exact ⟨rfl, rfl, rfl⟩
  refine fun a => ⟨a, _, rfl, wa_nil ?_⟩
  dsimp only [wipeC, List.map_cons, List.map_nil, List.set_cons_zero, List.set_cons_succ]
  have e1 : (rows.filter fun _ => true).map (fun r => PyData.int (8 - r.2.1)) = (rows.map fun r => 8 - r.2.1).map PyData.int := by
    rw [List.filter_eq_self.mpr (fun _ _ => rfl), List.map_map]
    rfl
  rw [e1]
  refine ra_L bl_sum ?_
  repeat' walk_at "we"
  · walk_at "side"
  refine we_lstM ?_
  repeat' walk_at "we"
  intro pf
  repeat' walk_at "we"
  refine nt_forL ?_
  repeat' walk_at "we"
  refine we_frz (we_lcTp rows rowD (fun r => !r.2.2) (fun r => .tuple [.int r.2.1, .int r.1]) tg3 (by decide) (by omega) (we_var rfl ⟨rfl, ?_, ?_⟩))
  · intro b hb
    repeat' walk_at "we"
    · exact ⟨rfl, by assumption, rfl⟩
    · exact ⟨by assumption, rfl⟩
  refine fun a => ⟨a, _, rfl, wa_nil ?_⟩
  dsimp only [wipeC, List.map_cons, List.map_nil, List.set_cons_zero, List.set_cons_succ]
  rw [filt_pairs]
  refine ra_L (bl_sortII (x := Prod.fst) (y := Prod.snd) (le := le2) (fun _ _ => rfl)) ?_
  refine ⟨_, rfl, fun i cs' => ∃ f left c3 c4 c5, cs' = [.d (.tuple (rows.map rowD)), .d (.int m), .d (.int ((roomOf rows).fdiv 8)), c3, c4, c5, .m pf (.lst (f.map PyData.int)), .d (.int left)] ∧
    emp1 ((roomOf rows).fdiv 8) ((srt rows).drop i) f left = emp1 ((roomOf rows).fdiv 8) (srt rows) [] m ∧ f.length ≤ i, ⟨[], m, .any, .any, .any, rfl, rfl, Nat.le_refl _⟩, ?_, ?_⟩
  · rintro y i d cs' hd ⟨f, left, c3, c4, c5, rfl, he, hl⟩
    rw [List.getElem?_map] at hd
    obtain ⟨q, hq, rfl⟩ := Option.map_eq_some_iff.mp hd
    replace hq : (srt rows)[i]? = some q := hq
    have hi := (List.getElem?_eq_some_iff.mp hq).1
    have hi2 : (srt rows).length ≤ 200 := by rw [srt_len]; have := pairs_len rows; omega
    have ed : (srt rows).drop i = q :: (srt rows).drop (i + 1) := by
      rw [List.drop_eq_getElem_cons hi]
      congr 1
      exact (List.getElem?_eq_some_iff.mp hq).2
    rw [ed] at he
    rw [emp1_cons] at he
    repeat' walk_at "we"
    · rw [List.length_map]
      omega
    · rename_i e1 e2
      have e1' : ((f.length : Nat) : Int) < (roomOf rows).fdiv 8 := by
        have := of_decide_eq_true e1
        rw [List.length_map] at this
        exact this
      rw [if_pos ⟨e1', of_decide_eq_true e2⟩] at he
      exact nt_nx ⟨f ++ [q.2], left - q.1, _, _, _, by rw [List.map_append]; rfl, he, by rw [List.length_append, List.length_singleton]; omega⟩
    · rename_i e1 e2
      rw [if_neg (fun z => of_decide_eq_false e2 z.2)] at he
      exact nt_nx ⟨f, left, _, _, _, rfl, he, by omega⟩
    · rename_i e1
      rw [if_neg (fun z => of_decide_eq_false e1 (by rw [List.length_map]; exact z.1))] at he
      exact nt_nx ⟨f, left, _, _, _, rfl, he, by omega⟩
  · rintro cs' ⟨f, left, c3, c4, c5, rfl, he, hl⟩
    rw [show (List.map (fun b : Int × Int => PyData.tuple [.int b.1, .int b.2]) ((pairs rows).mergeSort le2)).length = (srt rows).length from List.length_map _, List.drop_length] at he
    refine nt_ret R (we_cb (wa_cons (we_bM rfl (bl_sortI (le := leI) (fun _ _ => rfl)) (wa_nil (ra_L bl_tuple ?_)))))
    refine ⟨_, .keep rfl (.keep rfl .nil), ?_⟩
    have he' : f = emp1 ((roomOf rows).fdiv 8) (srt rows) [] m := he
    rw [he']
    exact hk
end K29
namespace K29
open PySem PySem.Spec PyProof.Rows L2 Gu Dx K30
local macro_rules | `(tactic| walk_at "we") => `(tactic| with_reducible first
  | (refine nt_mk ?_; walk_at "norm") | refine nt_mkb ?_ | refine nt_mkc ?_ | refine nt_seq ?_ | refine nt_break ?_ | refine nt_next ?_ | refine nt_if ?_
  | refine nt_setM (by with_unfolding_all rfl) ?_ | refine nt_set ?_ | refine nt_app (by with_unfolding_all rfl) ?_ | refine nt_aug (by with_unfolding_all rfl) ?_ | refine nt_par ?_ | refine nt_par3 ?_
  | refine wt_test ?_ | refine wt_B ?_ | refine wt_and ?_ | refine wt_or ?_ | refine wt_not ?_ | refine wt_yes ?_ | refine we_if ?_
  | refine isB ?_ | refine isI ?_ | refine isD ?_ | refine bbT ?_ | refine bbF ?_ | refine bb (fun _ => ?_) (fun _ => ?_)
  | refine atM (by with_unfolding_all rfl) ?_ | refine ixJ (by with_unfolding_all rfl) ?_ | refine und (by with_unfolding_all rfl) (by with_unfolding_all rfl) ?_ | refine two ?_ | refine three ?_ | refine atX (by with_unfolding_all rfl) ?_ | refine less ?_ ?_
  | refine we_ixM (by with_unfolding_all rfl) ?_ | refine we_op ?_ | refine we_var (by with_unfolding_all rfl) ?_ | refine we_varB (by with_unfolding_all rfl) ?_ | refine we_int ?_ | refine we_str ?_ | refine we_bl ?_ | refine we_non ?_
  | refine we_tup ?_ | refine we_andV ?_ | refine we_orV ?_ | refine we_notV ?_
  | refine rd_ixL ?_ | refine rd_ixT ?_ | refine rd_I0 (fun _ => .int _) ?_ | refine rd_I0 (fun _ => .bl _) ?_ | refine rd_I ?_ (fun _ => .int _) ?_ | refine rd_eq (by with_unfolding_all rfl) (by with_unfolding_all rfl) (by with_unfolding_all rfl) ?_ | refine rd_ne (by with_unfolding_all rfl) (by with_unfolding_all rfl) (by with_unfolding_all rfl) ?_
  | refine wa_cons ?_ | refine wa_nil ?_ | refine we_bM (by with_unfolding_all rfl) bl_len ?_ | refine we_bM (by with_unfolding_all rfl) bl_tuple ?_ | refine we_cb ?_ | refine we_callL ?_
  | refine ra_L bl_len ?_ | refine ra_T bt_len ?_ | refine ra_1I (fun _ => .int _) ?_ | refine ra_2I (fun _ => .int _) ?_ | refine ra_intB ?_ | refine ra_L bl_tuple ?_
  | refine rd_catD ?_ ?_ | refine rd_isN ?_ | refine rd_notN ?_ | refine wg_name ?_ | refine wg_tup (by with_unfolding_all rfl) ?_ | refine wgs_cons ?_ | refine wgs_nil ?_ | fail)
local macro_rules | `(tactic| walk_at "side") => `(tactic| first
  | exact (show (_ : Int) ≠ 0 by omega) | exact (show CDivN _ _ from ⟨by omega, by omega⟩) | exact (show CMul _ _ from Or.inl ⟨by omega, by omega⟩) | exact (show CMul _ _ from Or.inr ⟨by omega, by omega⟩)
  | exact (show CPow _ _ from ⟨by omega, by omega, by omega⟩))
local macro_rules | `(tactic| walk_at "start") => `(tactic| dsimp only [cxOf, Cx.nox, Cx.wish])
local macro_rules | `(tactic| walk_at "norm") => `(tactic| try dsimp only [List.set_cons_zero, List.set_cons_succ])
abbrev sD (s : List Row) : PyData := .list (s.map rowD)
theorem sets_step {l : List Row} {i : Nat} {x : Row} (h : l[i]? = some x) : sets (l.take (i + 1)) = sets (l.take i) ++ (sets (l.take i)).map (· ++ [x]) := by
  rw [List.take_add_one, h]
  unfold sets
  rw [List.foldl_append]
  rfl
theorem sets_len : ∀ (l : List Row) (f : List (List Row)), (l.foldl (fun f x => f ++ f.map (· ++ [x])) f).length = f.length * 2 ^ l.length
  | [], f => by simp
  | x :: l, f => by
    rw [List.foldl_cons, sets_len l, List.length_append, List.length_map, List.length_cons, Nat.pow_succ]
    rw [Nat.add_mul]
    have : f.length * 2 ^ l.length + f.length * 2 ^ l.length = f.length * (2 ^ l.length * 2) := by
      rw [Nat.mul_comm (2 ^ l.length) 2, ← Nat.mul_assoc, Nat.mul_comm f.length 2, Nat.mul_assoc]
      omega
    exact this
theorem sets_le {l : List Row} (h : l.length ≤ 8) : (sets l).length ≤ 256 := by
  have := sets_len l [[]]
  unfold sets
  rw [this]
  have : 2 ^ l.length ≤ 2 ^ 8 := Nat.pow_le_pow_right (by decide) h
  simpa using this
def S__law_sets : List Cell → KC → Prop := fun cl k => ∃ l : List Row, cl = [.d (.list (l.map rowD))] ∧ l.length ≤ 8 ∧ k (.d (.list ((sets l).map sD))) cl
theorem ok__law_sets {P : Program} {w : World} {K : PySem.W.Frag} {mg : Str → Option Value} {base : Heap} {f0 : Addr} {fd0 : FuncData} (F : Fun K "_law_sets" "_law_sets" s__law_sets f0 fd0) :
    FnOk P w K mg base CX0 1 f0 fd0 ["_law_some"] (spC K (S__law_sets)) := by
  refine okC F sc__law_sets rfl (n := 4) (fun cl kk h => ?_) (by decide) (fun cdv A out s H E hr => ?_)
  · obtain ⟨l, rfl, _⟩ := h
    rfl
  refine ⟨_, (pss_cons (ps_set (i := 1) sc__law_sets.nd rfl (.inl rfl) (pe_lst (pa_cons (pe_lst pa_nil) pa_nil)))
      (pss_cons (ps_for PassesOwn.never (by rfl) (pi_list (pv 0)) (pg_name (i := 2) sc__law_sets.nd rfl (.inr rfl)) (pss_one (ps_set (i := 1) sc__law_sets.nd rfl (.inl rfl) (pe_op op_catS (pv 1) (pe_lc (own := [("_law_row", 3)]) (g := gName 3) (tt := tYes) (by rfl) sc__law_sets.nd (pi_list (pv 1)) (blkOk_by (own := [("_law_row", 3)]) (N := N__law_sets) (sc := defScope s__law_sets) (by decide +kernel)) (fun _ _ _ _ _ => (pg_name (i := 3) sc__law_sets.nd rfl (.inl rfl))) (fun _ _ _ _ _ => pts_nil) (fun _ _ _ _ _ => (pe_op (op_catK (K := K)) (pv 3) (pe_lst (pa_cons (pv 2) pa_nil)))))))))
      (pss_one (ps_ret (pv 1))))), fun cl kk h => ?_⟩
  obtain ⟨l, rfl, hl, hk⟩ := h
  walk_at "start"
  intro fr Q R
  refine nt_is [.d (.list (l.map rowD)), .any, .any, .any] rfl ?_
  refine nt_seq (nt_set (we_lstD (wa_cons (we_lstD (wa_nil (und rfl rfl (wa_nil (und rfl rfl ?_))))))))
  repeat' walk_at "we"
  refine nt_forL ?_
  repeat' walk_at "we"
  refine ⟨_, rfl, fun i cs' => ∃ c2 c3, cs' = [.d (.list (l.map rowD)), .d (.list ((sets (l.take i)).map sD)), c2, c3], ⟨_, _, rfl⟩, ?_, ?_⟩
  · rintro y i d cs' hd ⟨c2, c3, rfl⟩
    rw [List.getElem?_map] at hd
    obtain ⟨q, hq, rfl⟩ := Option.map_eq_some_iff.mp hd
    have hi := (List.getElem?_eq_some_iff.mp hq).1
    have hsl : (sets (l.take i)).length ≤ 256 := sets_le (by rw [List.length_take]; omega)
    repeat' walk_at "we"
    refine we_frz (we_lcLp (sets (l.take i)) sD (fun _ => true) (fun s => sD (s ++ [q])) tg_name (by decide) (by omega) (we_var rfl ⟨rfl, ?_, ?_⟩))
    · intro s hs
      have hsub := ((mem_sets _ _).mp hs).length_le
      rw [List.length_take] at hsub
      repeat' walk_at "we"
      refine we_lstD ?_
      repeat' walk_at "we"
      · rw [List.length_map]
        simp
        omega
      · refine ⟨?_, rfl, rfl⟩
        show PyData.list _ = PyData.list _
        rw [List.map_append]
        rfl
    refine fun a => ⟨a, _, rfl, ?_⟩
    dsimp only [wipeC, List.map_cons, List.map_nil, List.set_cons_zero, List.set_cons_succ]
    rw [List.filter_eq_self.mpr (fun _ _ => rfl)]
    refine rd_catD (by rw [List.length_map, List.length_map]; omega) ?_
    repeat' walk_at "we"
    refine nt_nx ⟨.d (rowD q), .any, ?_⟩
    rw [sets_step hq, List.map_append, List.map_map]
    rfl
  · rintro cs' ⟨c2, c3, rfl⟩
    rw [List.length_map, List.take_length]
    repeat' walk_at "we"
    exact nt_ret R (we_var rfl ⟨_, .keep rfl .nil, hk⟩)
abbrev kD (k : Ky) : PyData := .tuple [.int k.1, .int k.2.1, .tuple (k.2.2.map PyData.int)]
def bP : Option Ky → PyData
  | none => .none
  | some k => kD k
theorem alike_ints : ∀ xs ys : List Int, PySem.W.alikeAll (xs.map PyData.int) (ys.map PyData.int) = true
  | [], _ => by simp [PySem.W.alikeAll]
  | _ :: _, [] => by simp [PySem.W.alikeAll]
  | x :: xs, y :: ys => by
    rw [List.map_cons, List.map_cons, PySem.W.alikeAll, alike_ints xs ys]
    rfl
theorem alike_key (a b : Ky) : PySem.W.alike (kD a) (kD b) = true := by
  have h := alike_ints a.2.2 b.2.2
  simp [PySem.W.alike, PySem.W.alikeAll, h]
theorem alikeAll_key (a b : Ky) : PySem.W.AlikeAll [kD a, kD b] := by
  refine ⟨fun x hx y hy => ?_, fun x hx => ?_⟩
  · simp only [List.mem_cons, List.not_mem_nil, or_false] at hx hy
    rcases hx with rfl | rfl <;> rcases hy with rfl | rfl <;> exact alike_key _ _
  · simp only [List.mem_cons, List.not_mem_nil, or_false] at hx
    rcases hx with rfl | rfl <;> (intro z; cases z)
theorem eqv_ints : ∀ xs ys : List Int, PyData.eqvAll (xs.map PyData.int) (ys.map PyData.int) = decide (xs = ys)
  | [], [] => by simp [PyData.eqvAll]
  | [], _ :: _ => by simp [PyData.eqvAll]
  | _ :: _, [] => by simp [PyData.eqvAll]
  | x :: xs, y :: ys => by
    rw [List.map_cons, List.map_cons, PyData.eqvAll, eqv_ints xs ys]
    simp [PyData.eqv]
    by_cases h : x = y <;> simp [h]
theorem dataLt_key (a b : Ky) : PySem.W.dataLt (kD a) (kD b) = decide (ltK a b) := by
  obtain ⟨x, y, p⟩ := a
  obtain ⟨x', y', p'⟩ := b
  have ai : ∀ i j : Int, PySem.W.alike (.int i) (.int j) = true := fun _ _ => by simp [PySem.W.alike]
  have at3 : PySem.W.alike (.tuple (p.map PyData.int)) (.tuple (p'.map PyData.int)) = true := by
    have := alike_ints p p'
    simp [PySem.W.alike, this]
  have ei : ∀ i j : Int, PyData.eqv (.int i) (.int j) = decide (i = j) := fun i j => by
    rw [PyData.eqv]
    by_cases h : i = j <;> simp [h]
  have et : PyData.eqv (.tuple (p.map PyData.int)) (.tuple (p'.map PyData.int)) = decide (p = p') := by
    rw [PyData.eqv]
    exact eqv_ints p p'
  show PySem.W.dataLt (.tuple [.int x, .int y, .tuple (p.map PyData.int)]) (.tuple [.int x', .int y', .tuple (p'.map PyData.int)]) = _
  rw [PySem.W.dataLt_tuple]
  unfold ltK
  by_cases h1 : x = x'
  · rw [PySem.W.dataLt_all_yes (ai x x') (by rw [ei, decide_eq_true h1])]
    by_cases h2 : y = y'
    · rw [PySem.W.dataLt_all_yes (ai y y') (by rw [ei, decide_eq_true h2])]
      by_cases h3 : p = p'
      · rw [PySem.W.dataLt_all_yes at3 (by rw [et, decide_eq_true h3])]
        subst h1 h2 h3
        have : PyProof.Rows.lexLt PyProof.Rows.itemOrd (PySem.W.keyToksAll []) (PySem.W.keyToksAll []) = false := PyProof.Rows.lex_irrefl _
        rw [this]
        have hn : ¬ p < p := List.lt_irrefl p
        simp [hn]
      · rw [PySem.W.dataLt_all_no at3 (by rw [et, decide_eq_false h3]), PySem.W.dataLt_tuple]
        have := PySem.W.dataLt_ints p p'
        unfold PySem.W.rowLt at this
        rw [this]
        simp [h1, h2]
    · rw [PySem.W.dataLt_all_no (ai y y') (by rw [ei, decide_eq_false h2]), PySem.W.dataLt_int]
      simp [h1, h2]
  · rw [PySem.W.dataLt_all_no (ai x x') (by rw [ei, decide_eq_false h1]), PySem.W.dataLt_int]
    simp [h1]
theorem depth_ints : ∀ xs : List Int, PyData.depthAll (xs.map PyData.int) = 0
  | [] => rfl
  | x :: xs => by
    rw [List.map_cons]
    show max 0 (PyData.depthAll (xs.map PyData.int)) = 0
    rw [depth_ints xs]
    rfl
theorem depth_key (a b : Ky) : PyData.depthAll [kD a, kD b] ≤ 60 := by
  have h : ∀ k : Ky, (kD k).depth ≤ 2 := fun k => by
    have := depth_ints k.2.2
    simp [PyData.depth, PyData.depthAll, this]
  have h1 := h a
  have h2 := h b
  show max (kD a).depth (max (kD b).depth 0) ≤ 60
  omega
theorem ra_minKy {K : PySem.W.Frag} {cs : List Cell} {kk : KC} {a b : Ky} {d e : PyData} (h1 : d = kD a) (h2 : e = kD b) (hk : kk (.d (bP (some (if ltK b a then b else a)))) cs) : RA K (rMinD K) [.d d, .d e] cs kk := by
  subst h1 h2
  refine ra_minD (alikeAll_key a b) (depth_key a b) ?_
  rw [dataLt_key]
  by_cases hlt : ltK b a
  · rw [if_pos (decide_eq_true hlt)]
    rw [if_pos hlt] at hk
    exact hk
  · rw [if_neg (by rw [decide_eq_false hlt]; decide)]
    rw [if_neg hlt] at hk
    exact hk
def S__law_best : List Cell → KC → Prop := fun cl k => ∃ (rows : List Row) (m : Int), cl = [.d (.tuple (rows.map rowD)), .d (.int m)] ∧ RowsOk rows ∧ 0 ≤ m ∧ k (.d (.tuple ((emp rows m).map PyData.int))) cl
theorem ok__law_best {P : Program} {w : World} {K : PySem.W.Frag} {mg : Str → Option Value} {base : Heap} {f0 : Addr} {fd0 : FuncData} (F : Fun K "_law_best" "_law_best" s__law_best f0 fd0) (m_len : mg "len" = none) (m_min : mg "min" = none) (m_sum : mg "sum" = none) (m_tuple : mg "tuple" = none) (C__law_sets : Cal P w K mg base 1 "_law_sets" ["_law_some"] (S__law_sets)) :
    FnOk P w K mg base CX0 2 f0 fd0 ["_law_rows_here", "_law_moves"] (spC K (S__law_best)) := by
  refine okC F sc__law_best rfl (n := 11) (fun cl kk h => ?_) (by decide) (fun cdv A out s H E hr => ?_)
  · obtain ⟨rows, m, rfl, _⟩ := h
    rfl
  refine ⟨_, (pss_cons (ps_set (i := 2) sc__law_best.nd rfl (.inl rfl) (pe_callB (cr_sum rfl) (by rfl) m_sum (by decide +kernel) (pa_cons (pe_lc (own := [("_law_page", 3), ("_law_many", 4), ("_law_is_pinned", 5)]) (g := gTup K 3 (gCons (gName 3) (gCons (gName 4) (gCons (gName 5) (gNil))))) (tt := tYes) (by rfl) sc__law_best.nd (pi_tup (pv 0)) (blkOk_by (own := [("_law_page", 3), ("_law_many", 4), ("_law_is_pinned", 5)]) (N := N__law_best) (sc := defScope s__law_best) (by decide +kernel)) (fun _ _ _ _ _ => (pg_tup (by rfl) (pgs_cons (pg_name (i := 3) sc__law_best.nd rfl (.inl rfl)) (pgs_cons (pg_name (i := 4) sc__law_best.nd rfl (.inl rfl)) (pgs_cons (pg_name (i := 5) sc__law_best.nd rfl (.inl rfl)) pgs_nil))))) (fun _ _ _ _ _ => pts_nil) (fun _ _ _ _ _ => (pv 4))) pa_nil)))
      (pss_cons (ps_set (i := 6) sc__law_best.nd rfl (.inl rfl) pe_non)
      (pss_cons (ps_for PassesOwn.never (by rfl) (pi_list (pe_cal C__law_sets (hr.mono (by decide)) (by rfl) (pa_cons (pe_lc (own := [("_law_row", 8)]) (g := gName 8) (tt := _) (by rfl) sc__law_best.nd (pi_tup (pv 0)) (blkOk_by (own := [("_law_row", 8)]) (N := N__law_best) (sc := defScope s__law_best) (by decide +kernel)) (fun _ _ _ _ _ => (pg_name (i := 8) sc__law_best.nd rfl (.inl rfl))) (fun _ _ _ _ _ => (pts_one (pt_not (pt_val (pe_ix (ix_tupK (K := K)) (pv 8) pe_int (fun _ _ => rfl)))))) (fun _ _ _ _ _ => (pv 8))) pa_nil))) (pg_name (i := 7) sc__law_best.nd rfl (.inl rfl)) (pss_cons (ps_set (i := 9) sc__law_best.nd rfl (.inl rfl) (pe_callB (cr_sum rfl) (by rfl) m_sum (by decide +kernel) (pa_cons (pe_lc (own := [("_law_page", 3), ("_law_many", 4), ("_law_is_pinned", 5)]) (g := gTup K 3 (gCons (gName 3) (gCons (gName 4) (gCons (gName 5) (gNil))))) (tt := tYes) (by rfl) sc__law_best.nd (pi_list (pv 7)) (blkOk_by (own := [("_law_page", 3), ("_law_many", 4), ("_law_is_pinned", 5)]) (N := N__law_best) (sc := defScope s__law_best) (by decide +kernel)) (fun _ _ _ _ _ => (pg_tup (by rfl) (pgs_cons (pg_name (i := 3) sc__law_best.nd rfl (.inl rfl)) (pgs_cons (pg_name (i := 4) sc__law_best.nd rfl (.inl rfl)) (pgs_cons (pg_name (i := 5) sc__law_best.nd rfl (.inl rfl)) pgs_nil))))) (fun _ _ _ _ _ => pts_nil) (fun _ _ _ _ _ => (pv 4))) pa_nil)))
      (pss_one (ps_if (PW.pt (pw_and (pt_cmpR op_le (pv 9) (pv 1) (nomark _)) (pw_and1 (pt_cmpR op_le (pv 2) (pe_op op_mul pe_int (pe_op op_sub (pe_callB cr_len (by rfl) m_len PySem.boot_len (pa_cons (pv 0) pa_nil)) (pe_callB cr_len (by rfl) m_len PySem.boot_len (pa_cons (pv 7) pa_nil)))) (nomark _))))) (pss_cons (ps_set (i := 10) sc__law_best.nd rfl (.inl rfl) (pe_tup (pa_cons (pe_op op_sub pe_int (pe_callB cr_len (by rfl) m_len PySem.boot_len (pa_cons (pv 7) pa_nil))) (pa_cons (pv 9) (pa_cons (pe_callTy cr_tuple (by rfl) m_tuple (by decide +kernel) (pa_cons (pe_lc (own := [("_law_page", 3), ("_law_many", 4), ("_law_is_pinned", 5)]) (g := gTup K 3 (gCons (gName 3) (gCons (gName 4) (gCons (gName 5) (gNil))))) (tt := tYes) (by rfl) sc__law_best.nd (pi_list (pv 7)) (blkOk_by (own := [("_law_page", 3), ("_law_many", 4), ("_law_is_pinned", 5)]) (N := N__law_best) (sc := defScope s__law_best) (by decide +kernel)) (fun _ _ _ _ _ => (pg_tup (by rfl) (pgs_cons (pg_name (i := 3) sc__law_best.nd rfl (.inl rfl)) (pgs_cons (pg_name (i := 4) sc__law_best.nd rfl (.inl rfl)) (pgs_cons (pg_name (i := 5) sc__law_best.nd rfl (.inl rfl)) pgs_nil))))) (fun _ _ _ _ _ => pts_nil) (fun _ _ _ _ _ => (pv 3))) pa_nil)) pa_nil)))))
      (pss_one (ps_set (i := 6) sc__law_best.nd rfl (.inl rfl) (pe_ifExp (pt_cmpR op_isN1 (pv 6) pe_non (nomark _)) (pv 10) (pe_callB (call_minD rfl hr.units) (by rfl) m_min (by decide +kernel) (pa_cons (pv 6) (pa_cons (pv 10) pa_nil))))))) pss_nil))))
      (pss_one (ps_ret (pe_ix ix_tup (pv 6) pe_int (fun _ _ => rfl))))))), fun cl kk h => ?_⟩
  obtain ⟨rows, m, rfl, hro, hm, hk⟩ := h
  walk_at "start"
  intro fr Q R
  have hlen := hro.len
  refine nt_is [.d (.tuple (rows.map rowD)), .d (.int m), .any, .any, .any, .any, .any, .any, .any, .any, .any] rfl ?_
  refine nt_seq (nt_set (we_cb (wa_cons (we_frz (we_lcTp rows rowD (fun _ => true) (fun r => .int r.2.1) tg3 (by decide) (by omega) (we_var rfl ⟨rfl, ?_, ?_⟩))))))
  · intro b hb
    repeat' walk_at "we"
    exact ⟨rfl, rfl, rfl⟩
  refine fun a => ⟨a, _, rfl, wa_nil ?_⟩
  dsimp only [wipeC, List.map_cons, List.map_nil, List.set_cons_zero, List.set_cons_succ]
  rw [List.filter_eq_self.mpr (fun _ _ => rfl), show rows.map (fun r => PyData.int r.2.1) = (rows.map fun r => r.2.1).map PyData.int by rw [List.map_map]; rfl]
  refine ra_L bl_sum ?_
  repeat' walk_at "we"
  refine nt_forL ?_
  repeat' walk_at "we"
  refine we_frz (we_lcTp rows rowD (fun r => !r.2.2) rowD tg_name (by decide) (by omega) (we_var rfl ⟨rfl, ?_, ?_⟩))
  · intro b hb
    repeat' walk_at "we"
    · exact ⟨rfl, by assumption, rfl⟩
    · exact ⟨by assumption, rfl⟩
  refine fun a => ⟨a, _, rfl, ?_⟩
  dsimp only [wipeC, List.map_cons, List.map_nil, List.set_cons_zero, List.set_cons_succ]
  have hul : (unp rows).length ≤ 8 := Nat.le_trans (List.length_filter_le _ _) hlen
  repeat' walk_at "we"
  refine ⟨_, _, .keep .nil, unp rows, rfl, hul, ⟨_, .skip .nil, ?_⟩⟩
  refine ⟨_, rfl, fun i cs' => ∃ bo c3 c4 c5 c7 c8 c9 c10, cs' = [.d (.tuple (rows.map rowD)), .d (.int m), .d (.int (rows.map fun r => r.2.1).sum), c3, c4, c5, .d (bP bo), c7, c8, c9, c10] ∧ bo = ((sets (unp rows)).take i).foldl (stepB rows m) none, ⟨none, _, _, _, _, _, _, _, rfl, rfl⟩, ?_, ?_⟩
  · rintro y i d cs' hd ⟨bo, c3, c4, c5, c7, c8, c9, c10, rfl, hbo⟩
    rw [List.getElem?_map] at hd
    obtain ⟨s, hs, rfl⟩ := Option.map_eq_some_iff.mp hd
    have hsub := (mem_sets _ _).mp (List.mem_of_getElem? hs)
    have hsl := hsub.length_le
    have hst : ((sets (unp rows)).take (i + 1)).foldl (stepB rows m) none = stepB rows m bo s := by
      rw [List.take_add_one, hs, List.foldl_append, ← hbo]
      rfl
    repeat' walk_at "we"
    refine we_frz (we_lcLp s rowD (fun _ => true) (fun r => .int r.2.1) tg3 (by decide) (by omega) (we_var rfl ⟨rfl, ?_, ?_⟩))
    · intro b hb
      repeat' walk_at "we"
      exact ⟨rfl, rfl, rfl⟩
    refine fun a => ⟨a, _, rfl, wa_nil ?_⟩
    dsimp only [wipeC, List.map_cons, List.map_nil, List.set_cons_zero, List.set_cons_succ]
    rw [List.filter_eq_self.mpr (fun _ _ => rfl), show s.map (fun r => PyData.int r.2.1) = (s.map fun r => r.2.1).map PyData.int by rw [List.map_map]; rfl]
    refine ra_L bl_sum ?_
    repeat' walk_at "we"
    · exact .inl ⟨by decide, by decide⟩
    · rename_i e1 e2
      have hf : feas rows m s := by
        refine ⟨of_decide_eq_true e1, ?_⟩
        have := of_decide_eq_true e2
        rw [List.length_map, List.length_map] at this
        exact this
      refine we_frz (we_lcLp s rowD (fun _ => true) (fun r => .int r.1) tg3 (by decide) (by omega) (we_var rfl ⟨rfl, ?_, ?_⟩))
      · intro b hb
        repeat' walk_at "we"
        exact ⟨rfl, rfl, rfl⟩
      refine fun a => ⟨a, _, rfl, wa_nil ?_⟩
      dsimp only [wipeC, List.map_cons, List.map_nil, List.set_cons_zero, List.set_cons_succ]
      rw [List.filter_eq_self.mpr (fun _ _ => rfl), show s.map (fun r => PyData.int r.1) = (s.map Prod.fst).map PyData.int by rw [List.map_map]; rfl, List.length_map]
      unfold stepB at hst
      rw [if_pos hf] at hst
      repeat' walk_at "we"
      · rename_i e3
        match bo, hst, e3 with
        | none, hst, _ => exact nt_nx ⟨some (key s), _, _, _, _, _, _, _, rfl, hst.symm⟩
        | some k, _, e3 => exact absurd e3 (by intro z; cases z)
      · rename_i e3
        match bo, hst, e3 with
        | none, _, e3 => exact absurd e3 (by intro z; cases z)
        | some k, hst, _ =>
          refine ra_minKy (a := k) (b := key s) rfl rfl ?_
          repeat' walk_at "we"
          exact nt_nx ⟨some (if ltK (key s) k then key s else k), _, _, _, _, _, _, _, rfl, hst.symm⟩
    · rename_i e1 e2
      have hf : ¬ feas rows m s := fun z => by
        have := of_decide_eq_false e2
        rw [List.length_map, List.length_map] at this
        exact this z.2
      unfold stepB at hst
      rw [if_neg hf] at hst
      exact nt_nx ⟨bo, _, _, _, _, _, _, _, rfl, hst.symm⟩
    · rename_i e1
      have hf : ¬ feas rows m s := fun z => of_decide_eq_false e1 z.1
      unfold stepB at hst
      rw [if_neg hf] at hst
      exact nt_nx ⟨bo, _, _, _, _, _, _, _, rfl, hst.symm⟩
  · rintro cs' ⟨bo, c3, c4, c5, c7, c8, c9, c10, rfl, hbo⟩
    rw [List.length_map, List.take_length, all_best hro.asc (fun r hr => (hro.many r hr).1) (fun r hr => (hro.many r hr).2) hm] at hbo
    subst hbo
    repeat' walk_at "we"
    refine nt_ret R (we_op (we_var rfl (we_int (rd_ixT (atX rfl ⟨_, .keep rfl (.keep rfl .nil), hk⟩)))))
end K29
namespace K29
open PySem PySem.Spec PyProof.Rows L2 Gu Dx K30
local macro_rules | `(tactic| walk_at "we") => `(tactic| with_reducible first
  | (refine nt_mk ?_; walk_at "norm") | refine nt_mkb ?_ | refine nt_mkc ?_ | refine nt_seq ?_ | refine nt_break ?_ | refine nt_next ?_ | refine nt_if ?_
  | refine nt_setM (by with_unfolding_all rfl) ?_ | refine nt_set ?_ | refine nt_app (by with_unfolding_all rfl) ?_ | refine nt_aug (by with_unfolding_all rfl) ?_ | refine nt_par ?_ | refine nt_par3 ?_
  | refine wt_test ?_ | refine wt_B ?_ | refine wt_and ?_ | refine wt_or ?_ | refine wt_not ?_ | refine wt_yes ?_ | refine we_if ?_
  | refine isB ?_ | refine isI ?_ | refine isD ?_ | refine bbT ?_ | refine bbF ?_ | refine bb (fun _ => ?_) (fun _ => ?_)
  | refine atM (by with_unfolding_all rfl) ?_ | refine ixJ (by with_unfolding_all rfl) ?_ | refine und (by with_unfolding_all rfl) (by with_unfolding_all rfl) ?_ | refine two ?_ | refine three ?_ | refine atX (by with_unfolding_all rfl) ?_ | refine less ?_ ?_
  | refine we_ixM (by with_unfolding_all rfl) ?_ | refine we_op ?_ | refine we_var (by with_unfolding_all rfl) ?_ | refine we_varB (by with_unfolding_all rfl) ?_ | refine we_int ?_ | refine we_str ?_ | refine we_bl ?_ | refine we_non ?_
  | refine we_tup ?_ | refine we_andV ?_ | refine we_orV ?_ | refine we_notV ?_
  | refine rd_ixL ?_ | refine rd_ixT ?_ | refine rd_I0 (fun _ => .int _) ?_ | refine rd_I0 (fun _ => .bl _) ?_ | refine rd_I ?_ (fun _ => .int _) ?_ | refine rd_eq (by with_unfolding_all rfl) (by with_unfolding_all rfl) (by with_unfolding_all rfl) ?_ | refine rd_ne (by with_unfolding_all rfl) (by with_unfolding_all rfl) (by with_unfolding_all rfl) ?_
  | refine wa_cons ?_ | refine wa_nil ?_ | refine we_bM (by with_unfolding_all rfl) bl_len ?_ | refine we_bM (by with_unfolding_all rfl) bl_tuple ?_ | refine we_cb ?_ | refine we_callL ?_
  | refine ra_L bl_len ?_ | refine ra_T bt_len ?_ | refine ra_1I (fun _ => .int _) ?_ | refine ra_2I (fun _ => .int _) ?_ | refine ra_intB ?_ | refine ra_L bl_tuple ?_
  | refine rd_catD ?_ ?_ | refine rd_isN ?_ | refine rd_notN ?_ | refine wg_name ?_ | refine wg_tup (by with_unfolding_all rfl) ?_ | refine wgs_cons ?_ | refine wgs_nil ?_ | fail)
local macro_rules | `(tactic| walk_at "side") => `(tactic| first
  | exact (show (_ : Int) ≠ 0 by omega) | exact (show CDivN _ _ from ⟨by omega, by omega⟩) | exact (show CMul _ _ from Or.inl ⟨by omega, by omega⟩) | exact (show CMul _ _ from Or.inr ⟨by omega, by omega⟩)
  | exact (show CPow _ _ from ⟨by omega, by omega, by omega⟩))
local macro_rules | `(tactic| walk_at "start") => `(tactic| dsimp only [cxOf, Cx.nox, Cx.wish])
local macro_rules | `(tactic| walk_at "norm") => `(tactic| try dsimp only [List.set_cons_zero, List.set_cons_succ])
def S_law : List Cell → KC → Prop := fun cl k => ∃ ns : List Int, cl = [.d (.list (ns.map PyData.int))] ∧ ns.length ≤ 63 ∧ k (.d (.bool true)) cl
theorem emp_gd {rows : List Row} (h : RowsOk rows) (m : Int) : Gd 1 400 (.tuple ((emp rows m).map PyData.int)) := by
  refine (gd_tuple (k := 0) (b := 0) (n := 400) (fun d hd => ?_) ?_)
  · obtain ⟨p, hp, rfl⟩ := List.mem_map.mp hd
    obtain ⟨r, hr, e⟩ := emp_mem hp
    have := h.page r hr
    exact gd_int (by omega) (by omega)
  · rw [List.length_map, emp_len]
    refine Nat.le_trans (cnt_le ..) ?_
    rw [srt_len]
    have := pairs_len rows
    have := h.len
    omega
theorem rows_gd {rows : List Row} (h : RowsOk rows) : Gd 2 400 (.tuple (rows.map rowD)) := by
  refine (gd_tuple (k := 1) (b := 3) (n := 100) (fun d hd => ?_) ?_)
  · obtain ⟨r, hr, rfl⟩ := List.mem_map.mp hd
    have h1 := h.many r hr
    have h2 := h.page r hr
    refine gd_tuple (k := 0) (b := 0) (n := 3) (fun d hd => ?_) (Nat.le_refl _)
    simp only [List.mem_cons, List.not_mem_nil, or_false] at hd
    rcases hd with rfl | rfl | rfl
    · exact gd_int (by omega) (by omega)
    · exact gd_int (by omega) (by omega)
    · exact gd_bool
  · rw [List.length_map]
    have := h.len
    omega
theorem ok_law {P : Program} {w : World} {K : PySem.W.Frag} {mg : Str → Option Value} {base : Heap} {f0 : Addr} {fd0 : FuncData} (F : Fun K "law" "law" s_law f0 fd0) (m_len : mg "len" = none) (m_max : mg "max" = none) (m_min : mg "min" = none) (m_range : mg "range" = none) (m_repr : mg "repr" = none) (C__law_draws : Cal P w K mg base 1 "_law_draws" ["_law_script", "_law_k"] (S__law_draws)) (C__law_rows : Cal P w K mg base 3 "_law_rows" ["_law_draws_here"] (S__law_rows)) (C__law_below : Cal P w K mg base 1 "_law_below" ["_law_draws_here", "_law_many"] (S__law_below)) (C_emptied : Cal P w K mg base 1 "emptied" ["pages", "moves"] (S_emptied)) (C__law_best : Cal P w K mg base 2 "_law_best" ["_law_rows_here", "_law_moves"] (S__law_best)) :
    FnG P w K mg base CX0 4 f0 fd0 ["_law_script"] (spC K (S_law)) := by
  refine okCG F sc_law rfl (n := 7) (fun cl kk h => ?_) (by decide) (fun cdv A out s H E hr hg0 => ?_)
  · obtain ⟨ns, rfl, _⟩ := h
    rfl
  have hgd : (A.deeper (envOfC "law" (defScope s_law) s.heap.objs.size f0 cdv)).guards = some [] := hg0
  refine ⟨_, (pss_cons (ps_for PassesOwn.never (by rfl) (pi_range1 (by rfl) m_range (pa_cons (pe_callB (cr_max2 rfl) (by rfl) m_max (by decide +kernel) (pa_cons pe_int (pa_cons (pe_callB (cr_min2 rfl) (by rfl) m_min (by decide +kernel) (pa_cons pe_int (pa_cons (pe_callB cr_len (by rfl) m_len PySem.boot_len (pa_cons (pv 0) pa_nil)) pa_nil))) pa_nil))) pa_nil)) (pg_name (i := 1) sc_law.nd rfl (.inl rfl)) (pss_cons (ps_set (i := 2) sc_law.nd rfl (.inl rfl) (pe_cal C__law_draws (hr.mono (by decide)) (by rfl) (pa_cons (pv 0) (pa_cons (pv 1) pa_nil))))
      (pss_one (ps_for PassesOwn.never (by rfl) (pi_range1 (by rfl) m_range (pa_cons pe_int pa_nil)) (pg_name (i := 3) sc_law.nd rfl (.inl rfl)) (pss_cons (ps_set (i := 4) sc_law.nd rfl (.inl rfl) (pe_cal C__law_rows (hr.mono (by decide)) (by rfl) (pa_cons (pv 2) pa_nil)))
      (pss_cons (ps_set (i := 5) sc_law.nd rfl (.inl rfl) (pe_callB (call_reprD hgd hr.units) (by rfl) m_repr (by decide +kernel) (pa_cons (pv 4) pa_nil)))
      (pss_one (ps_for PassesOwn.never (by rfl) (pi_tup (pe_tup (pa_cons pe_int (pa_cons pe_int (pa_cons (pe_cal C__law_below (hr.mono (by decide)) (by rfl) (pa_cons (pv 2) (pa_cons pe_int pa_nil))) (pa_cons (pe_cal C__law_below (hr.mono (by decide)) (by rfl) (pa_cons (pv 2) (pa_cons pe_int pa_nil))) (pa_cons pe_int (pa_cons pe_int pa_nil)))))))) (pg_name (i := 6) sc_law.nd rfl (.inl rfl)) (pss_one (ps_if (PW.pt (pw_or (pt_cmpR op_ne (pe_callB (call_reprD hgd hr.units) (by rfl) m_repr (by decide +kernel) (pa_cons (pe_cal C_emptied (hr.mono (by decide)) (by rfl) (pa_cons (pv 4) (pa_cons (pv 6) pa_nil))) pa_nil)) (pe_callB (call_reprD hgd hr.units) (by rfl) m_repr (by decide +kernel) (pa_cons (pe_cal C__law_best (hr.mono (by decide)) (by rfl) (pa_cons (pv 4) (pa_cons (pv 6) pa_nil))) pa_nil)) (nomark _)) (pw_or1 (pt_cmpR op_ne (pe_callB (call_reprD hgd hr.units) (by rfl) m_repr (by decide +kernel) (pa_cons (pv 4) pa_nil)) (pv 5) (nomark _))))) (pss_one (ps_ret pe_bl)) pss_nil))))))))))
      (pss_one (ps_ret pe_bl))), fun cl kk h => ?_⟩
  obtain ⟨ns, rfl, hns, hk⟩ := h
  walk_at "start"
  intro fr Q R
  refine nt_is [.d (.list (ns.map PyData.int)), .any, .any, .any, .any, .any, .any] rfl ?_
  refine nt_seq (nt_forR ?_)
  repeat' walk_at "we"
  obtain ⟨nk, hnk, hnk2⟩ : ∃ n : Nat, (if (if ((ns.map PyData.int).length : Int) < 3 then ((ns.map PyData.int).length : Int) else 3) > 1 then (if ((ns.map PyData.int).length : Int) < 3 then ((ns.map PyData.int).length : Int) else 3) else 1) = (n : Int) ∧ n ≤ 3 := by
    refine ⟨(if (if ((ns.map PyData.int).length : Int) < 3 then ((ns.map PyData.int).length : Int) else 3) > 1 then (if ((ns.map PyData.int).length : Int) < 3 then ((ns.map PyData.int).length : Int) else 3) else 1).toNat, ?_, ?_⟩ <;> split <;> split <;> omega
  refine ⟨nk, by rw [hnk], by omega, fun i cs' => ∃ c1 c2 c3 c4 c5 c6, cs' = [.d (.list (ns.map PyData.int)), c1, c2, c3, c4, c5, c6], ⟨_, _, _, _, _, _, rfl⟩, ?_, ?_⟩
  rotate_left
  · rintro cs' ⟨c1, c2, c3, c4, c5, c6, rfl⟩
    repeat' walk_at "we"
    exact nt_ret R (we_bl ⟨_, .keep rfl .nil, hk⟩)
  rintro y0 i cs' hi ⟨c1, c2, c3, c4, c5, c6, rfl⟩
  repeat' walk_at "we"
  refine ⟨_, _, .keep (.keep .nil), ns, i, rfl, hns, by omega, by omega, fun aj g x n J => ⟨_, .skip (.skip .nil), ?_⟩⟩
  repeat' walk_at "we"
  refine nt_forR ?_
  repeat' walk_at "we"
  refine ⟨10, rfl, by decide, fun t cs' => ∃ g x n c3 c4 c5 c6, cs' = [.d (.list (ns.map PyData.int)), .d (.int i), jc aj g x n, c3, c4, c5, c6] ∧ JP (200 * t) g x n, ⟨g, x, n, _, _, _, _, rfl, J⟩, ?_, ?_⟩
  rotate_left
  · rintro cs' ⟨g, x, n, c3, c4, c5, c6, rfl, J⟩
    exact nt_nx ⟨_, _, _, _, _, _, rfl⟩
  rintro y1 t cs' ht ⟨g, x, n, c3, c4, c5, c6, rfl, J⟩
  repeat' walk_at "we"
  refine ⟨_, _, .lend 2 rfl .nil, aj, 200 * t, g, x, n, rfl, J, by omega, fun rows g1 x1 n1 hro J1 => ⟨_, .back 2 rfl .nil, ?_⟩⟩
  have hgr := rows_gd hro
  repeat' walk_at "we"
  refine ra_reprT hgr (by decide) (by decide) ?_
  repeat' walk_at "we"
  refine nt_forT ?_
  repeat' walk_at "we"
  refine ⟨_, _, .lend 2 rfl (.keep .nil), aj, 200 * t + 100, 9, g1, x1, n1, rfl, J1, by decide, by decide, by omega, fun m4 g2 x2 n2 h40 h41 J2 => ⟨_, .back 2 rfl (.skip .nil), ?_⟩⟩
  repeat' walk_at "we"
  refine ⟨_, _, .lend 2 rfl (.keep .nil), aj, 200 * t + 101, 30, g2, x2, n2, rfl, J2, by decide, by decide, by omega, fun m5 g3 x3 n3 h50 h51 J3 => ⟨_, .back 2 rfl (.skip .nil), ?_⟩⟩
  repeat' walk_at "we"
  refine ⟨[.int 0, .int 1, .int m4, .int m5, .int 64, .int 10000], rfl, fun j cs' => ∃ c6, cs' = [.d (.list (ns.map PyData.int)), .d (.int i), jc aj g3 x3 n3, .d (.int t), .d (.tuple (rows.map rowD)), .d (.str (PyData.shown (.tuple (rows.map rowD)))), c6], ⟨_, rfl⟩, ?_, ?_⟩
  rotate_left
  · rintro cs' ⟨c6, rfl⟩
    exact nt_nx ⟨_, _, _, _, _, _, _, rfl, J3.mono (by omega)⟩
  rintro y2 j d cs' hd ⟨c6, rfl⟩
  obtain ⟨mo, rfl, hmo⟩ : ∃ mo : Int, d = .int mo ∧ 0 ≤ mo := by
    have hm := List.mem_of_getElem? hd
    simp only [List.mem_cons, List.not_mem_nil, or_false] at hm
    rcases hm with rfl | rfl | rfl | rfl | rfl | rfl
    · exact ⟨_, rfl, by decide⟩
    · exact ⟨_, rfl, by decide⟩
    · exact ⟨_, rfl, h40⟩
    · exact ⟨_, rfl, h50⟩
    · exact ⟨_, rfl, by decide⟩
    · exact ⟨_, rfl, by decide⟩
  repeat' walk_at "we"
  refine ⟨_, _, .keep (.keep .nil), rows, mo, rfl, hro, ⟨_, .skip (.skip .nil), ?_⟩⟩
  repeat' walk_at "we"
  refine ra_reprT (emp_gd hro mo) (by decide) (by decide) ?_
  repeat' walk_at "we"
  refine ⟨_, _, .keep (.keep .nil), rows, mo, rfl, hro, hmo, ⟨_, .skip (.skip .nil), ?_⟩⟩
  repeat' walk_at "we"
  refine ra_reprT (emp_gd hro mo) (by decide) (by decide) ?_
  repeat' walk_at "we"
  · rename_i e
    exact absurd e (by simp)
  refine ra_reprT hgr (by decide) (by decide) ?_
  repeat' walk_at "we"
  · rename_i e
    exact absurd e (by simp)
  · exact nt_nx ⟨_, rfl⟩
end K29
namespace K29
open PySem PySem.Spec PyProof.Rows L2 Gu Dx
theorem sp_start {K : PySem.W.Frag} {H : Hp} {a : Addr} {ns : List Int} (hl : ns.length ≤ 63) (hO : Only H) (hS : SqL K H a (ns.map V.int)) : spC K S_law [.ref a] H (fun v _ => v = .bl true) fun _ _ _ => False := by
  refine ⟨H, [.d (.list (ns.map PyData.int))], [], fun c _ => c = .d (.bool true), rfl, ⟨fun _ _ h => h, fun p hp => ?_, List.nodup_nil⟩, ⟨ns, rfl, hl, rfl⟩, fun v c cl2 B2 H2 _ E hk => ?_⟩
  · obtain rfl := List.mem_singleton.mp (show p ∈ [(some (V.ref a), Cell.d (.list (ns.map PyData.int)))] from hp)
    refine ⟨.ref a, rfl, .lst hS ?_⟩
    clear hS hl hp
    induction ns with
    | nil => exact .nil
    | cons n ns ih => exact .cons (.int n) ih
  · subst hk
    have ev : some v = some (V.bl true) := E.bl (List.mem_append_right _ (List.mem_cons_self ..))
    exact Option.some.inj ev
theorem all_mk {l : PySem.W.OpenLaw} {w : World} {K : PySem.W.Frag} {h : Heap} {mg : Str → Option Value} {fa : Addr} (X : K.In h) (G : h.Ns mainGlobals mg) (hfa : mg "law" = some (.ref fa))
    {od0 an0 : Option Addr} {sl0 : Array (Option Value)} {oc0 kV0 dc0 pm0 cd0 ct0 : Value} {f0 : Addr}
    {od1 an1 : Option Addr} {sl1 : Array (Option Value)} {oc1 kV1 dc1 pm1 cd1 ct1 : Value} {f1 : Addr}
    {od2 an2 : Option Addr} {sl2 : Array (Option Value)} {oc2 kV2 dc2 pm2 cd2 ct2 : Value} {f2 : Addr}
    {od3 an3 : Option Addr} {sl3 : Array (Option Value)} {oc3 kV3 dc3 pm3 cd3 ct3 : Value} {f3 : Addr}
    {od4 an4 : Option Addr} {sl4 : Array (Option Value)} {oc4 kV4 dc4 pm4 cd4 ct4 : Value} {f4 : Addr}
    {od5 an5 : Option Addr} {sl5 : Array (Option Value)} {oc5 kV5 dc5 pm5 cd5 ct5 : Value} {f5 : Addr}
    {od6 an6 : Option Addr} {sl6 : Array (Option Value)} {oc6 kV6 dc6 pm6 cd6 ct6 : Value} {f6 : Addr}
    {od7 an7 : Option Addr} {sl7 : Array (Option Value)} {oc7 kV7 dc7 pm7 cd7 ct7 : Value} {f7 : Addr}
    (a0 : PySem.W.nsIn K mainGlobals "emptied" = some (some (.ref f0))) (l0 : K.lookup f0 = some ⟨oc0, od0, .func (PySem.W.fnOf "emptied" "emptied" (defArgs s_emptied) (defBody s_emptied) (defScope s_emptied) .none kV0 dc0 pm0 an0 cd0 ct0), sl0⟩) (c0 : PySem.W.codeIn K cd0 "emptied" = true) (k0 : PySem.W.keepIn K (.ref f0) = true)
    (a1 : PySem.W.nsIn K mainGlobals "_law_draws" = some (some (.ref f1))) (l1 : K.lookup f1 = some ⟨oc1, od1, .func (PySem.W.fnOf "_law_draws" "_law_draws" (defArgs s__law_draws) (defBody s__law_draws) (defScope s__law_draws) .none kV1 dc1 pm1 an1 cd1 ct1), sl1⟩) (c1 : PySem.W.codeIn K cd1 "_law_draws" = true) (k1 : PySem.W.keepIn K (.ref f1) = true)
    (a2 : PySem.W.nsIn K mainGlobals "_law_below" = some (some (.ref f2))) (l2 : K.lookup f2 = some ⟨oc2, od2, .func (PySem.W.fnOf "_law_below" "_law_below" (defArgs s__law_below) (defBody s__law_below) (defScope s__law_below) .none kV2 dc2 pm2 an2 cd2 ct2), sl2⟩) (c2 : PySem.W.codeIn K cd2 "_law_below" = true) (k2 : PySem.W.keepIn K (.ref f2) = true)
    (a3 : PySem.W.nsIn K mainGlobals "_law_pick" = some (some (.ref f3))) (l3 : K.lookup f3 = some ⟨oc3, od3, .func (PySem.W.fnOf "_law_pick" "_law_pick" (defArgs s__law_pick) (defBody s__law_pick) (defScope s__law_pick) .none kV3 dc3 pm3 an3 cd3 ct3), sl3⟩) (c3 : PySem.W.codeIn K cd3 "_law_pick" = true) (k3 : PySem.W.keepIn K (.ref f3) = true)
    (a4 : PySem.W.nsIn K mainGlobals "_law_sets" = some (some (.ref f4))) (l4 : K.lookup f4 = some ⟨oc4, od4, .func (PySem.W.fnOf "_law_sets" "_law_sets" (defArgs s__law_sets) (defBody s__law_sets) (defScope s__law_sets) .none kV4 dc4 pm4 an4 cd4 ct4), sl4⟩) (c4 : PySem.W.codeIn K cd4 "_law_sets" = true) (k4 : PySem.W.keepIn K (.ref f4) = true)
    (a5 : PySem.W.nsIn K mainGlobals "_law_best" = some (some (.ref f5))) (l5 : K.lookup f5 = some ⟨oc5, od5, .func (PySem.W.fnOf "_law_best" "_law_best" (defArgs s__law_best) (defBody s__law_best) (defScope s__law_best) .none kV5 dc5 pm5 an5 cd5 ct5), sl5⟩) (c5 : PySem.W.codeIn K cd5 "_law_best" = true) (k5 : PySem.W.keepIn K (.ref f5) = true)
    (a6 : PySem.W.nsIn K mainGlobals "_law_rows" = some (some (.ref f6))) (l6 : K.lookup f6 = some ⟨oc6, od6, .func (PySem.W.fnOf "_law_rows" "_law_rows" (defArgs s__law_rows) (defBody s__law_rows) (defScope s__law_rows) .none kV6 dc6 pm6 an6 cd6 ct6), sl6⟩) (c6 : PySem.W.codeIn K cd6 "_law_rows" = true) (k6 : PySem.W.keepIn K (.ref f6) = true)
    (a7 : PySem.W.nsIn K mainGlobals "law" = some (some (.ref f7))) (l7 : K.lookup f7 = some ⟨oc7, od7, .func (PySem.W.fnOf "law" "law" (defArgs s_law) (defBody s_law) (defScope s_law) .none kV7 dc7 pm7 an7 cd7 ct7), sl7⟩) (c7 : PySem.W.codeIn K cd7 "law" = true) (k7 : PySem.W.keepIn K (.ref f7) = true)
    {tk_CELLS : Tok} (v_CELLS : PySem.W.nsIn K mainGlobals "CELLS" = some (some (.int 8 tk_CELLS)))
    (z_abs : PySem.W.nsIn K mainGlobals "abs" = some none)
    (z_int : PySem.W.nsIn K mainGlobals "int" = some none)
    (z_len : PySem.W.nsIn K mainGlobals "len" = some none)
    (z_max : PySem.W.nsIn K mainGlobals "max" = some none)
    (z_min : PySem.W.nsIn K mainGlobals "min" = some none)
    (z_range : PySem.W.nsIn K mainGlobals "range" = some none)
    (z_repr : PySem.W.nsIn K mainGlobals "repr" = some none)
    (z_sorted : PySem.W.nsIn K mainGlobals "sorted" = some none)
    (z_sum : PySem.W.nsIn K mainGlobals "sum" = some none)
    (z_tuple : PySem.W.nsIn K mainGlobals "tuple" = some none) :
    ∃ fd : FuncData, (∀ (s : Shared) (v : Value), BindsTo s fd ⟨[v], []⟩ [("_law_script", v)]) ∧ ∀ base : Heap, K.In base → base.Ns mainGlobals mg → FnG l.prog w K mg base CX0 4 fa fd ["_law_script"] (spC K S_law) := by
  have e := hfa.symm.trans (PySem.W.mg_of X G a7)
  cases e
  have F0 := fun_mk (st := s_emptied) l0 c0 k0
  have F1 := fun_mk (st := s__law_draws) l1 c1 k1
  have F2 := fun_mk (st := s__law_below) l2 c2 k2
  have F3 := fun_mk (st := s__law_pick) l3 c3 k3
  have F4 := fun_mk (st := s__law_sets) l4 c4 k4
  have F5 := fun_mk (st := s__law_best) l5 c5 k5
  have F6 := fun_mk (st := s__law_rows) l6 c6 k6
  have F7 := fun_mk (st := s_law) l7 c7 k7
  refine ⟨PySem.W.fnOf "law" "law" (defArgs s_law) (defBody s_law) (defScope s_law) .none kV7 dc7 pm7 an7 cd7 ct7, fun s v => .of_eq rfl, fun base _ _ => ?_⟩
  have O_emptied := ok_emptied (P := l.prog) (w := w) (mg := mg) (base := base) F0 (PySem.W.mg_none_of X G z_len) (PySem.W.mg_none_of X G z_sorted) (PySem.W.mg_none_of X G z_sum) (PySem.W.mg_none_of X G z_tuple) (PySem.W.mg_of X G v_CELLS)
  have C_emptied : Cal l.prog w K mg base 1 "emptied" ["pages", "moves"] S_emptied := ⟨_, _, O_emptied, PySem.W.mg_of X G a0, F0.kp, F0.binds (ps := ["pages", "moves"]) fun _ _ _ _ _ _ us hl => match us, hl with | [_, _], _ => rfl⟩
  have O__law_draws := ok__law_draws (P := l.prog) (w := w) (mg := mg) (base := base) F1 (PySem.W.mg_none_of X G z_abs) (PySem.W.mg_none_of X G z_int) (PySem.W.mg_none_of X G z_len)
  have C__law_draws : Cal l.prog w K mg base 1 "_law_draws" ["_law_script", "_law_k"] S__law_draws := ⟨_, _, O__law_draws, PySem.W.mg_of X G a1, F1.kp, F1.binds (ps := ["_law_script", "_law_k"]) fun _ _ _ _ _ _ us hl => match us, hl with | [_, _], _ => rfl⟩
  have O__law_below := ok__law_below (P := l.prog) (w := w) (mg := mg) (base := base) F2
  have C__law_below : Cal l.prog w K mg base 1 "_law_below" ["_law_draws_here", "_law_many"] S__law_below := ⟨_, _, O__law_below, PySem.W.mg_of X G a2, F2.kp, F2.binds (ps := ["_law_draws_here", "_law_many"]) fun _ _ _ _ _ _ us hl => match us, hl with | [_, _], _ => rfl⟩
  have O__law_pick := ok__law_pick (P := l.prog) (w := w) (mg := mg) (base := base) F3 (PySem.W.mg_none_of X G z_len) C__law_below
  have C__law_pick : Cal l.prog w K mg base 2 "_law_pick" ["_law_draws_here", "_law_items"] S__law_pick := ⟨_, _, O__law_pick, PySem.W.mg_of X G a3, F3.kp, F3.binds (ps := ["_law_draws_here", "_law_items"]) fun _ _ _ _ _ _ us hl => match us, hl with | [_, _], _ => rfl⟩
  have O__law_sets := ok__law_sets (P := l.prog) (w := w) (mg := mg) (base := base) F4
  have C__law_sets : Cal l.prog w K mg base 1 "_law_sets" ["_law_some"] S__law_sets := ⟨_, _, O__law_sets, PySem.W.mg_of X G a4, F4.kp, F4.binds (ps := ["_law_some"]) fun _ _ _ _ _ _ us hl => match us, hl with | [_], _ => rfl⟩
  have O__law_best := ok__law_best (P := l.prog) (w := w) (mg := mg) (base := base) F5 (PySem.W.mg_none_of X G z_len) (PySem.W.mg_none_of X G z_min) (PySem.W.mg_none_of X G z_sum) (PySem.W.mg_none_of X G z_tuple) C__law_sets
  have C__law_best : Cal l.prog w K mg base 2 "_law_best" ["_law_rows_here", "_law_moves"] S__law_best := ⟨_, _, O__law_best, PySem.W.mg_of X G a5, F5.kp, F5.binds (ps := ["_law_rows_here", "_law_moves"]) fun _ _ _ _ _ _ us hl => match us, hl with | [_, _], _ => rfl⟩
  have O__law_rows := ok__law_rows (P := l.prog) (w := w) (mg := mg) (base := base) F6 (PySem.W.mg_none_of X G z_range) (PySem.W.mg_none_of X G z_tuple) C__law_below C__law_pick
  have C__law_rows : Cal l.prog w K mg base 3 "_law_rows" ["_law_draws_here"] S__law_rows := ⟨_, _, O__law_rows, PySem.W.mg_of X G a6, F6.kp, F6.binds (ps := ["_law_draws_here"]) fun _ _ _ _ _ _ us hl => match us, hl with | [_], _ => rfl⟩
  exact ok_law F7 (PySem.W.mg_none_of X G z_len) (PySem.W.mg_none_of X G z_max) (PySem.W.mg_none_of X G z_min) (PySem.W.mg_none_of X G z_range) (PySem.W.mg_none_of X G z_repr) C__law_draws C__law_rows C__law_below C_emptied C__law_best
end K29
open PySem PySem.W PyProof.Rows
set_option maxHeartbeats 0 in
theorem PySem.Challenge.cw_crossheaps_k29_pages_emptied_by_all_sets_holds : PySem.Challenge.rw_crossheaps_k29_pages_emptied_by_all_sets.Holds := by
  w_on; o_law; k_head; (case hw => w_witness2)
  k_fill
  refine Gu.walk_G (l := PySem.Challenge.rw_crossheaps_k29_pages_emptied_by_all_sets) (n := 63) (k := 4) (x := "_law_script") (cx := fun _ => L2.CX0) (sp := fun w => Dx.spC _ K29.S_law) rfl (by decide) rfl ⟨rfl, by decide, by decide⟩ (fun w h Y => PySem.W.kIn_of Y) ?F (fun w H a ns hl hO hS => K29.sp_start hl hO hS) (fun _ _ _ _ _ h => h)
  case F =>
    intro w mg fa h KX G hmg
    refine' K29.all_mk KX G hmg ?a0 ?l0 ?c0 ?k0 ?a1 ?l1 ?c1 ?k1 ?a2 ?l2 ?c2 ?k2 ?a3 ?l3 ?c3 ?k3 ?a4 ?l4 ?c4 ?k4 ?a5 ?l5 ?c5 ?k5 ?a6 ?l6 ?c6 ?k6 ?a7 ?l7 ?c7 ?k7 ?v_CELLS ?z_abs ?z_int ?z_len ?z_max ?z_min ?z_range ?z_repr ?z_sorted ?z_sum ?z_tuple
    (case a0 => k_is); (case l0 => k_is); (case c0 => k_is); (case k0 => k_is); (case a1 => k_is); (case l1 => k_is); (case c1 => k_is); (case k1 => k_is); (case a2 => k_is); (case l2 => k_is); (case c2 => k_is); (case k2 => k_is); (case a3 => k_is); (case l3 => k_is); (case c3 => k_is); (case k3 => k_is); (case a4 => k_is); (case l4 => k_is); (case c4 => k_is); (case k4 => k_is); (case a5 => k_is); (case l5 => k_is); (case c5 => k_is); (case k5 => k_is); (case a6 => k_is); (case l6 => k_is); (case c6 => k_is); (case k6 => k_is); (case a7 => k_is); (case l7 => k_is); (case c7 => k_is); (case k7 => k_is); (case v_CELLS => k_is); (case z_abs => k_is); (case z_int => k_is); (case z_len => k_is); (case z_max => k_is); (case z_min => k_is); (case z_range => k_is); (case z_repr => k_is); (case z_sorted => k_is); (case z_sum => k_is); (case z_tuple => k_is)
