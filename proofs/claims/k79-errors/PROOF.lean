import PyProof.Rows.All
import Wide.All
import OpenK.AllK
import Wide.FinOn
import HandS.ForMost
import HandS.Evl
import HandS.Words
import HandS.Style
import HandS.Defaults
import HandS.Wide
import HandS.EndBits
import HandS.ListItems
import KE.SortData
import HandS.ExcInit
import HandS.ExcValue
import HandS.Lambda
import HandS.Deep
import HandS.Steps
import HandS.SetKeys
import HandS.DictComp
import HandS.More
import KE.DataMinMax
import HandS.Conv
import HandS.TupAny
import HandS.DictTup
import HandS.IsInst
import HandS.Star
import KE.DataEq
import HandS.SortOrd
import KE.KSortTupAny
import KE.KDictCopyH
import KE.KDictWalk
import HandS.RaiseMore
import HandS.Flow
import KE.KLam
import KE.SortKeyed
import KE.KNestM
import HandS.SortKw
import HandS.WrittenGet
import HandS.Text
import HandS.TryOnly
import KE.KSuper
import KE.KExcSuper
import KE.KExcIs
import HandS.ExcField
import PySem.Challenge.RW_crossheaps_k79_errors_by_themselves
set_option Elab.async false
set_option linter.all false
set_option maxRecDepth 100000
set_option maxHeartbeats 4000000
/-! Part 1: defs that are called where no repr is being made (the repr guard is empty): their promise, their call, the law's end. -/
namespace Gu
open PySem PySem.Spec PyProof.Rows L2
/-- as FnOk, asked only where no repr is on the way -/
structure FnG (P : Program) (w : World) (K : PySem.W.Frag) (mg : Str → Option Value) (base : Heap) (cx : CXT) (k : Nat) (f : Addr) (fd : FuncData) (ps : List Str) (sp : Sp) : Prop where
  len : ∀ vs H Q E, sp vs H Q E → vs.length = ps.length
  run : ∀ (A : Around) (out : List Env) (s : Shared) (H : Hp) (ar : Args) (us : List Value) (vs : List V) (Q : VK) (E : XK), Room k A → A.guards = some [] → Env0 P w K mg base A out s H →
    BindsTo s fd ar (ps.zip us) → Vals vs us → sp vs H Q E → codeAny (model P w) A (.call (.ref f) ar) (CR cx out P w H s Q E) s
theorem FnG.of {P : Program} {w : World} {K : PySem.W.Frag} {mg : Str → Option Value} {base : Heap} {cx : CXT} {k : Nat} {f : Addr} {fd : FuncData} {ps : List Str} {sp : Sp}
    (F : FnOk P w K mg base cx k f fd ps sp) : FnG P w K mg base cx k f fd ps sp :=
  ⟨F.len, fun A out s H ar us vs Q E hr _ he hb hv hs => F.run A out s H ar us vs Q E hr he hb hv hs⟩
theorem fnG_of {cx : CXT} {P : Program} {w : World} {K : PySem.W.Frag} {mg : Str → Option Value} {base : Heap} {k : Nat} {f : Addr} {nm ql : Str} {pr : Arguments} {bd : List Stmt} {sc : Scope}
    {dV kV dc pm cdv ct oc : Value} {an od : Option Addr} {osl : Array (Option Value)} {N ps : List Str} {sp : Sp}
    (lk : K.lookup f = some ⟨oc, od, .func (PySem.W.fnOf nm ql pr bd sc dV kV dc pm an cdv ct), osl⟩) (hcd : PySem.W.codeIn K cdv ql = true) (S : FnScope N ps sc)
    (len : ∀ vs H Q E, sp vs H Q E → vs.length = ps.length)
    (hb0 : ∀ (A : Around) (out : List Env) (s : Shared) (H : Hp) (vs : List V) (Q : VK) (E : XK), Room k (A.deeper (envOfC ql sc s.heap.objs.size f cdv)) → A.guards = some [] → sp vs H Q E →
      ∃ t, PSs (cxOf cx P w K mg base N ql sc f cdv A out s H E) bd t ∧ t { nx := fun _ H' => Q .non H', rt := Q } (start N vs) H) :
    FnG P w K mg base cx (k + 1) f (PySem.W.fnOf nm ql pr bd sc dV kV dc pm an cdv ct) ps sp := by
  refine ⟨len, fun A out s H ar us vs Q E hr hg e0 hb r hsp => ?_⟩
  have hl := len _ _ _ _ hsp
  have KX : K.In s.heap := e0.mod.kin.keeps fun b o z => (e0.bs b o z).1
  have lim : s.heap.NoLimit := e0.mod.nolimit.keeps fun b o z => (e0.bs b o z).1
  have hkd : ∀ y ∈ ps.zip us, sc.names.lookup y.1 = some .local ∨ (sc.names.lookup y.1 = some .cell ∧ ((cellsFrom (s.heap.objs.size + 1) sc.names []).lookup y.1).isSome = true) := fun ⟨n, v⟩ hy =>
    (S.par n (List.of_mem_zip hy).1).elim .inl fun q => .inr ⟨q, PySem.W.cellsFrom_some _ _ _ (.inl q)⟩
  refine codeAny_call_function hr.depth (KX _ _ lk) rfl S.co S.gen rfl (PySem.W.codeRec_of KX hcd) (hb _ _ _ _ ?_)
  refine wpAny_newFunctionEnv_cells S.kind hkd fun env hev s1 x => ?_
  subst hev
  refine ⟨lim.keeps x.toInCall.keep, codeAny_func ?_⟩
  obtain ⟨t, ht, hq⟩ := hb0 A out s H vs Q E (hr.deeper _) hg hsp
  have I : Inv (cxOf cx P w K mg base N ql sc f cdv A out s H E) [] (start N vs) H s1 := inv_start S hr.hd e0 hl r x
  refine wpAny_mono (ht.run [] s1 (start N vs) H _ I hq) (fun fl s' hs => ?_) fun e s' hs => hs
  have done : ∀ {σ' : L2.St} {H' : Hp} {v : V} {u : Value}, Inv (cxOf cx P w K mg base N ql sc f cdv A out s H E) [] σ' H' s' → RelV v u → Q v H' → CE out P w H s Q u s' :=
    fun {σ' H' v u} J rv q => ⟨v, H', J.os, J.bare, J.base, J.hok, rv, q⟩
  match fl, hs with
  | .ret u, ⟨v, σ', H', J, rv, q⟩ => exact done J rv q
  | .next, ⟨σ', H', J, q⟩ => exact done (v := V.non) (u := Value.none) J rfl q
  | .brk, ⟨_, _, _, q⟩ => exact False.elim q
  | .cont, ⟨_, _, _, q⟩ => exact False.elim q
section
variable {P : Program} {w : World} {K : PySem.W.Frag} {mg : Str → Option Value} {base : Heap}
theorem okG {x ql : Str} {st : Stmt} {f : Addr} {fd : FuncData} {N ps : List Str} {k : Nat} {sp : Sp} (F : Fun K x ql st f fd) (S : FnScope N ps (defScope st)) (len : ∀ vs H Q E, sp vs H Q E → vs.length = ps.length)
    (hb0 : ∀ (cdv : Value) (A : Around) (out : List Env) (s : Shared) (H : Hp) (vs : List V) (Q : VK) (E : XK), Room k (A.deeper (envOfC ql (defScope st) s.heap.objs.size f cdv)) → A.guards = some [] → sp vs H Q E →
      ∃ t, PSs (cxOf CX0 P w K mg base N ql (defScope st) f cdv A out s H E).nox (defBody st) t ∧ t { nx := fun _ H' => Q .non H', rt := Q } (start N vs) H) : FnG P w K mg base CX0 (k + 1) f fd ps sp := by
  obtain ⟨oc, od, kV, dc, pm, an, cdv, ct, osl, rfl, lk, hcd⟩ := F.ex
  refine fnG_of lk hcd S len fun A out s H vs Q E hr hg hsp => ?_
  obtain ⟨t, h, q⟩ := hb0 cdv A out s H vs Q E hr hg hsp
  exact ⟨t, h.nox, q⟩
end
/-! ### data, item by item -/
theorem _root_.L2.DpAll.len {K : PySem.W.Frag} {H : Hp} : ∀ {vs : List V} {ds : List PyData}, DpAll K H vs ds → vs.length = ds.length
  | _, _, .nil => rfl
  | _, _, .cons _ h => by rw [List.length_cons, List.length_cons, h.len]
theorem dp_zip {K : PySem.W.Frag} {H : Hp} : ∀ {vs : List V} {ds : List PyData}, DpAll K H vs ds → ∀ b ∈ vs.zip ds, Dp K H b.1 b.2
  | _, _, .nil, b, hb => by cases hb
  | _, _, .cons h1 h2, b, hb => by
    rcases List.mem_cons.mp hb with rfl | hb
    · exact h1
    · exact dp_zip h2 b hb
theorem dpAll_pairs {K : PySem.W.Frag} {H : Hp} : ∀ {bs : List (V × PyData)}, (∀ b ∈ bs, Dp K H b.1 b.2) → DpAll K H (bs.map Prod.fst) (bs.map Prod.snd)
  | [], _ => .nil
  | b :: bs, h => .cons (h b (List.mem_cons_self ..)) (dpAll_pairs fun c hc => h c (List.mem_cons_of_mem _ hc))
theorem each_zip {K : PySem.W.Frag} {H : Hp} : ∀ {vs : List V} {ds : List PyData} {us : List Value}, DpAll K H vs ds → Vals vs us → PySem.W.EachIs (fun (u : Value) (b : V × PyData) => RelV b.1 u ∧ Dp K H b.1 b.2) us (vs.zip ds)
  | _, _, _, .nil, .nil => .nil
  | _, _, _, .cons h1 h2, .cons r1 r2 => .cons ⟨r1, h1⟩ (each_zip h2 r2)
theorem vals_each : ∀ {us : List Value} {bs : List (V × PyData)}, PySem.W.EachIs (fun (u : Value) (b : V × PyData) => RelV b.1 u) us bs → Vals (bs.map Prod.fst) us
  | _, _, .nil => .nil
  | _, _, .cons h1 h2 => .cons h1 (vals_each h2)
section
variable {X : Cx} {cx : CXT} {k : Nat} {f : Addr} {fd : FuncData} {ps : List Str} {sp : Sp} {dvs : List V} {ds : List Value} {E : XK} {x : Str} {p pos : Pos} {e : Expr} {es : List Expr} {t : TA}
theorem run_G {pins : List (Addr × Obj)} {σ : L2.St} {H : Hp} {s : Shared} {Q : VK} {us : List Value} {vs : List V} (F : FnG X.prog X.w X.K X.mg X.base cx k f fd ps sp) (hr : Room k X.A) (hgd : X.A.guards = some [])
    (hb : Binds X.K fd ps ds) (hd : Vals dvs ds) (hx : Passes cx X E) (I : Inv X pins σ H s) (r : Vals vs us) (h : sp (vs ++ dvs) H Q E) : wpAny (model X.prog X.w) X.A (call (.ref f) us) (EP X pins σ Q) X.xe s := by
  have rr : Vals (vs ++ dvs) (us ++ ds) := r.append hd
  have hl : (us ++ ds).length = ps.length := by rw [← rr.length]; exact F.len _ _ _ _ h
  refine wpAny_call (codeAny_mono (F.run X.A X.stack s H ⟨us, []⟩ (us ++ ds) (vs ++ dvs) Q E hr hgd I.env0 (hb s us I.kIn hl) rr h) fun res s' hq => ?_)
  match res, hq with
  | .error e, hq => exact hx pins σ H s e s' I hq
  | .ok (.ret u), hq => exact I.after hq
theorem pe_callG (F : FnG X.prog X.w X.K X.mg X.base cx k f fd ps sp) (hr : Room k X.A) (hgd : X.A.guards = some []) (hg : Gl X x) (hm : X.mg x = some (.ref f)) (hk : PySem.W.keepIn X.K (.ref f) = true)
    (hb : Binds X.K fd ps ds) (hd : Vals dvs ds) (hx : Passes cx X E) (ha : PA X (e :: es) t) (hdb : (x == ("__debug__" : Str)) = false := by decide)
    (he : starEach (e :: es) X.env = (false, eval e X.env) :: starEach es X.env := by rfl) (hpl : (backTo pos (starEach es X.env)).any (·.1) = false := by rfl) :
    PE X (.Call (.Name x p) (e :: es) [] pos) (tCall sp dvs E t) := by
  refine ⟨fun pins s σ H Q I h => wpAny_Call_Name_kw (ld_glob I hg hm ?_ hdb)⟩
  exact PySem.W.callWith_K (h₀ := X.base) I.ok.mod.kin hk (thn (ha.run pos pins s σ H _ I h) fun us s1 ⟨vs, H1, I1, r, q⟩ => ⟨I1.kIn, run_G F hr hgd hb hd hx I1 r q⟩) he hpl
/-- repr of data -/
def rRepr (K : PySem.W.Frag) : List V → Hp → VK → Prop := fun xs H Q => ∃ a d, xs = [.ref a] ∧ Dp K H (.ref a) d ∧ d.showable = true ∧ d.hasDict = false ∧ d.depth ≤ 60 ∧ d.shown.length ≤ sizeLine ∧ Q (.str d.shown) H
theorem call_reprD (hgd : X.A.guards = some []) (hu : X.A.units + 64 < cLine) : CallR X (.builtin "repr") (rRepr X.K) := by
  intro pins s σ H xs us Q I r h
  obtain ⟨a, d, rfl, hd, h1, h2, h3, h4, q⟩ := h
  rw [Vals.ref1 r]
  obtain ⟨as, rd⟩ := Dp.reads I d (.ref a) (.ref a) hd rfl
  refine PySem.repr_of_reads' rd h1 (fun z => by rw [h2] at z; cases z) hgd (by omega) (fun _ _ z => z) (fun h' u tk hk => ?_) h4
  exact ⟨.str _, H, I.kept hk, ⟨_, rfl⟩, q⟩
/-- sorted of data of one shape -/
def rSortD (K : PySem.W.Frag) : List V → Hp → VK → Prop := fun xs H Q => ∃ (a : Addr) (vs : List V) (ds : List PyData), xs = [.ref a] ∧ SqL K H a vs ∧ DpAll K H vs ds ∧ PySem.W.AllAlike ds ∧ PySem.W.Sortable ds ∧ (∀ d ∈ ds, d.depth ≤ 60) ∧
  ∀ (p : Addr) (bs : List (V × PyData)), H p = none → bs.Perm (vs.zip ds) → bs.map Prod.snd = ds.mergeSort (PySem.W.dataLe false id) → Q (.ref p) (upd H p (.lst (bs.map Prod.fst)))
theorem call_sortD (hu : X.A.units + 64 < cLine) : CallR X (.builtin "sorted") (rSortD X.K) := by
  intro pins s σ H xs us Q I r h
  obtain ⟨a, vs, ds, rfl, hs, hd, h1, h2, h3, q⟩ := h
  rw [Vals.ref1 r]
  obtain ⟨its, rv, hl, hz⟩ := I.list hs
  have hlen : vs.length = ds.length := hd.len
  have er : PySem.W.EachIs (fun (u : Value) (b : V × PyData) => RelV b.1 u ∧ Dp X.K H b.1 b.2) its (vs.zip ds) := each_zip hd rv
  have er2 : PySem.W.EachIs (fun (u : Value) (b : V × PyData) => ∃ as, Reads s.heap u b.2 as) its (vs.zip ds) := er.mono fun u b z => Dp.reads I b.2 b.1 u z.2 z.1
  have em : (vs.zip ds).map Prod.snd = ds := List.map_snd_zip (by omega)
  have ez : (vs.zip ds).map Prod.fst = vs := List.map_fst_zip (by omega)
  have lz : (vs.zip ds).length = vs.length := by rw [← ez, List.length_map]; congr 1; rw [ez]
  refine PySem.W.sorted_data (enc := Prod.snd) (bs := vs.zip ds) hl.isList er er2 (by rw [em]; exact h1) (by rw [em]; exact h2) (by rw [lz]; exact hz) (fun b hb => ?_) fun out ho eo => ?_
  · have := h3 b.2 (List.of_mem_zip hb).2
    omega
  · obtain ⟨n, hn⟩ := PyProof.Rows.sortedAll_at s.heap its out.toArray
    have pm : ((vs.zip ds).mergeSort (PySem.W.dataLe false Prod.snd)).Perm (vs.zip ds) := List.mergeSort_perm _ _
    have rel : Vals (((vs.zip ds).mergeSort (PySem.W.dataLe false Prod.snd)).map Prod.fst) out := vals_each (eo.mono fun u b z => z.1)
    have e2 : ((vs.zip ds).mergeSort (PySem.W.dataLe false Prod.snd)).map Prod.snd = ds.mergeSort (PySem.W.dataLe false id) := by
      rw [PySem.W.sort_maps (r := PySem.W.dataLe false Prod.snd) (s := PySem.W.dataLe false id) Prod.snd (fun _ _ _ _ => rfl), em]
    have pm2 : (((vs.zip ds).mergeSort (PySem.W.dataLe false Prod.snd)).map Prod.fst).Perm vs := by
      have := pm.map Prod.fst
      rw [ez] at this
      exact this
    exact ⟨.ref _, upd H (s.heap.objs.size + 1) (.lst _), I.laid (t' := s.toks) (fun _ _ => PyProof.Rows.sortedAll_old) (Nat.le_succ _) ⟨by rw [pm2.length_eq]; exact hz, out, n, rel, hn⟩, rfl, q _ _ (I.hok.fresh (Nat.le_succ _)) pm e2⟩
end
/-! ### the law's own call -/
theorem law_callG {P : Program} {w : World} {K : PySem.W.Frag} {mg mb : Str → Option Value} {cx : CXT} {k : Nat} {fa a : Addr} {fd : FuncData} {x : Str} {sp : Sp} {s : Shared} {vs : List Value} {ns : List Int}
    (KX : K.In s.heap) (hns : s.heap.Ns mainGlobals mg) (hb : s.heap.Ns builtinsNs mb) (hbb : ∀ y : Str, y ≠ "__name__" → mb y = bootBuiltins y) (hlim : s.heap.NoLimit) (hg : s.gens = #[])
    (ha : s.heap.get? a = some { cls := .type "list", data := .seq vs.toArray }) (hi : IntsAre vs ns) (hl : ns.length ≤ sizeLine) (hr : Room k callerA)
    (F : ∀ base : Heap, K.In base → base.Ns mainGlobals mg → FnG P w K mg base cx k fa fd [x] sp) (hbind : ∀ (s' : Shared) (u : Value), BindsTo s' fd ⟨[u], []⟩ [(x, u)])
    (hsp : ∀ H : Hp, Only H → SqL K H a (ns.map V.int) → sp [.ref a] H (fun v _ => v = .bl true) fun _ _ _ => False)
    (hcx : ∀ H e s', cx [] H s (fun _ _ _ => False) e s' → False) :
    codeAny (model P w) callerA (.call (.ref fa) ⟨[.ref a], []⟩) (fun r s' => r = .ok (.ret (.bool true)) ∧ OldK s.heap s'.heap ∧ s'.os = s.os ∧ AllBare s'.gens) s := by
  have rv := vals_ints hi
  have main : ∀ H : Hp, Only H → SqL K H a (ns.map V.int) → HOk P w H s.heap → (∀ b, H b ≠ none → b = a) → (H a ≠ none → K.lookup a = none) →
      codeAny (model P w) callerA (.call (.ref fa) ⟨[.ref a], []⟩) (fun r s' => r = .ok (.ret (.bool true)) ∧ OldK s.heap s'.heap ∧ s'.os = s.os ∧ AllBare s'.gens) s := by
    intro H hO hS hok hA hK
    have isA : ∀ {b u}, H b = some u → b = a := fun {b u} q => hA b (by rw [q]; intro z; cases z)
    have keepB : ∀ {b : Addr} {o : Obj}, s.heap.get? b = some o → H b = none → (hidT s.heap H).get? b = some o := fun e n => hidT_get e n
    have noDict : ∀ {b : Addr} {o : Obj} {es : Array DictEntry} {ep : Nat}, s.heap.get? b = some o → o.data = .dict es ep → H b = none := fun {b o es ep} e d => by
      match q : H b with
      | none => rfl
      | some u =>
        obtain rfl := isA q
        rw [ha] at e
        cases e
        exact absurd (show Data.seq vs.toArray _ = Data.dict es ep from d) (by intro z; cases z)
    have nsB : ∀ {b : Addr} {m : Str → Option Value}, s.heap.Ns b m → (hidT s.heap H).Ns b m := fun {b m} ⟨o, es, ep, e, d, r⟩ => ⟨o, es, ep, keepB e (noDict e d), d, r⟩
    have kinB : K.In (hidT s.heap H) := fun b o e => keepB (KX b o e) (by
      match q : H b with
      | none => rfl
      | some u =>
        obtain rfl := isA q
        rw [hK (by rw [q]; intro z; cases z)] at e
        cases e)
    have md : Mod K mg (hidT s.heap H) := ⟨kinB, nsB hns, ⟨mb, nsB hb, hbb⟩, hlim.elim fun mc h => ⟨mc, nsB h.1, h.2⟩⟩
    have ev : Env0 P w K mg (hidT s.heap H) callerA [] s H := ⟨rfl, md, fun b o e => of_hidT e, Nat.le_of_eq (hidT_size _ _), trivial, fun b hb => absurd (show b ∈ ([] : List Addr) from hb) (by simp), hok, .of_eq hg⟩
    refine codeAny_mono ((F _ kinB (nsB hns)).run callerA [] s H ⟨[.ref a], []⟩ [.ref a] [.ref a] _ _ hr rfl ev (hbind s (.ref a)) (.cons rfl .nil) (hsp H hO hS)) fun r s' h => ?_
    match r, h with
    | .error e, h => exact (hcx H e s' h).elim
    | .ok (.ret u), ⟨v, H', os, bare, un, hok', r', q⟩ =>
      obtain rfl : v = .bl true := q
      obtain rfl : u = Value.bool true := r'
      refine ⟨rfl, OldK.of_keep fun b o e => ?_, os, bare⟩
      match q : H b with
      | none => exact un.keep b o e q (fun z => absurd (show b ∈ ([] : List Addr) from z) (by simp)) (by simp)
      | some u =>
        rcases hO b with z | ⟨ob, xs, z⟩
        · rw [q] at z
          cases z
        · obtain ⟨e1, _⟩ := hok b _ z
          obtain ⟨e2, _⟩ := hok' b _ (un.frzs b ob _ z)
          rw [e] at e1
          cases e1
          exact e2
  match hk : K.lookup a with
  | some o =>
    have e := KX a o hk
    rw [ha] at e
    cases e
    exact main (fun _ => none) (fun _ => .inl rfl) (.inr ⟨_, vs.toArray, _, hk, rfl, rfl, rfl, by rw [List.size_toArray, hi.length]; exact hl, by simpa using rv⟩) (fun b u z => absurd (show (none : Option HO) = some u from z) (by intro q; cases q)) (fun b z => absurd rfl z) fun z => absurd rfl z
  | none =>
    refine main (fun b => if b = a then some (.frz { cls := .type "list", data := .seq vs.toArray } (.lst (ns.map V.int))) else none) (fun b => ?_) (.inl (.inr ⟨{ cls := .type "list", data := .seq vs.toArray }, if_pos rfl⟩)) (fun b u z => ?_) (fun b z => ?_) fun _ => hk
    · by_cases hb : b = a
      · exact .inr ⟨_, _, if_pos hb⟩
      · exact .inl (if_neg hb)
    · by_cases hb : b = a
      · cases (if_pos hb).symm.trans z
        subst hb
        exact ⟨ha, by rw [List.length_map]; exact hl, vs, _, rv, ha⟩
      · cases (if_neg hb).symm.trans z
    · by_cases hb : b = a
      · exact hb
      · exact absurd (if_neg hb) z
theorem walk_G {l : PySem.W.OpenLaw} {n k : Nat} {q : Program} {loose : List Str} {XP : (Str → Option Value) → Heap → Prop} {YP : World → Heap → Prop} {d : DefRec} {K : Params → PySem.W.Frag} {cx : World → CXT} {sp : World → Sp} {x : Str}
    (hn : l.most = some n) (hn2 : n ≤ sizeLine) (hdf : d.params.defaults = []) (hr : Room k callerA) (hY : ∀ (w : World) (h : Heap), YP w h → (K w.params).In h)
    (F : ∀ (w : World) (mg : Str → Option Value) (fa : Addr) (h : Heap), (K w.params).In h → h.Ns mainGlobals mg → mg d.name = some (.ref fa) →
      ∃ fd : FuncData, (∀ (s : Shared) (u : Value), BindsTo s fd ⟨[u], []⟩ [(x, u)]) ∧ ∀ base : Heap, (K w.params).In base → base.Ns mainGlobals mg → FnG l.prog w (K w.params) mg base (cx w) k fa fd [x] (sp w))
    (hsp : ∀ (w : World) (H : Hp) (a : Addr) (ns : List Int), ns.length ≤ n → Only H → SqL (K w.params) H a (ns.map V.int) → sp w [.ref a] H (fun v _ => v = .bl true) fun _ _ _ => False)
    (hcx : ∀ (w : World) (H : Hp) (s : Shared) (e : Value) (s' : Shared), cx w [] H s (fun _ _ _ => False) e s' → False) :
    PySem.W.WalkO q loose XP YP l.row.toRowW d [] (fun f vs => PySem.call f vs) := by
  refine Att.attach_call hn hdf fun w s₀ s₁ mg mb fa o pm cd doc a vs ns G Y ho hd hcd hmg hobj hints hlen hg => ?_
  obtain ⟨fd, hb, hF⟩ := F w mg fa _ (hY w _ Y) G.T.g hmg
  exact law_callG (hY w _ Y) G.T.g G.T.b G.T.builtins G.T.nolimit hg hobj hints (Nat.le_trans hlen hn2) hr hF hb (fun H hO hS => hsp w H a ns hlen hO hS) fun H e s' => hcx w H s₁ e s'
end Gu
/-! Part 0: values of any kind that are never changed any more: data, tuples, lists and dicts of such, exceptions with their fields. -/
namespace Cw
open PySem PySem.Spec PyProof.Rows L2 Gu
inductive Fz where
  | d (x : PyData)
  | tup (l : List Fz)
  /-- the flag: its place is known not to be that of sys.modules -/
  | lst (b : Bool) (l : List Fz)
  | dic (l : List (Key × Fz))
  | exc (Cl : Addr) (fs : List (Str × Fz))
  /-- an exception without fields -/
  | exc0 (Cl : Addr)
/-- an exception's object, of which only the class and the dict's place are told -/
def exv (a : Addr) (cls : Value) (d : Option Addr) : HO := .ext fun h => ∃ oe vs, h.get? a = some oe ∧ Zc cls d oe ∧ oe.data = .fields vs
def IsEx (a Cl dx : Addr) (o : HO) : Prop := o = exv a (.ref Cl) (some dx) ∨ o = exo a Cl (some dx)
def IsXd (dx : Addr) (ps : List (Str × V)) (o : HO) : Prop := o = .xd ps ∨ o = exd dx ps
mutual
inductive FzOk (K : PySem.W.Frag) (B : Hp) : V → Fz → Prop
  | d {v : V} {x : PyData} : Dp K B v x → FzOk K B v (.d x)
  | tup {a : Addr} {us : List V} {l : List Fz} : SqT K B a us → FzAll K B us l → FzOk K B (.ref a) (.tup l)
  | lst {a : Addr} {us : List V} {b : Bool} {l : List Fz} : SqL K B a us → FzAll K B us l → (b = true → a ≠ sysModules) → FzOk K B (.ref a) (.lst b l)
  | dic {a : Addr} {ps : List (Key × V)} {l : List (Key × Fz)} : B a = some (.dK ps) → FzKv K B ps l → FzOk K B (.ref a) (.dic l)
  | exc {a dx Cl : Addr} {o p : HO} {ps : List (Str × V)} {fs : List (Str × Fz)} : B a = some o → IsEx a Cl dx o → B dx = some p → IsXd dx ps p → FzFs K B ps fs → FzOk K B (.ref a) (.exc Cl fs)
  | exc0 {a Cl : Addr} : B a = some (ExO (.ref Cl) a) → FzOk K B (.ref a) (.exc0 Cl)
inductive FzAll (K : PySem.W.Frag) (B : Hp) : List V → List Fz → Prop
  | nil : FzAll K B [] []
  | cons {v : V} {x : Fz} {vs : List V} {l : List Fz} : FzOk K B v x → FzAll K B vs l → FzAll K B (v :: vs) (x :: l)
inductive FzKv (K : PySem.W.Frag) (B : Hp) : List (Key × V) → List (Key × Fz) → Prop
  | nil : FzKv K B [] []
  | cons {k : Key} {v : V} {x : Fz} {vs : List (Key × V)} {l : List (Key × Fz)} : FzOk K B v x → FzKv K B vs l → FzKv K B ((k, v) :: vs) ((k, x) :: l)
inductive FzFs (K : PySem.W.Frag) (B : Hp) : List (Str × V) → List (Str × Fz) → Prop
  | nil : FzFs K B [] []
  | cons {k : Str} {v : V} {x : Fz} {vs : List (Str × V)} {l : List (Str × Fz)} : FzOk K B v x → FzFs K B vs l → FzFs K B ((k, v) :: vs) ((k, x) :: l)
end
mutual
theorem dp_mono {K : PySem.W.Frag} {H H' : Hp} (e : Evl.Ex H H') : ∀ (d : PyData) (v : V), Dp K H v d → Dp K H' v d
  | .none, _, h => by cases h; exact .non
  | .bool _, _, h => by cases h; exact .bl _
  | .int _, _, h => by cases h; exact .int _
  | .str _, _, h => by cases h; exact .str _
  | .list ds, _, h => by
    cases h with
    | lst hs ha => exact .lst (Evl.ex_l e hs) (dpAll_mono e ds _ ha)
  | .tuple ds, _, h => by
    cases h with
    | tup hs ha => exact .tup (Evl.ex_t e hs) (dpAll_mono e ds _ ha)
  | .dict _, _, h => by cases h
theorem dpAll_mono {K : PySem.W.Frag} {H H' : Hp} (e : Evl.Ex H H') : ∀ (ds : List PyData) (vs : List V), DpAll K H vs ds → DpAll K H' vs ds
  | [], _, h => by cases h; exact .nil
  | d :: ds, _, h => by
    cases h with
    | cons h1 h2 => exact .cons (dp_mono e d _ h1) (dpAll_mono e ds _ h2)
end
mutual
theorem fz_mono {K : PySem.W.Frag} {H H' : Hp} (e : Evl.Ex H H') : ∀ (z : Fz) (v : V), FzOk K H v z → FzOk K H' v z
  | .d _, _, h => by
    cases h with
    | d hd => exact .d (dp_mono e _ _ hd)
  | .tup l, _, h => by
    cases h with
    | tup hs ha => exact .tup (Evl.ex_t e hs) (fzAll_mono e l _ ha)
  | .lst _ l, _, h => by
    cases h with
    | lst hs ha hn => exact .lst (Evl.ex_l e hs) (fzAll_mono e l _ ha) hn
  | .dic l, _, h => by
    cases h with
    | dic hs ha => exact .dic (e _ _ hs) (fzKv_mono e l _ ha)
  | .exc _ fs, _, h => by
    cases h with
    | exc h1 h2 h3 h4 ha => exact .exc (e _ _ h1) h2 (e _ _ h3) h4 (fzFs_mono e fs _ ha)
  | .exc0 _, _, h => by
    cases h with
    | exc0 h1 => exact .exc0 (e _ _ h1)
theorem fzAll_mono {K : PySem.W.Frag} {H H' : Hp} (e : Evl.Ex H H') : ∀ (l : List Fz) (vs : List V), FzAll K H vs l → FzAll K H' vs l
  | [], _, h => by cases h; exact .nil
  | z :: l, _, h => by
    cases h with
    | cons h1 h2 => exact .cons (fz_mono e z _ h1) (fzAll_mono e l _ h2)
theorem fzKv_mono {K : PySem.W.Frag} {H H' : Hp} (e : Evl.Ex H H') : ∀ (l : List (Key × Fz)) (vs : List (Key × V)), FzKv K H vs l → FzKv K H' vs l
  | [], _, h => by cases h; exact .nil
  | (k, z) :: l, _, h => by
    cases h with
    | cons h1 h2 => exact .cons (fz_mono e z _ h1) (fzKv_mono e l _ h2)
theorem fzFs_mono {K : PySem.W.Frag} {H H' : Hp} (e : Evl.Ex H H') : ∀ (l : List (Str × Fz)) (vs : List (Str × V)), FzFs K H vs l → FzFs K H' vs l
  | [], _, h => by cases h; exact .nil
  | (k, z) :: l, _, h => by
    cases h with
    | cons h1 h2 => exact .cons (fz_mono e z _ h1) (fzFs_mono e l _ h2)
end
/-- what is told stays so where tuples, lists and unlocked things stay -/
structure Stays (K : PySem.W.Frag) (B B' : Hp) : Prop where
  dp : ∀ (d : PyData) (v : V), Dp K B v d → Dp K B' v d
  tp : ∀ (a : Addr) (us : List V), SqT K B a us → SqT K B' a us
  ls : ∀ (a : Addr) (us : List V), SqL K B a us → SqL K B' a us
  ob : ∀ (b : Addr) (o : HO), (∀ u q, o ≠ .frz u q) → B b = some o → B' b = some o
theorem isEx_nf {a Cl dx : Addr} {o : HO} (h : IsEx a Cl dx o) (u : Obj) (q : HO) : o ≠ .frz u q := by
  rcases h with rfl | rfl
  · intro z; unfold exv at z; cases z
  · exact exo_frz
theorem isXd_nf {dx : Addr} {ps : List (Str × V)} {o : HO} (h : IsXd dx ps o) (u : Obj) (q : HO) : o ≠ .frz u q := by
  rcases h with rfl | rfl
  · intro z; cases z
  · intro z; unfold exd at z; cases z
mutual
theorem fz_stay {K : PySem.W.Frag} {H H' : Hp} (e : Stays K H H') : ∀ (z : Fz) (v : V), FzOk K H v z → FzOk K H' v z
  | .d _, _, h => by
    cases h with
    | d hd => exact .d (e.dp _ _ hd)
  | .tup l, _, h => by
    cases h with
    | tup hs ha => exact .tup (e.tp _ _ hs) (fzAll_stay e l _ ha)
  | .lst _ l, _, h => by
    cases h with
    | lst hs ha hn => exact .lst (e.ls _ _ hs) (fzAll_stay e l _ ha) hn
  | .dic l, _, h => by
    cases h with
    | dic hs ha => exact .dic (e.ob _ _ (fun _ _ z => by cases z) hs) (fzKv_stay e l _ ha)
  | .exc _ fs, _, h => by
    cases h with
    | exc h1 h2 h3 h4 ha => exact .exc (e.ob _ _ (isEx_nf h2) h1) h2 (e.ob _ _ (isXd_nf h4) h3) h4 (fzFs_stay e fs _ ha)
  | .exc0 _, _, h => by
    cases h with
    | exc0 h1 => exact .exc0 (e.ob _ _ (fun u q z => by unfold ExO at z; cases z) h1)
theorem fzAll_stay {K : PySem.W.Frag} {H H' : Hp} (e : Stays K H H') : ∀ (l : List Fz) (vs : List V), FzAll K H vs l → FzAll K H' vs l
  | [], _, h => by cases h; exact .nil
  | z :: l, _, h => by
    cases h with
    | cons h1 h2 => exact .cons (fz_stay e z _ h1) (fzAll_stay e l _ h2)
theorem fzKv_stay {K : PySem.W.Frag} {H H' : Hp} (e : Stays K H H') : ∀ (l : List (Key × Fz)) (vs : List (Key × V)), FzKv K H vs l → FzKv K H' vs l
  | [], _, h => by cases h; exact .nil
  | (k, z) :: l, _, h => by
    cases h with
    | cons h1 h2 => exact .cons (fz_stay e z _ h1) (fzKv_stay e l _ h2)
theorem fzFs_stay {K : PySem.W.Frag} {H H' : Hp} (e : Stays K H H') : ∀ (l : List (Str × Fz)) (vs : List (Str × V)), FzFs K H vs l → FzFs K H' vs l
  | [], _, h => by cases h; exact .nil
  | (k, z) :: l, _, h => by
    cases h with
    | cons h1 h2 => exact .cons (fz_stay e z _ h1) (fzFs_stay e l _ h2)
end
theorem FzAll.len {K : PySem.W.Frag} {B : Hp} : ∀ {vs : List V} {l : List Fz}, FzAll K B vs l → vs.length = l.length
  | _, _, .nil => rfl
  | _, _, .cons _ t => by rw [List.length_cons, List.length_cons, t.len]
theorem FzAll.at {K : PySem.W.Frag} {B : Hp} : ∀ {vs : List V} {l : List Fz} {j : Nat} {x : Fz}, FzAll K B vs l → l[j]? = some x → ∃ v, vs[j]? = some v ∧ FzOk K B v x
  | _, _, _, _, .nil, h => by simp at h
  | _, _, 0, _, .cons h1 _, h => by cases h; exact ⟨_, rfl, h1⟩
  | _, _, j + 1, _, .cons _ h2, h => FzAll.at (j := j) h2 (by simpa using h)
theorem FzAll.app {K : PySem.W.Frag} {B : Hp} : ∀ {vs us : List V} {l m : List Fz}, FzAll K B vs l → FzAll K B us m → FzAll K B (vs ++ us) (l ++ m)
  | _, _, _, _, .nil, h => h
  | _, _, _, _, .cons h1 h2, h => .cons h1 (h2.app h)
theorem fzAll_dp {K : PySem.W.Frag} {B : Hp} : ∀ {vs : List V} {ds : List PyData}, DpAll K B vs ds → FzAll K B vs (ds.map .d)
  | _, _, .nil => .nil
  | _, _, .cons h t => .cons (.d h) (fzAll_dp t)
end Cw
/-! Part 2: what is known of values (cells), of the objects that are one's own (a heap of points), and evaluation in these words. -/
namespace Cw
open PySem PySem.Spec PyProof.Rows L2 Gu
abbrev Ex := Evl.Ex
theorem ex_refl {B : Hp} : Ex B B := fun _ _ h => h
theorem ex_trans {B B1 B2 : Hp} (h : Ex B B1) (g : Ex B1 B2) : Ex B B2 := fun a x e => g a x (h a x e)
/-- what is known of a value: nothing, the data that it is, itself -/
inductive C where
  | any
  | d (x : PyData)
  | v (x : V)
  | k (ks : List Key)
  | z (x : Fz)
abbrev C.r (a : Addr) : C := .v (.ref a)
/-- what a mutable object holds -/
inductive MO where
  | lst (ds : List PyData)
  | lsc (cs : List C)
  | dic (kvs : List (Key × C))
  | dit (kvs : List (List Key × C))
  | ins (Cl dx : Addr) (fs : List (Str × C))
  /-- a table of code objects of one name -/
  | tab (q : Str)
abbrev HC := Addr × MO
def Sl (K : PySem.W.Frag) (B : Hp) (o : Option V) : C → Prop
  | .any => True
  | .d x => ∃ v, o = some v ∧ Dp K B v x
  | .v x => o = some x
  | .k ks => ∃ p, o = some (.ref p) ∧ B p = some (.tup (ks.map kV))
  | .z x => ∃ v, o = some v ∧ FzOk K B v x
def SlA (K : PySem.W.Frag) (B : Hp) : List (Option V) → List C → Prop
  | [], [] => True
  | o :: s, c :: cs => Sl K B o c ∧ SlA K B s cs
  | _, _ => False
def VsOk (K : PySem.W.Frag) (B : Hp) : List V → List C → Prop
  | [], [] => True
  | v :: vs, c :: cs => Sl K B (some v) c ∧ VsOk K B vs cs
  | _, _ => False
def KvOk {κ : Type} (K : PySem.W.Frag) (B : Hp) : List (κ × V) → List (κ × C) → Prop
  | [], [] => True
  | p :: ps, q :: qs => p.1 = q.1 ∧ Sl K B (some p.2) q.2 ∧ KvOk K B ps qs
  | _, _ => False
def MOk (K : PySem.W.Frag) (B : Hp) : MO → HO → Prop
  | .lst ds, h => ∃ xs, h = .lst xs ∧ DpAll K B xs ds
  | .lsc cs, h => ∃ xs, h = .lst xs ∧ VsOk K B xs cs
  | .dic kvs, h => ∃ ps, h = .dK ps ∧ KvOk K B ps kvs
  | .dit kvs, h => ∃ ps, h = .dT ps ∧ KvOk K B ps kvs
  | .ins Cl dx fs, h => ∃ ps, h = .ins Cl dx ps ∧ KvOk K B ps fs
  | .tab q, h => ∃ ps, h = .tbl ps ∧ TriplesOk ps.toList ∧ ∀ (pos : Pos) (cv : Value), codeAmong pos ps.toList = some cv → ∃ c, cv = .ref c ∧ B c = some (LamX.CodeO c q)
theorem Sl.mono {K : PySem.W.Frag} {B B' : Hp} (e : Ex B B') {o : Option V} : ∀ {c : C}, Sl K B o c → Sl K B' o c
  | .any, _ => trivial
  | .d _, ⟨v, h1, h2⟩ => ⟨v, h1, dp_mono e _ _ h2⟩
  | .v _, h => h
  | .k _, ⟨p, h1, h2⟩ => ⟨p, h1, e _ _ h2⟩
  | .z _, ⟨v, h1, h2⟩ => ⟨v, h1, fz_mono e _ _ h2⟩
theorem SlA.mono {K : PySem.W.Frag} {B B' : Hp} (e : Ex B B') : ∀ {s : List (Option V)} {cs : List C}, SlA K B s cs → SlA K B' s cs
  | [], [], _ => trivial
  | _ :: _, _ :: _, h => ⟨h.1.mono e, SlA.mono e h.2⟩
  | [], _ :: _, h => h.elim
  | _ :: _, [], h => h.elim
theorem VsOk.mono {K : PySem.W.Frag} {B B' : Hp} (e : Ex B B') : ∀ {s : List V} {cs : List C}, VsOk K B s cs → VsOk K B' s cs
  | [], [], _ => trivial
  | _ :: _, _ :: _, h => ⟨h.1.mono e, VsOk.mono e h.2⟩
  | [], _ :: _, h => h.elim
  | _ :: _, [], h => h.elim
theorem KvOk.mono {κ : Type} {K : PySem.W.Frag} {B B' : Hp} (e : Ex B B') : ∀ {s : List (κ × V)} {cs : List (κ × C)}, KvOk K B s cs → KvOk K B' s cs
  | [], [], _ => trivial
  | _ :: _, _ :: _, h => ⟨h.1, h.2.1.mono e, KvOk.mono e h.2.2⟩
  | [], _ :: _, h => h.elim
  | _ :: _, [], h => h.elim
theorem MOk.mono {K : PySem.W.Frag} {B B' : Hp} (e : Ex B B') : ∀ {mo : MO} {h : HO}, MOk K B mo h → MOk K B' mo h
  | .lst _, _, ⟨xs, e1, e2⟩ => ⟨xs, e1, dpAll_mono e _ _ e2⟩
  | .lsc _, _, ⟨xs, e1, e2⟩ => ⟨xs, e1, e2.mono e⟩
  | .dic _, _, ⟨xs, e1, e2⟩ => ⟨xs, e1, e2.mono e⟩
  | .dit _, _, ⟨xs, e1, e2⟩ => ⟨xs, e1, e2.mono e⟩
  | .ins _ _ _, _, ⟨xs, e1, e2⟩ => ⟨xs, e1, e2.mono e⟩
  | .tab _, _, ⟨ps, e1, e2, e3⟩ => ⟨ps, e1, e2, fun pos cv h => let ⟨c, h1, h2⟩ := e3 pos cv h; ⟨c, h1, e _ _ h2⟩⟩
theorem SlA.len {K : PySem.W.Frag} {B : Hp} : ∀ {s : List (Option V)} {cs : List C}, SlA K B s cs → s.length = cs.length
  | [], [], _ => rfl
  | _ :: _, _ :: _, h => by rw [List.length_cons, List.length_cons, SlA.len h.2]
  | [], _ :: _, h => h.elim
  | _ :: _, [], h => h.elim
theorem SlA.get {K : PySem.W.Frag} {B : Hp} : ∀ {s : List (Option V)} {cs : List C} {i : Nat} {c : C}, SlA K B s cs → cs[i]? = some c → ∃ o, s[i]? = some o ∧ Sl K B o c
  | [], [], i, _, _, h => by simp at h
  | o :: _, _ :: _, 0, _, h, e => by cases e; exact ⟨o, rfl, h.1⟩
  | _ :: s, _ :: cs, i + 1, c, h, e => SlA.get (s := s) (cs := cs) (i := i) h.2 (by simpa using e)
  | [], _ :: _, _, _, h, _ => h.elim
  | _ :: _, [], _, _, h, _ => h.elim
theorem SlA.set {K : PySem.W.Frag} {B : Hp} {o : Option V} {c : C} (ho : Sl K B o c) : ∀ {s : List (Option V)} {cs : List C} {i : Nat}, SlA K B s cs → SlA K B (s.set i o) (cs.set i c)
  | [], [], _, _ => trivial
  | _ :: _, _ :: _, 0, h => ⟨ho, h.2⟩
  | _ :: _, _ :: _, i + 1, h => ⟨h.1, SlA.set ho h.2⟩
  | [], _ :: _, _, h => h.elim
  | _ :: _, [], _, h => h.elim
theorem VsOk.len {K : PySem.W.Frag} {B : Hp} : ∀ {s : List V} {cs : List C}, VsOk K B s cs → s.length = cs.length
  | [], [], _ => rfl
  | _ :: _, _ :: _, h => by rw [List.length_cons, List.length_cons, VsOk.len h.2]
  | [], _ :: _, h => h.elim
  | _ :: _, [], h => h.elim
theorem VsOk.dp {K : PySem.W.Frag} {B : Hp} : ∀ {s : List V} {ds : List PyData}, VsOk K B s (ds.map .d) → DpAll K B s ds
  | [], [], _ => .nil
  | _ :: _, _ :: _, ⟨⟨v, e, h⟩, h2⟩ => by cases e; exact .cons h (VsOk.dp h2)
  | [], _ :: _, h => h.elim
  | _ :: _, [], h => h.elim
theorem VsOk.ofDp {K : PySem.W.Frag} {B : Hp} : ∀ {s : List V} {ds : List PyData}, DpAll K B s ds → VsOk K B s (ds.map .d)
  | _, _, .nil => trivial
  | _, _, .cons h t => ⟨⟨_, rfl, h⟩, VsOk.ofDp t⟩
/-- the heap: what never changes any more (B), and the objects that are one's own -/
structure En (K : PySem.W.Frag) (B H : Hp) (y : List HC) : Prop where
  bh : Ex B H
  ow : ∀ p ∈ y, B p.1 = none ∧ ∃ h, H p.1 = some h ∧ MOk K B p.2 h
  nd : (y.map Prod.fst).Nodup
section
variable {K : PySem.W.Frag} {B H B2 H2 : Hp} {y z : List HC}
theorem En.perm (E : En K B H y) (p : z.Perm y) : En K B H z := ⟨E.bh, fun q hq => E.ow q (p.mem_iff.mp hq), ((p.map _).nodup_iff).mpr E.nd⟩
theorem En.sub (E : En K B H y) (s : List.Sublist z y) : En K B H z := ⟨E.bh, fun q hq => E.ow q (s.subset hq), (s.map _).nodup E.nd⟩
theorem En.grow (E : En K B H y) (g : Ex B B2) (bh : Ex B2 H2) (k : ∀ a ∈ y.map Prod.fst, B2 a = none ∧ ∀ h, H a = some h → H2 a = some h) : En K B2 H2 y :=
  ⟨bh, fun p hp => by
    obtain ⟨_, h, h2, h3⟩ := E.ow p hp
    obtain ⟨k1, k2⟩ := k p.1 (List.mem_map.mpr ⟨p, hp, rfl⟩)
    exact ⟨k1, h, k2 h h2, h3.mono g⟩, E.nd⟩
theorem free_of {p : Addr} (bh : Ex B H) (hp : H p = none) : B p = none := by
  match e : B p with
  | none => rfl
  | some x => rw [bh p x e] at hp; cases hp
theorem En.at (E : En K B H y) {a : Addr} (h : a ∈ y.map Prod.fst) : B a = none ∧ H a ≠ none := by
  obtain ⟨p, hp, rfl⟩ := List.mem_map.mp h
  obtain ⟨h1, o, h2, _⟩ := E.ow p hp
  exact ⟨h1, by rw [h2]; intro z; cases z⟩
/-- a new object that never changes -/
theorem En.newF {p : Addr} {o : HO} (E : En K B H y) (hp : H p = none) : En K (upd B p o) (upd H p o) y := by
  refine E.grow (Evl.Ex.new (free_of E.bh hp)) (fun a x h => ?_) fun a ha => ?_
  · by_cases e : a = p
    · subst e
      rw [upd_same] at h ⊢
      exact h
    · rw [upd_ne e] at h ⊢
      exact E.bh a x h
  · obtain ⟨h1, h2⟩ := E.at ha
    have ne : a ≠ p := fun e => h2 (by rw [e]; exact hp)
    exact ⟨by rw [upd_ne ne]; exact h1, fun h hh => by rw [upd_ne ne]; exact hh⟩
/-- a new object that nothing is told of -/
theorem En.newO {p : Addr} {o : HO} (E : En K B H y) (hp : H p = none) : En K B (upd H p o) y :=
  E.grow ex_refl (fun a x h => Evl.Ex.new hp a x (E.bh a x h)) fun a ha => ⟨(E.at ha).1, fun h hh => Evl.Ex.new hp a h hh⟩
theorem En.newN {p : Addr} (E : En K B H y) (hp : H p = none) : p ∉ y.map Prod.fst := fun h => (E.at h).2 hp
theorem En.cons {a : Addr} {mo : MO} {h : HO} (E : En K B H y) (hb : B a = none) (hh : H a = some h) (hm : MOk K B mo h) (hn : a ∉ y.map Prod.fst) : En K B H ((a, mo) :: y) :=
  ⟨E.bh, fun p hp => by
    rcases List.mem_cons.mp hp with rfl | hp
    · exact ⟨hb, h, hh, hm⟩
    · exact E.ow p hp, List.nodup_cons.mpr ⟨hn, E.nd⟩⟩
/-- a new object of one's own -/
theorem En.newM {p : Addr} {o : HO} {mo : MO} (E : En K B H y) (hp : H p = none) (hm : MOk K B mo o) : En K B (upd H p o) ((p, mo) :: y) :=
  (E.newO hp).cons (free_of E.bh hp) upd_same hm (E.newN hp)
theorem En.head {a : Addr} {mo : MO} (E : En K B H ((a, mo) :: y)) : B a = none ∧ ∃ h, H a = some h ∧ MOk K B mo h := E.ow (a, mo) (List.mem_cons_self ..)
theorem En.tail {p : HC} (E : En K B H (p :: y)) : En K B H y := E.sub (List.sublist_cons_self ..)
theorem En.notIn {a : Addr} {mo : MO} (E : En K B H ((a, mo) :: y)) : a ∉ y.map Prod.fst := by
  have n : (a :: y.map Prod.fst).Nodup := E.nd
  exact (List.nodup_cons.mp n).1
/-- an own object changes -/
theorem En.chg {a : Addr} {mo mo' : MO} {h' : HO} (E : En K B H ((a, mo) :: y)) (hm : MOk K B mo' h') : En K B (upd H a h') ((a, mo') :: y) := by
  obtain ⟨hb, _⟩ := E.head
  have na := E.notIn
  have E1 : En K B (upd H a h') y := E.tail.grow ex_refl (fun b x hb' => by
    have : b ≠ a := fun e => by rw [e, hb] at hb'; cases hb'
    rw [upd_ne this]
    exact E.bh b x hb') fun b hb' => by
      have : b ≠ a := fun e => na (e ▸ hb')
      exact ⟨(E.tail.at hb').1, fun h hh => by rw [upd_ne this]; exact hh⟩
  exact E1.cons hb upd_same hm na
/-- an own list never changes any more -/
theorem En.frz {a : Addr} {ds : List PyData} (E : En K B H ((a, .lst ds) :: y)) : ∃ B', Ex B B' ∧ En K B' H y ∧ Dp K B' (.ref a) (.list ds) := by
  obtain ⟨hb, o, ho, xs, eo, hd⟩ := E.head
  subst eo
  have na := E.notIn
  refine ⟨upd B a (.lst xs), Evl.Ex.new hb, E.tail.grow (Evl.Ex.new hb) (fun b x h => ?_) fun b hb' => ?_, .lst (.inl (.inl upd_same)) (dpAll_mono (Evl.Ex.new hb) _ _ hd)⟩
  · by_cases e : b = a
    · subst e
      rw [upd_same] at h
      rw [ho, ← h]
    · rw [upd_ne e] at h
      exact E.bh b x h
  · have ne : b ≠ a := fun e => na (e ▸ hb')
    exact ⟨by rw [upd_ne ne]; exact (E.tail.at hb').1, fun _ h => h⟩
theorem split_at : ∀ {hs : List HC} {i : Nat} {x : HC}, hs[i]? = some x → ∃ l1 l2, hs = l1 ++ x :: l2 ∧ l1.length = i ∧ (∀ x', hs.set i x' = l1 ++ x' :: l2) ∧ hs.eraseIdx i = l1 ++ l2
  | [], _, _, h => by simp at h
  | y :: hs, 0, x, h => by
    cases h
    exact ⟨[], hs, rfl, rfl, fun _ => rfl, rfl⟩
  | y :: hs, i + 1, x, h => by
    obtain ⟨l1, l2, h1, h2, h3, h4⟩ := split_at (hs := hs) (i := i) (x := x) (by simpa using h)
    exact ⟨y :: l1, l2, by rw [h1]; rfl, by rw [List.length_cons, h2], fun x' => by rw [List.set_cons_succ, h3]; rfl, by rw [List.eraseIdx_cons_succ, h4]; rfl⟩
theorem En.take {hs fh : List HC} {i : Nat} {x : HC} (E : En K B H (hs ++ fh)) (h : hs[i]? = some x) : En K B H (x :: (hs.eraseIdx i ++ fh)) := by
  obtain ⟨l1, l2, h1, _, _, h4⟩ := split_at h
  rw [h4]
  rw [h1] at E
  refine E.perm ?_
  rw [List.append_assoc, List.append_assoc, List.cons_append]
  exact List.perm_middle.symm
theorem En.back {hs fh : List HC} {i : Nat} {x x' : HC} (h : hs[i]? = some x) (E : En K B H (x' :: (hs.eraseIdx i ++ fh))) : En K B H (hs.set i x' ++ fh) := by
  obtain ⟨l1, l2, h1, _, h3, h4⟩ := split_at h
  rw [h4] at E
  rw [h3]
  refine E.perm ?_
  rw [List.append_assoc, List.append_assoc, List.cons_append]
  exact List.perm_middle
theorem En.same {hs fh : List HC} {i : Nat} {x : HC} (h : hs[i]? = some x) (E : En K B H (x :: (hs.eraseIdx i ++ fh))) : En K B H (hs ++ fh) := by
  have := E.back h
  rwa [show hs.set i x = hs from by
    obtain ⟨hi, e⟩ := List.getElem?_eq_some_iff.mp h
    rw [← e, List.set_getElem_self]] at this
/-- the own object at a place -/
theorem En.own {hs fh : List HC} {i : Nat} {a : Addr} {mo : MO} (E : En K B H (hs ++ fh)) (h : hs[i]? = some (a, mo)) : B a = none ∧ ∃ o, H a = some o ∧ MOk K B mo o := (E.take h).head
theorem En.upd {hs fh : List HC} {i : Nat} {a : Addr} {mo mo' : MO} {h' : HO} (E : En K B H (hs ++ fh)) (h : hs[i]? = some (a, mo)) (hm : MOk K B mo' h') : En K B (upd H a h') (hs.set i (a, mo') ++ fh) := ((E.take h).chg hm).back h
end
/-! ### evaluation -/
abbrev KC := C → List HC → Prop
/-- an expression -/
def WE (K : PySem.W.Frag) (te : TE) (cs : List C) (hs : List HC) (k : KC) : Prop := ∀ (B H : Hp) (σ : L2.St) (fh : List HC), SlA K B σ cs → En K B H (hs ++ fh) → ∀ Q : VK,
  (∀ v c hs2 B2 H2, Ex B B2 → Sl K B2 (some v) c → En K B2 H2 (hs2 ++ fh) → k c hs2 → Q v H2) → te σ H Q
/-- a test -/
def WT (K : PySem.W.Frag) (tt : TT) (cs : List C) (hs : List HC) (k : Bool → List HC → Prop) : Prop := ∀ (B H : Hp) (σ : L2.St) (fh : List HC), SlA K B σ cs → En K B H (hs ++ fh) → ∀ Q : Bool → Hp → Prop,
  (∀ b hs2 B2 H2, Ex B B2 → En K B2 H2 (hs2 ++ fh) → k b hs2 → Q b H2) → tt σ H Q
/-- arguments -/
def WA (K : PySem.W.Frag) (ta : TA) (cs : List C) (hs : List HC) (k : List C → List HC → Prop) : Prop := ∀ (B H : Hp) (σ : L2.St) (fh : List HC), SlA K B σ cs → En K B H (hs ++ fh) → ∀ Q : List V → Hp → Prop,
  (∀ vs cl hs2 B2 H2, Ex B B2 → VsOk K B2 vs cl → En K B2 H2 (hs2 ++ fh) → k cl hs2 → Q vs H2) → ta σ H Q
/-- operations on values -/
def RD (K : PySem.W.Frag) (r : R2) (c1 c2 : C) (hs : List HC) (k : KC) : Prop := ∀ (B H : Hp) (fh : List HC) (v1 v2 : V), Sl K B (some v1) c1 → Sl K B (some v2) c2 → En K B H (hs ++ fh) → ∀ Q : VK,
  (∀ v c hs2 B2 H2, Ex B B2 → Sl K B2 (some v) c → En K B2 H2 (hs2 ++ fh) → k c hs2 → Q v H2) → r v1 v2 H Q
def RA (K : PySem.W.Frag) (r : List V → Hp → VK → Prop) (cl : List C) (hs : List HC) (k : KC) : Prop := ∀ (B H : Hp) (fh : List HC) (vs : List V), VsOk K B vs cl → En K B H (hs ++ fh) → ∀ Q : VK,
  (∀ v c hs2 B2 H2, Ex B B2 → Sl K B2 (some v) c → En K B2 H2 (hs2 ++ fh) → k c hs2 → Q v H2) → r vs H Q
/-! the words of continuations -/
def IsB (c : C) (k : Bool → Prop) : Prop := ∃ b, c = .d (.bool b) ∧ k b
def IsI (c : C) (k : Int → Prop) : Prop := ∃ i, c = .d (.int i) ∧ k i
def IsD (c : C) (k : PyData → Prop) : Prop := ∃ x, c = .d x ∧ k x
def BB (b : Bool) (p q : Prop) : Prop := (b = true → p) ∧ (b = false → q)
/-- the own object at an address, by its place -/
def At (hs : List HC) (a : Addr) (k : Nat → MO → Prop) : Prop := ∃ i mo, hs[i]? = some (a, mo) ∧ k i mo
def AtI (ds : List PyData) (n : Int) (k : PyData → Prop) : Prop := ∃ x, atI ds n = some x ∧ k x
def IxJ (ds : List PyData) (n : Int) (k : Nat → Prop) : Prop := ∃ j, ixN ds.length n = some j ∧ k j
def Less (n : Nat) (p : Prop) : Prop := n < 100000 ∧ p
def Two (cl : List C) (k : C → C → Prop) : Prop := ∃ c1 c2, cl = [c1, c2] ∧ k c1 c2
def Three (cl : List C) (k : C → C → C → Prop) : Prop := ∃ c1 c2 c3, cl = [c1, c2, c3] ∧ k c1 c2 c3
theorem isB {b : Bool} {k : Bool → Prop} (h : k b) : IsB (.d (.bool b)) k := ⟨b, rfl, h⟩
theorem isI {b : Int} {k : Int → Prop} (h : k b) : IsI (.d (.int b)) k := ⟨b, rfl, h⟩
theorem isD {b : PyData} {k : PyData → Prop} (h : k b) : IsD (.d b) k := ⟨b, rfl, h⟩
theorem bb {b : Bool} {p q : Prop} (h1 : b = true → p) (h2 : b = false → q) : BB b p q := ⟨h1, h2⟩
theorem bbT {p q : Prop} (h : p) : BB true p q := ⟨fun _ => h, fun e => by cases e⟩
theorem bbF {p q : Prop} (h : q) : BB false p q := ⟨(fun e => by cases e), fun _ => h⟩
theorem at0 {a : Addr} {mo : MO} {y : List HC} {k : Nat → MO → Prop} (h : k 0 mo) : At ((a, mo) :: y) a k := ⟨0, mo, rfl, h⟩
theorem at1 {a : Addr} {mo : MO} {x0 : HC} {y : List HC} {k : Nat → MO → Prop} (h : k 1 mo) : At (x0 :: (a, mo) :: y) a k := ⟨1, mo, rfl, h⟩
theorem at2 {a : Addr} {mo : MO} {x0 x1 : HC} {y : List HC} {k : Nat → MO → Prop} (h : k 2 mo) : At (x0 :: x1 :: (a, mo) :: y) a k := ⟨2, mo, rfl, h⟩
theorem at3 {a : Addr} {mo : MO} {x0 x1 x2 : HC} {y : List HC} {k : Nat → MO → Prop} (h : k 3 mo) : At (x0 :: x1 :: x2 :: (a, mo) :: y) a k := ⟨3, mo, rfl, h⟩
theorem at4 {a : Addr} {mo : MO} {x0 x1 x2 x3 : HC} {y : List HC} {k : Nat → MO → Prop} (h : k 4 mo) : At (x0 :: x1 :: x2 :: x3 :: (a, mo) :: y) a k := ⟨4, mo, rfl, h⟩
theorem at5 {a : Addr} {mo : MO} {x0 x1 x2 x3 x4 : HC} {y : List HC} {k : Nat → MO → Prop} (h : k 5 mo) : At (x0 :: x1 :: x2 :: x3 :: x4 :: (a, mo) :: y) a k := ⟨5, mo, rfl, h⟩
theorem at6 {a : Addr} {mo : MO} {x0 x1 x2 x3 x4 x5 : HC} {y : List HC} {k : Nat → MO → Prop} (h : k 6 mo) : At (x0 :: x1 :: x2 :: x3 :: x4 :: x5 :: (a, mo) :: y) a k := ⟨6, mo, rfl, h⟩
theorem at7 {a : Addr} {mo : MO} {x0 x1 x2 x3 x4 x5 x6 : HC} {y : List HC} {k : Nat → MO → Prop} (h : k 7 mo) : At (x0 :: x1 :: x2 :: x3 :: x4 :: x5 :: x6 :: (a, mo) :: y) a k := ⟨7, mo, rfl, h⟩
theorem atX {ds : List PyData} {n : Int} {x : PyData} {k : PyData → Prop} (e : atI ds n = some x) (h : k x) : AtI ds n k := ⟨x, e, h⟩
theorem ixJ {ds : List PyData} {n : Int} {j : Nat} {k : Nat → Prop} (e : ixN ds.length n = some j) (h : k j) : IxJ ds n k := ⟨j, e, h⟩
theorem less {n : Nat} {p : Prop} (e : n < 100000) (h : p) : Less n p := ⟨e, h⟩
theorem two {c1 c2 : C} {k : C → C → Prop} (h : k c1 c2) : Two [c1, c2] k := ⟨c1, c2, rfl, h⟩
theorem three {c1 c2 c3 : C} {k : C → C → C → Prop} (h : k c1 c2 c3) : Three [c1, c2, c3] k := ⟨c1, c2, c3, rfl, h⟩
/-- kinds of own objects -/
def IsL (mo : MO) (k : List PyData → Prop) : Prop := ∃ ds, mo = .lst ds ∧ k ds
def IsLc (mo : MO) (k : List C → Prop) : Prop := ∃ ds, mo = .lsc ds ∧ k ds
def IsDi (mo : MO) (k : List (Key × C) → Prop) : Prop := ∃ ds, mo = .dic ds ∧ k ds
def IsDt (mo : MO) (k : List (List Key × C) → Prop) : Prop := ∃ ds, mo = .dit ds ∧ k ds
def IsIn (mo : MO) (k : Addr → Addr → List (Str × C) → Prop) : Prop := ∃ Cl dx fs, mo = .ins Cl dx fs ∧ k Cl dx fs
theorem isL {ds : List PyData} {k : List PyData → Prop} (h : k ds) : IsL (.lst ds) k := ⟨ds, rfl, h⟩
theorem isLc {ds : List C} {k : List C → Prop} (h : k ds) : IsLc (.lsc ds) k := ⟨ds, rfl, h⟩
theorem isDi {ds : List (Key × C)} {k : List (Key × C) → Prop} (h : k ds) : IsDi (.dic ds) k := ⟨ds, rfl, h⟩
theorem isDt {ds : List (List Key × C)} {k : List (List Key × C) → Prop} (h : k ds) : IsDt (.dit ds) k := ⟨ds, rfl, h⟩
theorem isIn {Cl dx : Addr} {fs : List (Str × C)} {k : Addr → Addr → List (Str × C) → Prop} (h : k Cl dx fs) : IsIn (.ins Cl dx fs) k := ⟨Cl, dx, fs, rfl, h⟩
section
variable {K : PySem.W.Frag} {cs : List C} {hs : List HC} {k : KC} {ta tb te : TE} {t u : TT} {kt : Bool → List HC → Prop} {ka : List C → List HC → Prop} {tr : TA}
theorem WE.imp {k' : KC} (h : WE K te cs hs k) (i : ∀ c hs2, k c hs2 → k' c hs2) : WE K te cs hs k' := fun B H σ fh s E Q q => h B H σ fh s E Q fun v c hs2 B2 H2 h1 h2 h3 h4 => q v c hs2 B2 H2 h1 h2 h3 (i c hs2 h4)
theorem WT.imp {k' : Bool → List HC → Prop} (h : WT K t cs hs kt) (i : ∀ c hs2, kt c hs2 → k' c hs2) : WT K t cs hs k' := fun B H σ fh s E Q q => h B H σ fh s E Q fun b hs2 B2 H2 h1 h2 h4 => q b hs2 B2 H2 h1 h2 (i b hs2 h4)
theorem we_var {i : Nat} {c : C} (h : cs[i]? = some c) (hc : c ≠ .any) (hk : k c hs) : WE K (tVar i) cs hs k := by
  intro B H σ fh s E Q q
  obtain ⟨o, ho, hm⟩ := s.get h
  match c, hc, hm with
  | .d x, _, ⟨v, e1, e2⟩ =>
    subst e1
    exact ⟨v, ho, q v (.d x) hs B H ex_refl ⟨v, rfl, e2⟩ E hk⟩
  | .v x, _, e1 =>
    have e1' : o = some x := e1
    subst e1'
    exact ⟨x, ho, q x (.v x) hs B H ex_refl rfl E hk⟩
  | .k ks, _, ⟨p, e1, e2⟩ =>
    subst e1
    exact ⟨_, ho, q _ (.k ks) hs B H ex_refl ⟨p, rfl, e2⟩ E hk⟩
  | .z x, _, ⟨v, e1, e2⟩ =>
    subst e1
    exact ⟨v, ho, q v (.z x) hs B H ex_refl ⟨v, rfl, e2⟩ E hk⟩
theorem we_varD {i : Nat} {x : PyData} (h : cs[i]? = some (.d x)) (hk : k (.d x) hs) : WE K (tVar i) cs hs k := we_var h (by intro z; cases z) hk
theorem we_varV {i : Nat} {x : V} (h : cs[i]? = some (.v x)) (hk : k (.v x) hs) : WE K (tVar i) cs hs k := we_var h (by intro z; cases z) hk
theorem we_c {v : V} {x : PyData} (h : ∀ B, Dp K B v x) (hk : k (.d x) hs) : WE K (tC v) cs hs k := fun B H σ fh s E Q q => q v (.d x) hs B H ex_refl ⟨v, rfl, h B⟩ E hk
theorem we_int {i : Int} (hk : k (.d (.int i)) hs) : WE K (tC (.int i)) cs hs k := we_c (fun _ => .int i) hk
theorem we_str {i : Str} (hk : k (.d (.str i)) hs) : WE K (tC (.str i)) cs hs k := we_c (fun _ => .str i) hk
theorem we_bl {i : Bool} (hk : k (.d (.bool i)) hs) : WE K (tC (.bl i)) cs hs k := we_c (fun _ => .bl i) hk
theorem we_non (hk : k (.d .none) hs) : WE K (tC .non) cs hs k := we_c (fun _ => .non) hk
theorem we_op {r : R2} (h : WE K ta cs hs fun c1 h1 => WE K tb cs h1 fun c2 h2 => RD K r c1 c2 h2 k) : WE K (tOp r ta tb) cs hs k := by
  intro B H σ fh s E Q q
  refine h B H σ fh s E _ fun v1 c1 h1 B1 H1 x1 s1 E1 w1 => ?_
  refine w1 B1 H1 σ fh (s.mono x1) E1 _ fun v2 c2 h2 B2 H2 x2 s2 E2 w2 => ?_
  exact w2 B2 H2 fh v1 v2 (s1.mono x2) s2 E2 Q fun v c h3 B3 H3 x3 s3 E3 hk => q v c h3 B3 H3 (ex_trans x1 (ex_trans x2 x3)) s3 E3 hk
theorem we_un {r : V → Hp → VK → Prop} (h : WE K ta cs hs fun c1 h1 => RA K (fun vs H Q => ∃ v, vs = [v] ∧ r v H Q) [c1] h1 k) : WE K (tUn r ta) cs hs k := by
  intro B H σ fh s E Q q
  refine h B H σ fh s E _ fun v1 c1 h1 B1 H1 x1 s1 E1 w1 => ?_
  obtain ⟨v, e, hr⟩ := w1 B1 H1 fh [v1] ⟨s1, trivial⟩ E1 Q fun v c h3 B3 H3 x3 s3 E3 hk => q v c h3 B3 H3 (ex_trans x1 x3) s3 E3 hk
  cases e
  exact hr
theorem Sl.int {B : Hp} {o : Option V} {i : Int} (h : Sl K B o (.d (.int i))) : o = some (.int i) := by
  obtain ⟨v, e, d⟩ := h
  cases d
  exact e
theorem Sl.str {B : Hp} {o : Option V} {i : Str} (h : Sl K B o (.d (.str i))) : o = some (.str i) := by
  obtain ⟨v, e, d⟩ := h
  cases d
  exact e
theorem Sl.bl {B : Hp} {o : Option V} {i : Bool} (h : Sl K B o (.d (.bool i))) : o = some (.bl i) := by
  obtain ⟨v, e, d⟩ := h
  cases d
  exact e
theorem Sl.dp {B : Hp} {v : V} {x : PyData} (h : Sl K B (some v) (.d x)) : Dp K B v x := by
  obtain ⟨w, e, d⟩ := h
  cases e
  exact d
theorem rd_I {P : Int → Int → Prop} {g : Int → Int → V} {i j : Int} {x : PyData} (hc : P i j) (hg : ∀ B, Dp K B (g i j) x) (hk : k (.d x) hs) : RD K (rI P g) (.d (.int i)) (.d (.int j)) hs k := by
  intro B H fh v1 v2 s1 s2 E Q q
  cases s1.int
  cases s2.int
  exact ⟨i, j, rfl, rfl, hc, q _ (.d x) hs B H ex_refl ⟨_, rfl, hg B⟩ E hk⟩
theorem rd_I0 {g : Int → Int → V} {i j : Int} {x : PyData} (hg : ∀ B, Dp K B (g i j) x) (hk : k (.d x) hs) : RD K (rI0 g) (.d (.int i)) (.d (.int j)) hs k := by
  intro B H fh v1 v2 s1 s2 E Q q
  cases s1.int
  cases s2.int
  exact ⟨i, j, rfl, rfl, q _ (.d x) hs B H ex_refl ⟨_, rfl, hg B⟩ E hk⟩
/-! ### tests -/
theorem wt_test (h : WE K te cs hs fun c h2 => IsB c fun b => kt b h2) : WT K (tTest te) cs hs kt := by
  intro B H σ fh s E Q q
  refine h B H σ fh s E _ fun v c h2 B2 H2 x2 s2 E2 ⟨b, e, hk⟩ => ?_
  subst e
  cases s2.bl
  exact ⟨b, rfl, q b h2 B2 H2 x2 E2 hk⟩
theorem wt_B (h : WE K te cs hs fun c h2 => IsB c fun b => kt b h2) : WT K (tB te) cs hs kt := wt_test h
theorem wt_and (h : WT K t cs hs fun b h1 => BB b (WT K u cs h1 kt) (kt false h1)) : WT K (tAnd t u) cs hs kt := by
  intro B H σ fh s E Q q
  refine h B H σ fh s E _ fun b h2 B2 H2 x2 E2 hk => ?_
  cases b with
  | true => exact iteT (hk.1 rfl B2 H2 σ fh (s.mono x2) E2 Q fun b3 h3 B3 H3 x3 E3 k3 => q b3 h3 B3 H3 (ex_trans x2 x3) E3 k3)
  | false => exact iteF (q false h2 B2 H2 x2 E2 (hk.2 rfl))
theorem wt_or (h : WT K t cs hs fun b h1 => BB b (kt true h1) (WT K u cs h1 kt)) : WT K (tOr t u) cs hs kt := by
  intro B H σ fh s E Q q
  refine h B H σ fh s E _ fun b h2 B2 H2 x2 E2 hk => ?_
  cases b with
  | false => exact iteF (hk.2 rfl B2 H2 σ fh (s.mono x2) E2 Q fun b3 h3 B3 H3 x3 E3 k3 => q b3 h3 B3 H3 (ex_trans x2 x3) E3 k3)
  | true => exact iteT (q true h2 B2 H2 x2 E2 (hk.1 rfl))
theorem wt_not (h : WT K t cs hs fun b h1 => kt (!b) h1) : WT K (tNot t) cs hs kt := fun B H σ fh s E Q q => h B H σ fh s E _ fun b h2 B2 H2 x2 E2 hk => q _ h2 B2 H2 x2 E2 hk
theorem wt_yes (h : kt true hs) : WT K tYes cs hs kt := fun B H σ fh s E Q q => q true hs B H ex_refl E h
theorem we_if (h : WT K t cs hs fun b h1 => BB b (WE K ta cs h1 k) (WE K tb cs h1 k)) : WE K (tIf t ta tb) cs hs k := by
  intro B H σ fh s E Q q
  refine h B H σ fh s E _ fun b h2 B2 H2 x2 E2 hk => ?_
  cases b with
  | true => exact iteT (hk.1 rfl B2 H2 σ fh (s.mono x2) E2 Q fun v c h3 B3 H3 x3 s3 E3 k3 => q v c h3 B3 H3 (ex_trans x2 x3) s3 E3 k3)
  | false => exact iteF (hk.2 rfl B2 H2 σ fh (s.mono x2) E2 Q fun v c h3 B3 H3 x3 s3 E3 k3 => q v c h3 B3 H3 (ex_trans x2 x3) s3 E3 k3)
theorem we_andV (h : WE K ta cs hs fun c h1 => IsB c fun b => BB b (WE K tb cs h1 k) (k (.d (.bool false)) h1)) : WE K (tAndV ta tb) cs hs k := by
  intro B H σ fh s E Q q
  refine h B H σ fh s E _ fun v c h2 B2 H2 x2 s2 E2 ⟨b, e, p1, p2⟩ => ?_
  subst e
  cases s2.bl
  refine ⟨b, rfl, ?_⟩
  cases b with
  | true => exact iteT (p1 rfl B2 H2 σ fh (s.mono x2) E2 Q fun v c h3 B3 H3 x3 s3 E3 k3 => q v c h3 B3 H3 (ex_trans x2 x3) s3 E3 k3)
  | false => exact iteF (q _ _ h2 B2 H2 x2 s2 E2 (p2 rfl))
theorem we_orV (h : WE K ta cs hs fun c h1 => IsB c fun b => BB b (k (.d (.bool true)) h1) (WE K tb cs h1 k)) : WE K (tOrV ta tb) cs hs k := by
  intro B H σ fh s E Q q
  refine h B H σ fh s E _ fun v c h2 B2 H2 x2 s2 E2 ⟨b, e, p2, p1⟩ => ?_
  subst e
  cases s2.bl
  refine ⟨b, rfl, ?_⟩
  cases b with
  | false => exact iteF (p1 rfl B2 H2 σ fh (s.mono x2) E2 Q fun v c h3 B3 H3 x3 s3 E3 k3 => q v c h3 B3 H3 (ex_trans x2 x3) s3 E3 k3)
  | true => exact iteT (q _ _ h2 B2 H2 x2 s2 E2 (p2 rfl))
theorem we_notV (h : WE K te cs hs fun c h1 => IsB c fun b => k (.d (.bool (!b))) h1) : WE K (tNotV te) cs hs k := by
  intro B H σ fh s E Q q
  refine h B H σ fh s E _ fun v c h2 B2 H2 x2 s2 E2 ⟨b, e, p1⟩ => ?_
  subst e
  cases s2.bl
  exact ⟨b, rfl, q _ (.d (.bool !b)) h2 B2 H2 x2 ⟨_, rfl, .bl _⟩ E2 p1⟩
/-! ### arguments, displays -/
theorem wa_nil (h : ka [] hs) : WA K tNil cs hs ka := fun B H σ fh s E Q q => q [] [] hs B H ex_refl trivial E h
theorem wa_cons (h : WE K te cs hs fun c h1 => WA K tr cs h1 fun cl h2 => ka (c :: cl) h2) : WA K (tCons te tr) cs hs ka := by
  intro B H σ fh s E Q q
  refine h B H σ fh s E _ fun v c h1 B1 H1 x1 s1 E1 w1 => ?_
  exact w1 B1 H1 σ fh (s.mono x1) E1 _ fun vs cl h2 B2 H2 x2 s2 E2 w2 => q (v :: vs) (c :: cl) h2 B2 H2 (ex_trans x1 x2) ⟨s1.mono x2, s2⟩ E2 w2
def undata : List C → Option (List PyData)
  | [] => some []
  | .d x :: r => match undata r with
    | some es => some (x :: es)
    | none => none
  | _ => none
theorem undata_eq : ∀ {cl : List C} {ds : List PyData}, undata cl = some ds → cl = ds.map .d
  | [], ds, h => by cases h; rfl
  | .d x :: r, ds, h => by
    simp only [undata] at h
    match e : undata r with
    | some es =>
      rw [e] at h
      cases h
      rw [undata_eq e]
      rfl
    | none =>
      rw [e] at h
      cases h
  | .any :: _, _, h => by cases h
  | .v _ :: _, _, h => by cases h
  | .k _ :: _, _, h => by cases h
  | .z _ :: _, _, h => by cases h
def Und (cl : List C) (k : List PyData → Prop) : Prop := ∃ ds, undata cl = some ds ∧ Nat.ble ds.length 100000 = true ∧ k ds
theorem und {cl : List C} {ds : List PyData} {k : List PyData → Prop} (e : undata cl = some ds) (hz : Nat.ble ds.length 100000 = true) (h : k ds) : Und cl k := ⟨ds, e, hz, h⟩
theorem we_tup (h : WA K tr cs hs fun cl h2 => Und cl fun ds => k (.d (.tuple ds)) h2) : WE K (tTup tr) cs hs k := by
  intro B H σ fh s E Q q
  refine h B H σ fh s E _ fun vs cl h2 B2 H2 x2 s2 E2 ⟨ds, e, hz, hk⟩ => ?_
  replace hz := Nat.le_of_ble_eq_true hz
  obtain rfl := undata_eq e
  have hd := s2.dp
  refine ⟨Evl.sz_of (by rw [hd.len]; omega), fun p hp => ?_⟩
  exact q (.ref p) (.d (.tuple ds)) h2 _ _ (ex_trans x2 (Evl.Ex.new (free_of E2.bh hp))) ⟨_, rfl, .tup (.inl (.inl upd_same)) (dpAll_mono (Evl.Ex.new (free_of E2.bh hp)) _ _ hd)⟩ (E2.newF hp) hk
/-- a tuple of ints and texts that is to be a key -/
def unkeys : List C → Option (List Key)
  | [] => some []
  | .d (.int i) :: r => match unkeys r with
    | some es => some (.inl i :: es)
    | none => none
  | .d (.str i) :: r => match unkeys r with
    | some es => some (.inr i :: es)
    | none => none
  | _ => none
theorem vs_keys {B : Hp} : ∀ {cl : List C} {ks : List Key} {vs : List V}, unkeys cl = some ks → VsOk K B vs cl → vs = ks.map kV
  | [], ks, [], h, _ => by cases h; rfl
  | .d (.int i) :: r, ks, v :: vs, h, ⟨s, t⟩ => by
    simp only [unkeys] at h
    match e : unkeys r with
    | some es =>
      rw [e] at h
      cases h
      rw [vs_keys e t]
      cases s.int
      rfl
    | none =>
      rw [e] at h
      cases h
  | .d (.str i) :: r, ks, v :: vs, h, ⟨s, t⟩ => by
    simp only [unkeys] at h
    match e : unkeys r with
    | some es =>
      rw [e] at h
      cases h
      rw [vs_keys e t]
      cases s.str
      rfl
    | none =>
      rw [e] at h
      cases h
  | [], _, _ :: _, _, h => h.elim
  | _ :: _, _, [], _, h => h.elim
  | .d .none :: _, _, _ :: _, h, _ => by cases h
  | .d (.bool _) :: _, _, _ :: _, h, _ => by cases h
  | .d (.list _) :: _, _, _ :: _, h, _ => by cases h
  | .d (.tuple _) :: _, _, _ :: _, h, _ => by cases h
  | .d (.dict _) :: _, _, _ :: _, h, _ => by cases h
  | .any :: _, _, _ :: _, h, _ => by cases h
  | .v _ :: _, _, _ :: _, h, _ => by cases h
  | .k _ :: _, _, _ :: _, h, _ => by cases h
  | .z _ :: _, _, _ :: _, h, _ => by cases h
theorem we_tupK (h : WA K tr cs hs fun cl h2 => ∃ ks, unkeys cl = some ks ∧ Nat.ble ks.length 100000 = true ∧ k (.k ks) h2) : WE K (tTup tr) cs hs k := by
  intro B H σ fh s E Q q
  refine h B H σ fh s E _ fun vs cl h2 B2 H2 x2 s2 E2 ⟨ks, e, hz, hk⟩ => ?_
  replace hz := Nat.le_of_ble_eq_true hz
  obtain rfl := vs_keys e s2
  refine ⟨Evl.sz_of (by rw [List.length_map]; omega), fun p hp => ?_⟩
  exact q (.ref p) (.k ks) h2 _ _ (ex_trans x2 (Evl.Ex.new (free_of E2.bh hp))) ⟨p, rfl, upd_same⟩ (E2.newF hp) hk
/-- a list of one's own: the new one stands first -/
theorem we_lstM (h : WA K tr cs hs fun cl h2 => Und cl fun ds => ∀ a, k (.r a) ((a, .lst ds) :: h2)) : WE K (tLst tr) cs hs k := by
  intro B H σ fh s E Q q
  refine h B H σ fh s E _ fun vs cl h2 B2 H2 x2 s2 E2 ⟨ds, e, hz, hk⟩ => ?_
  replace hz := Nat.le_of_ble_eq_true hz
  obtain rfl := undata_eq e
  have hd := s2.dp
  refine ⟨Evl.sz_of (by rw [hd.len]; omega), fun p hp => ?_⟩
  exact q (.ref p) (.r p) ((p, .lst ds) :: h2) _ _ x2 rfl (E2.newM hp ⟨_, rfl, hd⟩) (hk p)
/-- a list of one's own that holds anything -/
theorem we_lstC (h : WA K tr cs hs fun cl h2 => Nat.ble cl.length 100000 = true ∧ ∀ a, k (.r a) ((a, .lsc cl) :: h2)) : WE K (tLst tr) cs hs k := by
  intro B H σ fh s E Q q
  refine h B H σ fh s E _ fun vs cl h2 B2 H2 x2 s2 E2 ⟨hz, hk⟩ => ?_
  replace hz := Nat.le_of_ble_eq_true hz
  have hd := s2.len
  refine ⟨Evl.sz_of (by omega), fun p hp => ?_⟩
  exact q (.ref p) (.r p) ((p, .lsc cl) :: h2) _ _ x2 rfl (E2.newM hp ⟨_, rfl, s2⟩) (hk p)
/-- frozen: it is never changed again -/
theorem we_frz (h : WE K te cs hs fun c h2 => ∃ a i ds, c = .r a ∧ h2[i]? = some (a, .lst ds) ∧ k (.d (.list ds)) (h2.eraseIdx i)) : WE K te cs hs k := by
  intro B H σ fh s E Q q
  refine h B H σ fh s E _ fun v c h2 B2 H2 x2 s2 E2 ⟨a, i, ds, e, hi, hk⟩ => ?_
  subst e
  have ev : some v = some (V.ref a) := s2
  cases ev
  obtain ⟨B3, x3, E3, d3⟩ := (E2.take hi).frz
  exact q _ (.d (.list ds)) _ B3 H2 (ex_trans x2 x3) ⟨_, rfl, d3⟩ E3 hk
/-- a list that is never changed -/
theorem we_lstD (h : WA K tr cs hs fun cl h2 => Und cl fun ds => k (.d (.list ds)) h2) : WE K (tLst tr) cs hs k :=
  we_frz (we_lstM fun B H σ fh s E Q q => h B H σ fh s E Q fun vs cl h2 B2 H2 x2 s2 E2 ⟨ds, e, hz, hk⟩ => q vs cl h2 B2 H2 x2 s2 E2 ⟨ds, e, hz, fun a => ⟨a, 0, ds, rfl, rfl, hk⟩⟩)
end
end Cw
/-! Part 3: statements, targets, what is walked, loops, comprehensions, bodies of defs, calls. -/
namespace Cw
open PySem PySem.Spec PyProof.Rows L2 Gu
/-- from here on: B0 is what stands for sure -/
def Nt (K : PySem.W.Frag) (B0 : Hp) (fh : List HC) (nx : L2.St → Hp → Prop) (cs : List C) (hs : List HC) : Prop := ∀ (B H : Hp) (σ : L2.St), Ex B0 B → SlA K B σ cs → En K B H (hs ++ fh) → nx σ H
def Nx (K : PySem.W.Frag) (B0 : Hp) (fh : List HC) (I : List C → List HC → Prop) : L2.St → Hp → Prop := fun σ H => ∃ cs hs B, Ex B0 B ∧ SlA K B σ cs ∧ En K B H (hs ++ fh) ∧ I cs hs
/-- what a return does -/
structure Fc (K : PySem.W.Frag) (B0 : Hp) (fh : List HC) (k : KC) (rt : VK) : Prop where
  ret : ∀ (v : V) (c : C) (hs : List HC) (B H : Hp), Ex B0 B → Sl K B (some v) c → En K B H (hs ++ fh) → k c hs → rt v H
section
variable {K : PySem.W.Frag} {B0 : Hp} {cs : List C} {hs fh : List HC} {k : KC} {ta tb te tl : TE} {tr : TA} {D : Ends} {tu tw : TS} {t : TT} {nx : L2.St → Hp → Prop}
theorem Fc.mono {B1 : Hp} {rt : VK} (R : Fc K B0 fh k rt) (e : Ex B0 B1) : Fc K B1 fh k rt := ⟨fun v c hs B H x => R.ret v c hs B H (ex_trans e x)⟩
theorem Nt.mono {B1 : Hp} (h : Nt K B0 fh nx cs hs) (e : Ex B0 B1) : Nt K B1 fh nx cs hs := fun B H σ x => h B H σ (ex_trans e x)
theorem nt_nx {I : List C → List HC → Prop} (h : I cs hs) : Nt K B0 fh (Nx K B0 fh I) cs hs := fun B H σ x s E => ⟨cs, hs, B, x, s, E, h⟩
theorem nt_is (cs' : List C) (hs' : List HC) (e : cs = cs') (e' : hs = hs') (h : Nt K B0 fh nx cs' hs') : Nt K B0 fh nx cs hs := by subst e; subst e'; exact h
theorem nt_perm (hs' : List HC) (e : hs'.Perm hs) (h : Nt K B0 fh nx cs hs') : Nt K B0 fh nx cs hs := fun B H σ x s E => h B H σ x s (E.perm (e.append_right fh))
theorem nt_drop1 (i : Nat) (h : Nt K B0 fh nx cs (hs.eraseIdx i)) : Nt K B0 fh nx cs hs := fun B H σ x s E => h B H σ x s (E.sub ((List.eraseIdx_sublist hs i).append (List.Sublist.refl fh)))
theorem nt_drop0 {x : HC} {y : List HC} (h : Nt K B0 fh nx cs y) : Nt K B0 fh nx cs (x :: y) := nt_drop1 0 h
theorem nt_dropX {x z : HC} {y : List HC} (h : Nt K B0 fh nx cs (z :: y)) : Nt K B0 fh nx cs (z :: x :: y) := nt_drop1 1 h
theorem nt_dropXX {x z z' : HC} {y : List HC} (h : Nt K B0 fh nx cs (z :: z' :: y)) : Nt K B0 fh nx cs (z :: z' :: x :: y) := nt_drop1 2 h
theorem WE.imp' {k' : KC} (h : WE K te cs hs k') (i : ∀ c h2, k' c h2 → ∃ h3 h4, h3.Sublist h4 ∧ h4.Perm h2 ∧ k c h3) : WE K te cs hs k := fun B H σ fh s E Q q => h B H σ fh s E Q fun v c h2 B2 H2 x2 s2 E2 hk => by
  obtain ⟨h3, h4, e1, e2, hk2⟩ := i c h2 hk
  exact q v c h3 B2 H2 x2 s2 ((E2.perm (e2.append_right fh)).sub (e1.append (List.Sublist.refl fh))) hk2
theorem we_forgetAll (h : WE K te cs hs fun c _ => k c []) : WE K te cs hs k := h.imp' fun c h2 hk => ⟨[], h2, List.nil_sublist _, List.Perm.refl _, hk⟩
theorem nt_perm' (hs' h4 : List HC) (e1 : hs'.Sublist h4) (e2 : h4.Perm hs) (h : Nt K B0 fh nx cs hs') : Nt K B0 fh nx cs hs := fun B H σ x s E => h B H σ x s ((E.perm (e2.append_right fh)).sub (e1.append (List.Sublist.refl fh)))
/-- an own object is not needed any more -/
theorem we_forget (i : Nat) (h : WE K te cs hs fun c h2 => k c (h2.eraseIdx i)) : WE K te cs hs k := fun B H σ fh s E Q q => h B H σ fh s E Q fun v c h2 B2 H2 x2 s2 E2 hk => q v c (h2.eraseIdx i) B2 H2 x2 s2 (E2.sub ((List.eraseIdx_sublist h2 i).append (List.Sublist.refl fh))) hk
theorem we_forget0 (h : WE K te cs hs fun c h2 => ∃ x y, h2 = x :: y ∧ k c y) : WE K te cs hs k := we_forget 0 (h.imp fun c h2 ⟨x, y, e, hk⟩ => by subst e; exact hk)
theorem we_frz0 (h : WE K te cs hs fun c h2 => ∃ a ds y, c = .r a ∧ h2 = (a, .lst ds) :: y ∧ k (.d (.list ds)) y) : WE K te cs hs k := we_frz (h.imp fun c h2 ⟨a, ds, y, e1, e2, hk⟩ => by subst e2; exact ⟨a, 0, ds, e1, rfl, hk⟩)
/-- a list of one's own is never changed any more: all that point there know it -/
theorem nt_frz {a : Addr} {ds : List PyData} (i j : Nat) (hi : cs[i]? = some (.r a)) (hj : hs[j]? = some (a, .lst ds)) (h : Nt K B0 fh nx (cs.set i (.d (.list ds))) (hs.eraseIdx j)) : Nt K B0 fh nx cs hs := by
  intro B H σ x s E
  obtain ⟨o, ho, hm⟩ := s.get hi
  have eo : o = some (V.ref a) := hm
  subst eo
  obtain ⟨B3, x3, E3, d3⟩ := (E.take hj).frz
  have s2 := (s.mono x3).set (i := i) (o := some (V.ref a)) (c := .d (.list ds)) ⟨_, rfl, d3⟩
  rw [show σ.set i (some (V.ref a)) = σ from by
    obtain ⟨hl, e⟩ := List.getElem?_eq_some_iff.mp ho
    rw [← e, List.set_getElem_self]] at s2
  exact h B3 H σ (ex_trans x x3) s2 E3
theorem nt_mk {n b c : L2.St → Hp → Prop} {r : VK} (h : Nt K B0 fh n cs hs) : Nt K B0 fh ({ nx := n, rt := r, bk := b, ct := c : Ends }).nx cs hs := h
theorem nt_mkb {n b c : L2.St → Hp → Prop} {r : VK} (h : Nt K B0 fh b cs hs) : Nt K B0 fh ({ nx := n, rt := r, bk := b, ct := c : Ends }).bk cs hs := h
theorem nt_mkc {n b c : L2.St → Hp → Prop} {r : VK} (h : Nt K B0 fh c cs hs) : Nt K B0 fh ({ nx := n, rt := r, bk := b, ct := c : Ends }).ct cs hs := h
theorem nt_seq (h : Nt K B0 fh (tu { D with nx := tw D }) cs hs) : Nt K B0 fh (tSeq tu tw D) cs hs := h
theorem nt_next (h : Nt K B0 fh D.nx cs hs) : Nt K B0 fh (tNext D) cs hs := h
theorem nt_break (h : Nt K B0 fh D.bk cs hs) : Nt K B0 fh (tBreak D) cs hs := h
theorem nt_cont (h : Nt K B0 fh D.ct cs hs) : Nt K B0 fh (tCont D) cs hs := h
theorem nt_drop (h : WE K te cs hs fun _ h2 => Nt K B0 fh D.nx cs h2) : Nt K B0 fh (tDrop te D) cs hs := fun B H σ x s E => h B H σ fh s E _ fun v c h2 B2 H2 x2 s2 E2 hk => hk B2 H2 σ (ex_trans x x2) (s.mono x2) E2
theorem nt_ret {rt : VK} (R : Fc K B0 fh k rt) (h : WE K te cs hs k) (er : D.rt = rt := by rfl) : Nt K B0 fh (tRet te D) cs hs := by
  subst er
  exact fun B H σ x s E => h B H σ fh s E _ fun v c h2 B2 H2 x2 s2 E2 hk => R.ret v c h2 B2 H2 (ex_trans x x2) s2 E2 hk
theorem nt_retN {rt : VK} (R : Fc K B0 fh k rt) (h : k (.d .none) hs) (er : D.rt = rt := by rfl) : Nt K B0 fh (tRetN D) cs hs := by
  subst er
  exact fun B H σ x s E => R.ret .non (.d .none) hs B H x ⟨_, rfl, .non⟩ E h
theorem nt_end {Q : VK} (R : Fc K B0 fh k Q) (h : k (.d .none) hs) : Nt K B0 fh (fun _ H' => Q .non H') cs hs := fun B H σ x s E => R.ret .non (.d .none) hs B H x ⟨_, rfl, .non⟩ E h
theorem nt_if (h : WT K t cs hs fun b h2 => BB b (Nt K B0 fh (tu D) cs h2) (Nt K B0 fh (tw D) cs h2)) : Nt K B0 fh (tIfS t tu tw D) cs hs := by
  intro B H σ x s E
  refine h B H σ fh s E _ fun b h2 B2 H2 x2 E2 hk => ?_
  cases b with
  | true => exact iteT (hk.1 rfl B2 H2 σ (ex_trans x x2) (s.mono x2) E2)
  | false => exact iteF (hk.2 rfl B2 H2 σ (ex_trans x x2) (s.mono x2) E2)
/-! targets -/
def WG (K : PySem.W.Frag) (g : TG) (cs : List C) (c : C) (kk : List C → Prop) : Prop := ∀ (B H : Hp) (σ : L2.St) (v : V), Ex B H → SlA K B σ cs → Sl K B (some v) c → ∀ Q : L2.St → Hp → Prop, (∀ σ2 cs2, SlA K B σ2 cs2 → kk cs2 → Q σ2 H) → g v σ H Q
def WGs (K : PySem.W.Frag) (g : TGs) (cs : List C) (cl : List C) (kk : List C → Prop) : Prop := ∀ (B H : Hp) (σ : L2.St) (vs : List V), Ex B H → SlA K B σ cs → VsOk K B vs cl → ∀ Q : L2.St → Hp → Prop, (∀ σ2 cs2, SlA K B σ2 cs2 → kk cs2 → Q σ2 H) → g vs σ H Q
variable {kk : List C → Prop} {g : TG} {gs : TGs}
theorem wg_name {j : Nat} {c : C} (h : kk (cs.set j c)) : WG K (gName j) cs c kk := fun B H σ v bh s sv Q q => q _ _ (s.set sv) h
theorem wgs_nil (h : kk cs) : WGs K gNil cs [] kk := fun B H σ vs bh s sv Q q => by
  match vs, sv with
  | [], _ => exact ⟨rfl, q σ cs s h⟩
theorem wgs_cons {c : C} {cl : List C} (h : WG K g cs c fun cs1 => WGs K gs cs1 cl kk) : WGs K (gCons g gs) cs (c :: cl) kk := fun B H σ vs bh s sv Q q => by
  match vs, sv with
  | v :: vs, ⟨sv, svs⟩ => exact ⟨v, vs, rfl, h B H σ v bh s sv _ fun σ2 cs2 s2 hk => hk B H σ2 vs bh s2 svs Q q⟩
theorem wg_tup {n : Nat} {ds : List PyData} (hn : ds.length = n) (h : WGs K gs cs (ds.map .d) kk) : WG K (gTup K n gs) cs (.d (.tuple ds)) kk := fun B H σ v bh s sv Q q => by
  have hd := sv.dp
  cases hd with
  | tup hs ha => exact ⟨_, _, rfl, Evl.ex_t bh hs, by rw [ha.len]; exact hn, h B H σ _ bh s (VsOk.ofDp ha) Q q⟩
theorem wg_tup2 {g1 g2 : TG} {n : Nat} {d1 d2 : PyData} (hn : 2 = n) (h : WG K g1 cs (.d d1) fun cs1 => WG K g2 cs1 (.d d2) kk) : WG K (gTup K n (gCons g1 (gCons g2 gNil))) cs (.d (.tuple [d1, d2])) kk :=
  wg_tup (ds := [d1, d2]) hn (wgs_cons fun B H σ v bh s sv Q q => h B H σ v bh s sv Q fun σ2 cs2 s2 hk => q σ2 cs2 s2 (wgs_cons fun B H σ v bh s sv Q q => hk B H σ v bh s sv Q fun σ2 cs2 s2 hk => q σ2 cs2 s2 (wgs_nil hk)))
theorem wg_tup3 {g1 g2 g3 : TG} {n : Nat} {d1 d2 d3 : PyData} (hn : 3 = n) (h : WG K g1 cs (.d d1) fun cs1 => WG K g2 cs1 (.d d2) fun cs2 => WG K g3 cs2 (.d d3) kk) : WG K (gTup K n (gCons g1 (gCons g2 (gCons g3 gNil)))) cs (.d (.tuple [d1, d2, d3])) kk :=
  wg_tup (ds := [d1, d2, d3]) hn (wgs_cons fun B H σ v bh s sv Q q => h B H σ v bh s sv Q fun σ2 cs2 s2 hk => q σ2 cs2 s2 (wgs_cons fun B H σ v bh s sv Q q => hk B H σ v bh s sv Q fun σ2 cs2 s2 hk => q σ2 cs2 s2 (wgs_cons fun B H σ v bh s sv Q q => hk B H σ v bh s sv Q fun σ2 cs2 s2 hk => q σ2 cs2 s2 (wgs_nil hk))))
theorem wg_tup4 {g1 g2 g3 g4 : TG} {n : Nat} {d1 d2 d3 d4 : PyData} (hn : 4 = n) (h : WG K g1 cs (.d d1) fun cs1 => WG K g2 cs1 (.d d2) fun cs2 => WG K g3 cs2 (.d d3) fun cs3 => WG K g4 cs3 (.d d4) kk) : WG K (gTup K n (gCons g1 (gCons g2 (gCons g3 (gCons g4 gNil))))) cs (.d (.tuple [d1, d2, d3, d4])) kk :=
  wg_tup (ds := [d1, d2, d3, d4]) hn (wgs_cons fun B H σ v bh s sv Q q => h B H σ v bh s sv Q fun σ2 cs2 s2 hk => q σ2 cs2 s2 (wgs_cons fun B H σ v bh s sv Q q => hk B H σ v bh s sv Q fun σ2 cs2 s2 hk => q σ2 cs2 s2 (wgs_cons fun B H σ v bh s sv Q q => hk B H σ v bh s sv Q fun σ2 cs2 s2 hk => q σ2 cs2 s2 (wgs_cons fun B H σ v bh s sv Q q => hk B H σ v bh s sv Q fun σ2 cs2 s2 hk => q σ2 cs2 s2 (wgs_nil hk)))))
theorem nt_asg (h : WE K te cs hs fun c h1 => WG K g cs c fun cs2 => Nt K B0 fh D.nx cs2 h1) : Nt K B0 fh (tAsg te g D) cs hs := fun B H σ x s E =>
  h B H σ fh s E _ fun v c h1 B1 H1 x1 s1 E1 hg => hg B1 H1 σ v E1.bh (s.mono x1) s1 _ fun σ2 cs2 s2 hk => hk B1 H1 σ2 (ex_trans x x1) s2 E1
theorem nt_set {i : Nat} (h : WE K te cs hs fun c h1 => Nt K B0 fh D.nx (cs.set i c) h1) : Nt K B0 fh (tAsg te (gName i) D) cs hs := nt_asg (h.imp fun c h1 hk => wg_name hk)
theorem nt_par {i j : Nat} (h : WA K tr cs hs fun cl h1 => Two cl fun c1 c2 => Nt K B0 fh D.nx ((cs.set i c1).set j c2) h1) : Nt K B0 fh (tPar i j tr D) cs hs := by
  intro B H σ x s E
  refine h B H σ fh s E _ fun vs cl h1 B1 H1 x1 sv E1 ⟨c1, c2, e, hk⟩ => ?_
  subst e
  match vs, sv with
  | [v, w], ⟨s1, s2, _⟩ => exact ⟨v, w, rfl, hk B1 H1 _ (ex_trans x x1) (((s.mono x1).set s1).set s2) E1⟩
theorem nt_par3 {i j l : Nat} (h : WA K tr cs hs fun cl h1 => Three cl fun c1 c2 c3 => Nt K B0 fh D.nx (((cs.set i c1).set j c2).set l c3) h1) : Nt K B0 fh (tPar3 i j l tr D) cs hs := by
  intro B H σ x s E
  refine h B H σ fh s E _ fun vs cl h1 B1 H1 x1 sv E1 ⟨c1, c2, c3, e, hk⟩ => ?_
  subst e
  match vs, sv with
  | [v, w, z], ⟨s1, s2, s3, _⟩ => exact ⟨v, w, z, rfl, hk B1 H1 _ (ex_trans x x1) ((((s.mono x1).set s1).set s2).set s3) E1⟩
theorem nt_aug {i : Nat} {f : Int → Int → Int} {a : Int} (h0 : cs[i]? = some (.d (.int a))) (h : WE K te cs hs fun c h2 => IsI c fun b => Nt K B0 fh D.nx (cs.set i (.d (.int (f a b)))) h2) : Nt K B0 fh (tAug i te (ipI f) D) cs hs := by
  intro B H σ x s E
  obtain ⟨o, ho, hm⟩ := s.get h0
  cases hm.int
  refine ⟨.int a, ho, h B H σ fh s E _ fun v c h2 B2 H2 x2 s2 E2 ⟨b, e, hk⟩ => ?_⟩
  subst e
  cases s2.int
  exact ⟨a, b, rfl, rfl, hk B2 H2 _ (ex_trans x x2) ((s.mono x2).set (show Sl K B2 (some (V.int (f a b))) (.d (.int (f a b))) from ⟨_, rfl, .int _⟩)) E2⟩
/-! ### what is walked -/
/-- the items its come one by one, while what stands in B stands -/
def Src (K : PySem.W.Frag) (J : It) (its : List C) (B1 : Hp) : Prop := ∀ B H, Ex B1 B → Ex B H → (∀ i, i < its.length → J.go i H) ∧ J.stop its.length H ∧
  ∀ i x H', i < its.length → J.yld i H x H' → ∃ B' c, Ex B B' ∧ its[i]? = some c ∧ Sl K B' (some x) c ∧ ∀ y, En K B H y → En K B' H' y
def WI (K : PySem.W.Frag) (wi : TI) (cs : List C) (hs : List HC) (k : List C → List HC → Prop) : Prop := ∀ (B H : Hp) (σ : L2.St) (fh : List HC), SlA K B σ cs → En K B H (hs ++ fh) → ∀ R : It → Hp → Prop,
  (∀ J its hs2 B2 H2, Ex B B2 → En K B2 H2 (hs2 ++ fh) → Src K J its B2 → k its hs2 → R J H2) → wi σ H R
theorem dpAll_at {B : Hp} : ∀ {vs : List V} {ds : List PyData} {j : Nat} {x : PyData}, DpAll K B vs ds → ds[j]? = some x → ∃ v, vs[j]? = some v ∧ Dp K B v x
  | _, _, _, _, .nil, h => by simp at h
  | _, _, 0, _, .cons h1 _, h => by cases h; exact ⟨_, rfl, h1⟩
  | _, _, j + 1, _, .cons _ h2, h => dpAll_at (j := j) h2 (by simpa using h)
theorem dpAll_snoc {B : Hp} {v : V} {d : PyData} (hd : Dp K B v d) : ∀ {vs : List V} {ds : List PyData}, DpAll K B vs ds → DpAll K B (vs ++ [v]) (ds ++ [d])
  | _, _, .nil => .cons hd .nil
  | _, _, .cons h1 h2 => .cons h1 (dpAll_snoc hd h2)
theorem src_list {B1 : Hp} {a : Addr} {xs : List V} {ds : List PyData} (hq : SqL K B1 a xs) (ha : DpAll K B1 xs ds) : Src K (Itl K a) (ds.map .d) B1 := by
  intro B H e1 e2
  have hq2 : SqL K H a xs := Evl.ex_l (ex_trans e1 e2) hq
  have hl := ha.len
  refine ⟨fun i hi => ?_, ⟨xs, hq2, by rw [List.length_map]; omega⟩, ?_⟩
  · rw [List.length_map] at hi
    exact ⟨xs, xs[i]'(by omega), hq2, List.getElem?_eq_getElem (by omega)⟩
  · rintro i x H' hi ⟨rfl, hx⟩
    rw [List.length_map] at hi
    obtain ⟨v, hv, hd⟩ := dpAll_at (j := i) ha (List.getElem?_eq_getElem hi)
    have := hx xs hq2
    rw [hv] at this
    cases this
    exact ⟨B, .d ds[i], ex_refl, by rw [List.getElem?_map, List.getElem?_eq_getElem hi]; rfl, ⟨_, rfl, dp_mono e1 _ _ hd⟩, fun y E => E⟩
theorem src_tup {B1 : Hp} {a : Addr} {xs : List V} {ds : List PyData} (hq : SqT K B1 a xs) (ha : DpAll K B1 xs ds) : Src K (Itt K a) (ds.map .d) B1 := by
  intro B H e1 e2
  have hq2 : SqT K H a xs := Evl.ex_t (ex_trans e1 e2) hq
  have hl := ha.len
  refine ⟨fun i hi => ?_, ⟨xs, hq2, by rw [List.length_map]; omega⟩, ?_⟩
  · rw [List.length_map] at hi
    exact ⟨xs, xs[i]'(by omega), hq2, List.getElem?_eq_getElem (by omega)⟩
  · rintro i x H' hi ⟨rfl, hx⟩
    rw [List.length_map] at hi
    obtain ⟨v, hv, hd⟩ := dpAll_at (j := i) ha (List.getElem?_eq_getElem hi)
    have := hx xs hq2
    rw [hv] at this
    cases this
    exact ⟨B, .d ds[i], ex_refl, by rw [List.getElem?_map, List.getElem?_eq_getElem hi]; rfl, ⟨_, rfl, dp_mono e1 _ _ hd⟩, fun y E => E⟩
theorem src_rng {B1 : Hp} {lo : Int} {n : Nat} : Src K (Itr lo n) ((List.range n).map fun i : Nat => C.d (.int (lo + (i : Int)))) B1 := by
  intro B H e1 e2
  refine ⟨fun i hi => ?_, ?_, ?_⟩
  · show i < n
    simpa using hi
  · simp [Itr]
  · rintro i x H' hi ⟨rfl, rfl⟩
    rw [List.length_map, List.length_range] at hi
    exact ⟨B, .d (.int (lo + (i : Int))), ex_refl, by rw [List.getElem?_map, List.getElem?_range hi]; rfl, ⟨_, rfl, .int _⟩, fun y E => E⟩
variable {ki : List C → List HC → Prop}
theorem wi_L (h : WE K tl cs hs fun c h1 => ∃ ds, c = .d (.list ds) ∧ ki (ds.map .d) h1) : WI K (iList K tl) cs hs ki := by
  intro B H σ fh s E R r
  refine h B H σ fh s E _ fun v c h1 B1 H1 x1 s1 E1 ⟨ds, e, hk⟩ => ?_
  subst e
  have hd := s1.dp
  cases hd with
  | @lst a xs _ hq ha => exact ⟨a, rfl, ⟨xs, Evl.ex_l E1.bh hq⟩, r _ _ h1 B1 H1 x1 E1 (src_list hq ha) hk⟩
theorem wi_T (h : WE K tl cs hs fun c h1 => ∃ ds, c = .d (.tuple ds) ∧ ki (ds.map .d) h1) : WI K (iTup K tl) cs hs ki := by
  intro B H σ fh s E R r
  refine h B H σ fh s E _ fun v c h1 B1 H1 x1 s1 E1 ⟨ds, e, hk⟩ => ?_
  subst e
  have hd := s1.dp
  cases hd with
  | @tup a xs _ hq ha => exact ⟨a, rfl, ⟨xs, Evl.ex_t E1.bh hq⟩, r _ _ h1 B1 H1 x1 E1 (src_tup hq ha) hk⟩
theorem wi_R1 (h : WA K tr cs hs fun cl h1 => ∃ n : Nat, cl = [.d (.int n)] ∧ n ≤ 1000000000 ∧ ki ((List.range n).map fun i : Nat => C.d (.int (i : Int))) h1) : WI K (iRng1 tr) cs hs ki := by
  intro B H σ fh s E R r
  refine h B H σ fh s E _ fun vs cl h1 B1 H1 x1 s1 E1 ⟨n, e, hn, hk⟩ => ?_
  subst e
  match vs, s1 with
  | [v], ⟨s1, _⟩ =>
    cases s1.int
    refine ⟨n, rfl, by omega, by omega, ?_⟩
    rw [Int.toNat_natCast]
    refine r _ _ h1 B1 H1 x1 E1 (src_rng (lo := 0) (n := n)) ?_
    have : ((List.range n).map fun i : Nat => C.d (.int (0 + (i : Int)))) = (List.range n).map fun i : Nat => C.d (.int (i : Int)) := by
      congr 1
      funext i
      rw [Int.zero_add]
    rw [this]
    exact hk
theorem wi_R2 (h : WA K tr cs hs fun cl h1 => ∃ lo hi : Int, cl = [.d (.int lo), .d (.int hi)] ∧ (-1000000000 ≤ lo ∧ lo ≤ 1000000000 ∧ -1000000000 ≤ hi ∧ hi ≤ 1000000000) ∧ ki ((List.range (hi - lo).toNat).map fun i : Nat => C.d (.int (lo + (i : Int)))) h1) : WI K (iRng2 tr) cs hs ki := by
  intro B H σ fh s E R r
  refine h B H σ fh s E _ fun vs cl h1 B1 H1 x1 s1 E1 ⟨lo, hi, e, hn, hk⟩ => ?_
  subst e
  match vs, s1 with
  | [v, w], ⟨s1, s2, _⟩ =>
    cases s1.int
    cases s2.int
    exact ⟨lo, hi, rfl, by omega, r _ _ h1 B1 H1 x1 E1 src_rng hk⟩
/-! ### loops -/
abbrev lp (D : Ends) (N : L2.St → Hp → Prop) : Ends := { D with nx := N, ct := N, bk := D.nx }
variable {wi : TI}
theorem nt_for (h : WI K wi cs hs fun its h1 => ∃ I : Nat → List C → List HC → Prop, I 0 cs h1 ∧
      (∀ B1, Ex B0 B1 → ∀ i c cs' hs', its[i]? = some c → I i cs' hs' → WG K g cs' c fun cs2 => Nt K B1 fh (tu (lp D (Nx K B1 fh (I (i + 1))))) cs2 hs') ∧ ∀ cs' hs', I its.length cs' hs' → Nt K B0 fh D.nx cs' hs') :
    Nt K B0 fh (tFor wi g tu D) cs hs := by
  intro B H σ x s E
  refine h B H σ fh s E _ fun J its h1 B1 H1 x1 E1 hsrc ⟨I, h0, hs, hd⟩ => ?_
  refine ⟨fun i m σ' H' => m = its.length - i ∧ i ≤ its.length ∧ Nx K B1 fh (I i) σ' H', ⟨its.length, by simp, Nat.zero_le _, cs, h1, B1, ex_refl, s.mono x1, E1, h0⟩, ?_⟩
  rintro i m σ' H' ⟨rfl, hi, cs', hs', B', x', s', E', hI⟩
  obtain ⟨g1, g2, g3⟩ := hsrc B' H' x' E'.bh
  by_cases hlt : i < its.length
  · refine .inr ⟨g1 i hlt, Nx K B1 fh (I (i + 1)), fun σ2 H2 n2 => ⟨its.length - (i + 1), by omega, rfl, by omega, n2⟩, fun v H2 hy => ?_⟩
    obtain ⟨B2, c, x2, hc, sc, E2⟩ := g3 i v H2 hlt hy
    have E3 := E2 _ E'
    exact hs B1 (ex_trans x x1) i c cs' hs' hc hI B2 H2 σ' v E3.bh (s'.mono x2) sc _ fun σ2 cs2 s2 hk => hk B2 H2 σ2 (ex_trans x' x2) s2 E3
  · obtain rfl : i = its.length := by omega
    exact .inl ⟨g2, hd cs' hs' hI B' H' σ' (ex_trans (ex_trans x x1) x') s' E'⟩
theorem nt_while (I : Nat → List C → List HC → Prop) {m0 : Nat} (h0 : I m0 cs hs)
    (h : ∀ B1, Ex B0 B1 → ∀ m cs' hs', I m cs' hs' → WT K t cs' hs' fun b h2 => BB b (Nt K B1 fh (tu (lp D (Nx K B1 fh fun cs2 hs2 => ∃ m', m' < m ∧ I m' cs2 hs2))) cs' h2) (Nt K B1 fh D.nx cs' h2)) : Nt K B0 fh (tWhile t tu D) cs hs := by
  intro B H σ x s E
  refine ⟨fun m σ' H' => Nx K B0 fh (I m) σ' H', ⟨m0, cs, hs, B, x, s, E, h0⟩, ?_⟩
  rintro m σ' H' ⟨cs', hs', B', x', s', E', hI⟩
  refine h B0 ex_refl m cs' hs' hI B' H' σ' fh s' E' _ fun b h2 B2 H2 x2 E2 hk => ?_
  cases b with
  | true =>
    refine iteT ⟨Nx K B0 fh fun cs2 hs2 => ∃ m', m' < m ∧ I m' cs2 hs2, ?_, hk.1 rfl B2 H2 σ' (ex_trans x' x2) (s'.mono x2) E2⟩
    rintro σ3 H3 ⟨cs3, hs3, B3, x3, s3, E3, m', hm, hI3⟩
    exact ⟨m', hm, cs3, hs3, B3, x3, s3, E3, hI3⟩
  | false => exact iteF (hk.2 rfl B2 H2 σ' (ex_trans x' x2) (s'.mono x2) E2)
/-! ### comprehensions -/
/-- the slots that a target stores -/
structure Tg (g : TG) (js : List Nat) : Prop where
  mono : ∀ (v : V) (σ : L2.St) (H : Hp) (Q Q' : L2.St → Hp → Prop), (∀ σ2 H2, Q σ2 H2 → Q' σ2 H2) → g v σ H Q → g v σ H Q'
  keep : ∀ (v : V) (σ : L2.St) (H : Hp) (Q : L2.St → Hp → Prop), g v σ H Q → g v σ H fun σ2 H2 => Q σ2 H2 ∧ σ2.length = σ.length ∧ ∀ i, i ∉ js → σ2[i]? = σ[i]?
structure Tgs (g : TGs) (js : List Nat) : Prop where
  mono : ∀ (v : List V) (σ : L2.St) (H : Hp) (Q Q' : L2.St → Hp → Prop), (∀ σ2 H2, Q σ2 H2 → Q' σ2 H2) → g v σ H Q → g v σ H Q'
  keep : ∀ (v : List V) (σ : L2.St) (H : Hp) (Q : L2.St → Hp → Prop), g v σ H Q → g v σ H fun σ2 H2 => Q σ2 H2 ∧ σ2.length = σ.length ∧ ∀ i, i ∉ js → σ2[i]? = σ[i]?
theorem tg_name {j : Nat} : Tg (gName j) [j] := ⟨fun v σ H Q Q' m h => m _ _ h, fun v σ H Q h => ⟨h, by simp, fun i hi => List.getElem?_set_ne fun e => hi (by simp [e])⟩⟩
theorem tgs_nil : Tgs gNil [] := ⟨fun v σ H Q Q' m h => ⟨h.1, m _ _ h.2⟩, fun v σ H Q h => ⟨h.1, h.2, rfl, fun _ _ => rfl⟩⟩
theorem tgs_cons {g : TG} {gs : TGs} {js ks : List Nat} (h1 : Tg g js) (h2 : Tgs gs ks) : Tgs (gCons g gs) (js ++ ks) := by
  refine ⟨?_, ?_⟩
  · rintro v σ H Q Q' m ⟨x, r, e, h⟩
    exact ⟨x, r, e, h1.mono _ _ _ _ _ (fun σ2 H2 hq => h2.mono _ _ _ _ _ m hq) h⟩
  · rintro v σ H Q ⟨x, r, e, h⟩
    refine ⟨x, r, e, h1.mono _ _ _ _ _ ?_ (h1.keep _ _ _ _ h)⟩
    rintro σ2 H2 ⟨hq, hl, hi⟩
    refine h2.mono _ _ _ _ _ ?_ (h2.keep _ _ _ _ hq)
    rintro σ3 H3 ⟨hq3, hl3, hi3⟩
    exact ⟨hq3, by omega, fun i hn => by
      rw [hi3 i fun z => hn (List.mem_append_right _ z), hi i fun z => hn (List.mem_append_left _ z)]⟩
theorem tg_tup {n : Nat} {gs : TGs} {js : List Nat} (h : Tgs gs js) : Tg (gTup K n gs) js :=
  ⟨fun v σ H Q Q' m ⟨a, xs, h1, h2, h3, h4⟩ => ⟨a, xs, h1, h2, h3, h.mono _ _ _ _ _ m h4⟩, fun v σ H Q ⟨a, xs, h1, h2, h3, h4⟩ => ⟨a, xs, h1, h2, h3, h.keep _ _ _ _ h4⟩⟩
theorem wipe_get (σ : L2.St) : ∀ (vs : List Nat) (i : Nat), (wipe σ vs)[i]? = if i ∈ vs then (σ[i]?.map fun _ => none) else σ[i]?
  | [], i => by simp [wipe]
  | v :: vs, i => by
    show ((wipe σ vs).set v none)[i]? = _
    by_cases e : v = i
    · subst e
      rw [List.getElem?_set_self', wipe_get σ vs v]
      by_cases hv : v ∈ vs
      · simp only [hv, if_true, List.mem_cons, true_or]
        cases σ[v]? <;> rfl
      · simp only [hv, if_false, List.mem_cons, true_or, if_true]
        cases σ[v]? <;> rfl
    · rw [List.getElem?_set_ne e, wipe_get σ vs i]
      have : (i ∈ v :: vs) ↔ i ∈ vs := by simp [Ne.symm e]
      simp only [this]
theorem wipe_same {σ σ2 : L2.St} {vs js : List Nat} (hj : ∀ j ∈ js, j ∈ vs) (hl : σ2.length = σ.length) (h : ∀ i, i ∉ js → σ2[i]? = (wipe σ vs)[i]?) : wipe σ2 vs = wipe σ vs := by
  refine List.ext_getElem? fun i => ?_
  rw [wipe_get, wipe_get]
  by_cases hi : i ∈ vs
  · simp only [hi, if_true]
    by_cases hs : i < σ.length
    · rw [List.getElem?_eq_getElem hs, List.getElem?_eq_getElem (by omega)]
      rfl
    · rw [List.getElem?_eq_none (by omega), List.getElem?_eq_none (by omega)]
  · simp only [hi, if_false]
    rw [h i fun z => hi (hj i z), wipe_get]
    simp only [hi, if_false]
def wipeC (cs : List C) : List Nat → List C
  | [] => cs
  | v :: vs => (wipeC cs vs).set v .any
theorem sl_wipe {B : Hp} {σ : L2.St} (s : SlA K B σ cs) : ∀ vs, SlA K B (wipe σ vs) (wipeC cs vs)
  | [] => s
  | v :: vs => (sl_wipe s vs).set (show Sl K B none .any from trivial)
/-- one turn of a comprehension -/
def PvL (K : PySem.W.Frag) (σ : L2.St) (vs : List Nat) (cs : List C) (B1 : Hp) (Dl : Addr) (fh : List HC) (n0 : Nat) (I : Nat → List PyData → List HC → Prop) (i : Nat) (H : Hp) : Prop :=
  ∃ B hs acc, Ex B1 B ∧ En K B H ((Dl, .lst acc) :: (hs ++ fh)) ∧ acc.length ≤ i ∧ i ≤ n0 ∧ I i acc hs
theorem we_lc {vs js : List Nat} {tt : TT} (hg : Tg g js) (hj : ∀ j ∈ js, j ∈ vs) (h : WI K wi cs hs fun its h1 => its.length ≤ 99999 ∧ ∃ I : Nat → List PyData → List HC → Prop, I 0 [] h1 ∧
      (∀ i c acc hs', its[i]? = some c → I i acc hs' → WG K g (wipeC cs vs) c fun cs2 => WT K tt cs2 hs' fun b h3 => BB b (WE K te cs2 h3 fun c h4 => IsD c fun y => I (i + 1) (acc ++ [y]) h4) (I (i + 1) acc h3)) ∧
      ∀ acc hs', acc.length ≤ its.length → I its.length acc hs' → ∀ a, k (.r a) ((a, .lst acc) :: hs')) : WE K (tLc wi g tt te vs) cs hs k := by
  intro B H σ fh s E Q q
  refine h B H σ fh s E _ fun J its h1 B1 H1 x1 E1 hsrc ⟨hz, I, h0, hs, hd⟩ Dl hD => ?_
  have s1 := sl_wipe (s.mono x1) vs
  refine ⟨fun i m H' => m = its.length - i ∧ PvL K σ vs cs B1 Dl fh its.length I i H', ⟨its.length, by simp, B1, h1, [], ex_refl, E1.newM hD ⟨[], rfl, .nil⟩, Nat.le_refl _, Nat.zero_le _, h0⟩, ?_⟩
  rintro i m H' ⟨rfl, B', hs', acc, x', E', ha, hi, hI⟩
  obtain ⟨g1, g2, g3⟩ := hsrc B' H' x' E'.bh
  by_cases hlt : i < its.length
  · refine .inr ⟨g1 i hlt, PvL K σ vs cs B1 Dl fh its.length I (i + 1), fun H2 n2 => ⟨its.length - (i + 1), by omega, rfl, n2⟩, fun v H2 hy => ?_⟩
    obtain ⟨B2, c, x2, hc, sc, E2⟩ := g3 i v H2 hlt hy
    have E3 := E2 _ E'
    have w := hs i c acc hs' hc hI B2 H2 (wipe σ vs) v E3.bh (s1.mono (ex_trans x' x2)) sc
      (fun σ2 H2 => wipe σ2 vs = wipe σ vs → tt σ2 H2 fun b H3 =>
        if b = true then te σ2 H3 fun y H4 => ∃ acc, H4 Dl = some (.lst acc) ∧ acc.length < sizeLine ∧ PvL K σ vs cs B1 Dl fh its.length I (i + 1) (upd H4 Dl (.lst (acc ++ [y]))) else PvL K σ vs cs B1 Dl fh its.length I (i + 1) H3)
      fun σ2 cs2 s2 hk hw => ?_
    · refine hg.mono _ _ _ _ _ ?_ (hg.keep _ _ _ _ w)
      rintro σ2 H3 ⟨hq, hl2, hi2⟩
      rw [wipe_length] at hl2
      have hw := wipe_same hj hl2 hi2
      exact ⟨hw, hq hw⟩
    · have E4 : En K B2 H2 (hs' ++ ((Dl, .lst acc) :: fh)) := E3.perm List.perm_middle
      refine hk B2 H2 σ2 _ s2 E4 _ fun b h3 B3 H3 x3 E5 hk3 => ?_
      cases b with
      | false => exact iteF ⟨B3, h3, acc, ex_trans x' (ex_trans x2 x3), E5.perm List.perm_middle.symm, by omega, by omega, hk3.2 rfl⟩
      | true =>
        refine iteT (hk3.1 rfl B3 H3 σ2 _ (s2.mono x3) E5 _ fun y c h4 B4 H4 x4 s4 E6 ⟨yd, ey, hk4⟩ => ?_)
        subst ey
        have E7 : En K B4 H4 ((Dl, .lst acc) :: (h4 ++ fh)) := E6.perm List.perm_middle.symm
        obtain ⟨_, ob, hob, xs, e5, hd5⟩ := E7.head
        subst e5
        have hdy := s4.dp
        have hl5 := hd5.len
        exact ⟨xs, hob, Evl.sz_lt (by omega), B4, h4, acc ++ [yd], ex_trans x' (ex_trans x2 (ex_trans x3 x4)), E7.chg ⟨_, rfl, dpAll_snoc hdy hd5⟩, by rw [List.length_append, List.length_singleton]; omega, by omega, hk4⟩
  · obtain rfl : i = its.length := by omega
    refine .inl ⟨g2, q (.ref Dl) (.r Dl) ((Dl, .lst acc) :: hs') B' H' (ex_trans x1 x') rfl E' (hd acc hs' ha hI Dl)⟩
/-! ### calls of defs -/
def spC (K : PySem.W.Frag) (S : List C → List HC → KC → Prop) : Sp := fun vs H Q _ => ∃ (B : Hp) (cl : List C) (hs fh : List HC) (k : KC), VsOk K B vs cl ∧ En K B H (hs ++ fh) ∧ S cl hs k ∧
  ∀ v c hs2 B2 H2, Ex B B2 → Sl K B2 (some v) c → En K B2 H2 (hs2 ++ fh) → k c hs2 → Q v H2
/-- what is handed over: nothing; the own object at a place; at two places -/
inductive Sel : List HC → List HC → (List HC → List HC) → Prop
  | no {hs : List HC} : Sel hs [] fun new => new ++ hs
  | one {hs : List HC} {x : HC} (i : Nat) : hs[i]? = some x → Sel hs [x] fun new => match new with | [] => hs.eraseIdx i | y :: new => new ++ hs.set i y
  | two {hs : List HC} {x y : HC} (i j : Nat) : hs[i]? = some x → (hs.eraseIdx i)[j]? = some y → Sel hs [x, y] fun new => match new with | x' :: y' :: new => new ++ x' :: (hs.eraseIdx i).set j y' | z => z ++ (hs.eraseIdx i).eraseIdx j
  | all {hs : List HC} : Sel hs hs fun new => new
  | tl {x : HC} {hs : List HC} : Sel (x :: hs) hs fun new => x :: new
theorem Sel.env {h0 : List HC} {f : List HC → List HC} (h : Sel hs h0 f) : ∃ rest, (∀ B H fh, En K B H (hs ++ fh) → En K B H (h0 ++ (rest ++ fh))) ∧ ∀ new B H fh, En K B H (new ++ (rest ++ fh)) → En K B H (f new ++ fh) := by
  cases h with
  | no => exact ⟨hs, fun B H fh E => E, fun new B H fh E => by rw [List.append_assoc]; exact E⟩
  | all => exact ⟨[], fun B H fh E => E, fun new B H fh E => E⟩
  | @tl x hs => exact ⟨[x], fun B H fh E => E.perm List.perm_middle, fun new B H fh E => E.perm List.perm_middle.symm⟩
  | one i hi =>
    refine ⟨hs.eraseIdx i, fun B H fh E => E.take hi, fun new B H fh E => ?_⟩
    match new, E with
    | [], E => exact E
    | y :: new, E =>
      have E1 : En K B H (y :: (hs.eraseIdx i ++ (new ++ fh))) := E.perm (by
        rw [List.cons_append]
        refine List.Perm.cons _ ?_
        rw [← List.append_assoc, ← List.append_assoc]
        exact List.Perm.append_right _ List.perm_append_comm)
      have E2 := E1.back hi
      refine E2.perm ?_
      rw [← List.append_assoc]
      exact List.Perm.append_right _ List.perm_append_comm
  | @two _ x y i j hi hj =>
    refine ⟨(hs.eraseIdx i).eraseIdx j, fun B H fh E => ?_, fun new B H fh E => ?_⟩
    · have E1 := E.take hi
      have E2 : En K B H (hs.eraseIdx i ++ (x :: fh)) := E1.perm List.perm_middle
      have E3 := E2.take hj
      refine E3.perm ?_
      show (x :: y :: (((hs.eraseIdx i).eraseIdx j) ++ fh)).Perm (y :: (((hs.eraseIdx i).eraseIdx j) ++ x :: fh))
      exact (List.Perm.swap ..).trans (List.Perm.cons _ List.perm_middle.symm)
    · match new, E with
      | [], E => exact E
      | [z], E => exact E
      | x' :: y' :: new, E =>
        have E1 : En K B H (y' :: ((hs.eraseIdx i).eraseIdx j ++ (x' :: (new ++ fh)))) := E.perm (by
          rw [List.cons_append, List.cons_append]
          refine List.Perm.trans ?_ (List.Perm.swap ..)
          refine List.Perm.cons _ ?_
          refine List.perm_middle.trans (List.Perm.cons _ ?_)
          rw [← List.append_assoc, ← List.append_assoc]
          exact List.Perm.append_right _ List.perm_append_comm)
        have E2 := E1.back hj
        refine E2.perm ?_
        show (new ++ x' :: ((hs.eraseIdx i).set j y') ++ fh).Perm ((hs.eraseIdx i).set j y' ++ (x' :: (new ++ fh)))
        refine List.Perm.trans ?_ List.perm_middle.symm
        rw [List.append_assoc, List.cons_append]
        refine List.perm_middle.trans (List.Perm.cons _ ?_)
        rw [← List.append_assoc, ← List.append_assoc]
        exact List.Perm.append_right _ List.perm_append_comm
/-- the call by its promise -/
def CallS (S : List C → List HC → KC → Prop) (cl : List C) (hs : List HC) (k : KC) : Prop := ∃ h0 f k', Sel hs h0 f ∧ S cl h0 k' ∧ ∀ c new, k' c new → k c (f new)
theorem calls {S : List C → List HC → KC → Prop} {cl : List C} {h0 : List HC} {f : List HC → List HC} (h : Sel hs h0 f) (hS : S cl h0 fun c new => k c (f new)) : CallS S cl hs k := ⟨h0, f, _, h, hS, fun _ _ h => h⟩
theorem call0 {S : List C → List HC → KC → Prop} {cl : List C} (hS : S cl [] fun c new => new = [] ∧ k c hs) : CallS S cl hs k := ⟨[], _, _, .no, hS, fun c new ⟨e, h⟩ => by subst e; exact h⟩
/-- a new own object comes back: it stands first -/
theorem call0n {S : List C → List HC → KC → Prop} {cl : List C} (hS : S cl [] fun c new => ∃ y, new = [y] ∧ k c (y :: hs)) : CallS S cl hs k := ⟨[], _, _, .no, hS, fun c new ⟨y, e, h⟩ => by subst e; exact h⟩
theorem call1 {S : List C → List HC → KC → Prop} {cl : List C} {x : HC} (i : Nat) (hi : hs[i]? = some x) (hS : S cl [x] fun c new => ∃ y, new = [y] ∧ k c (hs.set i y)) : CallS S cl hs k := ⟨[x], _, _, .one i hi, hS, fun c new ⟨y, e, h⟩ => by subst e; exact h⟩
theorem call10 {S : List C → List HC → KC → Prop} {cl : List C} {x : HC} {y : List HC} (hS : S cl [x] fun c new => ∃ x', new = [x'] ∧ k c (x' :: y)) : CallS S cl (x :: y) k := call1 0 rfl hS
theorem call11 {S : List C → List HC → KC → Prop} {cl : List C} {x z : HC} {y : List HC} (hS : S cl [x] fun c new => ∃ x', new = [x'] ∧ k c (z :: x' :: y)) : CallS S cl (z :: x :: y) k := call1 1 rfl hS
theorem call12 {S : List C → List HC → KC → Prop} {cl : List C} {x z z' : HC} {y : List HC} (hS : S cl [x] fun c new => ∃ x', new = [x'] ∧ k c (z :: z' :: x' :: y)) : CallS S cl (z :: z' :: x :: y) k := call1 2 rfl hS
theorem call13 {S : List C → List HC → KC → Prop} {cl : List C} {x z z' z'' : HC} {y : List HC} (hS : S cl [x] fun c new => ∃ x', new = [x'] ∧ k c (z :: z' :: z'' :: x' :: y)) : CallS S cl (z :: z' :: z'' :: x :: y) k := call1 3 rfl hS
theorem callT {S : List C → List HC → KC → Prop} {cl : List C} {x : HC} {y : List HC} (hS : S cl y fun c new => k c (x :: new)) : CallS S cl (x :: y) k := ⟨y, _, _, .tl, hS, fun c new h => h⟩
theorem callA {S : List C → List HC → KC → Prop} {cl : List C} (hS : S cl hs k) : CallS S cl hs k := ⟨hs, _, _, .all, hS, fun c new h => h⟩
theorem call1n {S : List C → List HC → KC → Prop} {cl : List C} {x : HC} (i : Nat) (hi : hs[i]? = some x) (hS : S cl [x] fun c new => ∃ y z, new = [y, z] ∧ k c (z :: hs.set i y)) : CallS S cl hs k := ⟨[x], _, _, .one i hi, hS, fun c new ⟨y, z, e, h⟩ => by subst e; exact h⟩
theorem CallS.run {S : List C → List HC → KC → Prop} {cl : List C} (h : CallS S cl hs k) {B H : Hp} {vs : List V} {Q : VK} {xk : XK} (sv : VsOk K B vs cl) (E : En K B H (hs ++ fh))
    (q : ∀ v c hs2 B2 H2, Ex B B2 → Sl K B2 (some v) c → En K B2 H2 (hs2 ++ fh) → k c hs2 → Q v H2) : spC K S vs H Q xk := by
  obtain ⟨h0, f, k', hsel, hS, hk'⟩ := h
  obtain ⟨rest, e1, e2⟩ := hsel.env (K := K)
  exact ⟨B, cl, h0, rest ++ fh, _, sv, e1 _ _ _ E, hS, fun v c hs2 B2 H2 x2 s2 E2 hk => q v c (f hs2) B2 H2 x2 s2 (e2 _ _ _ _ E2) (hk' _ _ hk)⟩
theorem we_call {S : List C → List HC → KC → Prop} {xk : XK} (h : WA K tr cs hs fun cl h1 => CallS S cl h1 k) : WE K (tCall (spC K S) [] xk tr) cs hs k := by
  intro B H σ fh s E Q q
  refine h B H σ fh s E _ fun vs cl h1 B1 H1 x1 s1 E1 hc => ?_
  rw [List.append_nil]
  exact hc.run s1 E1 fun v c hs2 B2 H2 x2 s2 E2 hk => q v c hs2 B2 H2 (ex_trans x1 x2) s2 E2 hk
/-- with defaults -/
theorem we_callD {S : List C → List HC → KC → Prop} {xk : XK} {dvs : List V} {dcs : List C} (hd : ∀ B, VsOk K B dvs dcs) (h : WA K tr cs hs fun cl h1 => CallS S (cl ++ dcs) h1 k) : WE K (tCall (spC K S) dvs xk tr) cs hs k := by
  intro B H σ fh s E Q q
  refine h B H σ fh s E _ fun vs cl h1 B1 H1 x1 s1 E1 hc => ?_
  have s2 : VsOk K B1 (vs ++ dvs) (cl ++ dcs) := by
    clear hc h
    induction vs generalizing cl with
    | nil =>
      match cl, s1 with
      | [], _ => exact hd B1
    | cons v vs ih =>
      match cl, s1 with
      | c :: cl, ⟨a, b⟩ => exact ⟨a, ih _ b⟩
  exact hc.run s2 E1 fun v c hs2 B2 H2 x2 s2 E2 hk => q v c hs2 B2 H2 (ex_trans x1 x2) s2 E2 hk
/-- a built-in -/
theorem we_cb {r : List V → Hp → VK → Prop} (h : WA K tr cs hs fun cl h2 => RA K r cl h2 k) : WE K (tCB r tr) cs hs k := by
  intro B H σ fh s E Q q
  refine h B H σ fh s E _ fun vs cl h1 B1 H1 x1 s1 E1 hr => ?_
  exact hr B1 H1 fh vs s1 E1 Q fun v c hs2 B2 H2 x2 s2 E2 hk => q v c hs2 B2 H2 (ex_trans x1 x2) s2 E2 hk
/-! ### the body of a def -/
def Body (K : PySem.W.Frag) (n : Nat) (cl : List C) (hs : List HC) (k : KC) (t : TS) : Prop := ∀ (B0 : Hp) (fh : List HC) (Q : VK), Fc K B0 fh k Q → Nt K B0 fh (t { nx := fun _ H' => Q .non H', rt := Q }) (cl ++ List.replicate n .any) hs
theorem sl_start {B : Hp} {n : Nat} : ∀ {vs : List V} {cl : List C}, VsOk K B vs cl → SlA K B (vs.map some ++ List.replicate n none) (cl ++ List.replicate n .any)
  | [], [], _ => by
    show SlA K B (List.replicate n none) (List.replicate n .any)
    induction n with
    | zero => trivial
    | succ n ih => exact ⟨trivial, ih⟩
  | v :: vs, c :: cl, h => ⟨h.1, sl_start h.2⟩
  | [], _ :: _, h => h.elim
  | _ :: _, [], h => h.elim
theorem sp_body {S : List C → List HC → KC → Prop} {N : List Str} {m : Nat} {vs : List V} {H : Hp} {Q : VK} {E : XK} {t : TS} (hN : N.length = m) (h : spC K S vs H Q E) (hb : ∀ cl hs k, S cl hs k → Body K (m - cl.length) cl hs k t) :
    t { nx := fun _ H' => Q .non H', rt := Q } (L2.start N vs) H := by
  obtain ⟨B, cl, hs, fh, k, sv, Ev, hS, hq⟩ := h
  refine hb cl hs k hS B fh Q ⟨fun v c hs2 B2 H2 x2 s2 E2 hk => hq v c hs2 B2 H2 x2 s2 E2 hk⟩ B H (L2.start N vs) ex_refl ?_ Ev
  have := sl_start (n := m - cl.length) sv
  unfold L2.start
  rw [hN, sv.len]
  exact this
end
section
variable {P : Program} {w : World} {K : PySem.W.Frag} {mg : Str → Option Value} {base : Heap}
theorem okC {x ql : Str} {st : Stmt} {f : Addr} {fd : FuncData} {N ps : List Str} {k n : Nat} {S : List C → List HC → KC → Prop} (F : Fun K x ql st f fd) (Sc : FnScope N ps (defScope st)) (hN : N.length = n) (len : ∀ cl hs kk, S cl hs kk → cl.length = ps.length)
    (hb : ∀ (cdv : Value) (A : Around) (out : List PySem.Env) (s : Shared) (H : Hp) (E : XK), Room k (A.deeper (envOfC ql (defScope st) s.heap.objs.size f cdv)) →
      ∃ t, PSs (cxOf CX0 P w K mg base N ql (defScope st) f cdv A out s H E).nox (defBody st) t ∧ ∀ cl hs kk, S cl hs kk → Body K (n - cl.length) cl hs kk t) : FnOk P w K mg base CX0 (k + 1) f fd ps (spC K S) := by
  refine F.ok Sc (fun vs H Q E h => ?_) (fun cdv A out s H vs Q E hr h => ?_)
  · obtain ⟨B, cl, hs, fr, kk, lv, _, hS, _⟩ := h
    rw [lv.len]
    exact len cl hs kk hS
  · obtain ⟨t, ht, hq⟩ := hb cdv A out s H E hr
    exact ⟨t, ht, sp_body hN h hq⟩
theorem okCG {x ql : Str} {st : Stmt} {f : Addr} {fd : FuncData} {N ps : List Str} {k n : Nat} {S : List C → List HC → KC → Prop} (F : Fun K x ql st f fd) (Sc : FnScope N ps (defScope st)) (hN : N.length = n) (len : ∀ cl hs kk, S cl hs kk → cl.length = ps.length)
    (hb : ∀ (cdv : Value) (A : Around) (out : List PySem.Env) (s : Shared) (H : Hp) (E : XK), Room k (A.deeper (envOfC ql (defScope st) s.heap.objs.size f cdv)) → A.guards = some [] →
      ∃ t, PSs (cxOf CX0 P w K mg base N ql (defScope st) f cdv A out s H E).nox (defBody st) t ∧ ∀ cl hs kk, S cl hs kk → Body K (n - cl.length) cl hs kk t) : FnG P w K mg base CX0 (k + 1) f fd ps (spC K S) := by
  refine okG F Sc (fun vs H Q E h => ?_) (fun cdv A out s H vs Q E hr hg h => ?_)
  · obtain ⟨B, cl, hs, fr, kk, lv, _, hS, _⟩ := h
    rw [lv.len]
    exact len cl hs kk hS
  · obtain ⟨t, ht, hq⟩ := hb cdv A out s H E hr hg
    exact ⟨t, ht, sp_body hN h hq⟩
end
end Cw
/-! Part 4: operations on data and on own objects. -/
namespace Cw
open PySem PySem.Spec PyProof.Rows L2 Gu
/-- what can be read as data now -/
inductive As (hs : List HC) : C → PyData → Prop
  | d {x : PyData} : As hs (.d x) x
  | l {a : Addr} {ds : List PyData} (i : Nat) : hs[i]? = some (a, .lst ds) → As hs (.r a) (.list ds)
theorem asD {hs : List HC} {x : PyData} : As hs (.d x) x := .d
theorem asL0 {a : Addr} {ds : List PyData} {y : List HC} : As ((a, .lst ds) :: y) (.r a) (.list ds) := .l 0 rfl
theorem asL1 {a : Addr} {ds : List PyData} {x0 : HC} {y : List HC} : As (x0 :: (a, .lst ds) :: y) (.r a) (.list ds) := .l 1 rfl
theorem asL2 {a : Addr} {ds : List PyData} {x0 x1 : HC} {y : List HC} : As (x0 :: x1 :: (a, .lst ds) :: y) (.r a) (.list ds) := .l 2 rfl
theorem asL3 {a : Addr} {ds : List PyData} {x0 x1 x2 : HC} {y : List HC} : As (x0 :: x1 :: x2 :: (a, .lst ds) :: y) (.r a) (.list ds) := .l 3 rfl
theorem asL4 {a : Addr} {ds : List PyData} {x0 x1 x2 x3 : HC} {y : List HC} : As (x0 :: x1 :: x2 :: x3 :: (a, .lst ds) :: y) (.r a) (.list ds) := .l 4 rfl
theorem asL5 {a : Addr} {ds : List PyData} {x0 x1 x2 x3 x4 : HC} {y : List HC} : As (x0 :: x1 :: x2 :: x3 :: x4 :: (a, .lst ds) :: y) (.r a) (.list ds) := .l 5 rfl
section
variable {K : PySem.W.Frag} {B H : Hp} {cs : List C} {hs fh : List HC} {k : KC} {ta tb te tl td ty tx : TE} {tr : TA} {B0 : Hp} {D : Ends}
/-- a list that can be read, by what it holds in B -/
def RL (K : PySem.W.Frag) (B H : Hp) (v : V) (ds : List PyData) : Prop := ∃ a xs, v = .ref a ∧ SqL K H a xs ∧ DpAll K B xs ds
def RT (K : PySem.W.Frag) (B H : Hp) (v : V) (ds : List PyData) : Prop := ∃ a xs, v = .ref a ∧ SqT K H a xs ∧ DpAll K B xs ds
theorem As.rl {c : C} {ds : List PyData} {v : V} (h : As hs c (.list ds)) (s : Sl K B (some v) c) (E : En K B H (hs ++ fh)) : RL K B H v ds := by
  cases h with
  | d =>
    have hd := s.dp
    cases hd with
    | lst hq ha => exact ⟨_, _, rfl, Evl.ex_l E.bh hq, ha⟩
  | l i hi =>
    have ev : some v = some (V.ref _) := s
    cases ev
    obtain ⟨_, o, ho, xs, e, hd⟩ := E.own hi
    subst e
    exact ⟨_, xs, rfl, .inl (.inl ho), hd⟩
theorem rt_of {ds : List PyData} {v : V} (s : Sl K B (some v) (.d (.tuple ds))) (E : En K B H (hs ++ fh)) : RT K B H v ds := by
  have hd := s.dp
  cases hd with
  | tup hq ha => exact ⟨_, _, rfl, Evl.ex_t E.bh hq, ha⟩
theorem As.dp {c : C} {x : PyData} {v : V} (h : As hs c x) (s : Sl K B (some v) c) (E : En K B H (hs ++ fh)) : Dp K H v x := by
  cases h with
  | d => exact dp_mono E.bh _ _ s.dp
  | l i hi =>
    have ev : some v = some (V.ref _) := s
    cases ev
    obtain ⟨_, o, ho, xs, e, hd⟩ := E.own hi
    subst e
    exact .lst (.inl (.inl ho)) (dpAll_mono E.bh _ _ hd)
theorem mok_l {xs : List V} {ds : List PyData} (h : DpAll K B xs ds) : MOk K B (.lst ds) (.lst xs) := ⟨xs, rfl, h⟩
theorem mok_c {xs : List V} {ds : List C} (h : VsOk K B xs ds) : MOk K B (.lsc ds) (.lst xs) := ⟨xs, rfl, h⟩
theorem mok_d {ps : List (Key × V)} {ds : List (Key × C)} (h : KvOk K B ps ds) : MOk K B (.dic ds) (.dK ps) := ⟨ps, rfl, h⟩
theorem mok_t {ps : List (List Key × V)} {ds : List (List Key × C)} (h : KvOk K B ps ds) : MOk K B (.dit ds) (.dT ps) := ⟨ps, rfl, h⟩
theorem mok_i {Cl dx : Addr} {ps : List (Str × V)} {ds : List (Str × C)} (h : KvOk K B ps ds) : MOk K B (.ins Cl dx ds) (.ins Cl dx ps) := ⟨ps, rfl, h⟩
theorem dpAll_atI {vs : List V} {ds : List PyData} {n : Int} {x : PyData} (h : DpAll K B vs ds) (e : atI ds n = some x) : ∃ v, atI vs n = some v ∧ Dp K B v x := by
  unfold atI at e ⊢
  rw [h.len]
  obtain ⟨j, h1, h2⟩ := Option.bind_eq_some_iff.mp e
  obtain ⟨v, h3, h4⟩ := dpAll_at h h2
  exact ⟨v, Option.bind_eq_some_iff.mpr ⟨j, h1, h3⟩, h4⟩
theorem dpAll_set {v : V} {d : PyData} (hd : Dp K B v d) : ∀ {vs : List V} {ds : List PyData} {j : Nat}, DpAll K B vs ds → DpAll K B (vs.set j v) (ds.set j d)
  | _, _, _, .nil => .nil
  | _, _, 0, .cons _ h2 => .cons hd h2
  | _, _, _ + 1, .cons h1 h2 => .cons h1 (dpAll_set hd h2)
theorem dpAll_app : ∀ {xs ys : List V} {ds es : List PyData}, DpAll K B xs ds → DpAll K B ys es → DpAll K B (xs ++ ys) (ds ++ es)
  | _, _, _, _, .nil, h => h
  | _, _, _, _, .cons h1 h2, h => .cons h1 (dpAll_app h2 h)
theorem dpAll_drop : ∀ {xs : List V} {ds : List PyData} (n : Nat), DpAll K B xs ds → DpAll K B (xs.drop n) (ds.drop n)
  | _, _, 0, h => h
  | _, _, _ + 1, .nil => .nil
  | _, _, n + 1, .cons _ h => dpAll_drop n h
theorem dpAll_take : ∀ {xs : List V} {ds : List PyData} (n : Nat), DpAll K B xs ds → DpAll K B (xs.take n) (ds.take n)
  | _, _, 0, _ => .nil
  | _, _, _ + 1, .nil => .nil
  | _, _, n + 1, .cons h1 h => .cons h1 (dpAll_take n h)
theorem dpAll_rev : ∀ {xs : List V} {ds : List PyData}, DpAll K B xs ds → DpAll K B xs.reverse ds.reverse
  | _, _, .nil => .nil
  | _, _, .cons h1 h => by
    rw [List.reverse_cons, List.reverse_cons]
    exact dpAll_snoc h1 (dpAll_rev h)
theorem dpAll_dropLast {xs : List V} {ds : List PyData} (h : DpAll K B xs ds) : DpAll K B xs.dropLast ds.dropLast := by
  rw [List.dropLast_eq_take, List.dropLast_eq_take, h.len]
  exact dpAll_take _ h
/-! ### items of lists and tuples -/
theorem rd_ixT {ds : List PyData} {n : Int} (h : AtI ds n fun x => k (.d x) hs) : RD K (rIxT K) (.d (.tuple ds)) (.d (.int n)) hs k := by
  intro B H fh v1 v2 s1 s2 E Q q
  cases s2.int
  obtain ⟨x, hx, hk⟩ := h
  obtain ⟨a, xs, rfl, hs', ha⟩ := rt_of s1 E
  obtain ⟨w, hw, hdw⟩ := dpAll_atI ha hx
  exact ⟨_, _, n, w, rfl, rfl, hs', hw, q w (.d x) hs B H ex_refl ⟨w, rfl, hdw⟩ E hk⟩
theorem rd_ixL {c : C} {ds : List PyData} {n : Int} (ha : As hs c (.list ds)) (h : AtI ds n fun x => k (.d x) hs) : RD K (rIxL K) c (.d (.int n)) hs k := by
  intro B H fh v1 v2 s1 s2 E Q q
  cases s2.int
  obtain ⟨x, hx, hk⟩ := h
  obtain ⟨a, xs, rfl, hs', ha⟩ := ha.rl s1 E
  obtain ⟨w, hw, hdw⟩ := dpAll_atI ha hx
  exact ⟨_, _, n, w, rfl, rfl, hs', hw, q w (.d x) hs B H ex_refl ⟨w, rfl, hdw⟩ E hk⟩
/-- o[e] = v, o a list of one's own -/
theorem nt_setM (h : WE K te cs hs fun c h1 => IsD c fun x => WE K ta cs h1 fun co h2 => ∃ a, co = .r a ∧ WE K tb cs h2 fun ci h3 => IsI ci fun n => At h3 a fun i mo => IsL mo fun ds => IxJ ds n fun j => Nt K B0 fh D.nx cs (h3.set i (a, .lst (ds.set j x)))) :
    Nt K B0 fh (tAsg te (gSub ta tb rSetL) D) cs hs := by
  intro B H σ xx s E
  refine h B H σ fh s E _ fun v c h1 B1 H1 x1 s1 E1 ⟨x, e, h2⟩ => ?_
  subst e
  refine h2 B1 H1 σ fh (s.mono x1) E1 _ fun vo co h2 B2 H2 x2 s2 E2 ⟨a, e, h3⟩ => ?_
  subst e
  have ev : some vo = some (V.ref a) := s2
  cases ev
  refine h3 B2 H2 σ fh ((s.mono x1).mono x2) E2 _ fun vi ci h3 B3 H3 x3 s3 E3 ⟨n, e, i, mo, hi, ds, e2, j, hj, hk⟩ => ?_
  subst e
  subst e2
  cases s3.int
  obtain ⟨_, o, ho, xs, e4, hd⟩ := E3.own hi
  subst e4
  refine ⟨a, xs, n, j, rfl, rfl, ho, by rw [hd.len]; exact hj, hk B3 _ σ (ex_trans xx (ex_trans x1 (ex_trans x2 x3))) (((s.mono x1).mono x2).mono x3) (E3.upd hi (mok_l (dpAll_set ((s1.mono x2).mono x3).dp hd)))⟩
/-! ### methods of lists -/
theorem we_append (h : WE K ta cs hs fun co h1 => ∃ a, co = .r a ∧ At h1 a fun _ mo => IsL mo fun _ => WE K te cs h1 fun c h2 => IsD c fun x => At h2 a fun i mo => IsL mo fun ds => Less ds.length (k (.d .none) (h2.set i (a, .lst (ds ++ [x]))))) :
    WE K (tBM K "list" rAppend ta (tCons te tNil)) cs hs k := by
  intro B H σ fh s E Q q
  refine h B H σ fh s E _ fun vo co h1 B1 H1 x1 s1 E1 ⟨a, e, i0, mo0, hi0, ds0, e0, h2⟩ => ?_
  subst e
  subst e0
  have ev : some vo = some (V.ref a) := s1
  cases ev
  obtain ⟨_, o0, ho0, xs0, e00, _⟩ := E1.own hi0
  subst e00
  refine ⟨.inl ⟨rfl, xs0, .inl (.inl ho0)⟩, h2 B1 H1 σ fh (s.mono x1) E1 _ fun v c h2 B2 H2 x2 s2 E2 ⟨x, e, i, mo, hi, ds, e2, hz, hk⟩ => ?_⟩
  subst e
  subst e2
  obtain ⟨_, o, ho, xs, e4, hd⟩ := E2.own hi
  subst e4
  exact ⟨a, xs, v, rfl, rfl, ho, Evl.sz_lt (by rw [hd.len]; exact hz), q .non (.d .none) _ B2 _ (ex_trans x1 x2) ⟨_, rfl, .non⟩ (E2.upd hi (mok_l (dpAll_snoc s2.dp hd))) hk⟩
/-- xs.extend(ys), both one's own -/
theorem we_extend (h : WE K ta cs hs fun co h1 => ∃ a, co = .r a ∧ At h1 a fun _ mo => IsL mo fun _ => WE K te cs h1 fun c h2 => ∃ b, c = .r b ∧ At h2 b fun _ mo2 => IsL mo2 fun es => At h2 a fun i mo => IsL mo fun ds => ds.length + es.length ≤ 100000 ∧ k (.d .none) (h2.set i (a, .lst (ds ++ es)))) :
    WE K (tBM K "list" rExtend ta (tCons te tNil)) cs hs k := by
  intro B H σ fh s E Q q
  refine h B H σ fh s E _ fun vo co h1 B1 H1 x1 s1 E1 ⟨a, e, i0, mo0, hi0, ds0, e0, h2⟩ => ?_
  subst e
  subst e0
  have ev : some vo = some (V.ref a) := s1
  cases ev
  obtain ⟨_, o0, ho0, xs0, e00, _⟩ := E1.own hi0
  subst e00
  refine ⟨.inl ⟨rfl, xs0, .inl (.inl ho0)⟩, h2 B1 H1 σ fh (s.mono x1) E1 _ fun v c h2 B2 H2 x2 s2 E2 ⟨b, e, j, mo2, hj, es, e3, i, mo, hi, ds, e2, hz, hk⟩ => ?_⟩
  subst e
  subst e2
  subst e3
  have ev : some v = some (V.ref b) := s2
  cases ev
  obtain ⟨_, o, ho, xs, e4, hd⟩ := E2.own hi
  subst e4
  obtain ⟨_, o', ho', ys, e5, hd'⟩ := E2.own hj
  subst e5
  exact ⟨a, b, xs, ys, rfl, rfl, ho, ho', Evl.sz_of (by rw [hd.len, hd'.len]; exact hz), q .non (.d .none) _ B2 _ (ex_trans x1 x2) ⟨_, rfl, .non⟩ (E2.upd hi (mok_l (dpAll_app hd hd'))) hk⟩
theorem we_pop (h : WE K ta cs hs fun co h1 => ∃ a, co = .r a ∧ At h1 a fun i mo => IsL mo fun ds => ∃ x, ds[ds.length - 1]? = some x ∧ k (.d x) (h1.set i (a, .lst ds.dropLast))) : WE K (tBM0 K "list" rPop ta) cs hs k := by
  intro B H σ fh s E Q q
  refine h B H σ fh s E _ fun vo co h1 B1 H1 x1 s1 E1 ⟨a, e, i, mo, hi, ds, e0, x, hx, hk⟩ => ?_
  subst e
  subst e0
  have ev : some vo = some (V.ref a) := s1
  cases ev
  obtain ⟨_, o, ho, xs, e4, hd⟩ := E1.own hi
  subst e4
  obtain ⟨v, hv, hdv⟩ := dpAll_at hd hx
  rw [← hd.len] at hv
  exact ⟨.inl ⟨rfl, xs, .inl (.inl ho)⟩, a, xs, v, rfl, rfl, ho, hv, q v (.d x) _ B1 _ x1 ⟨_, rfl, hdv⟩ (E1.upd hi (mok_l (dpAll_dropLast hd))) hk⟩
theorem we_pop0 (h : WE K ta cs hs fun co h1 => ∃ a, co = .r a ∧ At h1 a fun _ mo => IsL mo fun _ => WE K te cs h1 fun ci h2 => ci = .d (.int 0) ∧ At h2 a fun i mo => IsL mo fun ds => ∃ x r, ds = x :: r ∧ k (.d x) (h2.set i (a, .lst r))) : WE K (tBM K "list" rPopAt ta (tCons te tNil)) cs hs k := by
  intro B H σ fh s E Q q
  refine h B H σ fh s E _ fun vo co h1 B1 H1 x1 s1 E1 ⟨a, e, i0, mo0, hi0, ds0, e0, h2⟩ => ?_
  subst e
  subst e0
  have ev : some vo = some (V.ref a) := s1
  cases ev
  obtain ⟨_, o0, ho0, xs0, e00, _⟩ := E1.own hi0
  subst e00
  refine ⟨.inl ⟨rfl, xs0, .inl (.inl ho0)⟩, h2 B1 H1 σ fh (s.mono x1) E1 _ fun v c h2 B2 H2 x2 s2 E2 ⟨e, i, mo, hi, ds, e2, x, r, e3, hk⟩ => ?_⟩
  subst e
  subst e2
  subst e3
  cases s2.int
  obtain ⟨_, o, ho, xs, e4, hd⟩ := E2.own hi
  subst e4
  cases hd with
  | @cons v' vs' _ _ hd1 hd2 => exact ⟨a, v' :: vs', 0, 0, v', rfl, rfl, ho, by decide, by decide, by simp [seqIndex?], rfl, q v' (.d x) _ B2 _ (ex_trans x1 x2) ⟨_, rfl, hd1⟩ (E2.upd hi (mok_l hd2)) hk⟩
/-! ### lists joined -/
def rCatS (K : PySem.W.Frag) : R2 := fun x y H Q => ∃ a b xs ys, x = .ref a ∧ y = .ref b ∧ SqL K H a xs ∧ SqL K H b ys ∧ xs.length + ys.length ≤ sizeLine ∧ ∀ p, H p = none → Q (.ref p) (upd H p (.lst (xs ++ ys)))
theorem op_catS {X : Cx} : OpR X (binaryOp .Add) (rCatS X.K) := by
  intro pins s σ H x y v u Q I rx ry h
  obtain ⟨a, b, xs, ys, rfl, rfl, h1, h2, hz, q⟩ := h
  cases rx
  cases ry
  obtain ⟨is1, r1, p1, z1⟩ := I.list h1
  obtain ⟨is2, r2, p2, z2⟩ := I.list h2
  obtain ⟨⟨cls, dd, data, sl⟩, n, ho, hc, _, hd⟩ := p1
  obtain ⟨⟨cls2, dd2, data2, sl2⟩, n2, ho2, hc2, _, hd2⟩ := p2
  simp only at hc hd hc2 hd2
  subst hc hd hc2 hd2
  have e : is1.toArray ++ is2.toArray = (is1 ++ is2).toArray := by simp
  have hl1 := r1.length
  have hl2 := r2.length
  refine concat_meets ⟨_, ho, rfl⟩ ⟨_, ho2, rfl⟩ noFill_list_add seq_list_add PySem.F.slot_list_add PySem.F.entry_list_add (PySem.F.args_list_add_2 _ _)
    (list_addW a b is1.toArray is2.toArray n n2 dd dd2 sl sl2 (by rw [List.size_toArray, List.size_toArray]; omega)) ⟨ho, ho2, ?_⟩
  rw [e]
  exact ⟨.ref _, _, I.lnew (t' := s.toks) (r1.append r2) (by rw [List.length_append]; omega), rfl, q _ I.fresh⟩
theorem rd_cat {c1 c2 : C} {ds es : List PyData} (h1 : As hs c1 (.list ds)) (h2 : As hs c2 (.list es)) (hz : ds.length + es.length ≤ 100000) (hk : ∀ a, k (.r a) ((a, .lst (ds ++ es)) :: hs)) : RD K (rCatS K) c1 c2 hs k := by
  intro B H fh v1 v2 s1 s2 E Q q
  obtain ⟨a, xs, rfl, hq, ha⟩ := h1.rl s1 E
  obtain ⟨b, ys, rfl, hq2, ha2⟩ := h2.rl s2 E
  exact ⟨a, b, xs, ys, rfl, rfl, hq, hq2, Evl.sz_of (by rw [ha.len, ha2.len]; exact hz), fun p hp => q (.ref p) (.r p) _ B _ ex_refl rfl (E.newM hp (mok_l (dpAll_app ha ha2))) (hk p)⟩
/-- joined and never changed -/
theorem rd_catD {c1 c2 : C} {ds es : List PyData} (h1 : As hs c1 (.list ds)) (h2 : As hs c2 (.list es)) (hz : ds.length + es.length ≤ 100000) (hk : k (.d (.list (ds ++ es))) hs) : RD K (rCatS K) c1 c2 hs k := by
  intro B H fh v1 v2 s1 s2 E Q q
  obtain ⟨a, xs, rfl, hq, ha⟩ := h1.rl s1 E
  obtain ⟨b, ys, rfl, hq2, ha2⟩ := h2.rl s2 E
  refine ⟨a, b, xs, ys, rfl, rfl, hq, hq2, Evl.sz_of (by rw [ha.len, ha2.len]; exact hz), fun p hp => q (.ref p) (.d (.list (ds ++ es))) _ _ _ (Evl.Ex.new (free_of E.bh hp)) ⟨_, rfl, .lst (.inl (.inl upd_same)) (dpAll_mono (Evl.Ex.new (free_of E.bh hp)) _ _ (dpAll_app ha ha2))⟩ (E.newF hp) hk⟩
/-! ### comparisons -/
def scalD : PyData → Option V
  | .none => some .non
  | .bool b => some (.bl b)
  | .int i => some (.int i)
  | .str s => some (.str s)
  | _ => none
theorem dp_scal {v u : V} {d : PyData} (h : Dp K B v d) (e : scalD d = some u) : v = u := by
  cases h <;> first | (cases e; rfl) | cases e
theorem rd_eq {d1 d2 : PyData} {u1 u2 : V} (e1 : scalD d1 = some u1) (e2 : scalD d2 = some u2) (hs' : scal u1 u2 = true) (hk : k (.d (.bool (decide (u1 = u2)))) hs) : RD K rEq (.d d1) (.d d2) hs k := by
  intro B H fh v1 v2 s1 s2 E Q q
  rw [dp_scal s1.dp e1, dp_scal s2.dp e2]
  exact ⟨hs', q _ (.d (.bool (decide (u1 = u2)))) hs B H ex_refl ⟨_, rfl, .bl _⟩ E hk⟩
theorem rd_ne {d1 d2 : PyData} {u1 u2 : V} (e1 : scalD d1 = some u1) (e2 : scalD d2 = some u2) (hs' : scal u1 u2 = true) (hk : k (.d (.bool (!decide (u1 = u2)))) hs) : RD K rNe (.d d1) (.d d2) hs k := by
  intro B H fh v1 v2 s1 s2 E Q q
  rw [dp_scal s1.dp e1, dp_scal s2.dp e2]
  exact ⟨hs', q _ (.d (.bool (!decide (u1 = u2)))) hs B H ex_refl ⟨_, rfl, .bl _⟩ E hk⟩
theorem rd_eqD {c1 c2 : C} {d1 d2 : PyData} (a1 : As hs c1 d1) (a2 : As hs c2 d2) (s1 : SeqAt.shaped d1 = true) (s2 : SeqAt.shaped d2 = true) (hk : k (.d (.bool (PyData.eqv d1 d2))) hs) : RD K (rEqD K) c1 c2 hs k := by
  intro B H fh v1 v2 l1 l2 E Q q
  exact ⟨d1, d2, a1.dp l1 E, a2.dp l2 E, s1, s2, q _ (.d (.bool (PyData.eqv d1 d2))) hs B H ex_refl ⟨_, rfl, .bl _⟩ E hk⟩
theorem rd_neD {c1 c2 : C} {d1 d2 : PyData} (a1 : As hs c1 d1) (a2 : As hs c2 d2) (s1 : SeqAt.shaped d1 = true) (s2 : SeqAt.shaped d2 = true) (hk : k (.d (.bool (!PyData.eqv d1 d2))) hs) : RD K (rNeD K) c1 c2 hs k := by
  intro B H fh v1 v2 l1 l2 E Q q
  exact ⟨d1, d2, a1.dp l1 E, a2.dp l2 E, s1, s2, q _ (.d (.bool (!PyData.eqv d1 d2))) hs B H ex_refl ⟨_, rfl, .bl _⟩ E hk⟩
/-- xs != [] and xs == [], whatever xs holds -/
def rNeL (K : PySem.W.Frag) : R2 := fun x y H Q => ∃ a b xs, x = .ref a ∧ y = .ref b ∧ SqL K H a xs ∧ SqL K H b [] ∧ Q (.bl (!xs.isEmpty)) H
def rEqL (K : PySem.W.Frag) : R2 := fun x y H Q => ∃ a b xs, x = .ref a ∧ y = .ref b ∧ SqL K H a xs ∧ SqL K H b [] ∧ Q (.bl xs.isEmpty) H
def isNn : PyData → Bool
  | .none => true
  | _ => false
theorem dp_nn : ∀ {v : V} {d : PyData}, Dp K B v d → decide (v = .non) = isNn d
  | _, _, .non => rfl
  | _, _, .bl _ => rfl
  | _, _, .int _ => rfl
  | _, _, .str _ => rfl
  | _, _, .lst _ _ => rfl
  | _, _, .tup _ _ => rfl
theorem rd_isN {d : PyData} (hk : k (.d (.bool (isNn d))) hs) : RD K rIsN (.d d) (.d .none) hs k := by
  intro B H fh v1 v2 s1 s2 E Q q
  have h2 := s2.dp
  cases h2
  refine ⟨rfl, ?_⟩
  rw [dp_nn s1.dp]
  exact q _ (.d (.bool (isNn d))) hs B H ex_refl ⟨_, rfl, .bl _⟩ E hk
theorem rd_notN {d : PyData} (hk : k (.d (.bool (!isNn d))) hs) : RD K rNotN (.d d) (.d .none) hs k := by
  intro B H fh v1 v2 s1 s2 E Q q
  have h2 := s2.dp
  cases h2
  refine ⟨rfl, ?_⟩
  rw [dp_nn s1.dp]
  exact q _ (.d (.bool (!isNn d))) hs B H ex_refl ⟨_, rfl, .bl _⟩ E hk
/-! in, not in: data in a list or a tuple of data -/
def seqD : PyData → Option (List PyData)
  | .list ds => some ds
  | .tuple ds => some ds
  | _ => none
def rInS (K : PySem.W.Frag) : R2 := fun x y H Q => ∃ d e ds, Dp K H x d ∧ Dp K H y e ∧ seqD e = some ds ∧ SeqAt.shaped d = true ∧ SeqAt.shaped e = true ∧ Q (.bl (ds.any fun z => PyData.eqv z d)) H
def rNotInS (K : PySem.W.Frag) : R2 := fun x y H Q => ∃ d e ds, Dp K H x d ∧ Dp K H y e ∧ seqD e = some ds ∧ SeqAt.shaped d = true ∧ SeqAt.shaped e = true ∧ Q (.bl (!ds.any fun z => PyData.eqv z d)) H
theorem op_inS {X : Cx} (hu : X.A.units + 65 < cLine) : OpR X (compareOp .In) (rInS X.K) := by
  intro pins s σ H x y v u Q I rx ry h
  obtain ⟨d, e, ds, hd, he, hq, sd, se, q⟩ := h
  obtain ⟨as, r1⟩ := Dp.reads I d x v hd rx
  obtain ⟨bs, r2⟩ := Dp.reads I e y u he ry
  cases e with
  | list es =>
    cases hq
    exact SeqAt.in_list_reads r2 r1 (SeqAt.canLay_of_shaped se) (SeqAt.canLay_of_shaped sd) (room_in_shaped sd hu) ⟨.bl _, H, I, rfl, q⟩
  | tuple es =>
    cases hq
    exact SeqAt.in_tuple_reads r2 r1 (SeqAt.canLay_of_shaped se) (SeqAt.canLay_of_shaped sd) (room_in_shaped sd hu) ⟨.bl _, H, I, rfl, q⟩
  | _ => cases hq
theorem op_notInS {X : Cx} (hu : X.A.units + 65 < cLine) : OpR X (compareOp .NotIn) (rNotInS X.K) := by
  intro pins s σ H x y v u Q I rx ry h
  obtain ⟨d, e, ds, hd, he, hq, sd, se, q⟩ := h
  obtain ⟨as, r1⟩ := Dp.reads I d x v hd rx
  obtain ⟨bs, r2⟩ := Dp.reads I e y u he ry
  cases e with
  | list es =>
    cases hq
    exact SeqAt.notIn_list_reads r2 r1 (SeqAt.canLay_of_shaped se) (SeqAt.canLay_of_shaped sd) (room_in_shaped sd hu) ⟨.bl _, H, I, rfl, q⟩
  | tuple es =>
    cases hq
    exact SeqAt.notIn_tuple_reads r2 r1 (SeqAt.canLay_of_shaped se) (SeqAt.canLay_of_shaped sd) (room_in_shaped sd hu) ⟨.bl _, H, I, rfl, q⟩
  | _ => cases hq
theorem rd_inS {c1 c2 : C} {d e : PyData} {ds : List PyData} (a1 : As hs c1 d) (a2 : As hs c2 e) (hq : seqD e = some ds) (s1 : SeqAt.shaped d = true) (s2 : SeqAt.shaped e = true) (hk : k (.d (.bool (ds.any fun z => PyData.eqv z d))) hs) : RD K (rInS K) c1 c2 hs k := by
  intro B H fh v1 v2 l1 l2 E Q q
  exact ⟨d, e, ds, a1.dp l1 E, a2.dp l2 E, hq, s1, s2, q _ (.d (.bool _)) hs B H ex_refl ⟨_, rfl, .bl _⟩ E hk⟩
theorem rd_notInS {c1 c2 : C} {d e : PyData} {ds : List PyData} (a1 : As hs c1 d) (a2 : As hs c2 e) (hq : seqD e = some ds) (s1 : SeqAt.shaped d = true) (s2 : SeqAt.shaped e = true) (hk : k (.d (.bool (!ds.any fun z => PyData.eqv z d))) hs) : RD K (rNotInS K) c1 c2 hs k := by
  intro B H fh v1 v2 l1 l2 E Q q
  exact ⟨d, e, ds, a1.dp l1 E, a2.dp l2 E, hq, s1, s2, q _ (.d (.bool _)) hs B H ex_refl ⟨_, rfl, .bl _⟩ E hk⟩
/-! ### built-ins -/
variable {r : List V → Hp → VK → Prop} {ds : List PyData} {d : PyData}
/-- what a built-in makes of a list, of a tuple -/
def BL (K : PySem.W.Frag) (r : List V → Hp → VK → Prop) (ds : List PyData) (d : PyData) : Prop := ∀ (B H : Hp) (v : V), Ex B H → RL K B H v ds → ∀ Q : VK, (∀ v2 B2 H2, Ex B B2 → (∀ z, En K B H z → En K B2 H2 z) → Dp K B2 v2 d → Q v2 H2) → r [v] H Q
def BT (K : PySem.W.Frag) (r : List V → Hp → VK → Prop) (ds : List PyData) (d : PyData) : Prop := ∀ (B H : Hp) (v : V), Ex B H → RT K B H v ds → ∀ Q : VK, (∀ v2 B2 H2, Ex B B2 → (∀ z, En K B H z → En K B2 H2 z) → Dp K B2 v2 d → Q v2 H2) → r [v] H Q
theorem ra_L {c : C} (ha : As hs c (.list ds)) (h : BL K r ds d) (hk : k (.d d) hs) : RA K r [c] hs k := by
  intro B H fh vs sv E Q q
  match vs, sv with
  | [v], ⟨s1, _⟩ => exact h B H v E.bh (ha.rl s1 E) Q fun v2 B2 H2 x2 p hd => q v2 (.d d) hs B2 H2 x2 ⟨_, rfl, hd⟩ (p _ E) hk
theorem ra_T (h : BT K r ds d) (hk : k (.d d) hs) : RA K r [.d (.tuple ds)] hs k := by
  intro B H fh vs sv E Q q
  match vs, sv with
  | [v], ⟨s1, _⟩ => exact h B H v E.bh (rt_of s1 E) Q fun v2 B2 H2 x2 p hd => q v2 (.d d) hs B2 H2 x2 ⟨_, rfl, hd⟩ (p _ E) hk
def rLenSq (K : PySem.W.Frag) : List V → Hp → VK → Prop := fun xs H Q => ∃ p ys, xs = [.ref p] ∧ (SqL K H p ys ∨ SqT K H p ys) ∧ Q (.int ys.length) H
theorem bl_len : BL K (rLenSq K) ds (.int ds.length) := by
  rintro B H v bh ⟨a, xs, rfl, hs, hd⟩ Q q
  refine ⟨a, xs, rfl, .inl hs, ?_⟩
  rw [hd.len]
  exact q _ B H ex_refl (fun _ E => E) (.int _)
theorem bt_len : BT K (rLenSq K) ds (.int ds.length) := by
  rintro B H v bh ⟨a, xs, rfl, hs, hd⟩ Q q
  refine ⟨a, xs, rfl, .inr hs, ?_⟩
  rw [hd.len]
  exact q _ B H ex_refl (fun _ E => E) (.int _)
theorem dpAll_ints : ∀ {ns : List Int} {xs : List V}, DpAll K B xs (ns.map PyData.int) → xs = ns.map V.int
  | [], _, h => by cases h; rfl
  | n :: ns, _, h => by
    cases h with
    | cons h1 h2 =>
      cases h1
      rw [dpAll_ints h2]
      rfl
theorem dpAll_bools : ∀ {ns : List Bool} {xs : List V}, DpAll K B xs (ns.map PyData.bool) → xs = ns.map V.bl
  | [], _, h => by cases h; rfl
  | n :: ns, _, h => by
    cases h with
    | cons h1 h2 =>
      cases h1
      rw [dpAll_bools h2]
      rfl
theorem bl_sum {ns : List Int} : BL K (rSum K) (ns.map PyData.int) (.int ns.sum) := by
  rintro B H v bh ⟨a, xs, rfl, hs, hd⟩ Q q
  rw [dpAll_ints hd] at hs
  exact ⟨a, ns, rfl, hs, q _ B H ex_refl (fun _ E => E) (.int _)⟩
def rAllB (K : PySem.W.Frag) (f : List Bool → Bool) : List V → Hp → VK → Prop := fun xs H Q => ∃ a bs, xs = [V.ref a] ∧ SqL K H a (bs.map V.bl) ∧ Q (.bl (f bs)) H
theorem bl_all {f : List Bool → Bool} {ns : List Bool} : BL K (rAllB K f) (ns.map PyData.bool) (.bool (f ns)) := by
  rintro B H v bh ⟨a, xs, rfl, hs, hd⟩ Q q
  rw [dpAll_bools hd] at hs
  exact ⟨a, ns, rfl, hs, q _ B H ex_refl (fun _ E => E) (.bl _)⟩
def rTupleOf (K : PySem.W.Frag) : List V → Hp → VK → Prop := fun xs H Q => ∃ p ys, xs = [.ref p] ∧ ((SqL K H p ys ∧ ∀ l, H l = none → Q (.ref l) (upd H l (.tup ys))) ∨ (SqT K H p ys ∧ Q (.ref p) H))
theorem bl_tuple : BL K (rTupleOf K) ds (.tuple ds) := by
  rintro B H v bh ⟨a, xs, rfl, hs, hd⟩ Q q
  refine ⟨a, xs, rfl, .inl ⟨hs, fun l hl => ?_⟩⟩
  exact q _ (upd B l (.tup xs)) _ (Evl.Ex.new (free_of bh hl)) (fun z E => E.newF hl) (.tup (.inl (.inl upd_same)) (dpAll_mono (Evl.Ex.new (free_of bh hl)) _ _ hd))
def rListOf (K : PySem.W.Frag) : List V → Hp → VK → Prop := fun xs H Q => ∃ p ys, xs = [.ref p] ∧ (SqL K H p ys ∨ SqT K H p ys) ∧ ∀ l, H l = none → Q (.ref l) (upd H l (.lst ys))
theorem ra_listOf {c : C} (ha : As hs c (.list ds) ∨ c = .d (.tuple ds)) (hk : ∀ a, k (.r a) ((a, .lst ds) :: hs)) : RA K (rListOf K) [c] hs k := by
  intro B H fh vs sv E Q q
  match vs, sv with
  | [v], ⟨s1, _⟩ =>
    rcases ha with ha | rfl
    · obtain ⟨a, xs, rfl, hq, hd⟩ := ha.rl s1 E
      exact ⟨a, xs, rfl, .inl hq, fun p hp => q (.ref p) (.r p) _ B _ ex_refl rfl (E.newM hp (mok_l hd)) (hk p)⟩
    · obtain ⟨a, xs, rfl, hq, hd⟩ := rt_of s1 E
      exact ⟨a, xs, rfl, .inr hq, fun p hp => q (.ref p) (.r p) _ B _ ex_refl rfl (E.newM hp (mok_l hd)) (hk p)⟩
theorem bl_sorted (h1 : PySem.W.AllAlike ds) (h2 : PySem.W.Sortable ds) (h3 : ∀ d ∈ ds, d.depth ≤ 60) : BL K (rSortD K) ds (.list (ds.mergeSort (PySem.W.dataLe false id))) := by
  rintro B H v bh ⟨a, xs, rfl, hs, hd⟩ Q q
  refine ⟨a, xs, ds, rfl, hs, dpAll_mono bh _ _ hd, h1, h2, h3, fun p bs hp pm hw => ?_⟩
  have hb : DpAll K B (bs.map Prod.fst) (ds.mergeSort (PySem.W.dataLe false id)) := by
    rw [← hw]
    exact dpAll_pairs fun b hb => dp_zip hd b (pm.mem_iff.mp hb)
  exact q _ (upd B p (.lst (bs.map Prod.fst))) _ (Evl.Ex.new (free_of bh hp)) (fun z E => E.newF hp) (.lst (.inl (.inl upd_same)) (dpAll_mono (Evl.Ex.new (free_of bh hp)) _ _ hb))
/-! ints -/
def r1I (g : Int → V) : List V → Hp → VK → Prop := fun xs H Q => ∃ i, xs = [.int i] ∧ Q (g i) H
def r2I (g : Int → Int → V) : List V → Hp → VK → Prop := fun xs H Q => ∃ i j, xs = [.int i, .int j] ∧ Q (g i j) H
theorem ra_1I {g : Int → V} {i : Int} (hg : ∀ B, Dp K B (g i) d) (hk : k (.d d) hs) : RA K (r1I g) [.d (.int i)] hs k := by
  intro B H fh vs sv E Q q
  match vs, sv with
  | [v], ⟨s1, _⟩ =>
    cases s1.int
    exact ⟨i, rfl, q _ (.d d) hs B H ex_refl ⟨_, rfl, hg B⟩ E hk⟩
theorem ra_2I {g : Int → Int → V} {i j : Int} (hg : ∀ B, Dp K B (g i j) d) (hk : k (.d d) hs) : RA K (r2I g) [.d (.int i), .d (.int j)] hs k := by
  intro B H fh vs sv E Q q
  match vs, sv with
  | [v, w], ⟨s1, s2, _⟩ =>
    cases s1.int
    cases s2.int
    exact ⟨i, j, rfl, q _ (.d d) hs B H ex_refl ⟨_, rfl, hg B⟩ E hk⟩
def rIntOf : List V → Hp → VK → Prop := fun xs H Q => (∃ i, xs = [.int i] ∧ Q (.int i) H) ∨ ∃ b, xs = [.bl b] ∧ Q (.int (if b then 1 else 0)) H
theorem ra_intB {b : Bool} (hk : k (.d (.int (if b then 1 else 0))) hs) : RA K rIntOf [.d (.bool b)] hs k := by
  intro B H fh vs sv E Q q
  match vs, sv with
  | [v], ⟨s1, _⟩ =>
    cases s1.bl
    exact .inr ⟨b, rfl, q _ (.d (.int (if b then 1 else 0))) hs B H ex_refl ⟨_, rfl, .int _⟩ E hk⟩
def rStrI : List V → Hp → VK → Prop := fun xs H Q => ∃ i : Int, xs = [.int i] ∧ i.natAbs.log2 < 1920 ∧ Q (.str (toString i)) H
theorem ra_strI {i : Int} (hz : i.natAbs.log2 < 1920) (hk : k (.d (.str (toString i))) hs) : RA K rStrI [.d (.int i)] hs k := by
  intro B H fh vs sv E Q q
  match vs, sv with
  | [v], ⟨s1, _⟩ =>
    cases s1.int
    exact ⟨i, rfl, hz, q _ (.d (.str _)) hs B H ex_refl ⟨_, rfl, .str _⟩ E hk⟩
/-- repr of a tuple or list -/
theorem ra_repr {c : C} (ha : As hs c d) (hs' : (∃ ds, d = .tuple ds) ∨ ∃ ds, d = .list ds) (h1 : d.showable = true) (h2 : d.hasDict = false) (h3 : d.depth ≤ 60) (h4 : d.shown.length ≤ sizeLine) (hk : k (.d (.str d.shown)) hs) : RA K (rRepr K) [c] hs k := by
  intro B H fh vs sv E Q q
  match vs, sv with
  | [v], ⟨s1, _⟩ =>
    have hw := ha.dp s1 E
    have hr : ∃ a, v = .ref a := by
      rcases hs' with ⟨ds, rfl⟩ | ⟨ds, rfl⟩
      · cases hw; exact ⟨_, rfl⟩
      · cases hw; exact ⟨_, rfl⟩
    obtain ⟨a, rfl⟩ := hr
    exact ⟨a, d, rfl, hw, h1, h2, h3, h4, q _ (.d (.str d.shown)) hs B H ex_refl ⟨_, rfl, .str _⟩ E hk⟩
end
end Cw
/-! Part 5: dicts, instances, methods. -/
namespace Cw
open PySem PySem.Spec PyProof.Rows L2 Gu
section
variable {κ : Type} [DecidableEq κ]
def valC (kvs : List (κ × C)) (key : κ) : Option C := (kvs.find? fun kv => decide (kv.1 = key)).map (·.2)
def putC (kvs : List (κ × C)) (key : κ) (v : C) : List (κ × C) := if (kvs.any fun kv => decide (kv.1 = key)) = true then kvs.map (fun kv => if kv.1 = key then (kv.1, v) else kv) else kvs ++ [(key, v)]
def dropC (kvs : List (κ × C)) (key : κ) : List (κ × C) := kvs.filter fun kv => decide (kv.1 ≠ key)
def mergeC (kvs more : List (κ × C)) : List (κ × C) := more.foldl (fun acc kv => putC acc kv.1 kv.2) kvs
variable {K : PySem.W.Frag} {B : Hp} {key : κ}
theorem KvOk.len {κ : Type} {K : PySem.W.Frag} {B : Hp} : ∀ {ps : List (κ × V)} {kvs : List (κ × C)}, KvOk K B ps kvs → ps.length = kvs.length
  | [], [], _ => rfl
  | _ :: _, _ :: _, h => by rw [List.length_cons, List.length_cons, KvOk.len h.2.2]
  | [], _ :: _, h => h.elim
  | _ :: _, [], h => h.elim
theorem kv_val : ∀ {ps : List (κ × V)} {kvs : List (κ × C)}, KvOk K B ps kvs → ∀ {c : C}, valC kvs key = some c → ∃ v, valV ps key = some v ∧ Sl K B (some v) c
  | [], [], _, x, h => by cases h
  | p :: ps, q :: qs, ⟨e1, e2, e3⟩, x, h => by
    by_cases e : q.1 = key
    · have hx : q.2 = x := by
        simp only [valC, List.find?_cons, e, decide_true] at h
        exact Option.some.inj h
      exact ⟨p.2, valV_pos (e1.trans e), by rw [← hx]; exact e2⟩
    · have h' : valC qs key = some x := by
        simp only [valC, List.find?_cons, e, decide_false] at h
        exact h
      obtain ⟨v, h1, h2⟩ := kv_val e3 h'
      exact ⟨v, by rw [valV_neg (fun z => e (e1.symm.trans z))]; exact h1, h2⟩
  | [], _ :: _, h, _, _ => h.elim
  | _ :: _, [], h, _, _ => h.elim
theorem kv_any : ∀ {ps : List (κ × V)} {kvs : List (κ × C)}, KvOk K B ps kvs → (ps.any fun kv => decide (kv.1 = key)) = kvs.any fun kv => decide (kv.1 = key)
  | [], [], _ => rfl
  | p :: ps, q :: qs, ⟨e1, _, e3⟩ => by rw [List.any_cons, List.any_cons, e1, kv_any e3]
  | [], _ :: _, h => h.elim
  | _ :: _, [], h => h.elim
theorem valC_any (key : κ) : ∀ kvs : List (κ × C), (kvs.any fun kv => decide (kv.1 = key)) = (valC kvs key).isSome
  | [] => rfl
  | p :: r => by
    rw [List.any_cons]
    by_cases e : p.1 = key
    · simp [valC, List.find?_cons, e]
    · have ih := valC_any key r
      simp only [valC, List.find?_cons, e, decide_false] at ih ⊢
      rw [ih, Bool.false_or]
theorem kv_some {ps : List (κ × V)} {kvs : List (κ × C)} (h : KvOk K B ps kvs) : (valV ps key).isSome = (valC kvs key).isSome := by
  rw [← valV_any, ← valC_any, kv_any h]
theorem kv_none {ps : List (κ × V)} {kvs : List (κ × C)} (h : KvOk K B ps kvs) (e : valC kvs key = none) : valV ps key = none := by
  have := kv_some (key := key) h
  rw [e] at this
  exact Option.not_isSome_iff_eq_none.mp (by rw [this]; decide)
theorem kv_map {v : V} {x : C} (hv : Sl K B (some v) x) : ∀ {ps : List (κ × V)} {kvs : List (κ × C)}, KvOk K B ps kvs → KvOk K B (ps.map fun kv => if kv.1 = key then (kv.1, v) else kv) (kvs.map fun kv => if kv.1 = key then (kv.1, x) else kv)
  | [], [], _ => trivial
  | p :: ps, q :: qs, ⟨e1, e2, e3⟩ => by
    refine ⟨?_, ?_, kv_map hv e3⟩
    · show (if p.1 = key then (p.1, v) else p).1 = (if q.1 = key then (q.1, x) else q).1
      by_cases e : q.1 = key
      · rw [if_pos (e1.trans e), if_pos e]
        exact e1
      · rw [if_neg (fun z => e (e1.symm.trans z)), if_neg e]
        exact e1
    · show Sl K B (some (if p.1 = key then (p.1, v) else p).2) (if q.1 = key then (q.1, x) else q).2
      by_cases e : q.1 = key
      · rw [if_pos (e1.trans e), if_pos e]
        exact hv
      · rw [if_neg (fun z => e (e1.symm.trans z)), if_neg e]
        exact e2
  | [], _ :: _, h => h.elim
  | _ :: _, [], h => h.elim
theorem kv_snoc {v : V} {x : C} (hv : Sl K B (some v) x) : ∀ {ps : List (κ × V)} {kvs : List (κ × C)}, KvOk K B ps kvs → KvOk K B (ps ++ [(key, v)]) (kvs ++ [(key, x)])
  | [], [], _ => ⟨rfl, hv, trivial⟩
  | p :: ps, q :: qs, ⟨e1, e2, e3⟩ => ⟨e1, e2, kv_snoc hv e3⟩
  | [], _ :: _, h => h.elim
  | _ :: _, [], h => h.elim
theorem kv_put {v : V} {x : C} (hv : Sl K B (some v) x) {ps : List (κ × V)} {kvs : List (κ × C)} (h : KvOk K B ps kvs) : KvOk K B (putK ps key v) (putC kvs key x) := by
  unfold putK putC
  rw [kv_any h]
  split
  · exact kv_map hv h
  · exact kv_snoc hv h
theorem kv_drop : ∀ {ps : List (κ × V)} {kvs : List (κ × C)}, KvOk K B ps kvs → KvOk K B (dropK ps key) (dropC kvs key)
  | [], [], _ => trivial
  | p :: ps, q :: qs, ⟨e1, e2, e3⟩ => by
    have ih := kv_drop e3
    unfold dropK dropC at ih ⊢
    by_cases e : q.1 = key
    · rw [List.filter_cons_of_neg (by simpa using e1.trans e), List.filter_cons_of_neg (by simpa using e)]
      exact ih
    · rw [List.filter_cons_of_pos (by simpa using fun z => e (e1.symm.trans z)), List.filter_cons_of_pos (by simpa using e)]
      exact ⟨e1, e2, ih⟩
  | [], _ :: _, h => h.elim
  | _ :: _, [], h => h.elim
theorem putC_len (kvs : List (κ × C)) (key : κ) (c : C) : (putC kvs key c).length ≤ kvs.length + 1 := by
  unfold putC
  split
  · rw [List.length_map]; omega
  · rw [List.length_append, List.length_singleton]; omega
end
def keyD : Key → PyData
  | .inl i => .int i
  | .inr s => .str s
def dKey : PyData → Option Key
  | .int i => some (.inl i)
  | .str s => some (.inr s)
  | _ => none
theorem dp_key {K : PySem.W.Frag} {B : Hp} {v : V} : ∀ {key : Key}, Dp K B v (keyD key) → v = kV key
  | .inl _, h => by cases h; rfl
  | .inr _, h => by cases h; rfl
theorem dKey_eq : ∀ {d : PyData} {key : Key}, dKey d = some key → d = keyD key
  | .int _, _, h => by cases h; rfl
  | .str _, _, h => by cases h; rfl
  | .none, _, h => by cases h
  | .bool _, _, h => by cases h
  | .list _, _, h => by cases h
  | .tuple _, _, h => by cases h
  | .dict _, _, h => by cases h
/-- a key: an int or a text -/
def IsK (c : C) (k : Key → Prop) : Prop := ∃ d key, c = .d d ∧ dKey d = some key ∧ k key
theorem isKI {i : Int} {k : Key → Prop} (h : k (.inl i)) : IsK (.d (.int i)) k := ⟨_, _, rfl, rfl, h⟩
theorem isKS {i : Str} {k : Key → Prop} (h : k (.inr i)) : IsK (.d (.str i)) k := ⟨_, _, rfl, rfl, h⟩
section
variable {K : PySem.W.Frag} {B H : Hp} {cs : List C} {hs fh : List HC} {k : KC} {ta tb te tl td ty tx tv tk : TE} {tr : TA} {B0 : Hp} {D : Ends} {g : TG} {tt : TT} {wi : TI}
theorem Sl.key {v : V} {d : PyData} {key : Key} (h : Sl K B (some v) (.d d)) (e : dKey d = some key) : v = kV key := by
  obtain rfl := dKey_eq e
  exact dp_key h.dp
/-! {} -/
theorem we_dnew (hk : ∀ a, k (.r a) ((a, .dic []) :: hs)) : WE K tDNewK cs hs k := fun B H σ fh s E Q q p hp => q (.ref p) (.r p) _ B _ ex_refl rfl (E.newM hp (mok_d (show KvOk K B [] [] from trivial))) (hk p)
theorem we_dnewT (hk : ∀ a, k (.r a) ((a, .dit []) :: hs)) : WE K tDNewT cs hs k := fun B H σ fh s E Q q p hp => q (.ref p) (.r p) _ B _ ex_refl rfl (E.newM hp (mok_t (show KvOk K B [] [] from trivial))) (hk p)
/-! d[e] -/
theorem we_dget (h : WE K td cs hs fun co h1 => ∃ a, co = .r a ∧ WE K ty cs h1 fun c h2 => IsK c fun key => At h2 a fun _ mo => IsDi mo fun kvs => ∃ x, valC kvs key = some x ∧ k x h2) : WE K (tDGet td ty) cs hs k := by
  intro B H σ fh s E Q q
  refine h B H σ fh s E _ fun vo co h1 B1 H1 x1 s1 E1 ⟨a, e, h2⟩ => ?_
  subst e
  have ev : some vo = some (V.ref a) := s1
  cases ev
  refine h2 B1 H1 σ fh (s.mono x1) E1 _ fun v c h2 B2 H2 x2 s2 E2 ⟨d, key, e, ek, i, mo, hi, kvs, e2, x, hx, hk⟩ => ?_
  subst e
  subst e2
  have := s2.key ek
  subst this
  obtain ⟨_, o, ho, ps, e4, hd⟩ := E2.own hi
  subst e4
  obtain ⟨u, hu, su⟩ := kv_val hd hx
  refine ⟨a, u, rfl, ?_, q u x h2 B2 H2 (ex_trans x1 x2) su E2 hk⟩
  have gg : DGet H2 a (kV key) (valV ps key) := DGet.k ho
  rw [hu] at gg
  exact gg
/-! e in d, e not in d -/
theorem we_din (h : WE K ty cs hs fun c h1 => IsK c fun key => WE K td cs h1 fun co h2 => ∃ a, co = .r a ∧ At h2 a fun _ mo => IsDi mo fun kvs => k (.d (.bool (valC kvs key).isSome)) h2) : WE K (tDIn ty td) cs hs k := by
  intro B H σ fh s E Q q
  refine h B H σ fh s E _ fun v c h1 B1 H1 x1 s1 E1 ⟨d, key, e, ek, h2⟩ => ?_
  subst e
  have := s1.key ek
  subst this
  refine h2 B1 H1 σ fh (s.mono x1) E1 _ fun vo co h2 B2 H2 x2 s2 E2 ⟨a, e, i, mo, hi, kvs, e2, hk⟩ => ?_
  subst e
  subst e2
  have ev : some vo = some (V.ref a) := s2
  cases ev
  obtain ⟨_, o, ho, ps, e4, hd⟩ := E2.own hi
  subst e4
  refine ⟨a, _, rfl, DGet.k ho, ?_⟩
  rw [kv_some hd]
  exact q _ (.d (.bool _)) h2 B2 H2 (ex_trans x1 x2) ⟨_, rfl, .bl _⟩ E2 hk
theorem we_dnotin (h : WE K ty cs hs fun c h1 => IsK c fun key => WE K td cs h1 fun co h2 => ∃ a, co = .r a ∧ At h2 a fun _ mo => IsDi mo fun kvs => k (.d (.bool (!(valC kvs key).isSome))) h2) : WE K (tDNotIn ty td) cs hs k := by
  intro B H σ fh s E Q q
  refine h B H σ fh s E _ fun v c h1 B1 H1 x1 s1 E1 ⟨d, key, e, ek, h2⟩ => ?_
  subst e
  have := s1.key ek
  subst this
  refine h2 B1 H1 σ fh (s.mono x1) E1 _ fun vo co h2 B2 H2 x2 s2 E2 ⟨a, e, i, mo, hi, kvs, e2, hk⟩ => ?_
  subst e
  subst e2
  have ev : some vo = some (V.ref a) := s2
  cases ev
  obtain ⟨_, o, ho, ps, e4, hd⟩ := E2.own hi
  subst e4
  refine ⟨a, _, rfl, DGet.k ho, ?_⟩
  rw [kv_some hd]
  exact q _ (.d (.bool _)) h2 B2 H2 (ex_trans x1 x2) ⟨_, rfl, .bl _⟩ E2 hk
/-! dicts with tuple keys -/
theorem we_dinT (h : WE K ty cs hs fun c h1 => ∃ key, c = .k key ∧ WE K td cs h1 fun co h2 => ∃ a, co = .r a ∧ At h2 a fun _ mo => IsDt mo fun kvs => k (.d (.bool (valC kvs key).isSome)) h2) : WE K (tDIn ty td) cs hs k := by
  intro B H σ fh s E Q q
  refine h B H σ fh s E _ fun v c h1 B1 H1 x1 s1 E1 ⟨key, e, h2⟩ => ?_
  subst e
  obtain ⟨pk, ep, hp⟩ := s1
  cases ep
  refine h2 B1 H1 σ fh (s.mono x1) E1 _ fun vo co h2 B2 H2 x2 s2 E2 ⟨a, e, i, mo, hi, kvs, e2, hk⟩ => ?_
  subst e
  subst e2
  have ev : some vo = some (V.ref a) := s2
  cases ev
  obtain ⟨_, o, ho, ps, e4, hd⟩ := E2.own hi
  subst e4
  refine ⟨a, _, rfl, DGet.t ho (E2.bh _ _ (x2 _ _ hp)), ?_⟩
  rw [kv_some hd]
  exact q _ (.d (.bool _)) h2 B2 H2 (ex_trans x1 x2) ⟨_, rfl, .bl _⟩ E2 hk
theorem we_dnotinT (h : WE K ty cs hs fun c h1 => ∃ key, c = .k key ∧ WE K td cs h1 fun co h2 => ∃ a, co = .r a ∧ At h2 a fun _ mo => IsDt mo fun kvs => k (.d (.bool (!(valC kvs key).isSome))) h2) : WE K (tDNotIn ty td) cs hs k := by
  intro B H σ fh s E Q q
  refine h B H σ fh s E _ fun v c h1 B1 H1 x1 s1 E1 ⟨key, e, h2⟩ => ?_
  subst e
  obtain ⟨pk, ep, hp⟩ := s1
  cases ep
  refine h2 B1 H1 σ fh (s.mono x1) E1 _ fun vo co h2 B2 H2 x2 s2 E2 ⟨a, e, i, mo, hi, kvs, e2, hk⟩ => ?_
  subst e
  subst e2
  have ev : some vo = some (V.ref a) := s2
  cases ev
  obtain ⟨_, o, ho, ps, e4, hd⟩ := E2.own hi
  subst e4
  refine ⟨a, _, rfl, DGet.t ho (E2.bh _ _ (x2 _ _ hp)), ?_⟩
  rw [kv_some hd]
  exact q _ (.d (.bool _)) h2 B2 H2 (ex_trans x1 x2) ⟨_, rfl, .bl _⟩ E2 hk
def Unk (cl : List C) (k : List Key → Prop) : Prop := ∃ ks, unkeys cl = some ks ∧ Nat.ble ks.length 100000 = true ∧ k ks
theorem unk {cl : List C} {ks : List Key} {k : List Key → Prop} (e : unkeys cl = some ks) (hz : Nat.ble ks.length 100000 = true) (h : k ks) : Unk cl k := ⟨ks, e, hz, h⟩
theorem we_dinTt (h : WA K tr cs hs fun cl h1 => Unk cl fun key => WE K td cs h1 fun co h2 => ∃ a, co = .r a ∧ At h2 a fun _ mo => IsDt mo fun kvs => k (.d (.bool (valC kvs key).isSome)) h2) : WE K (tDIn (tTup tr) td) cs hs k :=
  we_dinT (we_tupK fun B H σ fh s E Q q => h B H σ fh s E Q fun vs cl h2 B2 H2 x2 s2 E2 ⟨ks, e, hz, hk⟩ => q vs cl h2 B2 H2 x2 s2 E2 ⟨ks, e, hz, ks, rfl, hk⟩)
theorem we_dnotinTt (h : WA K tr cs hs fun cl h1 => Unk cl fun key => WE K td cs h1 fun co h2 => ∃ a, co = .r a ∧ At h2 a fun _ mo => IsDt mo fun kvs => k (.d (.bool (!(valC kvs key).isSome))) h2) : WE K (tDNotIn (tTup tr) td) cs hs k :=
  we_dnotinT (we_tupK fun B H σ fh s E Q q => h B H σ fh s E Q fun vs cl h2 B2 H2 x2 s2 E2 ⟨ks, e, hz, hk⟩ => q vs cl h2 B2 H2 x2 s2 E2 ⟨ks, e, hz, ks, rfl, hk⟩)
/-! d[e] = v -/
theorem nt_dput (h : WE K tv cs hs fun c h1 => WE K td cs h1 fun co h2 => ∃ a, co = .r a ∧ WE K ty cs h2 fun ck h3 => IsK ck fun key => At h3 a fun i mo => IsDi mo fun kvs => Less kvs.length (Nt K B0 fh D.nx cs (h3.set i (a, .dic (putC kvs key c))))) : Nt K B0 fh (sDPut td ty tv D) cs hs := by
  intro B H σ xx s E
  refine h B H σ fh s E _ fun v c h1 B1 H1 x1 s1 E1 h2 => ?_
  refine h2 B1 H1 σ fh (s.mono x1) E1 _ fun vo co h2 B2 H2 x2 s2 E2 ⟨a, e, h3⟩ => ?_
  subst e
  have ev : some vo = some (V.ref a) := s2
  cases ev
  refine h3 B2 H2 σ fh ((s.mono x1).mono x2) E2 _ fun vk ck h3 B3 H3 x3 s3 E3 ⟨d, key, e, ek, i, mo, hi, kvs, e2, hz, hk⟩ => ?_
  subst e
  subst e2
  have := s3.key ek
  subst this
  obtain ⟨_, o, ho, ps, e4, hd⟩ := E3.own hi
  subst e4
  exact ⟨a, _, rfl, DPut.k ho (Evl.sz_lt (by rw [hd.len]; exact hz)), hk B3 _ σ (ex_trans xx (ex_trans x1 (ex_trans x2 x3))) (((s.mono x1).mono x2).mono x3) (E3.upd hi (mok_d (kv_put ((s1.mono x2).mono x3) hd)))⟩
theorem IsDi.isD {h1 : List HC} {i : Nat} {a : Addr} {kvs : List (Key × C)} (E : En K B H (h1 ++ fh)) (hi : h1[i]? = some (a, .dic kvs)) : L2.IsD H a := by
  obtain ⟨_, o, ho, ps, e4, hd⟩ := E.own hi
  subst e4
  exact .inl ⟨ps, .inl ho⟩
/-! d.get(e), d.get(e, x), d.pop(e, x), d.setdefault(e, x) -/
theorem we_dget1 (h : WE K td cs hs fun co h1 => ∃ a, co = .r a ∧ At h1 a fun _ mo => IsDi mo fun _ => WE K ty cs h1 fun c h2 => IsK c fun key => At h2 a fun _ mo => IsDi mo fun kvs => k ((valC kvs key).getD (.d .none)) h2) : WE K (tDGet1 td ty) cs hs k := by
  intro B H σ fh s E Q q
  refine h B H σ fh s E _ fun vo co h1 B1 H1 x1 s1 E1 ⟨a, e, i0, mo0, hi0, kvs0, e0, h2⟩ => ?_
  subst e
  subst e0
  have ev : some vo = some (V.ref a) := s1
  cases ev
  refine ⟨a, rfl, IsDi.isD E1 hi0, h2 B1 H1 σ fh (s.mono x1) E1 _ fun v c h2 B2 H2 x2 s2 E2 ⟨d, key, e, ek, i, mo, hi, kvs, e2, hk⟩ => ?_⟩
  subst e
  subst e2
  have := s2.key ek
  subst this
  obtain ⟨_, o, ho, ps, e4, hd⟩ := E2.own hi
  subst e4
  refine ⟨_, DGet.k ho, ?_⟩
  dsimp only at hk
  match hx : valC kvs key with
  | some x =>
    rw [hx] at hk
    obtain ⟨u, hu, su⟩ := kv_val hd hx
    rw [hu]
    exact q u x h2 B2 H2 (ex_trans x1 x2) su E2 hk
  | none =>
    rw [hx] at hk
    rw [kv_none hd hx]
    exact q .non (.d .none) h2 B2 H2 (ex_trans x1 x2) ⟨_, rfl, .non⟩ E2 hk
theorem we_dget2 (h : WE K td cs hs fun co h1 => ∃ a, co = .r a ∧ At h1 a fun _ mo => IsDi mo fun _ => WE K ty cs h1 fun c h2 => IsK c fun key => WE K tx cs h2 fun cx h3 => At h3 a fun _ mo => IsDi mo fun kvs => k ((valC kvs key).getD cx) h3) : WE K (tDGet2 td ty tx) cs hs k := by
  intro B H σ fh s E Q q
  refine h B H σ fh s E _ fun vo co h1 B1 H1 x1 s1 E1 ⟨a, e, i0, mo0, hi0, kvs0, e0, h2⟩ => ?_
  subst e
  subst e0
  have ev : some vo = some (V.ref a) := s1
  cases ev
  refine ⟨a, rfl, IsDi.isD E1 hi0, h2 B1 H1 σ fh (s.mono x1) E1 _ fun v c h2 B2 H2 x2 s2 E2 ⟨d, key, e, ek, h3⟩ => ?_⟩
  subst e
  have := s2.key ek
  subst this
  refine h3 B2 H2 σ fh ((s.mono x1).mono x2) E2 _ fun vz cx h3 B3 H3 x3 s3 E3 ⟨i, mo, hi, kvs, e2, hk⟩ => ?_
  subst e2
  obtain ⟨_, o, ho, ps, e4, hd⟩ := E3.own hi
  subst e4
  refine ⟨_, DGet.k ho, ?_⟩
  dsimp only at hk
  match hx : valC kvs key with
  | some x =>
    rw [hx] at hk
    obtain ⟨u, hu, su⟩ := kv_val hd hx
    rw [hu]
    exact q u x h3 B3 H3 (ex_trans x1 (ex_trans x2 x3)) su E3 hk
  | none =>
    rw [hx] at hk
    rw [kv_none hd hx]
    exact q vz cx h3 B3 H3 (ex_trans x1 (ex_trans x2 x3)) s3 E3 hk
theorem we_dpop2 (h : WE K td cs hs fun co h1 => ∃ a, co = .r a ∧ At h1 a fun _ mo => IsDi mo fun _ => WE K ty cs h1 fun c h2 => IsK c fun key => WE K tx cs h2 fun cx h3 => At h3 a fun i mo => IsDi mo fun kvs => (∀ x, valC kvs key = some x → k x (h3.set i (a, .dic (dropC kvs key)))) ∧ (valC kvs key = none → k cx h3)) : WE K (tDPop2 td ty tx) cs hs k := by
  intro B H σ fh s E Q q
  refine h B H σ fh s E _ fun vo co h1 B1 H1 x1 s1 E1 ⟨a, e, i0, mo0, hi0, kvs0, e0, h2⟩ => ?_
  subst e
  subst e0
  have ev : some vo = some (V.ref a) := s1
  cases ev
  refine ⟨a, rfl, IsDi.isD E1 hi0, h2 B1 H1 σ fh (s.mono x1) E1 _ fun v c h2 B2 H2 x2 s2 E2 ⟨d, key, e, ek, h3⟩ => ?_⟩
  subst e
  have := s2.key ek
  subst this
  refine h3 B2 H2 σ fh ((s.mono x1).mono x2) E2 _ fun vz cx h3 B3 H3 x3 s3 E3 ⟨i, mo, hi, kvs, e2, hk1, hk2⟩ => ?_
  subst e2
  obtain ⟨_, o, ho, ps, e4, hd⟩ := E3.own hi
  subst e4
  refine ⟨ps, key, ho, rfl, fun u hu => ?_, fun hu => ?_⟩
  · have hs1 := kv_some (key := key) hd
    rw [hu] at hs1
    obtain ⟨x, hx⟩ := Option.isSome_iff_exists.mp hs1.symm
    obtain ⟨u', hu', su⟩ := kv_val hd hx
    rw [hu] at hu'
    cases hu'
    exact q u x _ B3 _ (ex_trans x1 (ex_trans x2 x3)) su (E3.upd hi (mok_d (kv_drop hd))) (hk1 x hx)
  · have hs1 := kv_some (key := key) hd
    rw [hu] at hs1
    have hn : valC kvs key = none := Option.not_isSome_iff_eq_none.mp (by rw [← hs1]; decide)
    exact q vz cx h3 B3 H3 (ex_trans x1 (ex_trans x2 x3)) s3 E3 (hk2 hn)
theorem we_dsetd (h : WE K td cs hs fun co h1 => ∃ a, co = .r a ∧ At h1 a fun _ mo => IsDi mo fun _ => WE K ty cs h1 fun c h2 => IsK c fun key => WE K tx cs h2 fun cx h3 => At h3 a fun i mo => IsDi mo fun kvs => Less kvs.length ((∀ x, valC kvs key = some x → k x h3) ∧ (valC kvs key = none → k cx (h3.set i (a, .dic (putC kvs key cx)))))) : WE K (tDSetd td ty tx) cs hs k := by
  intro B H σ fh s E Q q
  refine h B H σ fh s E _ fun vo co h1 B1 H1 x1 s1 E1 ⟨a, e, i0, mo0, hi0, kvs0, e0, h2⟩ => ?_
  subst e
  subst e0
  have ev : some vo = some (V.ref a) := s1
  cases ev
  refine ⟨a, rfl, IsDi.isD E1 hi0, h2 B1 H1 σ fh (s.mono x1) E1 _ fun v c h2 B2 H2 x2 s2 E2 ⟨d, key, e, ek, h3⟩ => ?_⟩
  subst e
  have := s2.key ek
  subst this
  refine h3 B2 H2 σ fh ((s.mono x1).mono x2) E2 _ fun vz cx h3 B3 H3 x3 s3 E3 ⟨i, mo, hi, kvs, e2, hz, hk1, hk2⟩ => ?_
  subst e2
  obtain ⟨_, o, ho, ps, e4, hd⟩ := E3.own hi
  subst e4
  refine ⟨ps, key, ho, rfl, Evl.sz_lt (by rw [hd.len]; exact hz), fun u hu => ?_, fun hu => ?_⟩
  · have hs1 := kv_some (key := key) hd
    rw [hu] at hs1
    obtain ⟨x, hx⟩ := Option.isSome_iff_exists.mp hs1.symm
    obtain ⟨u', hu', su⟩ := kv_val hd hx
    rw [hu] at hu'
    cases hu'
    exact q u x _ B3 _ (ex_trans x1 (ex_trans x2 x3)) su E3 (hk1 x hx)
  · have hs1 := kv_some (key := key) hd
    rw [hu] at hs1
    have hn : valC kvs key = none := Option.not_isSome_iff_eq_none.mp (by rw [← hs1]; decide)
    exact q vz cx _ B3 _ (ex_trans x1 (ex_trans x2 x3)) s3 (E3.upd hi (mok_d (kv_put s3 hd))) (hk2 hn)
/-! len(d) -/
def rLenD : List V → Hp → VK → Prop := fun xs H Q => ∃ a kvs, xs = [V.ref a] ∧ H a = some (.dK kvs) ∧ Q (.int kvs.length) H
theorem ra_lenD {a : Addr} (h : At hs a fun _ mo => IsDi mo fun kvs => k (.d (.int kvs.length)) hs) : RA K rLenD [.r a] hs k := by
  intro B H fh vs sv E Q q
  match vs, sv with
  | [v], ⟨s1, _⟩ =>
    have ev : some v = some (V.ref a) := s1
    cases ev
    obtain ⟨i, mo, hi, kvs, e, hk⟩ := h
    subst e
    obtain ⟨_, o, ho, ps, e4, hd⟩ := E.own hi
    subst e4
    refine ⟨a, ps, rfl, ho, ?_⟩
    rw [hd.len]
    exact q _ (.d (.int _)) hs B H ex_refl ⟨_, rfl, .int _⟩ E hk
/-! dict(pairs) -/
def rDictP (K : PySem.W.Frag) : List V → Hp → VK → Prop := fun xs H Q => ∃ (a : Addr) (ps : List Addr) (kvs : List (Key × V)), xs = [.ref a] ∧ SqL K H a (ps.map V.ref) ∧ Paired (fun p kv => SqT K H p [kV kv.1, kv.2]) ps kvs ∧
    ∀ p, H p = none → Q (.ref p) (upd H p (.dK (mergeK [] kvs)))
theorem dp_tup {v : V} {ds : List PyData} (h : Dp K B v (.tuple ds)) : ∃ a us, v = .ref a ∧ SqT K B a us ∧ DpAll K B us ds := by
  cases h with
  | tup hs ha => exact ⟨_, _, rfl, hs, ha⟩
theorem dp_two {us : List V} {d1 d2 : PyData} (h : DpAll K B us [d1, d2]) : ∃ u v, us = [u, v] ∧ Dp K B u d1 ∧ Dp K B v d2 := by
  cases h with
  | cons h1 h2 =>
    cases h2 with
    | cons h3 h4 =>
      cases h4
      exact ⟨_, _, rfl, h1, h3⟩
theorem kv_merge : ∀ {more : List (Key × V)} {md : List (Key × C)} {ps : List (Key × V)} {kvs : List (Key × C)}, KvOk K B more md → KvOk K B ps kvs → KvOk K B (mergeK ps more) (mergeC kvs md)
  | [], [], _, _, _, h => h
  | p :: more, q :: md, ps, kvs, ⟨e1, e2, e3⟩, h => by
    show KvOk K B (mergeK (putK ps p.1 p.2) more) (mergeC (putC kvs q.1 q.2) md)
    rw [e1]
    exact kv_merge e3 (kv_put e2 h)
  | [], _ :: _, _, _, h, _ => h.elim
  | _ :: _, [], _, _, h, _ => h.elim
theorem pairs_of {β : Type} (bh : Ex B H) {kf : β → Key} {vf : β → PyData} : ∀ {bs : List β} {xs : List V}, DpAll K B xs (bs.map fun b => .tuple [keyD (kf b), vf b]) → ∃ (ps : List Addr) (kvs : List (Key × V)), xs = ps.map V.ref ∧ Paired (fun p kv => SqT K H p [kV kv.1, kv.2]) ps kvs ∧ KvOk K B kvs (bs.map fun b => (kf b, C.d (vf b)))
  | [], _, h => by cases h; exact ⟨[], [], rfl, .nil, trivial⟩
  | b :: bs, _, h => by
    cases h with
    | cons h1 h2 =>
      obtain ⟨ps, kvs, e1, e2, e3⟩ := pairs_of bh h2
      obtain ⟨a, us, rfl, hs, ha⟩ := dp_tup h1
      obtain ⟨u, v, rfl, hu, hv⟩ := dp_two ha
      obtain rfl := dp_key hu
      exact ⟨a :: ps, (kf b, v) :: kvs, by rw [e1, List.map_cons], .cons (Evl.ex_t bh hs) e2, rfl, ⟨_, rfl, hv⟩, e3⟩
theorem ra_dictP {β : Type} {c : C} {kf : β → Key} {vf : β → PyData} {bs : List β} (ha : As hs c (.list (bs.map fun b => .tuple [keyD (kf b), vf b]))) (hk : ∀ a, k (.r a) ((a, .dic (mergeC [] (bs.map fun b => (kf b, C.d (vf b))))) :: hs)) : RA K (rDictP K) [c] hs k := by
  intro B H fh vs sv E Q q
  match vs, sv with
  | [v], ⟨s1, _⟩ =>
    obtain ⟨a, xs, rfl, hq, hd⟩ := ha.rl s1 E
    obtain ⟨ps, kvs, e1, e2, e3⟩ := pairs_of E.bh hd
    subst e1
    exact ⟨a, ps, kvs, rfl, hq, e2, fun p hp => q (.ref p) (.r p) _ B _ ex_refl rfl (E.newM hp (mok_d (kv_merge (ps := []) (kvs := []) e3 trivial))) (hk p)⟩
/-! dict comprehensions with int and text keys -/
def PvD (K : PySem.W.Frag) (B1 : Hp) (Dl : Addr) (fh : List HC) (n0 : Nat) (I : Nat → List (Key × C) → List HC → Prop) (i : Nat) (H : Hp) : Prop :=
  ∃ B hs acc, Ex B1 B ∧ En K B H ((Dl, .dic acc) :: (hs ++ fh)) ∧ acc.length ≤ i ∧ i ≤ n0 ∧ I i acc hs
theorem we_dc {vs js : List Nat} (hg : Tg g js) (hj : ∀ j ∈ js, j ∈ vs) (h : WI K wi cs hs fun its h1 => its.length ≤ 99999 ∧ ∃ I : Nat → List (Key × C) → List HC → Prop, I 0 [] h1 ∧
      (∀ i c acc hs', its[i]? = some c → I i acc hs' → WG K g (wipeC cs vs) c fun cs2 => WT K tt cs2 hs' fun b h3 => BB b (WE K tk cs2 h3 fun c h4 => IsK c fun key => WE K tv cs2 h4 fun cv h5 => I (i + 1) (putC acc key cv) h5) (I (i + 1) acc h3)) ∧
      ∀ acc hs', acc.length ≤ its.length → I its.length acc hs' → ∀ a, k (.r a) ((a, .dic acc) :: hs')) : WE K (tDc wi g tt tk tv vs) cs hs k := by
  intro B H σ fh s E Q q
  refine h B H σ fh s E _ fun J its h1 B1 H1 x1 E1 hsrc ⟨hz, I, h0, hs, hd⟩ Dl hD => ?_
  have s1 := sl_wipe (s.mono x1) vs
  refine ⟨fun i m H' => m = its.length - i ∧ PvD K B1 Dl fh its.length I i H', ⟨its.length, by simp, B1, h1, [], ex_refl, E1.newM hD (mok_d (show KvOk K B1 [] [] from trivial)), Nat.le_refl _, Nat.zero_le _, h0⟩, ?_⟩
  rintro i m H' ⟨rfl, B', hs', acc, x', E', ha, hi, hI⟩
  obtain ⟨g1, g2, g3⟩ := hsrc B' H' x' E'.bh
  by_cases hlt : i < its.length
  · refine .inr ⟨g1 i hlt, PvD K B1 Dl fh its.length I (i + 1), fun H2 n2 => ⟨its.length - (i + 1), by omega, rfl, n2⟩, fun v H2 hy => ?_⟩
    obtain ⟨B2, c, x2, hc, sc, E2⟩ := g3 i v H2 hlt hy
    have E3 := E2 _ E'
    have w := hs i c acc hs' hc hI B2 H2 (wipe σ vs) v E3.bh (s1.mono (ex_trans x' x2)) sc
      (fun σ2 H2 => wipe σ2 vs = wipe σ vs → tt σ2 H2 fun b H3 =>
        if b = true then tk σ2 H3 fun y H4 => tv σ2 H4 fun z H5 => ∃ kvs k, y = kV k ∧ H5 Dl = some (.dK kvs) ∧ kvs.length < sizeLine ∧ PvD K B1 Dl fh its.length I (i + 1) (upd H5 Dl (.dK (putK kvs k z))) else PvD K B1 Dl fh its.length I (i + 1) H3)
      fun σ2 cs2 s2 hk hw => ?_
    · refine hg.mono _ _ _ _ _ ?_ (hg.keep _ _ _ _ w)
      rintro σ2 H3 ⟨hq, hl2, hi2⟩
      rw [wipe_length] at hl2
      have hw := wipe_same hj hl2 hi2
      exact ⟨hw, hq hw⟩
    · have E4 : En K B2 H2 (hs' ++ ((Dl, .dic acc) :: fh)) := E3.perm List.perm_middle
      refine hk B2 H2 σ2 _ s2 E4 _ fun b h3 B3 H3 x3 E5 hk3 => ?_
      cases b with
      | false => exact iteF ⟨B3, h3, acc, ex_trans x' (ex_trans x2 x3), E5.perm List.perm_middle.symm, by omega, by omega, hk3.2 rfl⟩
      | true =>
        refine iteT (hk3.1 rfl B3 H3 σ2 _ (s2.mono x3) E5 _ fun y c h4 B4 H4 x4 s4 E6 ⟨yd, key, ey, ek, hk4⟩ => ?_)
        subst ey
        have := s4.key ek
        subst this
        refine hk4 B4 H4 σ2 _ ((s2.mono x3).mono x4) E6 _ fun z cz h5 B5 H5 x5 s5 E7 hk5 => ?_
        have E8 : En K B5 H5 ((Dl, .dic acc) :: (h5 ++ fh)) := E7.perm List.perm_middle.symm
        obtain ⟨_, ob, hob, ps, e5, hd5⟩ := E8.head
        subst e5
        have hl5 := hd5.len
        have hpl := putC_len acc key cz
        exact ⟨ps, key, rfl, hob, Evl.sz_lt (by omega), B5, h5, putC acc key cz, ex_trans x' (ex_trans x2 (ex_trans x3 (ex_trans x4 x5))), E8.chg (mok_d (kv_put s5 hd5)), by omega, by omega, hk5⟩
  · obtain rfl : i = its.length := by omega
    refine .inl ⟨g2, q (.ref Dl) (.r Dl) ((Dl, .dic acc) :: hs') B' H' (ex_trans x1 x') rfl E' (hd acc hs' ha hI Dl)⟩
/-! ### instances -/
def valF (fs : List (Str × C)) (f : Str) : Option C := fs.lookup f
def putFC (f : Str) (v : C) : List (Str × C) → List (Str × C)
  | [] => [(f, v)]
  | (g, x) :: r => if g = f then (g, v) :: r else (g, x) :: putFC f v r
theorem fs_val {f : Str} : ∀ {ps : List (Str × V)} {fs : List (Str × C)}, KvOk K B ps fs → ∀ {c : C}, fs.lookup f = some c → ∃ v, ps.lookup f = some v ∧ Sl K B (some v) c
  | [], [], _, _, h => by cases h
  | (a, v) :: ps, (b, c) :: fs, ⟨e1, e2, e3⟩, x, h => by
    have e1' : a = b := e1
    subst e1'
    rw [List.lookup_cons] at h ⊢
    cases hb : (f == a) with
    | true =>
      rw [hb] at h
      cases h
      exact ⟨v, rfl, e2⟩
    | false =>
      rw [hb] at h
      exact fs_val e3 h
  | [], _ :: _, h, _, _ => h.elim
  | _ :: _, [], h, _, _ => h.elim
theorem fs_none {f : Str} : ∀ {ps : List (Str × V)} {fs : List (Str × C)}, KvOk K B ps fs → fs.lookup f = none → ps.lookup f = none
  | [], [], _, _ => rfl
  | (a, v) :: ps, (b, c) :: fs, ⟨e1, e2, e3⟩, h => by
    have e1' : a = b := e1
    subst e1'
    rw [List.lookup_cons] at h ⊢
    cases hb : (f == a) with
    | true =>
      rw [hb] at h
      cases h
    | false =>
      rw [hb] at h
      exact fs_none e3 h
  | [], _ :: _, h, _ => h.elim
  | _ :: _, [], h, _ => h.elim
theorem fs_put {f : Str} {v : V} {c : C} (hv : Sl K B (some v) c) : ∀ {ps : List (Str × V)} {fs : List (Str × C)}, KvOk K B ps fs → KvOk K B (putF f v ps) (putFC f c fs)
  | [], [], _ => ⟨rfl, hv, trivial⟩
  | (a, x) :: ps, (b, y) :: fs, ⟨e1, e2, e3⟩ => by
    have e1' : a = b := e1
    subst e1'
    unfold putF putFC
    by_cases e : a = f
    · rw [if_pos e, if_pos e]
      exact ⟨rfl, hv, e3⟩
    · rw [if_neg e, if_neg e]
      exact ⟨rfl, e2, fs_put hv e3⟩
  | [], _ :: _, h => h.elim
  | _ :: _, [], h => h.elim
/-- an instance with a field; to be stored into; without such a field -/
def IsF (mo : MO) (Cl : Addr) (f : Str) (k : C → Prop) : Prop := ∃ dx fs c, mo = .ins Cl dx fs ∧ fs.lookup f = some c ∧ k c
def IsFs (mo : MO) (Cl : Addr) (k : Addr → List (Str × C) → Prop) : Prop := ∃ dx fs, mo = .ins Cl dx fs ∧ Nat.blt fs.length 1000 = true ∧ k dx fs
def IsMt (mo : MO) (Cl : Addr) (m : Str) (p : Prop) : Prop := ∃ dx fs, mo = .ins Cl dx fs ∧ fs.lookup m = none ∧ p
theorem isF {Cl dx : Addr} {fs : List (Str × C)} {f : Str} {c : C} {k : C → Prop} (h : fs.lookup f = some c) (hk : k c) : IsF (.ins Cl dx fs) Cl f k := ⟨dx, fs, c, rfl, h, hk⟩
theorem isFs {Cl dx : Addr} {fs : List (Str × C)} {k : Addr → List (Str × C) → Prop} (h : Nat.blt fs.length 1000 = true) (hk : k dx fs) : IsFs (.ins Cl dx fs) Cl k := ⟨dx, fs, rfl, h, hk⟩
theorem isMt {Cl dx : Addr} {fs : List (Str × C)} {m : Str} {p : Prop} (h : fs.lookup m = none) (hk : p) : IsMt (.ins Cl dx fs) Cl m p := ⟨dx, fs, rfl, h, hk⟩
/-- e.f -/
theorem we_fld {f : Str} {Cl : Addr} (hn : NoAttr K Cl f) (hc : Cls K Cl) (h : WE K ta cs hs fun co h1 => ∃ a, co = .r a ∧ At h1 a fun _ mo => IsF mo Cl f fun c => k c h1) : WE K (tFld K ta f) cs hs k := by
  intro B H σ fh s E Q q
  refine h B H σ fh s E _ fun vo co h1 B1 H1 x1 s1 E1 ⟨a, e, i, mo, hi, dx, fs, c, e2, hf, hk⟩ => ?_
  subst e
  subst e2
  have ev : some vo = some (V.ref a) := s1
  cases ev
  obtain ⟨_, o, ho, ps, e4, hd⟩ := E1.own hi
  subst e4
  obtain ⟨v, hv, sv⟩ := fs_val hd hf
  exact ⟨a, Cl, dx, ps, v, rfl, ho, hc, hn, hv, q v c h1 B1 H1 x1 sv E1 hk⟩
/-- e.f = value -/
theorem nt_fld {f : Str} {Cl : Addr} (hn : NoAttr K Cl f) (hc : Cls K Cl) (h : WE K tv cs hs fun c h1 => WE K ta cs h1 fun co h2 => ∃ a, co = .r a ∧ At h2 a fun i mo => IsFs mo Cl fun dx fs => Nt K B0 fh D.nx cs (h2.set i (a, .ins Cl dx (putFC f c fs)))) : Nt K B0 fh (sFld K ta tv f D) cs hs := by
  intro B H σ xx s E
  refine h B H σ fh s E _ fun v c h1 B1 H1 x1 s1 E1 h2 => ?_
  refine h2 B1 H1 σ fh (s.mono x1) E1 _ fun vo co h2 B2 H2 x2 s2 E2 ⟨a, e, i, mo, hi, dx, fs, e2, hl, hk⟩ => ?_
  subst e
  subst e2
  have ev : some vo = some (V.ref a) := s2
  cases ev
  obtain ⟨_, o, ho, ps, e4, hd⟩ := E2.own hi
  subst e4
  exact ⟨a, Cl, dx, ps, rfl, ho, hc, hn, by rw [hd.len]; exact Nat.le_of_ble_eq_true hl, hk B2 _ σ (ex_trans xx (ex_trans x1 x2)) ((s.mono x1).mono x2) (E2.upd hi (mok_i (fs_put (s1.mono x2) hd)))⟩
/-- o.m(..) -/
theorem we_meth {m : Str} {Cl : Addr} {S : List C → List HC → KC → Prop} {xk : XK} (h : WE K ta cs hs fun co h1 => ∃ a, co = .r a ∧ At h1 a fun _ mo => IsMt mo Cl m (WA K tr cs h1 fun cl h2 => CallS S (.r a :: cl) h2 k)) : WE K (tMeth Cl m (spC K S) [] xk ta tr) cs hs k := by
  intro B H σ fh s E Q q
  refine h B H σ fh s E _ fun vo co h1 B1 H1 x1 s1 E1 ⟨a, e, i, mo, hi, dx, fs, e2, hf, h2⟩ => ?_
  subst e
  subst e2
  have ev : some vo = some (V.ref a) := s1
  cases ev
  obtain ⟨_, o, ho, ps, e4, hd⟩ := E1.own hi
  subst e4
  refine ⟨a, dx, ps, rfl, ho, fs_none hd hf, h2 B1 H1 σ fh (s.mono x1) E1 _ fun vs cl h2 B2 H2 x2 s2 E2 hc => ?_⟩
  rw [List.append_nil]
  exact hc.run (vs := V.ref a :: vs) ⟨rfl, s2⟩ E2 fun v c hs2 B3 H3 x3 s3 E3 hk => q v c hs2 B3 H3 (ex_trans x1 (ex_trans x2 x3)) s3 E3 hk
/-- C(..) -/
theorem we_make {Cl : Addr} {S : List C → List HC → KC → Prop} {xk : XK} (h : WA K tr cs hs fun cl h1 => ∀ x dx, CallS S (.r x :: cl) ((x, .ins Cl dx []) :: h1) fun c h2 => c = .d .none ∧ k (.r x) h2) : WE K (tMake Cl (spC K S) [] xk tr) cs hs k := by
  intro B H σ fh s E Q q
  refine h B H σ fh s E _ fun vs cl h1 B1 H1 x1 s1 E1 hc => ?_
  intro x dx hx hdx ne
  rw [List.append_nil]
  have E2 : En K B1 (upd H1 dx (.own x)) (h1 ++ fh) := E1.newO hdx
  have hx2 : upd H1 dx (.own x) x = none := by rw [upd_ne (Ne.symm ne)]; exact hx
  have E3 : En K B1 (upd (upd H1 dx (.own x)) x (.ins Cl dx [])) (((x, .ins Cl dx []) :: h1) ++ fh) := E2.newM hx2 (mok_i (show KvOk K B1 [] [] from trivial))
  refine (hc x dx).run (vs := V.ref x :: vs) ⟨rfl, s1⟩ E3 fun v c hs2 B4 H4 x4 s4 E4 ⟨e, hk⟩ => ?_
  subst e
  have hn := s4.dp
  cases hn
  exact ⟨rfl, q (.ref x) (.r x) hs2 B4 H4 (ex_trans x1 x4) rfl E4 hk⟩
end
end Cw
/-! Part 6: defs and classes by name; rules in the readings' words; sorted of a dict. -/
namespace Cw
open PySem PySem.Spec PyProof.Rows L2 Gu
/-- a def of the text, by its name: its promise in words of cells -/
def Cal (P : Program) (w : World) (K : PySem.W.Frag) (mg : Str → Option Value) (base : Heap) (lvl : Nat) (x : Str) (ps : List Str) (S : List C → List HC → KC → Prop) : Prop :=
  ∃ (a : Addr) (fd : FuncData), FnOk P w K mg base CX0 lvl a fd ps (spC K S) ∧ mg x = some (.ref a) ∧ PySem.W.keepIn K (.ref a) = true ∧ Binds K fd ps []
def CalG (P : Program) (w : World) (K : PySem.W.Frag) (mg : Str → Option Value) (base : Heap) (lvl : Nat) (x : Str) (ps : List Str) (S : List C → List HC → KC → Prop) : Prop :=
  ∃ (a : Addr) (fd : FuncData), FnG P w K mg base CX0 lvl a fd ps (spC K S) ∧ mg x = some (.ref a) ∧ PySem.W.keepIn K (.ref a) = true ∧ Binds K fd ps []
/-- the same, called by keywords alone -/
def CalK (P : Program) (w : World) (K : PySem.W.Frag) (mg : Str → Option Value) (base : Heap) (lvl : Nat) (x : Str) (ps ks : List Str) (g : List Value → List Value → List Value) (gV : List V → List V → List V) (S : List C → List HC → KC → Prop) : Prop :=
  ∃ (a : Addr) (fd : FuncData), FnOk P w K mg base CX0 lvl a fd ps (spC K S) ∧ mg x = some (.ref a) ∧ PySem.W.keepIn K (.ref a) = true ∧ KBinds K fd ps ks g gV
/-- a method of the class at Cl; its __init__ -/
def CalM (P : Program) (w : World) (K : PySem.W.Frag) (mg : Str → Option Value) (base : Heap) (lvl : Nat) (Cl : Addr) (m : Str) (ps : List Str) (S : List C → List HC → KC → Prop) : Prop :=
  ∃ (a : Addr) (fd : FuncData), FnOk P w K mg base CX0 lvl a fd ps (spC K S) ∧ Meth K Cl m a ∧ Binds K fd ps []
def CalI (P : Program) (w : World) (K : PySem.W.Frag) (mg : Str → Option Value) (base : Heap) (lvl : Nat) (x : Str) (Cl : Addr) (ps : List Str) (S : List C → List HC → KC → Prop) : Prop :=
  ∃ (a : Addr) (fd : FuncData), FnOk P w K mg base CX0 lvl a fd ps (spC K S) ∧ mg x = some (.ref Cl) ∧ Mk K Cl a ∧ Binds K fd ps []
section
variable {X : Cx} {K : PySem.W.Frag} {lvl : Nat} {x m : Str} {Cl : Addr} {ps : List Str} {S : List C → List HC → KC → Prop} {p pos apos : Pos} {o e : Expr} {es : List Expr} {t : TA} {ta : TE}
theorem pe_cal (C : Cal X.prog X.w X.K X.mg X.base lvl x ps S) (hr : Room lvl X.A) (hg : Gl X x) (ha : PA X (e :: es) t) (hK : X.K = K := by rfl) (hdb : (x == ("__debug__" : Str)) = false := by decide)
    (he : starEach (e :: es) X.env = (false, eval e X.env) :: starEach es X.env := by rfl) (hpl : (backTo pos (starEach es X.env)).any (·.1) = false := by rfl) :
    PE X (.Call (.Name x p) (e :: es) [] pos) (tCall (spC K S) [] E0 t) := by
  subst hK
  obtain ⟨a, fd, F, hm, hk, hb⟩ := C
  exact pe_call F hr hg hm hk hb .nil pass0 ha hdb he hpl
theorem pe_calG (C : CalG X.prog X.w X.K X.mg X.base lvl x ps S) (hr : Room lvl X.A) (hgd : X.A.guards = some []) (hg : Gl X x) (ha : PA X (e :: es) t) (hK : X.K = K := by rfl) (hdb : (x == ("__debug__" : Str)) = false := by decide)
    (he : starEach (e :: es) X.env = (false, eval e X.env) :: starEach es X.env := by rfl) (hpl : (backTo pos (starEach es X.env)).any (·.1) = false := by rfl) :
    PE X (.Call (.Name x p) (e :: es) [] pos) (tCall (spC K S) [] E0 t) := by
  subst hK
  obtain ⟨a, fd, F, hm, hk, hb⟩ := C
  exact pe_callG F hr hgd hg hm hk hb .nil pass0 ha hdb he hpl
def tCalK0 (sp : Sp) (gV : List V → List V → List V) (tk : TA) : TE := fun σ H Q => tk σ H fun zs H2 => sp (gV [] zs) H2 Q E0
theorem pe_calK0 {ks : List Str} {g : List Value → List Value → List Value} {gV : List V → List V → List V} {kws : List Keyword} {tk : TA} (C : CalK X.prog X.w X.K X.mg X.base lvl x ps ks g gV S) (hr : Room lvl X.A) (hg : Gl X x) (hkw : PK X kws tk) (hK : X.K = K := by rfl)
    (hall : (backToKw pos (keywordEach kws X.env)).all (·.1.isSome) = true := by rfl) (hks : (backToKw pos (keywordEach kws X.env)).filterMap (·.1) = ks := by rfl) (hdb : (x == ("__debug__" : Str)) = false := by decide)
    (hpl : ((backTo pos (starEach [] X.env)).any (·.1) || (backToKw pos (keywordEach kws X.env)).any (·.1.isNone)) = false := by rfl) :
    PE X (.Call (.Name x p) [] kws pos) (tCalK0 (spC K S) gV tk) := by
  subst hK
  obtain ⟨a, fd, F, hm, hk, hb⟩ := C
  refine ⟨fun pins s σ H Q I h => wpAny_Call_Name_kw (ld_glob I hg hm ?_ hdb)⟩
  refine PySem.W.callWith_KW0 (h₀ := X.base) I.ok.mod.kin hk hall (thn (hkw.run pos pins s σ H _ I h) fun ws s2 ⟨zs, H2, I2, rz, q2⟩ => ⟨I2.kIn, ?_⟩) hpl
  rw [hks]
  exact run_fnk (us := []) (vs := []) F hr hb pass0 I2 .nil rz q2
theorem pe_calM {pl : Sem Bool} (C : CalM X.prog X.w X.K X.mg X.base lvl Cl m ps S) (c : Cls X.K Cl) (hr : Room lvl X.A) (he : PE X o ta) (ha : PA X (e :: es) t) (hK : X.K = K := by rfl)
    (hst : starEach (e :: es) X.env = (false, eval e X.env) :: starEach es X.env := by rfl) (hpl : (backTo pos (starEach es X.env)).any (·.1) = false := by rfl)
    (ht : eval (.Call (.Attribute o m apos) (e :: es) [] pos) X.env = (do
      let ov ← eval o X.env
      standAt apos.atName
      let (f, first) ← holding [ov] (getMethod ov m pl)
      callWith pos f first (backTo pos (starEach (e :: es) X.env)) (backToKw pos (keywordEach [] X.env))) := by rfl) :
    PE X (.Call (.Attribute o m apos) (e :: es) [] pos) (tMeth Cl m (spC K S) [] E0 ta t) := by
  subst hK
  obtain ⟨a, fd, F, hm, hb⟩ := C
  exact pe_meth he c hm F hr hb .nil pass0 ha hst hpl ht
theorem pe_calM0 {pl : Sem Bool} (C : CalM X.prog X.w X.K X.mg X.base lvl Cl m ps S) (c : Cls X.K Cl) (hr : Room lvl X.A) (he : PE X o ta) (hK : X.K = K := by rfl)
    (ht : eval (.Call (.Attribute o m apos) [] [] pos) X.env = (do
      let ov ← eval o X.env
      standAt apos.atName
      let (f, first) ← holding [ov] (getMethod ov m pl)
      callWith pos f first (backTo pos (starEach [] X.env)) (backToKw pos (keywordEach [] X.env))) := by rfl) :
    PE X (.Call (.Attribute o m apos) [] [] pos) (tMeth Cl m (spC K S) [] E0 ta tNil) := by
  subst hK
  obtain ⟨a, fd, F, hm, hb⟩ := C
  exact pe_meth0 he c hm F hr hb .nil pass0 ht
theorem pe_calI (C : CalI X.prog X.w X.K X.mg X.base lvl x Cl ps S) (hr : Room (lvl + 1) X.A) (hg : Gl X x) (ha : PA X (e :: es) t) (hK : X.K = K := by rfl) (hdb : (x == ("__debug__" : Str)) = false := by decide)
    (he : starEach (e :: es) X.env = (false, eval e X.env) :: starEach es X.env := by rfl) (hpl : (backTo pos (starEach es X.env)).any (·.1) = false := by rfl) :
    PE X (.Call (.Name x p) (e :: es) [] pos) (tMake Cl (spC K S) [] E0 t) := by
  subst hK
  obtain ⟨a, fd, F, hm, M, hb⟩ := C
  exact pe_make M F hr hg hm hb .nil pass0 ha hdb he hpl
theorem pe_calI0 (C : CalI X.prog X.w X.K X.mg X.base lvl x Cl ps S) (hr : Room (lvl + 1) X.A) (hg : Gl X x) (hK : X.K = K := by rfl) (hdb : (x == ("__debug__" : Str)) = false := by decide) :
    PE X (.Call (.Name x p) [] [] pos) (tMake Cl (spC K S) [] E0 tNil) := by
  subst hK
  obtain ⟨a, fd, F, hm, M, hb⟩ := C
  exact pe_make0 M F hr hg hm hb .nil pass0 hdb
theorem pe_fldK {f : Str} (he : PE X e ta) (hb : attributeBase e f X.env (eval e X.env) = eval e X.env := by rfl) (hK : X.K = K := by rfl) : PE X (.Attribute e f pos) (tFld K ta f) := hK ▸ pe_fld he hb
theorem ps_fldK {f : Str} {value : Expr} {tv : TE} {pos' : Pos} (ha : PE X o ta) (hv : PE X value tv) (hs : swapsWith value (some (.Attribute o f pos')) pos.line X.env = pure false := by rfl) (hK : X.K = K := by rfl) : PS X (.Assign [.Attribute o f pos'] value pos) (sFld K ta tv f) := hK ▸ ps_fld ha hv hs
/-! operators and built-ins -/
theorem op_powW : OpR X (binaryOp .Pow) (rI (fun i j => 0 ≤ j ∧ (Builtin.Int.intBits i : Int) * j ≤ 2 ^ 27) fun i j => .int (i ^ j.toNat)) := opI fun _ _ _ _ _ _ _ hc q => pow_int hc.1 hc.2 q
theorem op_catK (hK : X.K = K := by rfl) : OpR X (binaryOp .Add) (rCatS K) := hK ▸ op_catS
theorem ix_listK (hK : X.K = K := by rfl) : IxR X (rIxL K) := hK ▸ ix_list
theorem ix_tupK (hK : X.K = K := by rfl) : IxR X (rIxT K) := hK ▸ ix_tup
theorem op_eqK (hu : X.A.units + 64 < cLine) (hK : X.K = K := by rfl) : OpR X (compareOp .Eq) (rEqD K) := hK ▸ op_eqD hu
theorem op_neK (hu : X.A.units + 64 < cLine) (hK : X.K = K := by rfl) : OpR X (compareOp .NotEq) (rNeD K) := hK ▸ op_neD hu
theorem units_in {k : Nat} {A : Around} (h : Room k A) : A.units + 65 < cLine := by
  have := h.un
  omega
theorem op_inK (hu : X.A.units + 65 < cLine) (hK : X.K = K := by rfl) : OpR X (compareOp .In) (rInS K) := hK ▸ op_inS hu
theorem op_notInK (hu : X.A.units + 65 < cLine) (hK : X.K = K := by rfl) : OpR X (compareOp .NotIn) (rNotInS K) := hK ▸ op_notInS hu
theorem cr_len (hK : X.K = K := by rfl) : CallR X (.builtin "len") (rLenSq K) := hK ▸ call_len_seq
theorem cr_lenD : CallR X (.builtin "len") rLenD := call_lenD
theorem cr_tuple (hK : X.K = K := by rfl) : CallR X (.type "tuple") (rTupleOf K) := hK ▸ call_tuple_of
theorem cr_list (hK : X.K = K := by rfl) : CallR X (.type "list") (rListOf K) := hK ▸ call_list_of
theorem cr_abs : CallR X (.builtin "abs") (r1I fun i => .int (if i < 0 then -i else i)) := call_abs
theorem cr_max2 (hc : X.calm = true) : CallR X (.builtin "max") (r2I fun i j => .int (if j > i then j else i)) := call_max2 hc
theorem cr_min2 (hc : X.calm = true) : CallR X (.builtin "min") (r2I fun i j => .int (if j < i then j else i)) := call_min2 hc
theorem cr_int : CallR X (.type "int") rIntOf := call_int1
theorem cr_strI : CallR X (.type "str") rStrI := call_str_int
theorem cr_dictP (hc : X.calm = true) (hK : X.K = K := by rfl) : CallR X (.type "dict") (rDictP K) := hK ▸ call_dictP hc
theorem cr_sort (hu : X.A.units + 64 < cLine) (hK : X.K = K := by rfl) : CallR X (.builtin "sorted") (rSortD K) := hK ▸ call_sortD hu
theorem cr_repr (hg : X.A.guards = some []) (hu : X.A.units + 64 < cLine) (hK : X.K = K := by rfl) : CallR X (.builtin "repr") (rRepr K) := hK ▸ call_reprD hg hu
theorem cr_sumK (hc : X.calm = true) (hK : X.K = K := by rfl) : CallR X (.builtin "sum") (rSum K) := hK ▸ cr_sum hc
theorem cr_allK (hc : X.calm = true) (hK : X.K = K := by rfl) : CallR X (.builtin "all") (rAllB K fun bs => bs.all id) := hK ▸ cr_all hc
theorem cr_anyK (hc : X.calm = true) (hK : X.K = K := by rfl) : CallR X (.builtin "any") (rAllB K fun bs => bs.any id) := hK ▸ cr_any hc
end
/-! ### sorted(d), d a dict whose keys are ints or texts, any number -/
theorem keys_each {ks : List Key} : ∀ {us : List Value}, us.length = ks.length → (∀ (j : Nat) (v : Value), us[j]? = some v → ∃ k, ks[j]? = some k ∧ keyIs k v = true) → PySem.W.EachIs (fun (u : Value) (k : Key) => RelV (kV k) u) us ks := by
  induction ks with
  | nil =>
    intro us hl _
    match us, hl with
    | [], _ => exact .nil
  | cons k ks ih =>
    intro us hl h
    match us, hl with
    | u :: us, hl =>
      obtain ⟨k', e, hk⟩ := h 0 u rfl
      cases e
      refine .cons ?_ (ih (by simpa using hl) fun j v e => ?_)
      · rcases keyIs_shape hk with ⟨i, t, ek, ev⟩ | ⟨z, t, ek, ev⟩
        · subst ek; exact ⟨t, ev⟩
        · subst ek; exact ⟨t, ev⟩
      · obtain ⟨k2, e2, h2⟩ := h (j + 1) v (by simpa using e)
        exact ⟨k2, by simpa using e2, h2⟩
theorem key_reads {h : Heap} {u : Value} : ∀ {k : Key}, RelV (kV k) u → Reads h u (keyD k) []
  | .inl _, ⟨t, e⟩ => by subst e; exact .int _ _
  | .inr _, ⟨t, e⟩ => by subst e; exact .str _ _
theorem vals_keys : ∀ {us : List Value} {ks : List Key}, PySem.W.EachIs (fun (u : Value) (k : Key) => RelV (kV k) u) us ks → Vals (ks.map kV) us
  | _, _, .nil => .nil
  | _, _, .cons h1 h2 => .cons h1 (vals_keys h2)
theorem vals1' {v : V} {us : List Value} (r : Vals [v] us) : ∃ u, us = [u] ∧ RelV v u := vals1 r
def rSortK : List V → Hp → VK → Prop := fun xs H Q => ∃ (a : Addr) (kvs : List (Key × V)), xs = [.ref a] ∧ Rd H a (.dK kvs) ∧ PySem.W.AllAlike ((kvs.map (·.1)).map keyD) ∧ kvs.length ≤ 100000 ∧
  ∀ p, H p = none → Q (.ref p) (upd H p (.lst (((kvs.map (·.1)).mergeSort (PySem.W.dataLe false keyD)).map kV)))
theorem cr_sortK {X : Cx} (hcalm : X.calm = true) (hu : X.A.units + 64 < cLine) : CallR X (.builtin "sorted") rSortK := by
  intro pins s σ H xs us Q I r q
  obtain ⟨a, kvs, ex, hd, hal0, hz, q⟩ := q
  subst ex
  obtain ⟨u, eu, rx⟩ := vals1' r
  subst eu
  cases rx
  obtain ⟨z, lo, vs, rel, dd⟩ := dk_rd I.hok hd
  obtain ⟨ep, hat⟩ := dd.dictAt
  have hkeys : vs.map (·.1) = kvs.map (·.1) := rel.keys.symm
  have hl : vs.length = kvs.length := by
    have e := congrArg List.length hkeys
    rw [List.length_map, List.length_map] at e
    exact e
  have h16 : vs.length ≤ sizeLine := by rw [hl]; exact z
  refine Calls.call_function_entry PyProof.Rows.kind_sorted PyProof.Rows.plain_sorted PyProof.Rows.entry_sorted (PyProof.Rows.args_sorted1 _) ?_
  unfold Builtin.«sorted»
  refine wpAny_bind (m := checkCount "sorted" 1 1 _) (wpAny_pure ?_)
  refine wpAny_bind (PySem.W.kdu_collect (A := X.A.in1) (PySem.W.kdl_dict (knd := mixKind X.prog X.w) (kvs := vs) (ep := ep) lo) (I.ok.hd hcalm) hat h16 fun h' tk acc hk hacc => ?_)
  have hal : acc.toList.length = (kvs.map (·.1)).length := by rw [Array.length_toList, hacc.1, hl, List.length_map]
  have hS : PySem.W.EachIs (fun (u : Value) (k : Key) => RelV (kV k) u) acc.toList (kvs.map (·.1)) := keys_each hal fun j v e => by
    obtain ⟨k, x, e1, e2⟩ := hacc.2 j v (by rw [← Array.getElem?_toList]; exact e)
    have e3 : (vs.map (·.1))[j]? = some k := by rw [List.getElem?_map, e1]; rfl
    rw [hkeys] at e3
    exact ⟨k, e3, e2⟩
  have I1 : Inv X pins σ H { s with heap := h', toks := tk } := I.kept hk
  refine wpAny_bind (wpAny_newList ?_ (by rw [hal, List.length_map]; exact z))
  have hoL : (h'.push (seqObj "list" acc.toList.toArray 0)).get? h'.objs.size = some (seqObj "list" acc.toList.toArray 0) := Heap.get?_push_size _ rfl
  show wpAny _ _ _ _ _ { s with heap := h'.push (seqObj "list" acc.toList.toArray 0), toks := tk }
  refine wpAny_bind (wpAny_holding (PySem.W.list_sort_data (s := { s with heap := h'.push (seqObj "list" acc.toList.toArray 0), toks := tk }) (enc := keyD) (bs := kvs.map (·.1)) hoL hS (hS.mono fun u k h => ⟨[], key_reads h, List.not_mem_nil⟩) hal0 ?_ (by rw [List.length_map]; exact z) (fun b hb => ?_) fun out ho eo => ?_))
  · right
    intro d hd
    obtain ⟨k, _, rfl⟩ := List.mem_map.mp hd
    cases k with
    | inl i => exact ⟨(by intro z; cases z), (by intro xs z; cases z)⟩
    | inr i => exact ⟨(by intro z; cases z), (by intro xs z; cases z)⟩
  · have : (keyD b).depth = 0 := by cases b <;> rfl
    show X.A.in1.units + 1 + (keyD b).depth < cLine
    rw [this]
    have e : X.A.in1.units = X.A.units + 1 := rfl
    omega
  · obtain ⟨e', he'⟩ := PyProof.Rows.sortedHeap_at (vs := acc.toList) (out := out.toArray) hoL
    have hlen : (((kvs.map (·.1)).mergeSort (PySem.W.dataLe false keyD)).map kV).length ≤ sizeLine := by
      rw [List.length_map, List.length_mergeSort, List.length_map]
      exact z
    refine wpAny_pure ⟨_, rfl, .ref h'.objs.size, upd H h'.objs.size (.lst _), I1.laid (t' := tk) (fun b u e => ?_) (Nat.le_refl _)
      (show ObjOk X.prog X.w _ _ _ (.lst (((kvs.map (·.1)).mergeSort (PySem.W.dataLe false keyD)).map kV)) from ⟨hlen, out, e', vals_keys eo, he'⟩), rfl, q _ (I1.hok.fresh (Nat.le_refl _))⟩
    have hb : b < h'.objs.size := Heap.lt_size e
    rw [PyProof.Rows.sortedHeap_old (Nat.ne_of_lt hb) (by rw [size_push']; exact Nat.lt_succ_of_lt hb)]
    exact Heap.get?_push_of_some _ e
section
variable {K : PySem.W.Frag} {hs : List HC} {k : KC}
theorem kv_keys {κ : Type} {B : Hp} : ∀ {ps : List (κ × V)} {kvs : List (κ × C)}, KvOk K B ps kvs → ps.map (·.1) = kvs.map (·.1)
  | [], [], _ => rfl
  | p :: ps, q :: qs, h => by rw [List.map_cons, List.map_cons, h.1, kv_keys h.2.2]
  | [], _ :: _, h => h.elim
  | _ :: _, [], h => h.elim
theorem dp_keyD {B : Hp} : ∀ {key : Key}, Dp K B (kV key) (keyD key)
  | .inl _ => .int _
  | .inr _ => .str _
theorem dpAll_keys {B : Hp} : ∀ {ks : List Key}, DpAll K B (ks.map kV) (ks.map keyD)
  | [] => .nil
  | _ :: _ => .cons dp_keyD dpAll_keys
theorem ra_sortK {a : Addr} (h : At hs a fun _ mo => IsDi mo fun kvs => PySem.W.AllAlike ((kvs.map (·.1)).map keyD) ∧ kvs.length ≤ 100000 ∧ k (.d (.list (((kvs.map (·.1)).mergeSort (PySem.W.dataLe false keyD)).map keyD))) hs) : RA K rSortK [.r a] hs k := by
  intro B H fh vs sv E Q q
  match vs, sv with
  | [v], ⟨s1, _⟩ =>
    have ev : some v = some (V.ref a) := s1
    cases ev
    obtain ⟨i, mo, hi, kvs, e, hal, hz, hk⟩ := h
    subst e
    obtain ⟨_, o, ho, ps, e4, hd⟩ := E.own hi
    subst e4
    have ek := kv_keys hd
    refine ⟨a, ps, rfl, .inl ho, by rw [ek]; exact hal, by rw [hd.len]; exact hz, fun p hp => ?_⟩
    rw [ek]
    exact q (.ref p) (.d (.list _)) hs _ _ (Evl.Ex.new (free_of E.bh hp)) ⟨_, rfl, .lst (.inl (.inl upd_same)) dpAll_keys⟩ (E.newF hp) hk
/-- all keys ints -/
theorem ra_sortKI {a : Addr} {kvs : List (Key × C)} {ks : List Int} (hi : ∃ i : Nat, hs[i]? = some (a, MO.dic kvs)) (hks : kvs.map (·.1) = ks.map Sum.inl) (hz : ks.length ≤ 100000) (hk : k (.d (.list ((ks.mergeSort fun a b => decide (a ≤ b)).map PyData.int))) hs) : RA K rSortK [.r a] hs k := by
  obtain ⟨i, hi⟩ := hi
  refine ra_sortK ⟨i, _, hi, kvs, rfl, ?_, ?_, ?_⟩
  · rw [hks, List.map_map]
    intro d hd d' hd'
    obtain ⟨x, _, rfl⟩ := List.mem_map.mp hd
    obtain ⟨y, _, rfl⟩ := List.mem_map.mp hd'
    rfl
  · have := congrArg List.length hks
    rw [List.length_map, List.length_map] at this
    omega
  · rw [hks]
    have e : (ks.map (Sum.inl : Int → Key)).mergeSort (PySem.W.dataLe false keyD) = (ks.mergeSort fun a b => decide (a ≤ b)).map Sum.inl := by
      refine (PySem.W.sort_maps (r := fun a b : Int => decide (a ≤ b)) (s := PySem.W.dataLe false keyD) (Sum.inl : Int → Key) fun a _ b _ => ?_).symm
      exact (congrFun (congrFun (PySem.W.dataLe_int (β := Int) id) a) b).symm
    rw [e, List.map_map]
    exact hk
end
end Cw
/-! Part 7: tame data; plain loops and comprehensions; sorted lists of a kind. -/
namespace Cw
open PySem PySem.Spec PyProof.Rows L2 Gu
/-- depth at most k, bulk at most b, ints below 10 ^ 12 -/
structure Gd (k b : Nat) (d : PyData) : Prop where
  sh : d.showable = true
  hd : d.hasDict = false
  dp : d.depth ≤ k
  lv : d.leavesShort 13 = true
  cl : d.canLay0 = true
  bk : d.bulk ≤ b
theorem Gd.mono {k b k' b' : Nat} {d : PyData} (h : Gd k b d) (h1 : k ≤ k') (h2 : b ≤ b') : Gd k' b' d := ⟨h.sh, h.hd, Nat.le_trans h.dp h1, h.lv, h.cl, Nat.le_trans h.bk h2⟩
theorem gd_none : Gd 0 0 .none := ⟨rfl, rfl, Nat.le_refl _, rfl, rfl, Nat.le_refl _⟩
theorem gd_bool {b : Bool} : Gd 0 0 (.bool b) := ⟨rfl, rfl, Nat.le_refl _, rfl, rfl, Nat.le_refl _⟩
theorem gd_int {i : Int} (h1 : -999999999999 ≤ i) (h2 : i ≤ 999999999999) : Gd 0 0 (.int i) := by
  have h : i.natAbs < 10 ^ 12 := by omega
  refine ⟨decide_eq_true ?_, rfl, Nat.le_refl _, decide_eq_true (PyData.shown_int_le h), rfl, Nat.le_refl _⟩
  have h2 : i.natAbs < 2 ^ 1920 := Nat.lt_trans h (by decide +kernel)
  by_cases h0 : i.natAbs = 0
  · rw [h0]
    decide
  · exact (Nat.log2_lt h0).mpr h2
theorem gd_all {k b : Nat} : ∀ {ds : List PyData}, (∀ d ∈ ds, Gd k b d) → PyData.showableAll ds = true ∧ PyData.hasDictAll ds = false ∧ PyData.depthAll ds ≤ k ∧ PyData.leavesShortAll 13 ds = true ∧ PyData.canLayAll0 ds = true ∧ PyData.bulkAll ds ≤ ds.length * (b + 1)
  | [], _ => ⟨rfl, rfl, Nat.zero_le _, rfl, rfl, Nat.zero_le _⟩
  | d :: ds, h => by
    have g := h d (List.mem_cons_self ..)
    obtain ⟨h1, h2, h3, h4, h5, h6⟩ := gd_all (ds := ds) fun x hx => h x (List.mem_cons_of_mem _ hx)
    refine ⟨?_, ?_, ?_, ?_, ?_, ?_⟩
    · show (d.showable && PyData.showableAll ds) = true
      rw [g.sh, h1]
      rfl
    · show (d.hasDict || PyData.hasDictAll ds) = false
      rw [g.hd, h2]
      rfl
    · show max d.depth (PyData.depthAll ds) ≤ k
      exact Nat.max_le.mpr ⟨g.dp, h3⟩
    · show (d.leavesShort 13 && PyData.leavesShortAll 13 ds) = true
      rw [g.lv, h4]
      rfl
    · show (d.canLay0 && PyData.canLayAll0 ds) = true
      rw [g.cl, h5]
      rfl
    · show d.bulk + 1 + PyData.bulkAll ds ≤ (ds.length + 1) * (b + 1)
      have := g.bk
      rw [Nat.add_mul]
      omega
theorem gd_tuple {k b n : Nat} {ds : List PyData} (h : ∀ d ∈ ds, Gd k b d) (hn : ds.length ≤ n) : Gd (k + 1) (n * (b + 1)) (.tuple ds) := by
  obtain ⟨h1, h2, h3, h4, h5, h6⟩ := gd_all h
  exact ⟨h1, h2, Nat.succ_le_succ h3, h4, h5, Nat.le_trans h6 (Nat.mul_le_mul_right _ hn)⟩
theorem gd_list {k b n : Nat} {ds : List PyData} (h : ∀ d ∈ ds, Gd k b d) (hn : ds.length ≤ n) : Gd (k + 1) (n * (b + 1)) (.list ds) := by
  obtain ⟨h1, h2, h3, h4, h5, h6⟩ := gd_all h
  exact ⟨h1, h2, Nat.succ_le_succ h3, h4, h5, Nat.le_trans h6 (Nat.mul_le_mul_right _ hn)⟩
theorem Gd.shaped {k b : Nat} {d : PyData} (h : Gd k b d) (hk : k ≤ 60) : SeqAt.shaped d = true := by
  unfold SeqAt.shaped
  rw [h.cl, decide_eq_true (show d.depth ≤ 64 by have := h.dp; omega)]
  rfl
theorem Gd.fits {k b : Nat} {d : PyData} (h : Gd k b d) (hb : b ≤ 2 ^ 20) : d.shown.length ≤ sizeLine := PyData.shown_fits_bulk (B := 13) (by decide) (by decide) h.lv (Nat.le_trans h.bk hb)
theorem Gd.eqv {k b : Nat} {d : PyData} (h : Gd k b d) : PyData.eqv d d = true := SeqAt.eqv_refl d h.cl
theorem gd_str {s : Str} {b : Nat} (h : ∀ c ∈ s.cps.toList, c < 16 ^ 8) (hb : s.cps.size ≤ b) (ho : PyData.canLay0 (.str s) = true) : Gd 0 b (.str s) := ⟨rfl, rfl, Nat.le_refl _, List.all_eq_true.mpr fun c hc => decide_eq_true (h c hc), ho, hb⟩
section
variable {K : PySem.W.Frag} {B0 : Hp} {cs : List C} {hs fh : List HC} {k : KC} {ta tb te tl tk tv : TE} {tr : TA} {tt : TT} {g : TG} {wi : TI} {D : Ends} {tu : TS} {β : Type}
theorem ra_reprT {n b : Nat} {ds : List PyData} (h : Gd n b (.tuple ds)) (hn : n ≤ 60) (hb : b ≤ 2 ^ 20) (hk : k (.d (.str (PyData.shown (.tuple ds)))) hs) : RA K (rRepr K) [.d (.tuple ds)] hs k :=
  ra_repr .d (.inl ⟨ds, rfl⟩) h.sh h.hd (Nat.le_trans h.dp hn) (h.fits hb) hk
theorem ra_reprL {n b : Nat} {c : C} {ds : List PyData} (ha : As hs c (.list ds)) (h : Gd n b (.list ds)) (hn : n ≤ 60) (hb : b ≤ 2 ^ 20) (hk : k (.d (.str (PyData.shown (.list ds)))) hs) : RA K (rRepr K) [c] hs k :=
  ra_repr ha (.inr ⟨ds, rfl⟩) h.sh h.hd (Nat.le_trans h.dp hn) (h.fits hb) hk
/-! loops over data, over a range -/
theorem nt_forD (h : WI K wi cs hs fun its h1 => ∃ ds : List PyData, its = ds.map C.d ∧ ∃ I : Nat → List C → List HC → Prop, I 0 cs h1 ∧
      (∀ B1, Ex B0 B1 → ∀ i d cs' hs', ds[i]? = some d → I i cs' hs' → WG K g cs' (.d d) fun cs2 => Nt K B1 fh (tu (lp D (Nx K B1 fh (I (i + 1))))) cs2 hs') ∧ ∀ cs' hs', I ds.length cs' hs' → Nt K B0 fh D.nx cs' hs') :
    Nt K B0 fh (tFor wi g tu D) cs hs := by
  refine nt_for fun B H σ fh s E R r => h B H σ fh s E R fun J its h1 B1 H1 x1 E1 hsrc ⟨ds, e, I, h0, h2, h3⟩ => r J its h1 B1 H1 x1 E1 hsrc ⟨I, h0, fun B1 x i c cs' hs' hc hI => ?_, fun cs' hs' hI => h3 cs' hs' ?_⟩
  · subst e
    rw [List.getElem?_map] at hc
    obtain ⟨d, hd, rfl⟩ := Option.map_eq_some_iff.mp hc
    exact h2 B1 x i d cs' hs' hd hI
  · subst e
    rw [List.length_map] at hI
    exact hI
theorem nt_forR (h : WI K wi cs hs fun its h1 => ∃ n : Nat, its = ((List.range n).map fun i : Nat => C.d (.int (i : Int))) ∧ ∃ I : Nat → List C → List HC → Prop, I 0 cs h1 ∧
      (∀ B1, Ex B0 B1 → ∀ i cs' hs', i < n → I i cs' hs' → WG K g cs' (.d (.int (i : Int))) fun cs2 => Nt K B1 fh (tu (lp D (Nx K B1 fh (I (i + 1))))) cs2 hs') ∧ ∀ cs' hs', I n cs' hs' → Nt K B0 fh D.nx cs' hs') :
    Nt K B0 fh (tFor wi g tu D) cs hs := by
  refine nt_for fun B H σ fh s E R r => h B H σ fh s E R fun J its h1 B1 H1 x1 E1 hsrc ⟨n, e, I, h0, h2, h3⟩ => r J its h1 B1 H1 x1 E1 hsrc ⟨I, h0, fun B1 x i c cs' hs' hc hI => ?_, fun cs' hs' hI => h3 cs' hs' ?_⟩
  · subst e
    rw [List.getElem?_map] at hc
    obtain ⟨j, hj, rfl⟩ := Option.map_eq_some_iff.mp hc
    have hi : i < n := by
      have := (List.getElem?_eq_some_iff.mp hj).1
      rwa [List.length_range] at this
    rw [List.getElem?_range hi] at hj
    cases hj
    exact h2 B1 x i cs' hs' hi hI
  · subst e
    rw [List.length_map, List.length_range] at hI
    exact hI
/-! comprehensions over data -/
theorem we_lcD {vs js : List Nat} (hg : Tg g js) (hj : ∀ j ∈ js, j ∈ vs) (h : WI K wi cs hs fun its h1 => ∃ ds : List PyData, its = ds.map C.d ∧ ds.length ≤ 99999 ∧ ∃ I : Nat → List PyData → List HC → Prop, I 0 [] h1 ∧
      (∀ i d acc hs', ds[i]? = some d → I i acc hs' → WG K g (wipeC cs vs) (.d d) fun cs2 => WT K tt cs2 hs' fun b h3 => BB b (WE K te cs2 h3 fun c h4 => IsD c fun y => I (i + 1) (acc ++ [y]) h4) (I (i + 1) acc h3)) ∧
      ∀ acc hs', acc.length ≤ ds.length → I ds.length acc hs' → ∀ a, k (.r a) ((a, .lst acc) :: hs')) : WE K (tLc wi g tt te vs) cs hs k := by
  refine we_lc hg hj fun B H σ fh s E R r => h B H σ fh s E R fun J its h1 B1 H1 x1 E1 hsrc ⟨ds, e, hz, I, h0, h2, h3⟩ => r J its h1 B1 H1 x1 E1 hsrc ⟨by rw [e, List.length_map]; exact hz, I, h0, fun i c acc hs' hc hI => ?_, fun acc hs' hl hI => ?_⟩
  · subst e
    rw [List.getElem?_map] at hc
    obtain ⟨d, hd, rfl⟩ := Option.map_eq_some_iff.mp hc
    exact h2 i d acc hs' hd hI
  · subst e
    rw [List.length_map] at hI hl
    exact h3 acc hs' hl hI
theorem we_lcR {vs js : List Nat} (hg : Tg g js) (hj : ∀ j ∈ js, j ∈ vs) (h : WI K wi cs hs fun its h1 => ∃ n : Nat, its = ((List.range n).map fun i : Nat => C.d (.int (i : Int))) ∧ n ≤ 99999 ∧ ∃ I : Nat → List PyData → List HC → Prop, I 0 [] h1 ∧
      (∀ i acc hs', i < n → I i acc hs' → WG K g (wipeC cs vs) (.d (.int (i : Int))) fun cs2 => WT K tt cs2 hs' fun b h3 => BB b (WE K te cs2 h3 fun c h4 => IsD c fun y => I (i + 1) (acc ++ [y]) h4) (I (i + 1) acc h3)) ∧
      ∀ acc hs', acc.length ≤ n → I n acc hs' → ∀ a, k (.r a) ((a, .lst acc) :: hs')) : WE K (tLc wi g tt te vs) cs hs k := by
  refine we_lc hg hj fun B H σ fh s E R r => h B H σ fh s E R fun J its h1 B1 H1 x1 E1 hsrc ⟨n, e, hz, I, h0, h2, h3⟩ => r J its h1 B1 H1 x1 E1 hsrc ⟨by rw [e, List.length_map, List.length_range]; exact hz, I, h0, fun i c acc hs' hc hI => ?_, fun acc hs' hl hI => ?_⟩
  · subst e
    rw [List.getElem?_map] at hc
    obtain ⟨j, hj, rfl⟩ := Option.map_eq_some_iff.mp hc
    have hi : i < n := by
      have := (List.getElem?_eq_some_iff.mp hj).1
      rwa [List.length_range] at this
    rw [List.getElem?_range hi] at hj
    cases hj
    exact h2 i acc hs' hi hI
  · subst e
    rw [List.length_map, List.length_range] at hI hl
    exact h3 acc hs' hl hI
/-- what a turn of a plain comprehension hands on -/
def TurnP (p : β → Bool) (f : β → PyData) (h1 : List HC) (b : β) (c : C) (h4 : List HC) : Prop := h4 = h1 ∧ c = .d (f b) ∧ p b = true
def SkipP (p : β → Bool) (h1 : List HC) (b : β) (h3 : List HC) : Prop := h3 = h1 ∧ p b = false
theorem take_step {γ : Type} {bs : List β} {i : Nat} {b : β} {p : β → Bool} {f : β → γ} (h : bs[i]? = some b) : ((bs.take (i + 1)).filter p).map f = ((bs.take i).filter p).map f ++ if p b = true then [f b] else [] := by
  rw [List.take_add_one, h, List.filter_append, List.map_append]
  congr 1
  show (List.filter p [b]).map f = _
  by_cases hp : p b = true
  · rw [List.filter_cons_of_pos hp, if_pos hp]
    rfl
  · rw [List.filter_cons_of_neg hp, if_neg hp]
    rfl
/-- a comprehension that changes nothing -/
theorem we_lcP {vs js : List Nat} (bs : List β) (enc : β → PyData) (p : β → Bool) (f : β → PyData) (hg : Tg g js) (hj : ∀ j ∈ js, j ∈ vs) (hz : bs.length ≤ 99999)
    (h : WI K wi cs hs fun its h1 => its = (bs.map enc).map C.d ∧ (∀ b ∈ bs, WG K g (wipeC cs vs) (.d (enc b)) fun cs2 => WT K tt cs2 h1 fun t h3 => BB t (WE K te cs2 h3 fun c h4 => TurnP p f h1 b c h4) (SkipP p h1 b h3)) ∧ ∀ a, k (.r a) ((a, .lst ((bs.filter p).map f)) :: h1)) :
    WE K (tLc wi g tt te vs) cs hs k := by
  refine we_lcD hg hj fun B H σ fh s E R r => h B H σ fh s E R fun J its h1 B1 H1 x1 E1 hsrc ⟨e, h2, h3⟩ => r J its h1 B1 H1 x1 E1 hsrc
    ⟨bs.map enc, e, by rw [List.length_map]; exact hz, fun i acc hs' => acc = ((bs.take i).filter p).map f ∧ hs' = h1, ⟨by simp, rfl⟩, fun i d acc hs' hd hI => ?_, fun acc hs' _ hI a => ?_⟩
  · obtain ⟨rfl, rfl⟩ := hI
    rw [List.getElem?_map] at hd
    obtain ⟨b, hb, rfl⟩ := Option.map_eq_some_iff.mp hd
    intro B H σ v bh s sv Q q
    refine h2 b (List.mem_of_getElem? hb) B H σ v bh s sv Q fun σ2 cs2 s2 ht => q σ2 cs2 s2 (ht.imp fun t h3 hb2 => ⟨fun e => (hb2.1 e).imp ?_, fun e => ?_⟩)
    · rintro c h4 ⟨rfl, rfl, hp⟩
      exact ⟨f b, rfl, by rw [take_step hb, if_pos hp], rfl⟩
    · obtain ⟨rfl, hp⟩ := hb2.2 e
      exact ⟨by rw [take_step hb, if_neg (by rw [hp]; decide), List.append_nil], rfl⟩
  · obtain ⟨rfl, rfl⟩ := hI
    rw [List.length_map, List.take_length]
    exact h3 a
/-- a dict comprehension that changes nothing -/
def TurnK (p : β → Bool) (kf : β → Key) (vf : β → C) (h1 : List HC) (b : β) (key : Key) (c : C) (h4 : List HC) : Prop := h4 = h1 ∧ key = kf b ∧ c = vf b ∧ p b = true
theorem we_dcP {vs js : List Nat} (bs : List β) (enc : β → PyData) (p : β → Bool) (kf : β → Key) (vf : β → C) (hg : Tg g js) (hj : ∀ j ∈ js, j ∈ vs) (hz : bs.length ≤ 99999)
    (h : WI K wi cs hs fun its h1 => its = (bs.map enc).map C.d ∧ (∀ b ∈ bs, WG K g (wipeC cs vs) (.d (enc b)) fun cs2 => WT K tt cs2 h1 fun t h3 => BB t (WE K tk cs2 h3 fun c h4 => IsK c fun key => WE K tv cs2 h4 fun c h5 => TurnK p kf vf h1 b key c h5) (SkipP p h1 b h3)) ∧
      ∀ a, k (.r a) ((a, .dic (mergeC [] ((bs.filter p).map fun b => (kf b, vf b)))) :: h1)) :
    WE K (tDc wi g tt tk tv vs) cs hs k := by
  refine we_dc hg hj fun B H σ fh s E R r => h B H σ fh s E R fun J its h1 B1 H1 x1 E1 hsrc ⟨e, h2, h3⟩ => r J its h1 B1 H1 x1 E1 hsrc
    ⟨by rw [e, List.length_map, List.length_map]; exact hz, fun i acc hs' => acc = mergeC [] (((bs.take i).filter p).map fun b => (kf b, vf b)) ∧ hs' = h1, ⟨by simp [mergeC], rfl⟩, fun i d acc hs' hd hI => ?_, fun acc hs' _ hI a => ?_⟩
  · obtain ⟨rfl, rfl⟩ := hI
    subst e
    rw [List.getElem?_map, List.getElem?_map] at hd
    obtain ⟨d', hd', rfl⟩ := Option.map_eq_some_iff.mp hd
    obtain ⟨b, hb, rfl⟩ := Option.map_eq_some_iff.mp hd'
    intro B H σ v bh s sv Q q
    refine h2 b (List.mem_of_getElem? hb) B H σ v bh s sv Q fun σ2 cs2 s2 ht => q σ2 cs2 s2 (ht.imp fun t h3 hb2 => ⟨fun e => (hb2.1 e).imp ?_, fun e => ?_⟩)
    · rintro c h4 ⟨d, key, e1, e2, hw⟩
      refine ⟨d, key, e1, e2, hw.imp ?_⟩
      rintro c h5 ⟨rfl, rfl, rfl, hp⟩
      refine ⟨?_, rfl⟩
      rw [take_step hb, if_pos hp]
      simp [mergeC, List.foldl_append]
    · obtain ⟨rfl, hp⟩ := hb2.2 e
      exact ⟨by rw [take_step hb, if_neg (by rw [hp]; decide), List.append_nil], rfl⟩
  · obtain ⟨rfl, rfl⟩ := hI
    subst e
    rw [List.length_map, List.length_map, List.take_length]
    exact h3 a
/-! sorted, by an order of one's own -/
theorem bl_sortedBy {bs : List β} {enc : β → PyData} {le : β → β → Bool} (hle : ∀ a ∈ bs, ∀ b ∈ bs, le a b = PySem.W.dataLe false id (enc a) (enc b)) (h1 : PySem.W.AllAlike (bs.map enc)) (h2 : PySem.W.Sortable (bs.map enc)) (h3 : ∀ d ∈ bs.map enc, d.depth ≤ 60) :
    BL K (rSortD K) (bs.map enc) (.list ((bs.mergeSort le).map enc)) := by
  have e := PySem.W.sort_maps (r := le) (s := PySem.W.dataLe false id) enc hle
  rw [e]
  exact bl_sorted h1 h2 h3
theorem bl_sortI {ns : List Int} : BL K (rSortD K) (ns.map PyData.int) (.list ((ns.mergeSort fun a b => decide (a ≤ b)).map PyData.int)) := by
  refine bl_sortedBy (fun a _ b _ => ?_) ?_ ?_ ?_
  · exact (congrFun (congrFun (PySem.W.dataLe_int (β := Int) id) a) b).symm
  · intro d hd d' hd'
    obtain ⟨x, _, rfl⟩ := List.mem_map.mp hd
    obtain ⟨y, _, rfl⟩ := List.mem_map.mp hd'
    rfl
  · right
    intro d hd
    obtain ⟨x, _, rfl⟩ := List.mem_map.mp hd
    exact ⟨(by intro z; cases z), (by intro xs z; cases z)⟩
  · intro d hd
    obtain ⟨x, _, rfl⟩ := List.mem_map.mp hd
    exact Nat.le_of_ble_eq_true rfl
/-- pairs of a text and an int -/
theorem bl_sortSI {bs : List β} {x : β → Str} {y : β → Int} : ∃ out : List β, out.Perm bs ∧ BL K (rSortD K) (bs.map fun b => .tuple [.str (x b), .int (y b)]) (.list (out.map fun b => .tuple [.str (x b), .int (y b)])) := by
  refine ⟨bs.mergeSort fun a b => PySem.W.dataLe false id (.tuple [.str (x a), .int (y a)]) (.tuple [.str (x b), .int (y b)]), List.mergeSort_perm _ _, bl_sortedBy (fun a _ b _ => rfl) ?_ ?_ ?_⟩
  · intro d hd d' hd'
    obtain ⟨x, _, rfl⟩ := List.mem_map.mp hd
    obtain ⟨y, _, rfl⟩ := List.mem_map.mp hd'
    rfl
  · left
    intro d hd
    obtain ⟨x, _, rfl⟩ := List.mem_map.mp hd
    exact ⟨_, _, rfl⟩
  · intro d hd
    obtain ⟨x, _, rfl⟩ := List.mem_map.mp hd
    exact Nat.le_of_ble_eq_true rfl
end
/-! the law's start -/
theorem law_start {K : PySem.W.Frag} {S : List C → List HC → KC → Prop} {H : Hp} {a : Addr} {ns : List Int} (hS : SqL K H a (ns.map V.int)) (h : S [.d (.list (ns.map PyData.int))] [] fun c _ => c = .d (.bool true)) : spC K S [.ref a] H (fun v _ => v = .bl true) fun _ _ _ => False := by
  refine ⟨H, [.d (.list (ns.map PyData.int))], [], [], _, ⟨⟨_, rfl, .lst hS ?_⟩, trivial⟩, ⟨fun _ _ h => h, fun p hp => (by cases hp), List.nodup_nil⟩, h, fun v c hs2 B2 H2 _ s2 E hk => ?_⟩
  · clear hS h
    induction ns with
    | nil => exact .nil
    | cons n ns ih => exact .cons (.int n) ih
  · subst hk
    exact Option.some.inj s2.bl
end Cw
/-! Part 8: rules with the written part said; texts, slices, ranges. -/
namespace Cw
open PySem PySem.Spec PyProof.Rows L2 Gu
section
variable {X : Cx} {K : PySem.W.Frag} {tg l o e : Expr} {es : List Expr} {tl to : TE} {t : TA} {name : Str} {apos cpos pos p : Pos} {T id : String} {r : V → List V → Hp → VK → Prop}
theorem pi_listK (hl : PE X l tl) (hK : X.K = K := by rfl) : PI X tg l (iList K tl) := hK ▸ pi_list hl
theorem pi_tupK (hl : PE X l tl) (hK : X.K = K := by rfl) : PI X tg l (iTup K tl) := hK ▸ pi_tup hl
theorem pe_bm0K (pa : PlainAttrs T) (slot : Slot T name id) (hty : typeOf (.builtin id) = pure (.type "method_descriptor")) (hm : MtR X id r) (ho : PE X o to) (hK : X.K = K := by rfl)
    (hbase : attributeBase o name X.env (eval o X.env) = eval o X.env := by rfl) (hline : (apos.endLine == cpos.line) = true := by rfl) : PE X (.Call (.Attribute o name apos) [] [] cpos) (tBM0 K T r to) := hK ▸ pe_bm0 pa slot hty hm ho hbase hline
theorem pe_bmK (pa : PlainAttrs T) (slot : Slot T name id) (hty : typeOf (.builtin id) = pure (.type "method_descriptor")) (hm : MtR X id r) (ho : PE X o to) (ha : PA X (e :: es) t) (hK : X.K = K := by rfl)
    (hbase : attributeBase o name X.env (eval o X.env) = eval o X.env := by rfl)
    (hfew : ((backTo cpos (starEach (e :: es) X.env)).all (fun x => !x.1) && (backToKw cpos (keywordEach [] X.env)).all (fun x => x.1.isSome)
      && decide ((e :: es).length + ([] : List Keyword).length + (if ([] : List Keyword).isEmpty then 0 else 1) < 30)) = true := by rfl)
    (hline : (apos.endLine == cpos.line) = true := by rfl) (hs : starEach (e :: es) X.env = (false, eval e X.env) :: starEach es X.env := by rfl) (hplain : (backTo cpos (starEach es X.env)).any (·.1) = false := by rfl) :
    PE X (.Call (.Attribute o name apos) (e :: es) [] cpos) (tBM K T r to t) := hK ▸ pe_bm pa slot hty hm ho ha hbase hfew hline hs hplain
theorem sl_listK (hK : X.K = K := by rfl) : SlR X (rSlL K) := hK ▸ sl_list
theorem sl_tupK (hK : X.K = K := by rfl) : SlR X (rSlA K) := hK ▸ sl_tupA
def rCatTx : R2 := fun x y H Q => ∃ i j, x = .str i ∧ y = .str j ∧ i.length + j.length ≤ sizeLine ∧ Q (.str (i ++ j)) H
theorem op_addS : OpR X (binaryOp .Add) rCatTx := op_add_str
end
section
variable {K : PySem.W.Frag} {cs : List C} {hs : List HC} {k : KC} {te : TE} {to1 to2 : TO}
theorem rd_addS {i j : Str} (hz : i.length + j.length ≤ 100000) (hk : k (.d (.str (i ++ j))) hs) : RD K rCatTx (.d (.str i)) (.d (.str j)) hs k := by
  intro B H fh v1 v2 s1 s2 E Q q
  cases s1.str
  cases s2.str
  exact ⟨i, j, rfl, rfl, Evl.sz_of hz, q _ (.d (.str _)) hs B H ex_refl ⟨_, rfl, .str _⟩ E hk⟩
theorem ra_neg {i : Int} (hk : k (.d (.int (-i))) hs) : RA K (fun vs H Q => ∃ v, vs = [v] ∧ rU (fun i => .int (-i)) v H Q) [.d (.int i)] hs k := by
  intro B H fh vs sv E Q q
  match vs, sv with
  | [v], ⟨s1, _⟩ =>
    cases s1.int
    exact ⟨_, rfl, i, rfl, q _ (.d (.int _)) hs B H ex_refl ⟨_, rfl, .int _⟩ E hk⟩
/-! slices -/
def WO (K : PySem.W.Frag) (to : TO) (cs : List C) (hs : List HC) (k : Option Int → List HC → Prop) : Prop := ∀ (B H : Hp) (σ : L2.St) (fh : List HC), SlA K B σ cs → En K B H (hs ++ fh) → ∀ Q : Option Int → Hp → Prop,
  (∀ o hs2 B2 H2, Ex B B2 → En K B2 H2 (hs2 ++ fh) → k o hs2 → Q o H2) → to σ H Q
variable {ko : Option Int → List HC → Prop}
theorem wo_none (h : ko none hs) : WO K tNoPart cs hs ko := fun B H σ fh s E Q q => q none hs B H ex_refl E h
theorem wo_some (h : WE K te cs hs fun c h2 => IsI c fun i => ko (some i) h2) : WO K (tPart te) cs hs ko := by
  intro B H σ fh s E Q q
  refine h B H σ fh s E _ fun v c h2 B2 H2 x2 s2 E2 ⟨i, e, hk⟩ => ?_
  subst e
  cases s2.int
  exact ⟨i, rfl, q (some i) h2 B2 H2 x2 E2 hk⟩
def cutD (xs : List PyData) (lo hi : Option Int) : List PyData := (xs.drop (HT.sIx xs.length 0 lo)).take (HT.sIx xs.length xs.length hi - HT.sIx xs.length 0 lo)
theorem dpAll_cut {B : Hp} {xs : List V} {ds : List PyData} (h : DpAll K B xs ds) (lo hi : Option Int) : DpAll K B (cutV xs lo hi) (cutD ds lo hi) := by
  unfold cutV cutD
  rw [h.len]
  exact dpAll_take _ (dpAll_drop _ h)
theorem we_slT (h : WE K te cs hs fun c h1 => WO K to1 cs h1 fun lo h2 => WO K to2 cs h2 fun hi h3 => ∃ ds, c = .d (.tuple ds) ∧ k (.d (.tuple (cutD ds lo hi))) h3) : WE K (tSl (rSlA K) te to1 to2) cs hs k := by
  intro B H σ fh s E Q q
  refine h B H σ fh s E _ fun v c h1 B1 H1 x1 s1 E1 w1 => ?_
  refine w1 B1 H1 σ fh (s.mono x1) E1 _ fun lo h2 B2 H2 x2 E2 w2 => ?_
  refine w2 B2 H2 σ fh ((s.mono x1).mono x2) E2 _ fun hi h3 B3 H3 x3 E3 ⟨ds, e, hk⟩ => ?_
  subst e
  have s3 := (s1.mono x2).mono x3
  have hd := s3.dp
  cases hd with
  | @tup a xs _ hq ha =>
    refine ⟨a, xs, rfl, Evl.ex_t E3.bh hq, fun hw => ?_, fun hw p hp => ?_⟩
    · have e : cutD ds lo hi = ds := by
        unfold cutD
        rw [← ha.len, hw.1, hw.2, List.drop_zero, Nat.sub_zero, ha.len, List.take_length]
      rw [e] at hk
      exact q _ (.d (.tuple ds)) h3 B3 H3 (ex_trans x1 (ex_trans x2 x3)) s3 E3 hk
    · exact q (.ref p) (.d (.tuple (cutD ds lo hi))) h3 _ _ (ex_trans x1 (ex_trans x2 (ex_trans x3 (Evl.Ex.new (free_of E3.bh hp))))) ⟨_, rfl, .tup (.inl (.inl upd_same)) (dpAll_mono (Evl.Ex.new (free_of E3.bh hp)) _ _ (dpAll_cut ha lo hi))⟩ (E3.newF hp) hk
theorem we_slL (h : WE K te cs hs fun c h1 => WO K to1 cs h1 fun lo h2 => WO K to2 cs h2 fun hi h3 => ∃ ds, As h3 c (.list ds) ∧ k (.d (.list (cutD ds lo hi))) h3) : WE K (tSl (rSlL K) te to1 to2) cs hs k := by
  intro B H σ fh s E Q q
  refine h B H σ fh s E _ fun v c h1 B1 H1 x1 s1 E1 w1 => ?_
  refine w1 B1 H1 σ fh (s.mono x1) E1 _ fun lo h2 B2 H2 x2 E2 w2 => ?_
  refine w2 B2 H2 σ fh ((s.mono x1).mono x2) E2 _ fun hi h3 B3 H3 x3 E3 ⟨ds, ha, hk⟩ => ?_
  have s3 := (s1.mono x2).mono x3
  obtain ⟨a, xs, rfl, hq, hd⟩ := ha.rl s3 E3
  exact ⟨a, xs, rfl, hq, fun p hp => q (.ref p) (.d (.list (cutD ds lo hi))) h3 _ _ (ex_trans x1 (ex_trans x2 (ex_trans x3 (Evl.Ex.new (free_of E3.bh hp))))) ⟨_, rfl, .lst (.inl (.inl upd_same)) (dpAll_mono (Evl.Ex.new (free_of E3.bh hp)) _ _ (dpAll_cut hd lo hi))⟩ (E3.newF hp) hk⟩
/-! tuple(range(n)) -/
theorem dp_rgV {B : Hp} (a b : Int) : DpAll K B (rgV a b) ((List.range (b - a).toNat).map fun i : Nat => PyData.int (a + (i : Int))) := by
  unfold rgV
  generalize (List.range (b - a).toNat) = l
  induction l with
  | nil => exact .nil
  | cons i l ih => exact .cons (.int _) ih
theorem we_tupRg1 (h : WE K te cs hs fun c h1 => ∃ n : Nat, c = .d (.int n) ∧ n ≤ 100000 ∧ k (.d (.tuple ((List.range n).map fun i : Nat => PyData.int (i : Int)))) h1) : WE K (tTupRg (tRg1 te)) cs hs k := by
  intro B H σ fh s E Q q
  refine h B H σ fh s E _ fun v c h1 B1 H1 x1 s1 E1 ⟨n, e, hn, hk⟩ => ?_
  subst e
  cases s1.int
  refine ⟨n, rfl, ⟨by omega, by omega, by omega, by omega, by omega⟩, fun p hp => ?_⟩
  have e : ((List.range ((n : Int) - 0).toNat).map fun i : Nat => PyData.int (0 + (i : Int))) = (List.range n).map fun i : Nat => PyData.int (i : Int) := by
    rw [Int.sub_zero, Int.toNat_natCast]
    congr 1
    funext i
    rw [Int.zero_add]
  have hd := dp_rgV (K := K) (B := upd B1 p (.tup (rgV 0 n))) 0 n
  rw [e] at hd
  exact q (.ref p) (.d (.tuple _)) h1 _ _ (ex_trans x1 (Evl.Ex.new (free_of E1.bh hp))) ⟨_, rfl, .tup (.inl (.inl upd_same)) hd⟩ (E1.newF hp) hk
/-- f(k=v): the one argument by its keyword -/
theorem we_calK1 {S : List C → List HC → KC → Prop} {gV : List V → List V → List V} {tk : TA} (hgv : ∀ a, gV [] [a] = [a]) (h : WA K tk cs hs fun cl h1 => ∃ c1, cl = [c1] ∧ CallS S [c1] h1 k) : WE K (tCalK0 (spC K S) gV tk) cs hs k := by
  intro B H σ fh s E Q q
  refine h B H σ fh s E _ fun vs cl h1 B1 H1 x1 s1 E1 ⟨c1, e, hc⟩ => ?_
  subst e
  match vs, s1 with
  | [a], s1 =>
    rw [hgv]
    exact hc.run s1 E1 fun v c hs2 B2 H2 x2 s2 E2 hk => q v c hs2 B2 H2 (ex_trans x1 x2) s2 E2 hk
theorem we_calK2 {S : List C → List HC → KC → Prop} {gV : List V → List V → List V} {tk : TA} (hgv : ∀ a b, gV [] [a, b] = [b, a]) (h : WA K tk cs hs fun cl h1 => ∃ c1 c2, cl = [c1, c2] ∧ CallS S [c2, c1] h1 k) : WE K (tCalK0 (spC K S) gV tk) cs hs k := by
  intro B H σ fh s E Q q
  refine h B H σ fh s E _ fun vs cl h1 B1 H1 x1 s1 E1 ⟨c1, c2, e, hc⟩ => ?_
  subst e
  match vs, s1 with
  | [a, b], ⟨s1, s2, _⟩ =>
    rw [hgv]
    exact hc.run (vs := [b, a]) ⟨s2, s1, trivial⟩ E1 fun v c hs2 B2 H2 x2 s2 E2 hk => q v c hs2 B2 H2 (ex_trans x1 x2) s2 E2 hk
end
end Cw
/-! Snapshots and what is alive in them: the mathematics. -/
namespace Snap
open PySem
inductive Pt where
  | rcd (ps : List (Int × Int))
  | map (ps : List (Int × Option Int))
  | weak (ts : List Int)
structure Th where
  n : Int
  home : Str
  pt : Pt
/-! as data -/
def ptSort : Pt → Str
  | .rcd _ => "record"
  | .map _ => "map"
  | .weak _ => "weak"
def optD : Option Int → PyData
  | none => .none
  | some v => .int v
def recD (p : Int × Int) : PyData := .tuple [.int p.1, .int p.2]
def entD (p : Int × Option Int) : PyData := .tuple [.int p.1, optD p.2]
def ptD : Pt → PyData
  | .rcd ps => .tuple (ps.map recD)
  | .map ps => .tuple (ps.map entD)
  | .weak ts => .tuple (ts.map PyData.int)
def thD (t : Th) : PyData := .tuple [.int t.n, .str t.home, .str (ptSort t.pt), ptD t.pt]
def rootD (r : Str × Int) : PyData := .tuple [.str r.1, .int r.2]
def shotD (roots : List (Str × Int)) (ts : List Th) : PyData := .tuple [.tuple (roots.map rootD), .tuple (ts.map thD)]
/-- parts over the objects fs -/
def PtOk (fs : List Int) : Pt → Prop
  | .rcd ps => (ps.map (·.1)).Pairwise (· < ·) ∧ ∀ p ∈ ps, 0 ≤ p.1 ∧ p.1 ≤ 5 ∧ p.2 ∈ fs
  | .map ps => (ps.map (·.1)).Pairwise (· < ·) ∧ ∀ p ∈ ps, p.1 ∈ fs ∧ ∀ v, p.2 = some v → v ∈ fs
  | .weak ts => ts.length ≤ 1 ∧ ∀ t ∈ ts, t ∈ fs
/-- a link: the object to which it leads, those from which it does -/
abbrev Wy := Int × List Int
def ptWays (cS cE : Int → Int → Bool) (n : Int) : Pt → List Wy
  | .rcd ps => (ps.filter fun p => !cS n p.1).map fun p => (p.2, [n])
  | .map ps => ps.filterMap fun p => match p.2 with
    | some v => if cE n p.1 = true then none else some (v, [n, p.1])
    | none => none
  | .weak _ => []
def rootWays (cR : Str → Bool) (roots : List (Str × Int)) : List Wy := (roots.filter fun r => !cR r.1).map fun r => (r.2, [])
def ways (cR : Str → Bool) (cS cE : Int → Int → Bool) (roots : List (Str × Int)) (ts : List Th) : List Wy := rootWays cR roots ++ ts.flatMap fun t => ptWays cS cE t.n t.pt
/-- alive: reached by a link all of whose beginnings are alive; S: the objects that are there -/
inductive Al (S : Int → Prop) (W : List Wy) : Int → Prop
  | mk {x : Int} {ws : List Int} : (x, ws) ∈ W → S x → (∀ w ∈ ws, Al S W w) → Al S W x
theorem Al.there {S : Int → Prop} {W : List Wy} {x : Int} (h : Al S W x) : S x := by
  cases h with
  | mk _ h _ => exact h
/-- what is closed has all that is alive -/
theorem Al.sub {S : Int → Prop} {W : List Wy} {F : Int → Prop} (hc : ∀ x ws, (x, ws) ∈ W → S x → (∀ w ∈ ws, F w) → F x) {x : Int} (h : Al S W x) : F x := by
  induction h with
  | mk h1 h2 _ ih => exact hc _ _ h1 h2 ih
theorem Al.mono {S S' : Int → Prop} {W W' : List Wy} (hs : ∀ x, S x → S' x) (hw : ∀ p, p ∈ W → p ∈ W') {x : Int} (h : Al S W x) : Al S' W' x := by
  induction h with
  | mk h1 h2 _ ih => exact .mk (hw _ h1) (hs _ h2) ih
/-! the values that wait for keys -/
abbrev La := List (Int × List Int)
def inL (L : La) (k v : Int) : Prop := ∃ vs, (k, vs) ∈ L ∧ v ∈ vs
def getL (L : La) (k : Int) : Option (List Int) := (L.find? fun p => decide (p.1 = k)).map (·.2)
def delL (L : La) (k : Int) : La := L.filter fun p => decide (p.1 ≠ k)
def addL (L : La) (k v : Int) : La := if (L.any fun p => decide (p.1 = k)) = true then L.map (fun p => if p.1 = k then (p.1, p.2 ++ [v]) else p) else L ++ [(k, [v])]
def sizeL (L : La) : Nat := (L.map fun p => p.2.length).sum
theorem getL_mem {L : La} {k : Int} {vs : List Int} (h : getL L k = some vs) : (k, vs) ∈ L := by
  obtain ⟨p, hp, e⟩ := Option.map_eq_some_iff.mp h
  have h1 := List.mem_of_find?_eq_some hp
  have h2 := List.find?_some hp
  have h3 : p.1 = k := of_decide_eq_true h2
  rw [← e, ← h3]
  exact h1
theorem getL_none {L : La} {k : Int} (h : getL L k = none) {vs : List Int} : (k, vs) ∉ L := by
  intro hm
  have : L.find? (fun p => decide (p.1 = k)) = none := Option.map_eq_none_iff.mp h
  have := List.find?_eq_none.mp this _ hm
  simp at this
theorem getL_of {L : La} {k : Int} {vs : List Int} (hn : (L.map (·.1)).Nodup) (h : (k, vs) ∈ L) : getL L k = some vs := by
  match e : getL L k with
  | none => exact absurd h (getL_none e)
  | some ws =>
    have h2 := getL_mem e
    have : ∀ {L : La}, (L.map (·.1)).Nodup → (k, vs) ∈ L → (k, ws) ∈ L → ws = vs := by
      intro L
      induction L with
      | nil => intro _ h _; cases h
      | cons p L ih =>
        intro hn h1 h2
        rw [List.map_cons, List.nodup_cons] at hn
        rcases List.mem_cons.mp h1 with e1 | h1
        · rcases List.mem_cons.mp h2 with e2 | h2
          · exact (Prod.mk.inj (e2.trans e1.symm)).2
          · exact absurd (List.mem_map.mpr ⟨_, h2, by rw [← e1]⟩) hn.1
        · rcases List.mem_cons.mp h2 with e2 | h2
          · exact absurd (List.mem_map.mpr ⟨_, h1, by rw [← e2]⟩) hn.1
          · exact ih hn.2 h1 h2
    rw [this hn h h2]
theorem delL_keys {L : La} {k : Int} (h : (L.map (·.1)).Nodup) : ((delL L k).map (·.1)).Nodup := (List.filter_sublist.map _).nodup h
theorem in_delL {L : La} {k x v : Int} : inL (delL L k) x v ↔ inL L x v ∧ x ≠ k := by
  unfold inL delL
  constructor
  · rintro ⟨vs, h1, h2⟩
    obtain ⟨h3, h4⟩ := List.mem_filter.mp h1
    exact ⟨⟨vs, h3, h2⟩, by simpa using h4⟩
  · rintro ⟨⟨vs, h1, h2⟩, h3⟩
    exact ⟨vs, List.mem_filter.mpr ⟨h1, by simpa using h3⟩, h2⟩
theorem size_del {L : La} {k : Int} (hn : (L.map (·.1)).Nodup) : sizeL (delL L k) + ((getL L k).getD []).length = sizeL L := by
  induction L with
  | nil => rfl
  | cons p L ih =>
    rw [List.map_cons, List.nodup_cons] at hn
    have ih := ih hn.2
    unfold delL sizeL getL at ih ⊢
    by_cases e : p.1 = k
    · have hf : L.find? (fun p => decide (p.1 = k)) = none := List.find?_eq_none.mpr fun q hq => by
        have : q.1 ≠ k := fun z => hn.1 (List.mem_map.mpr ⟨q, hq, z.trans e.symm⟩)
        simpa using this
      rw [hf] at ih
      rw [List.filter_cons_of_neg (by simpa using e), List.find?_cons_of_pos (by simpa using e), List.map_cons, List.sum_cons]
      simp only [Option.map_none, Option.getD_none, List.length_nil] at ih
      simp only [Option.map_some, Option.getD_some]
      omega
    · rw [List.filter_cons_of_pos (by simpa using e), List.find?_cons_of_neg (by simpa using e), List.map_cons, List.map_cons, List.sum_cons, List.sum_cons]
      omega
theorem any_key {L : La} {k : Int} : (L.any fun p => decide (p.1 = k)) = true ↔ k ∈ L.map (·.1) := by
  rw [List.any_eq_true]
  constructor
  · rintro ⟨p, hp, h⟩
    exact List.mem_map.mpr ⟨p, hp, of_decide_eq_true h⟩
  · intro h
    obtain ⟨p, hp, e⟩ := List.mem_map.mp h
    exact ⟨p, hp, decide_eq_true e⟩
theorem addL_keys {L : La} {k v : Int} (h : (L.map (·.1)).Nodup) : ((addL L k v).map (·.1)).Nodup := by
  unfold addL
  by_cases e : (L.any fun p => decide (p.1 = k)) = true
  · rw [if_pos e, List.map_map]
    have : ((·.1) ∘ fun p : Int × List Int => if p.1 = k then (p.1, p.2 ++ [v]) else p) = (·.1) := by
      funext p
      show (if p.1 = k then (p.1, p.2 ++ [v]) else p).1 = p.1
      split <;> rfl
    rw [this]
    exact h
  · rw [if_neg e, List.map_append, List.nodup_append]
    refine ⟨h, by simp, fun a ha b hb => ?_⟩
    simp at hb
    subst hb
    intro z
    subst z
    exact e (any_key.mpr ha)
theorem in_addL {L : La} {k v x y : Int} : inL (addL L k v) x y ↔ inL L x y ∨ (x = k ∧ y = v) := by
  unfold addL
  by_cases e : (L.any fun p => decide (p.1 = k)) = true
  · rw [if_pos e]
    constructor
    · rintro ⟨vs, h1, h2⟩
      obtain ⟨p, hp, ep⟩ := List.mem_map.mp h1
      by_cases hk : p.1 = k
      · rw [if_pos hk] at ep
        obtain ⟨e1, e2⟩ := Prod.mk.inj ep
        rw [← e2] at h2
        rcases List.mem_append.mp h2 with h2 | h2
        · exact .inl ⟨p.2, by rw [← e1]; exact hp, h2⟩
        · exact .inr ⟨by rw [← e1]; exact hk, by simpa using h2⟩
      · rw [if_neg hk] at ep
        exact .inl ⟨vs, by rw [← ep]; exact hp, h2⟩
    · rintro (⟨vs, h1, h2⟩ | ⟨rfl, rfl⟩)
      · by_cases hk : x = k
        · exact ⟨vs ++ [v], List.mem_map.mpr ⟨(x, vs), h1, by rw [if_pos hk]⟩, List.mem_append_left _ h2⟩
        · exact ⟨vs, List.mem_map.mpr ⟨(x, vs), h1, by rw [if_neg hk]⟩, h2⟩
      · obtain ⟨p, hp, ep⟩ := List.mem_map.mp (any_key.mp e)
        exact ⟨p.2 ++ [y], List.mem_map.mpr ⟨p, hp, by rw [if_pos ep, ep]⟩, List.mem_append_right _ (by simp)⟩
  · rw [if_neg e]
    constructor
    · rintro ⟨vs, h1, h2⟩
      rcases List.mem_append.mp h1 with h1 | h1
      · exact .inl ⟨vs, h1, h2⟩
      · simp at h1
        obtain ⟨rfl, rfl⟩ := h1
        exact .inr ⟨rfl, by simpa using h2⟩
    · rintro (⟨vs, h1, h2⟩ | ⟨rfl, rfl⟩)
      · exact ⟨vs, List.mem_append_left _ h1, h2⟩
      · exact ⟨[y], List.mem_append_right _ (by simp), by simp⟩
theorem size_add {L : La} {k v : Int} (hn : (L.map (·.1)).Nodup) : sizeL (addL L k v) = sizeL L + 1 := by
  unfold addL
  by_cases e : (L.any fun p => decide (p.1 = k)) = true
  · rw [if_pos e]
    have hm := any_key.mp e
    clear e
    induction L with
    | nil => cases hm
    | cons p L ih =>
      rw [List.map_cons, List.nodup_cons] at hn
      unfold sizeL at ih ⊢
      rw [List.map_cons, List.map_cons, List.map_cons, List.sum_cons, List.sum_cons]
      by_cases hk : p.1 = k
      · rw [if_pos hk]
        have : L.map (fun p : Int × List Int => if p.1 = k then (p.1, p.2 ++ [v]) else p) = L := by
          conv => rhs; rw [← List.map_id L]
          refine List.map_congr_left fun q hq => ?_
          have : q.1 ≠ k := fun z => hn.1 (List.mem_map.mpr ⟨q, hq, z.trans hk.symm⟩)
          rw [if_neg this]
          rfl
        rw [this, List.length_append, List.length_singleton]
        omega
      · rw [if_neg hk]
        have hm' : k ∈ L.map (·.1) := by
          rcases List.mem_cons.mp hm with h | h
          · exact absurd h.symm hk
          · exact h
        have := ih hn.2 hm'
        omega
  · rw [if_neg e]
    unfold sizeL
    simp
theorem inL_size {L : La} {k : Int} {vs : List Int} (h : (k, vs) ∈ L) : vs.length ≤ sizeL L := by
  induction L with
  | nil => cases h
  | cons p L ih =>
    unfold sizeL at ih ⊢
    rw [List.map_cons, List.sum_cons]
    rcases List.mem_cons.mp h with e | h
    · rw [← e]
      exact Nat.le_add_right _ _
    · have := ih h
      omega
/-! what a map leads to -/
abbrev Sq := List Int × La
def mapStep (cE : Int → Int → Bool) (F : List Int) (n : Int) (s : Sq) (p : Int × Option Int) : Sq :=
  match p.2 with
  | none => s
  | some v => if cE n p.1 = true then s else if p.1 ∈ F then (s.1 ++ [v], s.2) else (s.1, addL s.2 p.1 v)
def mapLed (cE : Int → Int → Bool) (F : List Int) (n : Int) (ps : List (Int × Option Int)) (s : Sq) : Sq := ps.foldl (mapStep cE F n) s
theorem mapLed_spec {cE : Int → Int → Bool} {F : List Int} {n : Int} : ∀ {ps : List (Int × Option Int)} {s : Sq}, (s.2.map (·.1)).Nodup →
    ((mapLed cE F n ps s).2.map (·.1)).Nodup ∧ (mapLed cE F n ps s).1.length + sizeL (mapLed cE F n ps s).2 ≤ s.1.length + sizeL s.2 + ps.length ∧
    (∀ v, v ∈ (mapLed cE F n ps s).1 ↔ v ∈ s.1 ∨ ∃ key, (key, some v) ∈ ps ∧ cE n key = false ∧ key ∈ F) ∧
    ∀ key v, inL (mapLed cE F n ps s).2 key v ↔ inL s.2 key v ∨ ((key, some v) ∈ ps ∧ cE n key = false ∧ key ∉ F)
  | [], s, hn => ⟨hn, Nat.le_refl _, fun v => by simp [mapLed], fun key v => by simp [mapLed]⟩
  | (key0, none) :: ps, s, hn => by
    obtain ⟨h1, h2, h3, h4⟩ := mapLed_spec (ps := ps) (s := s) hn
    refine ⟨h1, ?_, fun v => ?_, fun key v => ?_⟩
    · rw [List.length_cons]
      show (mapLed cE F n ps s).1.length + sizeL (mapLed cE F n ps s).2 ≤ _
      omega
    · show v ∈ (mapLed cE F n ps s).1 ↔ _
      rw [h3]
      simp
    · show inL (mapLed cE F n ps s).2 key v ↔ _
      rw [h4]
      simp
  | (key0, some v0) :: ps, s, hn => by
    by_cases hc : cE n key0 = true
    · have e : mapLed cE F n ((key0, some v0) :: ps) s = mapLed cE F n ps s := by
        show (ps.foldl (mapStep cE F n) (mapStep cE F n s (key0, some v0))) = _
        rw [show mapStep cE F n s (key0, some v0) = s from if_pos hc]
        rfl
      rw [e]
      obtain ⟨h1, h2, h3, h4⟩ := mapLed_spec (ps := ps) (s := s) hn
      refine ⟨h1, by rw [List.length_cons]; omega, fun v => ?_, fun key v => ?_⟩
      · rw [h3]
        constructor
        · rintro (h | ⟨key, h, h'⟩)
          · exact .inl h
          · exact .inr ⟨key, List.mem_cons_of_mem _ h, h'⟩
        · rintro (h | ⟨key, h, h', h''⟩)
          · exact .inl h
          · rcases List.mem_cons.mp h with z | h
            · obtain ⟨rfl, _⟩ := Prod.mk.inj z
              rw [hc] at h'
              cases h'
            · exact .inr ⟨key, h, h', h''⟩
      · rw [h4]
        constructor
        · rintro (h | ⟨h, h'⟩)
          · exact .inl h
          · exact .inr ⟨List.mem_cons_of_mem _ h, h'⟩
        · rintro (h | ⟨h, h', h''⟩)
          · exact .inl h
          · rcases List.mem_cons.mp h with z | h
            · obtain ⟨rfl, _⟩ := Prod.mk.inj z
              rw [hc] at h'
              cases h'
            · exact .inr ⟨h, h', h''⟩
    · have hc' : cE n key0 = false := by simpa using hc
      by_cases hF : key0 ∈ F
      · have e : mapLed cE F n ((key0, some v0) :: ps) s = mapLed cE F n ps (s.1 ++ [v0], s.2) := by
          show (ps.foldl (mapStep cE F n) (mapStep cE F n s (key0, some v0))) = _
          rw [show mapStep cE F n s (key0, some v0) = (s.1 ++ [v0], s.2) from (if_neg hc).trans (if_pos hF)]
          rfl
        rw [e]
        obtain ⟨h1, h2, h3, h4⟩ := mapLed_spec (ps := ps) (s := (s.1 ++ [v0], s.2)) hn
        simp only [List.length_append, List.length_singleton] at h2
        refine ⟨h1, by rw [List.length_cons]; omega, fun v => ?_, fun key v => ?_⟩
        · rw [h3]
          constructor
          · rintro (h | ⟨key, h, h'⟩)
            · rcases List.mem_append.mp h with h | h
              · exact .inl h
              · simp at h
                subst h
                exact .inr ⟨key0, List.mem_cons_self .., hc', hF⟩
            · exact .inr ⟨key, List.mem_cons_of_mem _ h, h'⟩
          · rintro (h | ⟨key, h, h'⟩)
            · exact .inl (List.mem_append_left _ h)
            · rcases List.mem_cons.mp h with z | h
              · obtain ⟨rfl, e2⟩ := Prod.mk.inj z
                cases e2
                exact .inl (List.mem_append_right _ (by simp))
              · exact .inr ⟨key, h, h'⟩
        · rw [h4]
          constructor
          · rintro (h | ⟨h, h'⟩)
            · exact .inl h
            · exact .inr ⟨List.mem_cons_of_mem _ h, h'⟩
          · rintro (h | ⟨h, h', h''⟩)
            · exact .inl h
            · rcases List.mem_cons.mp h with z | h
              · obtain ⟨rfl, _⟩ := Prod.mk.inj z
                exact absurd hF h''
              · exact .inr ⟨h, h', h''⟩
      · have e : mapLed cE F n ((key0, some v0) :: ps) s = mapLed cE F n ps (s.1, addL s.2 key0 v0) := by
          show (ps.foldl (mapStep cE F n) (mapStep cE F n s (key0, some v0))) = _
          rw [show mapStep cE F n s (key0, some v0) = (s.1, addL s.2 key0 v0) from (if_neg hc).trans (if_neg hF)]
          rfl
        rw [e]
        obtain ⟨h1, h2, h3, h4⟩ := mapLed_spec (ps := ps) (s := (s.1, addL s.2 key0 v0)) (addL_keys hn)
        simp only [size_add hn] at h2
        refine ⟨h1, by rw [List.length_cons]; omega, fun v => ?_, fun key v => ?_⟩
        · rw [h3]
          constructor
          · rintro (h | ⟨key, h, h'⟩)
            · exact .inl h
            · exact .inr ⟨key, List.mem_cons_of_mem _ h, h'⟩
          · rintro (h | ⟨key, h, h', h''⟩)
            · exact .inl h
            · rcases List.mem_cons.mp h with z | h
              · obtain ⟨rfl, e2⟩ := Prod.mk.inj z
                exact absurd h'' hF
              · exact .inr ⟨key, h, h', h''⟩
        · rw [h4]
          simp only [in_addL]
          constructor
          · rintro ((h | ⟨rfl, rfl⟩) | ⟨h, h'⟩)
            · exact .inl h
            · exact .inr ⟨List.mem_cons_self .., hc', hF⟩
            · exact .inr ⟨List.mem_cons_of_mem _ h, h'⟩
          · rintro (h | ⟨h, h'⟩)
            · exact .inl (.inl h)
            · rcases List.mem_cons.mp h with z | h
              · obtain ⟨rfl, e2⟩ := Prod.mk.inj z
                cases e2
                exact .inl (.inr ⟨rfl, rfl⟩)
              · exact .inr ⟨h, h'⟩
/-- what an object leads to: popped first -/
def led (cS cE : Int → Int → Bool) (F : List Int) (n : Int) (pt : Pt) (L : La) : Sq :=
  let out := (getL L n).getD []
  let L1 := delL L n
  match pt with
  | .rcd ps => (out ++ (ps.filter fun p => !cS n p.1).map (·.2), L1)
  | .map ps => mapLed cE F n ps (out, L1)
  | .weak _ => (out, L1)
def ptSize : Pt → Nat
  | .rcd ps => ps.length
  | .map ps => ps.length
  | .weak _ => 0
/-- what is still to come -/
def restN (F : List Int) (ts : List Th) : Nat := ((ts.filter fun t => decide (t.n ∉ F)).map fun t => 1 + ptSize t.pt).sum
structure Ok (cR : Str → Bool) (cS cE : Int → Int → Bool) (S : Int → Prop) (roots : List (Str × Int)) (ts : List Th) (F Wt : List Int) (L : La) : Prop where
  ndF : F.Nodup
  ndL : (L.map (·.1)).Nodup
  subF : ∀ x ∈ F, Al S (ways cR cS cE roots ts) x
  sndW : ∀ x ∈ Wt, S x → Al S (ways cR cS cE roots ts) x
  sndL : ∀ k v, inL L k v → Al S (ways cR cS cE roots ts) k → S v → Al S (ways cR cS cE roots ts) v
  cmp : ∀ x ws, (x, ws) ∈ ways cR cS cE roots ts → S x → (∀ w ∈ ws, w ∈ F) → x ∈ F ∨ x ∈ Wt
  cmpL : ∀ t ∈ ts, ∀ ps, t.pt = .map ps → t.n ∈ F → ∀ key v, (key, some v) ∈ ps → cE t.n key = false → key ∉ F → inL L key v
  dis : ∀ k v, inL L k v → k ∉ F
section
variable {cR : Str → Bool} {cS cE : Int → Int → Bool} {S : Int → Prop} {roots : List (Str × Int)} {ts : List Th} {F Wt : List Int} {L : La}
theorem mem_ways {x : Int} {ws : List Int} : (x, ws) ∈ ways cR cS cE roots ts ↔ (∃ r, (r, x) ∈ roots ∧ cR r = false ∧ ws = []) ∨
    (∃ t ∈ ts, ∃ ps s, t.pt = .rcd ps ∧ (s, x) ∈ ps ∧ cS t.n s = false ∧ ws = [t.n]) ∨ ∃ t ∈ ts, ∃ ps key, t.pt = .map ps ∧ (key, some x) ∈ ps ∧ cE t.n key = false ∧ ws = [t.n, key] := by
  unfold ways rootWays
  rw [List.mem_append, List.mem_flatMap]
  constructor
  · rintro (h | ⟨t, ht, h⟩)
    · obtain ⟨r, hr, e⟩ := List.mem_map.mp h
      obtain ⟨h1, h2⟩ := List.mem_filter.mp hr
      obtain ⟨rfl, rfl⟩ := Prod.mk.inj e
      exact .inl ⟨r.1, h1, by simpa using h2, rfl⟩
    · cases hp : t.pt with
      | rcd ps =>
        rw [hp] at h
        obtain ⟨p, hp2, e⟩ := List.mem_map.mp h
        obtain ⟨h1, h2⟩ := List.mem_filter.mp hp2
        obtain ⟨rfl, rfl⟩ := Prod.mk.inj e
        exact .inr (.inl ⟨t, ht, ps, p.1, hp, h1, by simpa using h2, rfl⟩)
      | map ps =>
        rw [hp] at h
        obtain ⟨p, hp2, e⟩ := List.mem_filterMap.mp h
        match p, hp2, e with
        | (key, some v), hp2, e =>
          simp only at e
          by_cases hc : cE t.n key = true
          · rw [if_pos hc] at e
            cases e
          · rw [if_neg hc] at e
            cases e
            exact .inr (.inr ⟨t, ht, ps, key, hp, hp2, by simpa using hc, rfl⟩)
      | weak _ =>
        rw [hp] at h
        cases h
  · rintro (⟨r, h1, h2, rfl⟩ | ⟨t, ht, ps, s, hp, h1, h2, rfl⟩ | ⟨t, ht, ps, key, hp, h1, h2, rfl⟩)
    · exact .inl (List.mem_map.mpr ⟨(r, x), List.mem_filter.mpr ⟨h1, by simpa using h2⟩, rfl⟩)
    · refine .inr ⟨t, ht, ?_⟩
      rw [hp]
      exact List.mem_map.mpr ⟨(s, x), List.mem_filter.mpr ⟨h1, by simpa using h2⟩, rfl⟩
    · refine .inr ⟨t, ht, ?_⟩
      rw [hp]
      refine List.mem_filterMap.mpr ⟨(key, some x), h1, ?_⟩
      simp only
      rw [if_neg (by rw [h2]; decide)]
theorem ok_start : Ok cR cS cE S roots ts [] ((roots.filter fun r => !cR r.1).map (·.2)) [] := by
  refine ⟨List.nodup_nil, List.nodup_nil, fun x h => (by cases h), fun x hx hS => ?_, fun k v h => ?_, fun x ws hw hS hn => ?_, fun t ht ps hp h => (by cases h), fun k v h => ?_⟩
  · obtain ⟨r, hr, rfl⟩ := List.mem_map.mp hx
    obtain ⟨h1, h2⟩ := List.mem_filter.mp hr
    exact .mk (mem_ways.mpr (.inl ⟨r.1, h1, by simpa using h2, rfl⟩)) hS fun w hw => by cases hw
  · obtain ⟨vs, h, _⟩ := h
    cases h
  · rcases mem_ways.mp hw with ⟨r, h1, h2, rfl⟩ | ⟨t, ht, ps, s, hp, h1, h2, rfl⟩ | ⟨t, ht, ps, key, hp, h1, h2, rfl⟩
    · exact .inr (List.mem_map.mpr ⟨(r, x), List.mem_filter.mpr ⟨h1, by simpa using h2⟩, rfl⟩)
    · have := hn t.n (by simp)
      cases this
    · have := hn t.n (by simp)
      cases this
  · obtain ⟨vs, h, _⟩ := h
    cases h
/-- a number that is not there, or found already -/
theorem Ok.skip {x : Int} (h : Ok cR cS cE S roots ts F (Wt ++ [x]) L) (hx : ¬ S x ∨ x ∈ F) : Ok cR cS cE S roots ts F Wt L := by
  refine ⟨h.ndF, h.ndL, h.subF, fun y hy => h.sndW y (List.mem_append_left _ hy), h.sndL, fun y ws hw hS hn => ?_, h.cmpL, h.dis⟩
  rcases h.cmp y ws hw hS hn with h1 | h1
  · exact .inl h1
  · rcases List.mem_append.mp h1 with h1 | h1
    · exact .inr h1
    · simp at h1
      subst h1
      rcases hx with hx | hx
      · exact absurd hS hx
      · exact .inl hx
theorem Ok.next {t : Th} (h : Ok cR cS cE S roots ts F (Wt ++ [t.n]) L) (ht : t ∈ ts) (hu : ∀ t' ∈ ts, t'.n = t.n → t' = t) (hS : S t.n) (hF : t.n ∉ F) :
    Ok cR cS cE S roots ts (F ++ [t.n]) (Wt ++ (led cS cE (F ++ [t.n]) t.n t.pt L).1) (led cS cE (F ++ [t.n]) t.n t.pt L).2 := by
  have hA : Al S (ways cR cS cE roots ts) t.n := h.sndW _ (List.mem_append_right _ (by simp)) hS
  have hnd1 : ((delL L t.n).map (·.1)).Nodup := delL_keys h.ndL
  -- what the parts give
  have key : ((led cS cE (F ++ [t.n]) t.n t.pt L).2.map (·.1)).Nodup ∧
      (∀ v, v ∈ (led cS cE (F ++ [t.n]) t.n t.pt L).1 ↔ inL L t.n v ∨ (∃ ps s, t.pt = .rcd ps ∧ (s, v) ∈ ps ∧ cS t.n s = false) ∨ ∃ ps k, t.pt = .map ps ∧ (k, some v) ∈ ps ∧ cE t.n k = false ∧ k ∈ F ++ [t.n]) ∧
      (∀ k v, inL (led cS cE (F ++ [t.n]) t.n t.pt L).2 k v ↔ (inL L k v ∧ k ≠ t.n) ∨ ∃ ps, t.pt = .map ps ∧ (k, some v) ∈ ps ∧ cE t.n k = false ∧ k ∉ F ++ [t.n]) := by
    have hpop : ∀ v, v ∈ (getL L t.n).getD [] ↔ inL L t.n v := by
      intro v
      match e : getL L t.n with
      | none =>
        simp only [Option.getD_none, List.not_mem_nil, false_iff]
        rintro ⟨vs, h1, _⟩
        exact getL_none e h1
      | some vs =>
        simp only [Option.getD_some]
        constructor
        · intro hv
          exact ⟨vs, getL_mem e, hv⟩
        · rintro ⟨ws, h1, h2⟩
          have := getL_of h.ndL h1
          rw [e] at this
          cases this
          exact h2
    cases hp : t.pt with
    | rcd ps =>
      refine ⟨hnd1, fun v => ?_, fun k v => ?_⟩
      · show v ∈ (getL L t.n).getD [] ++ (ps.filter fun p => !cS t.n p.1).map (·.2) ↔ _
        rw [List.mem_append, hpop]
        constructor
        · rintro (h1 | h1)
          · exact .inl h1
          · obtain ⟨p, hp1, rfl⟩ := List.mem_map.mp h1
            obtain ⟨h2, h3⟩ := List.mem_filter.mp hp1
            exact .inr (.inl ⟨ps, p.1, rfl, h2, by simpa using h3⟩)
        · rintro (h1 | ⟨ps', s, e, h2, h3⟩ | ⟨ps', k, e, _⟩)
          · exact .inl h1
          · cases e
            exact .inr (List.mem_map.mpr ⟨(s, v), List.mem_filter.mpr ⟨h2, by simpa using h3⟩, rfl⟩)
          · cases e
      · show inL (delL L t.n) k v ↔ _
        rw [in_delL]
        constructor
        · exact .inl
        · rintro (h1 | ⟨ps', e, _⟩)
          · exact h1
          · cases e
    | map ps =>
      obtain ⟨h1, _, h3, h4⟩ := mapLed_spec (cE := cE) (F := F ++ [t.n]) (n := t.n) (ps := ps) (s := ((getL L t.n).getD [], delL L t.n)) hnd1
      refine ⟨h1, fun v => ?_, fun k v => ?_⟩
      · show v ∈ (mapLed cE (F ++ [t.n]) t.n ps ((getL L t.n).getD [], delL L t.n)).1 ↔ _
        rw [h3]
        constructor
        · rintro (h | ⟨k, a, b, c⟩)
          · exact .inl ((hpop v).mp h)
          · exact .inr (.inr ⟨ps, k, rfl, a, b, c⟩)
        · rintro (h | ⟨ps', s, e, _⟩ | ⟨ps', k, e, a, b, c⟩)
          · exact .inl ((hpop v).mpr h)
          · cases e
          · cases e
            exact .inr ⟨k, a, b, c⟩
      · show inL (mapLed cE (F ++ [t.n]) t.n ps ((getL L t.n).getD [], delL L t.n)).2 k v ↔ _
        rw [h4, in_delL]
        constructor
        · rintro (h | h)
          · exact .inl h
          · exact .inr ⟨ps, rfl, h⟩
        · rintro (h | ⟨ps', e, h⟩)
          · exact .inl h
          · cases e
            exact .inr h
    | weak ws =>
      refine ⟨hnd1, fun v => ?_, fun k v => ?_⟩
      · show v ∈ (getL L t.n).getD [] ↔ _
        rw [hpop]
        constructor
        · exact .inl
        · rintro (h1 | ⟨ps', s, e, _⟩ | ⟨ps', k, e, _⟩)
          · exact h1
          · cases e
          · cases e
      · show inL (delL L t.n) k v ↔ _
        rw [in_delL]
        constructor
        · exact .inl
        · rintro (h1 | ⟨ps', e, _⟩)
          · exact h1
          · cases e
  obtain ⟨k1, k2, k3⟩ := key
  have hAF : ∀ x ∈ F ++ [t.n], Al S (ways cR cS cE roots ts) x := by
    intro x hx
    rcases List.mem_append.mp hx with hx | hx
    · exact h.subF x hx
    · simp at hx
      subst hx
      exact hA
  refine ⟨?_, k1, hAF, fun x hx hSx => ?_, fun k v hk hAk hSv => ?_, fun x ws hw hSx hn => ?_, fun t' ht' ps hp hF' key v hm hc hkF => ?_, fun k v hk => ?_⟩
  · rw [List.nodup_append]
    refine ⟨h.ndF, by simp, fun a ha b hb => ?_⟩
    simp at hb
    subst hb
    intro z
    subst z
    exact hF ha
  · rcases List.mem_append.mp hx with hx | hx
    · exact h.sndW x (List.mem_append_left _ hx) hSx
    · rcases (k2 x).mp hx with h1 | ⟨ps, s, e, h1, h2⟩ | ⟨ps, k, e, h1, h2, h3⟩
      · exact h.sndL _ _ h1 hA hSx
      · exact .mk (mem_ways.mpr (.inr (.inl ⟨t, ht, ps, s, e, h1, h2, rfl⟩))) hSx fun w hw => by
          simp at hw
          subst hw
          exact hA
      · refine .mk (mem_ways.mpr (.inr (.inr ⟨t, ht, ps, k, e, h1, h2, rfl⟩))) hSx fun w hw => ?_
        simp at hw
        rcases hw with rfl | rfl
        · exact hA
        · exact hAF _ h3
  · rcases (k3 k v).mp hk with ⟨h1, _⟩ | ⟨ps, e, h1, h2, h3⟩
    · exact h.sndL k v h1 hAk hSv
    · refine .mk (mem_ways.mpr (.inr (.inr ⟨t, ht, ps, k, e, h1, h2, rfl⟩))) hSv fun w hw => ?_
      simp at hw
      rcases hw with rfl | rfl
      · exact hA
      · exact hAk
  · by_cases hold : ∀ w ∈ ws, w ∈ F
    · rcases h.cmp x ws hw hSx hold with h1 | h1
      · exact .inl (List.mem_append_left _ h1)
      · rcases List.mem_append.mp h1 with h1 | h1
        · exact .inr (List.mem_append_left _ h1)
        · simp at h1
          subst h1
          exact .inl (List.mem_append_right _ (by simp))
    · rcases mem_ways.mp hw with ⟨r, h1, h2, rfl⟩ | ⟨t', ht', ps, s, hp, h1, h2, rfl⟩ | ⟨t', ht', ps, k, hp, h1, h2, rfl⟩
      · exact absurd (fun w hw => by cases hw) hold
      · have hn' := hn t'.n (by simp)
        have e : t'.n = t.n := by
          rcases List.mem_append.mp hn' with z | z
          · exact absurd (fun w hw => by simp at hw; subst hw; exact z) hold
          · simpa using z
        obtain rfl := hu t' ht' e
        exact .inr (List.mem_append_right _ ((k2 x).mpr (.inr (.inl ⟨ps, s, hp, h1, h2⟩))))
      · have hn1 := hn t'.n (by simp)
        have hn2 := hn k (by simp)
        by_cases e : t'.n = t.n
        · obtain rfl := hu t' ht' e
          exact .inr (List.mem_append_right _ ((k2 x).mpr (.inr (.inr ⟨ps, k, hp, h1, h2, hn2⟩))))
        · have z1 : t'.n ∈ F := by
            rcases List.mem_append.mp hn1 with z | z
            · exact z
            · exact absurd (by simpa using z) e
          by_cases ek : k ∈ F
          · exact absurd (fun w hw => by
              simp at hw
              rcases hw with rfl | rfl
              · exact z1
              · exact ek) hold
          · have ekt : k = t.n := by
              rcases List.mem_append.mp hn2 with z | z
              · exact absurd z ek
              · simpa using z
            have := h.cmpL t' ht' ps hp z1 k x h1 h2 ek
            rw [ekt] at this
            exact .inr (List.mem_append_right _ ((k2 x).mpr (.inl this)))
  · have hkF1 : key ∉ F := fun z => hkF (List.mem_append_left _ z)
    have hkt : key ≠ t.n := fun z => hkF (List.mem_append_right _ (by simp [z]))
    by_cases e : t'.n = t.n
    · obtain rfl := hu t' ht' e
      exact (k3 key v).mpr (.inr ⟨ps, hp, hm, hc, hkF⟩)
    · have z1 : t'.n ∈ F := by
        rcases List.mem_append.mp hF' with z | z
        · exact z
        · exact absurd (by simpa using z) e
      exact (k3 key v).mpr (.inl ⟨h.cmpL t' ht' ps hp z1 key v hm hc hkF1, hkt⟩)
  · rcases (k3 k v).mp hk with ⟨h1, h2⟩ | ⟨ps, e, h1, h2, h3⟩
    · intro z
      rcases List.mem_append.mp z with z | z
      · exact h.dis k v h1 z
      · exact h2 (by simpa using z)
    · exact h3
/-- at the end -/
theorem Ok.done (h : Ok cR cS cE S roots ts F [] L) (x : Int) : x ∈ F ↔ Al S (ways cR cS cE roots ts) x := by
  constructor
  · exact h.subF x
  · intro hA
    refine hA.sub (F := fun x => x ∈ F) fun y ws hw hS hn => ?_
    rcases h.cmp y ws hw hS hn with h1 | h1
    · exact h1
    · cases h1
/-! measures -/
theorem led_size {t : Th} (hn : (L.map (·.1)).Nodup) : (led cS cE F t.n t.pt L).1.length + sizeL (led cS cE F t.n t.pt L).2 ≤ sizeL L + ptSize t.pt := by
  have hd := size_del (k := t.n) hn
  cases hp : t.pt with
  | rcd ps =>
    show ((getL L t.n).getD [] ++ (ps.filter fun p => !cS t.n p.1).map (·.2)).length + sizeL (delL L t.n) ≤ sizeL L + ps.length
    rw [List.length_append, List.length_map]
    have := List.length_filter_le (fun p : Int × Int => !cS t.n p.1) ps
    omega
  | map ps =>
    obtain ⟨_, h2, _⟩ := mapLed_spec (cE := cE) (F := F) (n := t.n) (ps := ps) (s := ((getL L t.n).getD [], delL L t.n)) (delL_keys hn)
    show (mapLed cE F t.n ps ((getL L t.n).getD [], delL L t.n)).1.length + sizeL (mapLed cE F t.n ps ((getL L t.n).getD [], delL L t.n)).2 ≤ sizeL L + ps.length
    simp only at h2
    omega
  | weak ws =>
    show ((getL L t.n).getD []).length + sizeL (delL L t.n) ≤ sizeL L + 0
    omega
theorem restN_add {t : Th} : ∀ {ts : List Th}, t ∈ ts → t.n ∉ F → restN (F ++ [t.n]) ts + (1 + ptSize t.pt) ≤ restN F ts
  | [], h, _ => by cases h
  | u :: ts, h, hF => by
    have mono : ∀ us : List Th, restN (F ++ [t.n]) us ≤ restN F us := by
      intro us
      induction us with
      | nil => exact Nat.le_refl _
      | cons v us ih =>
        unfold restN at ih ⊢
        by_cases h1 : v.n ∈ F
        · rw [List.filter_cons_of_neg (by simp [h1]), List.filter_cons_of_neg (by simp [h1])]
          exact ih
        · rw [List.filter_cons_of_pos (p := fun t : Th => decide (t.n ∉ F)) (by simpa using h1), List.map_cons, List.sum_cons]
          by_cases h2 : v.n = t.n
          · rw [List.filter_cons_of_neg (by simp [h2])]
            omega
          · rw [List.filter_cons_of_pos (by simp [h1, h2]), List.map_cons, List.sum_cons]
            omega
    unfold restN
    rcases List.mem_cons.mp h with rfl | h
    · rw [List.filter_cons_of_neg (by simp), List.filter_cons_of_pos (p := fun u : Th => decide (u.n ∉ F)) (by simpa using hF), List.map_cons, List.sum_cons]
      have := mono ts
      unfold restN at this
      omega
    · have ih := restN_add (ts := ts) h hF
      unfold restN at ih
      by_cases h1 : u.n ∈ F
      · rw [List.filter_cons_of_neg (by simp [h1]), List.filter_cons_of_neg (by simp [h1])]
        exact ih
      · rw [List.filter_cons_of_pos (p := fun t : Th => decide (t.n ∉ F)) (by simpa using h1), List.map_cons, List.sum_cons]
        by_cases h2 : u.n = t.n
        · rw [List.filter_cons_of_neg (by simp [h2])]
          omega
        · rw [List.filter_cons_of_pos (by simp [h1, h2]), List.map_cons, List.sum_cons]
          omega
end
/-! lists that rise -/
theorem rise_eq : ∀ {xs ys : List Int}, xs.Pairwise (· < ·) → ys.Pairwise (· < ·) → (∀ x, x ∈ xs ↔ x ∈ ys) → xs = ys
  | [], [], _, _, _ => rfl
  | [], y :: ys, _, _, h => by
    have := (h y).mpr (List.mem_cons_self ..)
    cases this
  | x :: xs, [], _, _, h => by
    have := (h x).mp (List.mem_cons_self ..)
    cases this
  | x :: xs, y :: ys, hx, hy, h => by
    obtain ⟨hx1, hx2⟩ := List.pairwise_cons.mp hx
    obtain ⟨hy1, hy2⟩ := List.pairwise_cons.mp hy
    have e : x = y := by
      have h1 := (h x).mp (List.mem_cons_self ..)
      have h2 := (h y).mpr (List.mem_cons_self ..)
      rcases List.mem_cons.mp h1 with h1 | h1
      · exact h1
      · rcases List.mem_cons.mp h2 with h2 | h2
        · exact h2.symm
        · have a := hy1 x h1
          have b := hx1 y h2
          omega
    subst e
    congr 1
    refine rise_eq hx2 hy2 fun z => ?_
    constructor
    · intro hz
      have := (h z).mp (List.mem_cons_of_mem _ hz)
      rcases List.mem_cons.mp this with e | this
      · have := hx1 z hz
        omega
      · exact this
    · intro hz
      have := (h z).mpr (List.mem_cons_of_mem _ hz)
      rcases List.mem_cons.mp this with e | this
      · have := hy1 z hz
        omega
      · exact this
theorem sort_rise {xs : List Int} (h : xs.Nodup) : (xs.mergeSort fun a b => decide (a ≤ b)).Pairwise (· < ·) ∧ ∀ x, x ∈ (xs.mergeSort fun a b => decide (a ≤ b)) ↔ x ∈ xs := by
  have hp := List.mergeSort_perm xs fun a b => decide (a ≤ b)
  refine ⟨?_, fun x => hp.mem_iff⟩
  have hs := List.pairwise_mergeSort (le := fun a b : Int => decide (a ≤ b)) (fun a b c h1 h2 => by simp at *; omega) (fun a b => by simp; omega) xs
  have hn : (xs.mergeSort fun a b => decide (a ≤ b)).Nodup := hp.nodup_iff.mpr h
  refine (hs.and hn).imp fun {a b} h => ?_
  have h1 : a ≤ b := by simpa using h.1
  have h2 : a ≠ b := h.2
  omega
end Snap
/-! names, shapes of data -/
namespace Snap
open PySem Cw
def NameOk (n : Nat) (s : Str) : Prop := PyData.canLay0 (.str s) = true ∧ s.cps.size ≤ n
theorem canLay_str {s : Str} : PyData.canLay0 (.str s) = true ↔ ∀ c ∈ s.cps.toList, c < 0x110000 := by
  show s.cps.all (fun c => decide (c < 0x110000)) = true ↔ _
  rw [Array.all_eq_true_iff_forall_mem]
  simp
theorem NameOk.app {n m : Nat} {a b : Str} (h1 : NameOk n a) (h2 : NameOk m b) : NameOk (n + m) (a ++ b) := by
  have e : (a ++ b).cps = a.cps ++ b.cps := rfl
  refine ⟨canLay_str.mpr fun c hc => ?_, ?_⟩
  · rw [e, Array.toList_append, List.mem_append] at hc
    rcases hc with hc | hc
    · exact canLay_str.mp h1.1 c hc
    · exact canLay_str.mp h2.1 c hc
  · rw [e, Array.size_append]
    have := h1.2
    have := h2.2
    omega
theorem NameOk.mono {n m : Nat} {a : Str} (h : NameOk n a) (e : n ≤ m) : NameOk m a := ⟨h.1, Nat.le_trans h.2 e⟩
theorem name_int {i : Int} {k : Nat} (h0 : 0 ≤ i) (hk : 0 < k) (h : i < 10 ^ k) : NameOk k (Str.ofString (toString i)) := by
  rw [Str.ofString_eq_toList]
  refine ⟨canLay_str.mpr fun c hc => ?_, ?_⟩
  · simp only [List.mem_map] at hc
    obtain ⟨d, hd, rfl⟩ := hc
    have := int_ascii i d hd
    omega
  · obtain ⟨m, rfl⟩ := Int.eq_ofNat_of_zero_le h0
    have e : toString (m : Int) = Nat.repr m := rfl
    simp only [List.size_toArray, List.length_map]
    rw [String.length_toList]
    show (toString (m : Int)).length ≤ k
    rw [e]
    exact (Nat.length_repr_le_iff hk).mpr (by exact_mod_cast h)
theorem gd_name {n : Nat} {s : Str} (h : NameOk n s) : Gd 0 n (.str s) := gd_str (fun c hc => Nat.lt_trans (canLay_str.mp h.1 c hc) (by decide)) h.2 h.1
theorem canAll_of {ds : List PyData} (h : ∀ d ∈ ds, d.canLay0 = true) : PyData.canLayAll0 ds = true := by
  induction ds with
  | nil => rfl
  | cons d ds ih =>
    show (d.canLay0 && PyData.canLayAll0 ds) = true
    rw [h d (List.mem_cons_self ..), ih fun x hx => h x (List.mem_cons_of_mem _ hx)]
    rfl
theorem depthAll_of {ds : List PyData} {n : Nat} (h : ∀ d ∈ ds, d.depth ≤ n) : PyData.depthAll ds ≤ n := by
  induction ds with
  | nil => exact Nat.zero_le _
  | cons d ds ih =>
    show max d.depth (PyData.depthAll ds) ≤ n
    exact Nat.max_le.mpr ⟨h d (List.mem_cons_self ..), ih fun x hx => h x (List.mem_cons_of_mem _ hx)⟩
theorem shaped_list {ds : List PyData} {n : Nat} (h : ∀ d ∈ ds, d.canLay0 = true ∧ d.depth ≤ n) (hn : n ≤ 60) : SeqAt.shaped (.list ds) = true := by
  unfold SeqAt.shaped
  have h1 : (PyData.list ds).canLay0 = true := canAll_of fun d hd => (h d hd).1
  have h2 : (PyData.list ds).depth ≤ 64 := by
    show PyData.depthAll ds + 1 ≤ 64
    have := depthAll_of fun d hd => (h d hd).2
    omega
  rw [h1, decide_eq_true h2]
  rfl
theorem shaped_tuple {ds : List PyData} {n : Nat} (h : ∀ d ∈ ds, d.canLay0 = true ∧ d.depth ≤ n) (hn : n ≤ 60) : SeqAt.shaped (.tuple ds) = true := by
  unfold SeqAt.shaped
  have h1 : (PyData.tuple ds).canLay0 = true := canAll_of fun d hd => (h d hd).1
  have h2 : (PyData.tuple ds).depth ≤ 64 := by
    show PyData.depthAll ds + 1 ≤ 64
    have := depthAll_of fun d hd => (h d hd).2
    omega
  rw [h1, decide_eq_true h2]
  rfl
theorem shaped_ints (fs : List Int) : SeqAt.shaped (.list (fs.map PyData.int)) = true := shaped_list (n := 0) (fun d hd => by
  obtain ⟨i, _, rfl⟩ := List.mem_map.mp hd
  exact ⟨rfl, Nat.le_refl _⟩) (by decide)
theorem shaped_intsT (fs : List Int) : SeqAt.shaped (.tuple (fs.map PyData.int)) = true := shaped_tuple (n := 0) (fun d hd => by
  obtain ⟨i, _, rfl⟩ := List.mem_map.mp hd
  exact ⟨rfl, Nat.le_refl _⟩) (by decide)
theorem eqv_nil {ds : List PyData} : PyData.eqv (.list ds) (.list []) = ds.isEmpty := by
  cases ds <;> rfl
theorem eqv_nilT {ds : List PyData} : PyData.eqv (.tuple ds) (.tuple []) = ds.isEmpty := by
  cases ds <;> rfl
end Snap
/-! the search's own objects -/
namespace Snap
open PySem Cw L2
abbrev Lb := List (Int × Addr × List Int)
def erA (L : Lb) : La := L.map fun p => (p.1, p.2.2)
def laterK (L : Lb) : List (Key × C) := L.map fun p => ((.inl p.1 : Key), C.r p.2.1)
def cellsL (L : Lb) : List HC := L.map fun p => (p.2.1, MO.lst (p.2.2.map PyData.int))
def sortK (gone : Int → Bool) (ts : List Th) : List (Key × C) := (ts.filter fun t => !gone t.n).map fun t => ((.inl t.n : Key), C.d (.str (ptSort t.pt)))
def bookK (ts : List Th) : List (Key × C) := ts.map fun t => ((.inl t.n : Key), C.d (ptD t.pt))
def setK (F : List Int) : List (Key × C) := F.map fun x => ((.inl x : Key), C.d (.bool true))
abbrev fldS (s b f l : Addr) (cut : PyData) : List (Str × C) := [("sorts", .r s), ("book", .r b), ("cut", .d cut), ("found", .r f), ("later", .r l)]
abbrev objS (Cl self dx s b f l : Addr) (cut : PyData) (gone : Int → Bool) (ts : List Th) (F : List Int) (L : Lb) : List HC :=
  (self, .ins Cl dx (fldS s b f l cut)) :: (s, .dic (sortK gone ts)) :: (b, .dic (bookK ts)) :: (f, .dic (setK F)) :: (l, .dic (laterK L)) :: cellsL L
theorem valC_map {α : Type} {kf : α → Int} {vf : α → C} : ∀ {xs : List α} {k : Int}, valC (xs.map fun x => ((.inl (kf x) : Key), vf x)) (.inl k) = (xs.find? fun x => decide (kf x = k)).map vf
  | [], _ => rfl
  | x :: xs, k => by
    have ih := valC_map (kf := kf) (vf := vf) (xs := xs) (k := k)
    unfold valC at ih ⊢
    rw [List.map_cons]
    by_cases e : kf x = k
    · rw [List.find?_cons_of_pos (by simp [e]), List.find?_cons_of_pos (by simp [e])]
      rfl
    · rw [List.find?_cons_of_neg (by simp [e]), List.find?_cons_of_neg (by simp [e])]
      exact ih
theorem find_some {α : Type} {kf : α → Int} : ∀ {xs : List α}, (xs.map kf).Nodup → ∀ {x : α}, x ∈ xs → xs.find? (fun y => decide (kf y = kf x)) = some x
  | [], _, _, h => by cases h
  | y :: xs, hn, x, h => by
    rw [List.map_cons, List.nodup_cons] at hn
    rcases List.mem_cons.mp h with rfl | h
    · rw [List.find?_cons_of_pos (by simp)]
    · have : ¬ kf y = kf x := fun e => hn.1 (List.mem_map.mpr ⟨x, h, e.symm⟩)
      rw [List.find?_cons_of_neg (by simpa using this)]
      exact find_some hn.2 h
theorem find_none {α : Type} {kf : α → Int} {xs : List α} {k : Int} (h : k ∉ xs.map kf) : xs.find? (fun y => decide (kf y = k)) = none :=
  List.find?_eq_none.mpr fun y hy => by
    have : ¬ kf y = k := fun e => h (List.mem_map.mpr ⟨y, hy, e⟩)
    simpa using this
theorem val_set {F : List Int} {x : Int} : (valC (setK F) (.inl x)).isSome = decide (x ∈ F) := by
  unfold setK
  rw [valC_map (kf := fun x : Int => x)]
  by_cases h : x ∈ F
  · rw [decide_eq_true h, Option.isSome_map]
    rw [List.find?_isSome]
    exact ⟨x, h, by simp⟩
  · rw [find_none (kf := fun x : Int => x) (by simpa using h), decide_eq_false h]
    rfl
theorem put_set {F : List Int} {x : Int} (h : x ∉ F) : putC (setK F) (.inl x) (.d (.bool true)) = setK (F ++ [x]) := by
  unfold putC
  rw [valC_any, val_set, decide_eq_false h, if_neg (by decide)]
  unfold setK
  rw [List.map_append]
  rfl
theorem put_setIn {F : List Int} {x : Int} (h : x ∈ F) : putC (setK F) (.inl x) (.d (.bool true)) = setK F := by
  unfold putC
  rw [valC_any, val_set, decide_eq_true h, if_pos rfl]
  unfold setK
  rw [List.map_map]
  refine List.map_congr_left fun y _ => ?_
  show (if (Sum.inl y : Key) = .inl x then ((Sum.inl y : Key), C.d (.bool true)) else _) = _
  split <;> rfl
theorem setK_len {F : List Int} : (setK F).length = F.length := by unfold setK; rw [List.length_map]
theorem setK_keys {F : List Int} : (setK F).map (·.1) = F.map Sum.inl := by unfold setK; rw [List.map_map]; rfl
theorem val_book {ts : List Th} {t : Th} (hn : (ts.map (·.n)).Nodup) (ht : t ∈ ts) : valC (bookK ts) (.inl t.n) = some (.d (ptD t.pt)) := by
  unfold bookK
  rw [valC_map (kf := fun t : Th => t.n), find_some (kf := fun t : Th => t.n) hn ht]
  rfl
theorem val_sort {gone : Int → Bool} {ts : List Th} {t : Th} (hn : (ts.map (·.n)).Nodup) (ht : t ∈ ts) (hg : gone t.n = false) : valC (sortK gone ts) (.inl t.n) = some (.d (.str (ptSort t.pt))) := by
  unfold sortK
  rw [valC_map (kf := fun t : Th => t.n), find_some (kf := fun t : Th => t.n) ((List.filter_sublist.map _).nodup hn) (List.mem_filter.mpr ⟨ht, by simp [hg]⟩)]
  rfl
theorem val_sortN {gone : Int → Bool} {ts : List Th} {x : Int} : (valC (sortK gone ts) (.inl x)).isSome = true ↔ ∃ t ∈ ts, t.n = x ∧ gone x = false := by
  unfold sortK
  rw [valC_map (kf := fun t : Th => t.n), Option.isSome_map, List.find?_isSome]
  constructor
  · rintro ⟨t, ht, e⟩
    obtain ⟨h1, h2⟩ := List.mem_filter.mp ht
    have e' : t.n = x := by simpa using e
    exact ⟨t, h1, e', by rw [← e']; simpa using h2⟩
  · rintro ⟨t, ht, e, hg⟩
    exact ⟨t, List.mem_filter.mpr ⟨ht, by simp [e, hg]⟩, by simp [e]⟩
/-! later -/
theorem val_later {L : Lb} {k : Int} : valC (laterK L) (.inl k) = (L.find? fun p => decide (p.1 = k)).map fun p => C.r p.2.1 := by
  unfold laterK
  rw [valC_map (kf := fun p : Int × Addr × List Int => p.1)]
theorem drop_later {L : Lb} {k : Int} : dropC (laterK L) (.inl k) = laterK (L.filter fun p => decide (p.1 ≠ k)) := by
  unfold dropC laterK
  induction L with
  | nil => rfl
  | cons p L ih =>
    rw [List.map_cons]
    by_cases e : p.1 = k
    · rw [List.filter_cons_of_neg (by simp [e]), List.filter_cons_of_neg (by simp [e])]
      exact ih
    · rw [List.filter_cons_of_pos (by simpa using e), List.filter_cons_of_pos (by simpa using e), List.map_cons, ih]
theorem keys_er {L : Lb} : (erA L).map (·.1) = L.map (·.1) := by unfold erA; rw [List.map_map]; rfl
/-- the one of a key, apart -/
theorem split_key {L : Lb} {k : Int} {q : Addr} {vs : List Int} (hn : (L.map (·.1)).Nodup) (h : L.find? (fun p => decide (p.1 = k)) = some (k, q, vs)) :
    ∃ L1 L2, L = L1 ++ (k, q, vs) :: L2 ∧ L.filter (fun p => decide (p.1 ≠ k)) = L1 ++ L2 ∧ (∀ p ∈ L1 ++ L2, p.1 ≠ k) := by
  have hm := List.mem_of_find?_eq_some h
  obtain ⟨L1, L2, rfl⟩ := List.append_of_mem hm
  rw [List.map_append, List.map_cons, List.nodup_append] at hn
  obtain ⟨h1, h2, h3⟩ := hn
  rw [List.nodup_cons] at h2
  have n1 : ∀ p ∈ L1, p.1 ≠ k := fun p hp e => h3 p.1 (List.mem_map.mpr ⟨p, hp, rfl⟩) k (List.mem_cons_self ..) e
  have n2 : ∀ p ∈ L2, p.1 ≠ k := fun p hp e => h2.1 (List.mem_map.mpr ⟨p, hp, e⟩)
  refine ⟨L1, L2, rfl, ?_, fun p hp => ?_⟩
  · rw [List.filter_append, List.filter_cons_of_neg (by simp), List.filter_eq_self.mpr (fun p hp => by simpa using n1 p hp), List.filter_eq_self.mpr (fun p hp => by simpa using n2 p hp)]
  · rcases List.mem_append.mp hp with hp | hp
    · exact n1 p hp
    · exact n2 p hp
theorem find_shape {L : Lb} {k : Int} {p : Int × Addr × List Int} (h : L.find? (fun p => decide (p.1 = k)) = some p) : ∃ q vs, p = (k, q, vs) := by
  have := List.find?_some h
  have e : p.1 = k := by simpa using this
  exact ⟨p.2.1, p.2.2, by rw [← e]⟩
theorem er_get {L : Lb} {k : Int} : getL (erA L) k = (L.find? fun p => decide (p.1 = k)).map fun p => p.2.2 := by
  unfold getL erA
  rw [List.find?_map, Option.map_map]
  rfl
theorem er_del {L : Lb} {k : Int} : delL (erA L) k = erA (L.filter fun p => decide (p.1 ≠ k)) := by
  unfold delL erA
  rw [List.filter_map]
  rfl
theorem cells_app {L1 L2 : Lb} : cellsL (L1 ++ L2) = cellsL L1 ++ cellsL L2 := List.map_append
theorem cells_cons {p : Int × Addr × List Int} {L : Lb} : cellsL (p :: L) = (p.2.1, MO.lst (p.2.2.map PyData.int)) :: cellsL L := rfl
theorem er_add {L1 L2 : Lb} {k v : Int} {q : Addr} {vs : List Int} (h : ∀ p ∈ L1 ++ L2, p.1 ≠ k) : addL (erA (L1 ++ (k, q, vs) :: L2)) k v = erA (L1 ++ (k, q, vs ++ [v]) :: L2) := by
  unfold addL
  rw [if_pos (any_key.mpr (by rw [keys_er]; simp))]
  unfold erA
  rw [List.map_map, List.map_append, List.map_append, List.map_cons, List.map_cons]
  congr 1
  · refine List.map_congr_left fun p hp => ?_
    exact if_neg (h p (List.mem_append_left _ hp))
  · congr 1
    · exact if_pos rfl
    · refine List.map_congr_left fun p hp => ?_
      exact if_neg (h p (List.mem_append_right _ hp))
theorem er_new {L : Lb} {k v : Int} {q : Addr} (h : k ∉ L.map (·.1)) : addL (erA L) k v = erA (L ++ [(k, q, [v])]) := by
  unfold addL
  rw [if_neg (fun e => h (by have := any_key.mp e; rwa [keys_er] at this))]
  unfold erA
  rw [List.map_append]
  rfl
theorem put_later {L : Lb} {k : Int} {q : Addr} {vs : List Int} (h : k ∉ L.map (·.1)) : putC (laterK L) (.inl k) (.r q) = laterK (L ++ [(k, q, vs)]) := by
  unfold putC
  rw [valC_any, val_later, find_none (kf := fun p : Int × Addr × List Int => p.1) h]
  rw [if_neg (by decide)]
  unfold laterK
  rw [List.map_append]
  rfl
theorem permA {x : HC} {A c1 c2 : List HC} : (x :: (A ++ (c1 ++ c2))).Perm (A ++ (c1 ++ x :: c2)) := by
  rw [← List.append_assoc, ← List.append_assoc]
  exact List.perm_middle.symm
/-- a list less in some places, otherwise arranged -/
def SubP (h3 h2 : List HC) : Prop := ∃ h4, h3.Sublist h4 ∧ h4.Perm h2
theorem SubP.refl {h : List HC} : SubP h h := ⟨h, List.Sublist.refl _, List.Perm.refl _⟩
theorem SubP.drop {x : HC} {h3 h2 : List HC} (h : SubP h3 h2) : SubP h3 (x :: h2) := by
  obtain ⟨h4, h5, h6⟩ := h
  exact ⟨x :: h4, h5.cons _, h6.cons _⟩
theorem SubP.keep {x : HC} {h3 h2 : List HC} (h : SubP h3 h2) : SubP (x :: h3) (x :: h2) := by
  obtain ⟨h4, h5, h6⟩ := h
  exact ⟨x :: h4, h5.cons_cons _, h6.cons _⟩
theorem SubP.of_perm {h3 h2 : List HC} (h : h3.Perm h2) : SubP h3 h2 := ⟨h3, List.Sublist.refl _, h⟩
theorem we_sub {K : PySem.W.Frag} {te : TE} {cs : List C} {hs : List HC} {k k' : KC} (h : WE K te cs hs k') (i : ∀ c h2, k' c h2 → ∃ h3, SubP h3 h2 ∧ k c h3) : WE K te cs hs k := h.imp' fun c h2 hk => by
  obtain ⟨h3, ⟨h4, e1, e2⟩, hk2⟩ := i c h2 hk
  exact ⟨h3, h4, e1, e2, hk2⟩
theorem we_pre {K : PySem.W.Frag} {te : TE} {cs : List C} {hs : List HC} {k : KC} (hs' : List HC) (e : hs'.Perm hs) (h : WE K te cs hs' k) : WE K te cs hs k := fun B H σ fh s E Q q => h B H σ fh s (E.perm (e.append_right fh)) Q q
theorem nt_sub {K : PySem.W.Frag} {B0 : Hp} {fh : List HC} {nx : L2.St → Hp → Prop} {cs : List C} {hs : List HC} (hs' : List HC) (e : SubP hs' hs) (h : Nt K B0 fh nx cs hs') : Nt K B0 fh nx cs hs := by
  obtain ⟨h4, e1, e2⟩ := e
  exact nt_perm' hs' h4 e1 e2 h
/-! links cut -/
def cutR (cut : List PyData) (r : Str) : Bool := cut.any fun z => PyData.eqv z (.tuple [.str "root", .str r])
def cutS (cut : List PyData) (n s : Int) : Bool := cut.any fun z => PyData.eqv z (.tuple [.str "slot", .int n, .int s])
def cutE (cut : List PyData) (n s : Int) : Bool := cut.any fun z => PyData.eqv z (.tuple [.str "entry", .int n, .int s])
theorem find_er {L : Lb} {k : Int} : (L.find? fun p => decide (p.1 = k)) = none → k ∉ L.map (·.1) := by
  intro h hm
  obtain ⟨p, hp, e⟩ := List.mem_map.mp hm
  have := List.find?_eq_none.mp h p hp
  simp [e] at this
/-! dicts made of pairs with different keys -/
theorem mergeC_new {kvs more : List (Key × C)} (h : ((kvs ++ more).map (·.1)).Nodup) : mergeC kvs more = kvs ++ more := by
  induction more generalizing kvs with
  | nil => simp [mergeC]
  | cons q more ih =>
    show mergeC (putC kvs q.1 q.2) more = _
    have hq : q.1 ∉ kvs.map (·.1) := by
      rw [List.map_append, List.map_cons, List.nodup_append] at h
      intro hm
      exact h.2.2 _ hm _ (List.mem_cons_self ..) rfl
    have e : putC kvs q.1 q.2 = kvs ++ [q] := by
      unfold putC
      rw [if_neg]
      intro e
      obtain ⟨p, hp, he⟩ := List.any_eq_true.mp e
      exact hq (List.mem_map.mpr ⟨p, hp, of_decide_eq_true he⟩)
    rw [e, ih (by rw [List.append_assoc]; exact h), List.append_assoc]
    rfl
theorem nodup_of_rise {xs : List Int} (h : xs.Pairwise (· < ·)) : xs.Nodup := h.imp fun {a b} h => by omega
theorem nodup_inl {xs : List Int} (h : xs.Nodup) : (xs.map (Sum.inl : Int → Key)).Nodup := List.pairwise_map.mpr (h.imp fun {a b} h e => h (Sum.inl.inj e))
theorem merge_sort {gone : Int → Bool} {ts : List Th} (hn : (ts.map (·.n)).Nodup) : mergeC [] ((ts.filter fun t => !gone t.n).map fun t => ((.inl t.n : Key), C.d (.str (ptSort t.pt)))) = sortK gone ts := by
  rw [mergeC_new]
  · rfl
  · rw [List.nil_append, List.map_map]
    have h1 : ((ts.filter fun t => !gone t.n).map (·.n)).Nodup := (List.filter_sublist.map _).nodup hn
    have e : ((ts.filter fun t => !gone t.n).map ((·.1) ∘ fun t : Th => ((.inl t.n : Key), C.d (.str (ptSort t.pt))))) = ((ts.filter fun t => !gone t.n).map (·.n)).map Sum.inl := by rw [List.map_map]; rfl
    rw [e]
    exact nodup_inl h1
theorem merge_book {ts : List Th} (hn : (ts.map (·.n)).Nodup) : mergeC [] ((ts.filter fun _ => true).map fun t => ((.inl t.n : Key), C.d (ptD t.pt))) = bookK ts := by
  rw [List.filter_eq_self.mpr (fun _ _ => rfl), mergeC_new]
  · rfl
  · rw [List.nil_append, List.map_map]
    have e : (ts.map ((·.1) ∘ fun t : Th => ((.inl t.n : Key), C.d (ptD t.pt)))) = (ts.map (·.n)).map Sum.inl := by rw [List.map_map]; rfl
    rw [e]
    exact nodup_inl hn
end Snap
/-! the law's own rounds: mathematics -/
namespace Snap
open PySem Cw L2
theorem nodup_len : ∀ {F U : List Int}, F.Nodup → (∀ x ∈ F, x ∈ U) → F.length ≤ U.length
  | [], _, _, _ => Nat.zero_le _
  | x :: F, U, hn, h => by
    rw [List.nodup_cons] at hn
    obtain ⟨l1, l2, rfl⟩ := List.append_of_mem (h x (List.mem_cons_self ..))
    have := nodup_len (F := F) (U := l1 ++ l2) hn.2 fun y hy => by
      have h1 := h y (List.mem_cons_of_mem _ hy)
      rcases List.mem_append.mp h1 with h1 | h1
      · exact List.mem_append_left _ h1
      · rcases List.mem_cons.mp h1 with rfl | h1
        · exact absurd hy hn.1
        · exact List.mem_append_right _ h1
    rw [List.length_append] at this
    rw [List.length_append, List.length_cons, List.length_cons]
    omega
theorem merge_ints : ∀ (xs F : List Int), F.Nodup → ∃ F', F'.Nodup ∧ (∀ x, x ∈ F' ↔ x ∈ F ∨ x ∈ xs) ∧ mergeC (setK F) (xs.map fun x => ((.inl x : Key), C.d (.bool true))) = setK F' ∧ F'.length ≤ F.length + xs.length
  | [], F, h => ⟨F, h, fun x => by simp, rfl, Nat.le_refl _⟩
  | y :: xs, F, h => by
    show ∃ F', _ ∧ _ ∧ mergeC (putC (setK F) (.inl y) (.d (.bool true))) (xs.map fun x => ((.inl x : Key), C.d (.bool true))) = setK F' ∧ _
    by_cases hy : y ∈ F
    · rw [put_setIn hy]
      obtain ⟨F', h1, h2, h3, h4⟩ := merge_ints xs F h
      refine ⟨F', h1, fun x => ?_, h3, by rw [List.length_cons]; omega⟩
      rw [h2, List.mem_cons]
      constructor
      · rintro (h | h)
        · exact .inl h
        · exact .inr (.inr h)
      · rintro (h | rfl | h)
        · exact .inl h
        · exact .inl hy
        · exact .inr h
    · rw [put_set hy]
      obtain ⟨F', h1, h2, h3, h4⟩ := merge_ints xs (F ++ [y]) (by
        rw [List.nodup_append]
        refine ⟨h, by simp, fun a ha b hb => ?_⟩
        simp at hb
        subst hb
        exact fun e => hy (e ▸ ha))
      refine ⟨F', h1, fun x => ?_, h3, by rw [List.length_append, List.length_singleton] at h4; rw [List.length_cons]; omega⟩
      rw [h2, List.mem_append, List.mem_singleton, List.mem_cons]
      constructor
      · rintro ((h | h) | h)
        · exact .inl h
        · exact .inr (.inl h)
        · exact .inr (.inr h)
      · rintro (h | h | h)
        · exact .inl (.inl h)
        · exact .inl (.inr h)
        · exact .inr h
/-- parts of a record as those of a map -/
def ptParts : Pt → List (Int × Option Int)
  | .rcd ps => ps.map fun p => (p.1, some p.2)
  | .map ps => ps
  | .weak _ => []
def isRec : Pt → Bool
  | .rcd _ => true
  | _ => false
abbrev Tr : Int → Prop := fun _ => True
abbrev ways0 (roots : List (Str × Int)) (ts : List Th) : List Wy := ways (fun _ => false) (fun _ _ => false) (fun _ _ => false) roots ts
theorem way_part {roots : List (Str × Int)} {ts : List Th} {t : Th} {spot v : Int} (ht : t ∈ ts) (hp : (spot, some v) ∈ ptParts t.pt) (h1 : Al Tr (ways0 roots ts) t.n) (h2 : isRec t.pt = true ∨ Al Tr (ways0 roots ts) spot) : Al Tr (ways0 roots ts) v := by
  cases e : t.pt with
  | rcd ps =>
    rw [e] at hp
    obtain ⟨p, hp1, ep⟩ := List.mem_map.mp hp
    obtain ⟨e1, e2⟩ := Prod.mk.inj ep
    cases e2
    exact .mk (mem_ways.mpr (.inr (.inl ⟨t, ht, ps, p.1, e, hp1, rfl, rfl⟩))) trivial fun w hw => by
      simp at hw
      subst hw
      exact h1
  | map ps =>
    rw [e] at hp h2
    rcases h2 with h2 | h2
    · cases h2
    · exact .mk (mem_ways.mpr (.inr (.inr ⟨t, ht, ps, spot, e, hp, rfl, rfl⟩))) trivial fun w hw => by
        simp at hw
        rcases hw with rfl | rfl
        · exact h1
        · exact h2
  | weak ws =>
    rw [e] at hp
    cases hp
/-- a thing's links that were open are followed -/
def Cov (F0 F : List Int) (t : Th) : Prop := t.n ∈ F0 → ∀ spot v, (spot, some v) ∈ ptParts t.pt → (isRec t.pt = true ∨ spot ∈ F0) → v ∈ F
theorem Cov.mono {F0 F F' : List Int} {t : Th} (h : Cov F0 F t) (e : ∀ x ∈ F, x ∈ F') : Cov F0 F' t := fun a s v b c => e _ (h a s v b c)
theorem cov_closed {roots : List (Str × Int)} {ts : List Th} {F : List Int} (hr : ∀ r ∈ roots, r.2 ∈ F) (hc : ∀ t ∈ ts, Cov F F t) {x : Int} (h : Al Tr (ways0 roots ts) x) : x ∈ F := by
  refine h.sub (F := fun x => x ∈ F) fun y ws hw _ hn => ?_
  rcases mem_ways.mp hw with ⟨r, h1, h2, rfl⟩ | ⟨t, ht, ps, s, hp, h1, h2, rfl⟩ | ⟨t, ht, ps, key, hp, h1, h2, rfl⟩
  · exact hr (r, y) h1
  · refine hc t ht (hn _ (by simp)) s y ?_ (.inl (by rw [hp]; rfl))
    rw [hp]
    exact List.mem_map.mpr ⟨(s, y), h1, rfl⟩
  · refine hc t ht (hn _ (by simp)) key y ?_ (.inr (hn _ (by simp)))
    rw [hp]
    exact h1
/-- with all targets there it is the same -/
theorem al_same {roots : List (Str × Int)} {ts : List Th} {S : Int → Prop} (h : ∀ x ws, (x, ws) ∈ ways0 roots ts → S x) (x : Int) : Al S (ways0 roots ts) x ↔ Al Tr (ways0 roots ts) x := by
  constructor
  · exact Al.mono (fun _ _ => trivial) fun _ h => h
  · intro hA
    induction hA with
    | mk h1 _ _ ih => exact .mk h1 (h _ _ h1) ih
end Snap
namespace Cw
open PySem PySem.Spec PyProof.Rows L2 Gu
/-! for (k, v) in d.items(), where the keys of d are tuples -/
def ItiT (d : Addr) (o : Obj) (kvs : List (List Key × V)) : It :=
  ⟨fun i H => H d = some (.frz o (.dT kvs)) ∧ i < kvs.length, fun i H x H' => ∃ (T : Addr) (k : List Key) (v : V) (q : Addr), kvs[i]? = some (k, v) ∧ H q = some (.tup (k.map kV)) ∧ x = .ref T ∧ H T = none ∧ H' = upd H T (.tup [.ref q, v]), fun i H => H d = some (.frz o (.dT kvs)) ∧ kvs.length ≤ i⟩
section
variable {P : Program} {w : World} {K : PySem.W.Frag} {d : Addr} {o : Obj} {es : Array DictEntry} {ep : Nat}
theorem frz_vals {X : Cx} {pins : List (Addr × Obj)} {σ : L2.St} {H : Hp} {s : Shared} {kvs : List (List Key × V)} (I : Inv X pins σ H s) (h : H d = some (.frz o (.dT kvs))) :
    ∃ (es : Array DictEntry) (ep : Nat), (d == sysModules) = false ∧ DT.Raw s.heap d es ep ∧ o.data = .dict es ep ∧ es.size = kvs.length ∧ ∀ (i : Nat) (k : List Key) (v : V), kvs[i]? = some (k, v) → ∃ (q : Addr) (en : DictEntry), es[i]? = some en ∧ en.key = .ref q ∧ H q = some (.tup (k.map kV)) ∧ RelV v en.val := by
  obtain ⟨e1, e2⟩ := I.hok d _ h
  obtain ⟨hz, hs, xs, kt, o', es, ep, g, hx, hd, hes, hnd⟩ := e2
  obtain rfl : o = o' := Option.some.inj (e1.symm.trans g)
  refine ⟨es, ep, hs, ⟨o, g, hx, hd⟩, hd, (size_of_entries hes).trans (Paired.length kt).symm, fun i k v hkv => ?_⟩
  obtain ⟨y, hy, _, y2, y3⟩ := paired_get kt hkv
  have z := entry_at hes i
  rw [hy] at z
  exact ⟨y.2.1, _, z, rfl, y2, y3⟩
theorem turn_itemsT {kvs : List (List Key × V)} {elts : List Expr} {kk : Nat} {tpos : Pos} (it : Addr) (hod : o.data = .dict es ep) :
    Turn P w K (.Tuple elts kk tpos) (ItiT d o kvs) [it] it (fun i h => ∃ ok ov, IsItemIter h it d i kvs.length ep ok ov) where
  mem := List.mem_singleton.mpr rfl
  obj := fun i h ⟨ok, ov, e⟩ b hb => by
    cases List.mem_singleton.mp hb
    exact ⟨_, e, fun v z => nomatch z⟩
  keep := fun i h h' ⟨ok, ov, e⟩ k => ⟨ok, ov, k it (List.mem_singleton.mpr rfl) _ e⟩
  item := by
    rintro X rfl rfl rfl hc i pins s σ H E I hf ⟨ok, ov, he⟩ ⟨hd, hi⟩
    obtain ⟨es', ep', hs, raw, hdt, hsz, ent⟩ := frz_vals I hd
    obtain ⟨rfl, rfl⟩ := dict_ep hod hdt
    obtain ⟨k, v, hkv⟩ : ∃ k v, kvs[i]? = some (k, v) := ⟨_, _, List.getElem?_eq_getElem hi⟩
    obtain ⟨q, en, hen, e1, e2, e3⟩ := ent i k v hkv
    rw [← hsz] at he
    have hl : it < s.heap.objs.size := Heap.lt_size he
    have hi' : i < es'.size := by omega
    have hen' : es'[i] = en := Option.some.inj ((Array.getElem?_eq_getElem hi').symm.trans hen)
    refine DT.nextI he raw hi' fun h1 out new sz keep => ?_
    rw [hen', e1] at out new
    refine ⟨_, rfl, wpAny_letOwnedTupleGo_items (s := { s with heap := h1 }) out fun h2 he2 sb => ?_⟩
    have new2 := (sb.2 _ (Nat.ne_of_gt hl)).trans new
    have ok2 : ObjOk X.prog X.w (upd H s.heap.objs.size (.tup [.ref q, v])) h2 s.heap.objs.size (.tup [.ref q, v]) :=
      ⟨(by decide : 2 ≤ sizeLine), [.ref q, en.val], .cons rfl (.cons e3 .nil), ⟨_, new2, rfl, _, rfl⟩⟩
    have I2 : Inv X pins σ _ { s with heap := h2 } := I.turnedNew (t' := s.toks) (ch := [it]) (fun b ob hb e => (sb.2 b fun z => hb (z ▸ List.mem_singleton.mpr rfl)).trans (keep b ob (fun z => hb (z ▸ List.mem_singleton.mpr rfl)) e)) hf (Nat.le_refl _) ok2
    refine ⟨.ref s.heap.objs.size, _, I2, rfl, ⟨_, k, v, q, hkv, e2, rfl, I.hok.fresh (Nat.le_refl _), rfl⟩, ⟨_, _, hsz ▸ he2⟩, fun b hb => ?_⟩
    cases List.mem_singleton.mp hb
    rw [upd_ne (Nat.ne_of_lt hl)]
    exact (hf it (List.mem_singleton.mpr rfl)).1
  done := by
    rintro X rfl rfl rfl hc i pins s σ H E I hf ⟨ok, ov, he⟩ ⟨hd, hi⟩
    obtain ⟨f0, f1, f2, f3, f4, f5⟩ := hf it (List.mem_singleton.mpr rfl)
    obtain ⟨es', ep', hs, raw, hdt, hsz, ent⟩ := frz_vals I hd
    obtain ⟨rfl, rfl⟩ := dict_ep hod hdt
    rw [← hsz] at he
    exact DT.endI (I.ok.hd hc) he raw (by omega) fun h1 eb => ⟨rfl, I.turned (t' := s.toks) (fun b ob hb e => eb b ob hb e) f0 f1 f3 f4 f5⟩
  self := fun A i s Q E ⟨_, _, e⟩ h => PySem.W.kcp_self e h
def iItemsT (td : TE) : TI := fun σ H R => td σ H fun x H1 => ∃ d o kvs, x = .ref d ∧ H1 d = some (.frz o (.dT kvs)) ∧ R (ItiT d o kvs) H1
end
section
variable {X : Cx} {tg e : Expr} {td : TE} {apos cpos : Pos}
theorem pi_itemsT {elts : List Expr} {kk : Nat} {tpos : Pos} (he : PE X e td) (hbase : attributeBase e "items" X.env (eval e X.env) = eval e X.env := by rfl) (hline : (apos.endLine == cpos.line) = true := by rfl) :
    PI X (.Tuple elts kk tpos) (.Call (.Attribute e "items" apos) [] [] cpos) (iItemsT td) := by
  refine ⟨fun pins s σ H R I h => wpAny_Call_method (T := "dict") (id := "dict.items") hbase rfl hline F.plainAttrs_dict F.slot_dict_items F.type_dict_items ?_⟩
  refine thn (he.run pins s σ H _ I h) fun u s1 ⟨x, H1, I1, rx, d, o, kvs, ex, hd, q⟩ => ?_
  subst ex
  cases (show u = Value.ref d from rx)
  obtain ⟨es, ep, hs, raw, hdt, hsz, ent⟩ := frz_vals I1 hd
  obtain ⟨o1, g1, g2, g3⟩ := id raw
  refine ⟨raw.typeIs, fun a ea => by cases ea; exact ⟨o1, g1, g2.2.1⟩, ?_⟩
  have I2 : Inv X pins σ H1 { s1 with heap := s1.heap.push { cls := .type "dict_items", data := .fields #[.ref d] } } := I1.kept (t' := s1.toks) fun b ob z => Heap.get?_push_of_some _ z
  have fin : wpAny (model X.prog X.w) X.A (pyIter (.ref s1.heap.objs.size)) (PIE X pins σ (.Tuple elts kk tpos) R) X.xe { s1 with heap := s1.heap.push { cls := .type "dict_items", data := .fields #[.ref d] } } := by
    refine DT.iterI (d := d) ⟨_, Heap.get?_push_size _ rfl, rfl, rfl⟩ (raw.push _) (pi_one (tk := s1.toks) I2 _ (turn_itemsT _ hdt) ⟨.none, .none, ?_⟩ q)
    rw [← hsz]
    exact Heap.get?_push_size _ rfl
  exact method_meetsIn F.slot_dict_items F.entry_dict_items rfl (PySem.evalArgs_none ⟨rfl, raw.typeIs, F.args_dict_items_1 _, _, DT.meetsItems (es := es) (ep := ep) hs, raw, fin⟩)
end
end Cw
namespace Cw
open PySem PySem.Spec PyProof.Rows L2 Gu
/-! a place that holds a locked dict may be taken out of what is known -/
def delB (B : Hp) (a : Addr) : Hp := fun b => if b = a then none else B b
section
variable {K : PySem.W.Frag} {B : Hp} {a : Addr} {od : Obj} {ps : List (List Key × V)}
theorem del_ne {b : Addr} (h : b ≠ a) : delB B a b = B b := if_neg h
theorem del_keep (h : B a = some (.frz od (.dT ps))) {b : Addr} {o : HO} (e : B b = some o) (n : ∀ qs, o ≠ .frz od (.dT qs)) : delB B a b = some o := by
  by_cases z : b = a
  · subst z
    exact absurd (Option.some.inj (e.symm.trans h)) (n ps)
  · rw [del_ne z]
    exact e
theorem rd_del (h : B a = some (.frz od (.dT ps))) {b : Addr} {o : HO} (n : ∀ qs, o ≠ .dT qs) (n2 : ∀ u q, o ≠ .frz u q) (r : Rd B b o) : Rd (delB B a) b o := by
  rcases r with e | ⟨ob, e⟩
  · exact .inl (del_keep h e fun qs z => n2 _ _ z)
  · refine .inr ⟨ob, del_keep h e fun qs z => ?_⟩
    injection z with _ z2
    exact n qs z2
mutual
theorem dp_del (h : B a = some (.frz od (.dT ps))) : ∀ (d : PyData) (v : V), Dp K B v d → Dp K (delB B a) v d
  | .none, _, x => by cases x; exact .non
  | .bool _, _, x => by cases x; exact .bl _
  | .int _, _, x => by cases x; exact .int _
  | .str _, _, x => by cases x; exact .str _
  | .list ds, _, x => by
    cases x with
    | lst hs ha => exact .lst (hs.imp (rd_del h (fun _ z => nomatch z) fun _ _ z => nomatch z) id) (dpAll_del h ds _ ha)
  | .tuple ds, _, x => by
    cases x with
    | tup hs ha => exact .tup (hs.imp (rd_del h (fun _ z => nomatch z) fun _ _ z => nomatch z) id) (dpAll_del h ds _ ha)
  | .dict _, _, x => by cases x
theorem dpAll_del (h : B a = some (.frz od (.dT ps))) : ∀ (ds : List PyData) (vs : List V), DpAll K B vs ds → DpAll K (delB B a) vs ds
  | [], _, x => by cases x; exact .nil
  | d :: ds, _, x => by
    cases x with
    | cons h1 h2 => exact .cons (dp_del h d _ h1) (dpAll_del h ds _ h2)
end
theorem Sl.del (h : B a = some (.frz od (.dT ps))) {o : Option V} : ∀ {c : C}, Sl K B o c → Sl K (delB B a) o c
  | .any, _ => trivial
  | .d _, ⟨v, e, x⟩ => ⟨v, e, dp_del h _ _ x⟩
  | .v _, x => x
  | .k _, ⟨p, e, x⟩ => ⟨p, e, del_keep h x fun _ z => nomatch z⟩
  | .z _, ⟨v, e, x⟩ => ⟨v, e, fz_stay ⟨fun d v hd => dp_del h d v hd, fun a us hs => hs.imp (rd_del h (fun _ z => nomatch z) fun _ _ z => nomatch z) id, fun a us hs => hs.imp (rd_del h (fun _ z => nomatch z) fun _ _ z => nomatch z) id, fun b o nf hb => del_keep h hb fun qs z => nf _ _ z⟩ _ _ x⟩
theorem SlA.del (h : B a = some (.frz od (.dT ps))) : ∀ {s : List (Option V)} {cs : List C}, SlA K B s cs → SlA K (delB B a) s cs
  | [], [], _ => trivial
  | _ :: _, _ :: _, ⟨x, y⟩ => ⟨x.del h, SlA.del h y⟩
theorem VsOk.del (h : B a = some (.frz od (.dT ps))) : ∀ {s : List V} {cs : List C}, VsOk K B s cs → VsOk K (delB B a) s cs
  | [], [], _ => trivial
  | _ :: _, _ :: _, ⟨x, y⟩ => ⟨x.del h, VsOk.del h y⟩
theorem KvOk.del {κ : Type} (h : B a = some (.frz od (.dT ps))) : ∀ {s : List (κ × V)} {cs : List (κ × C)}, KvOk K B s cs → KvOk K (delB B a) s cs
  | [], [], _ => trivial
  | _ :: _, _ :: _, ⟨e, x, y⟩ => ⟨e, x.del h, KvOk.del h y⟩
theorem MOk.del (h : B a = some (.frz od (.dT ps))) : ∀ {mo : MO} {u : HO}, MOk K B mo u → MOk K (delB B a) mo u
  | .lst _, _, ⟨xs, e, x⟩ => ⟨xs, e, dpAll_del h _ _ x⟩
  | .lsc _, _, ⟨xs, e, x⟩ => ⟨xs, e, x.del h⟩
  | .dic _, _, ⟨xs, e, x⟩ => ⟨xs, e, x.del h⟩
  | .dit _, _, ⟨xs, e, x⟩ => ⟨xs, e, x.del h⟩
  | .ins .., _, ⟨xs, e, x⟩ => ⟨xs, e, x.del h⟩
  | .tab _, _, ⟨xs, e, x1, x2⟩ => ⟨xs, e, x1, fun pos cv z => let ⟨c, h1, h2⟩ := x2 pos cv z; ⟨c, h1, del_keep h h2 fun qs z => by unfold LamX.CodeO at z; cases z⟩⟩
abbrev lkD (D : Ends) (a : Addr) (od : Obj) (u : HO) : Ends := ⟨fun σ' H' => H' a = some (.frz od u) ∧ D.nx σ' (upd H' a u), fun v H' => H' a = some (.frz od u) ∧ D.rt v (upd H' a u), fun σ' H' => H' a = some (.frz od u) ∧ D.bk σ' (upd H' a u), fun σ' H' => H' a = some (.frz od u) ∧ D.ct σ' (upd H' a u)⟩
theorem nt_lock {B0 : Hp} {fh hs : List HC} {cs : List C} {t : TS} {D : Ends} {i : Nat} {kvs : List (List Key × C)} (hi : hs[i]? = some (a, .dit kvs))
    (h : ∀ (B1 : Hp) (od : Obj) (ps : List (List Key × V)), Ex B0 B1 → B1 a = some (.frz od (.dT ps)) → KvOk K B1 ps kvs →
      (∀ cs' hs', Nt K B0 fh D.nx cs' ((a, .dit kvs) :: hs') → Nt K B1 fh (lkD D a od (.dT ps)).nx cs' hs') → Nt K B1 fh (t (lkD D a od (.dT ps))) cs (hs.eraseIdx i)) : Nt K B0 fh (tLock t D) cs hs := by
  intro B H σ x s E
  have E1 := E.take hi
  obtain ⟨hb, u, hu, ps, rfl, kv⟩ := E1.head
  refine ⟨a, _, hu, trivial, fun od => ?_⟩
  have hB : upd B a (.frz od (.dT ps)) a = some (.frz od (.dT ps)) := upd_same
  have x1 : Ex B (upd B a (.frz od (.dT ps))) := fun b o e => by
    rw [upd_ne (fun z => by rw [z, hb] at e; cases e)]
    exact e
  refine h (upd B a (.frz od (.dT ps))) od ps (ex_trans x x1) hB (kv.mono x1) (fun cs' hs' hn B2 H2 σ2 x2 s2 E2 => ?_) _ _ σ ex_refl (s.mono x1) ?_
  · have b2 := x2 a _ hB
    have h2 := E2.bh a _ b2
    have xd : Ex B (delB B2 a) := fun b o e => by
      rw [del_ne (fun z => by rw [z, hb] at e; cases e)]
      exact x2 b o (x1 b o e)
    refine ⟨h2, hn (delB B2 a) _ σ2 (ex_trans x xd) (s2.del b2) ⟨fun b o e => ?_, fun p hp => ?_, ?_⟩⟩
    · by_cases z : b = a
      · subst z
        exact absurd (show delB B2 b b = none from if_pos rfl) (by rw [e]; exact fun z => nomatch z)
      · rw [del_ne z] at e
        rw [upd_ne z]
        exact E2.bh b o e
    · rcases List.mem_cons.mp hp with rfl | hp
      · exact ⟨if_pos rfl, _, upd_same, ps, rfl, kv.mono xd⟩
      · obtain ⟨o1, o2, o3, o4⟩ := E2.ow p hp
        have z : p.1 ≠ a := fun z => by rw [z, b2] at o1; cases o1
        exact ⟨by rw [del_ne z]; exact o1, o2, by rw [upd_ne z]; exact o3, o4.del b2⟩
    · refine List.nodup_cons.mpr ⟨fun hm => ?_, E2.nd⟩
      obtain ⟨p, hp, e⟩ := List.mem_map.mp hm
      obtain ⟨o1, _⟩ := E2.ow p hp
      rw [e, b2] at o1
      cases o1
  · refine ⟨fun b o e => ?_, fun p hp => ?_, E1.tail.nd⟩
    · by_cases z : b = a
      · subst z
        rw [upd_same] at e ⊢
        exact e
      · rw [upd_ne z] at e ⊢
        exact E1.bh b o e
    · obtain ⟨o1, o2, o3, o4⟩ := E1.tail.ow p hp
      have z : p.1 ≠ a := fun z => E1.notIn (z ▸ List.mem_map.mpr ⟨p, hp, rfl⟩)
      exact ⟨by rw [upd_ne z]; exact o1, o2, by rw [upd_ne z]; exact o3, o4.mono x1⟩
end
end Cw
/-! Part 11: loops over items of a dict with tuple keys; lists or tuples walked; tuple keys stored; isinstance; defs with *args; what is never reached. -/
namespace Cw
open PySem PySem.Spec PyProof.Rows L2 Gu
section
variable {K : PySem.W.Frag} {B H : Hp}
theorem mo_no_tup {mo : MO} {xs : List V} (h : MOk K B mo (.tup xs)) : False := by
  cases mo <;> obtain ⟨_, e, _⟩ := h <;> cases e
theorem addT {q : Addr} {xs : List V} (bh : Ex B H) (hq : H q = some (.tup xs)) : ∃ B', Ex B B' ∧ Ex B' H ∧ B' q = some (.tup xs) ∧ ∀ y, En K B H y → En K B' H y := by
  match e : B q with
  | some o =>
    have := bh q o e
    rw [hq] at this
    cases this
    exact ⟨B, ex_refl, bh, e, fun y E => E⟩
  | none =>
    have bh2 : Ex (upd B q (.tup xs)) H := fun b o h => by
      by_cases z : b = q
      · subst z
        rw [upd_same] at h
        rw [← h]
        exact hq
      · rw [upd_ne z] at h
        exact bh b o h
    refine ⟨upd B q (.tup xs), Evl.Ex.new e, bh2, upd_same, fun y E => E.grow (Evl.Ex.new e) bh2 fun a ha => ?_⟩
    obtain ⟨p, hp, rfl⟩ := List.mem_map.mp ha
    obtain ⟨h1, o, h2, h3⟩ := E.ow p hp
    have ne : p.1 ≠ q := fun z => by
      rw [z, hq] at h2
      cases h2
      exact mo_no_tup h3
    exact ⟨by rw [upd_ne ne]; exact h1, fun _ h => h⟩
abbrev ditD (kvs : List (List Key × PyData)) : List (List Key × C) := kvs.map fun p => (p.1, C.d p.2)
abbrev itD (p : List Key × PyData) : PyData := .tuple [.tuple (p.1.map keyD), p.2]
theorem kv_at : ∀ {ps : List (List Key × V)} {kvs : List (List Key × PyData)} {i : Nat} {k : List Key} {v : V} {p : List Key × PyData}, KvOk K B ps (ditD kvs) → ps[i]? = some (k, v) → kvs[i]? = some p → k = p.1 ∧ Dp K B v p.2
  | [], [], i, _, _, _, _, h, _ => by simp at h
  | q :: ps, r :: kvs, 0, k, v, p, ⟨e1, e2, _⟩, h1, h2 => by
    cases h1
    cases h2
    exact ⟨e1, e2.dp⟩
  | q :: ps, r :: kvs, i + 1, k, v, p, ⟨_, _, e3⟩, h1, h2 => kv_at (i := i) e3 (by simpa using h1) (by simpa using h2)
  | [], _ :: _, _, _, _, _, h, _, _ => h.elim
  | _ :: _, [], _, _, _, _, h, _, _ => h.elim
theorem src_itemsT {B1 : Hp} {d : Addr} {o : Obj} {ps : List (List Key × V)} {kvs : List (List Key × PyData)} (hd : B1 d = some (.frz o (.dT ps))) (kv : KvOk K B1 ps (ditD kvs)) : Src K (ItiT d o ps) (kvs.map fun p => C.d (itD p)) B1 := by
  intro B H e1 e2
  have hH := e2 d _ (e1 d _ hd)
  have hl : ps.length = kvs.length := by
    have := kv.len
    rwa [List.length_map] at this
  refine ⟨fun i hi => ⟨hH, by rw [List.length_map] at hi; omega⟩, ⟨hH, by rw [List.length_map]; omega⟩, ?_⟩
  rintro i x H' hi ⟨T, k, v, q, hkv, hq, rfl, hT, rfl⟩
  rw [List.length_map] at hi
  obtain ⟨B2, x2, bh2, hq2, En2⟩ := addT (K := K) e2 hq
  obtain ⟨e3, dv⟩ := kv_at kv hkv (List.getElem?_eq_getElem hi)
  have fr : B2 T = none := free_of bh2 hT
  refine ⟨upd B2 T (.tup [.ref q, v]), .d (itD kvs[i]), ex_trans x2 (Evl.Ex.new fr), by rw [List.getElem?_map, List.getElem?_eq_getElem hi]; rfl, ⟨_, rfl, ?_⟩, fun y E => (En2 y E).newF hT⟩
  refine .tup (.inl (.inl upd_same)) (.cons (.tup (.inl (.inl (Evl.Ex.new fr _ _ hq2))) ?_) (.cons (dp_mono (ex_trans e1 (ex_trans x2 (Evl.Ex.new fr))) _ _ dv) .nil))
  rw [← e3]
  exact dpAll_keys
end
section
variable {K : PySem.W.Frag} {B0 : Hp} {cs : List C} {hs fh : List HC} {k : KC} {td te tl tv : TE} {tr : TA} {D : Ends} {tu : TS} {g : TG} {ki : List C → List HC → Prop}
theorem nt_forItems {a : Addr} {i : Nat} {kvs : List (List Key × PyData)} (hi : hs[i]? = some (a, .dit (ditD kvs))) (ht : WE K td cs (hs.eraseIdx i) fun c h2 => c = .r a ∧ h2 = hs.eraseIdx i)
    (I : Nat → List C → List HC → Prop) (h0 : I 0 cs (hs.eraseIdx i))
    (hstep : ∀ D' B1, Ex B0 B1 → ∀ j p cs' hs', kvs[j]? = some p → I j cs' hs' → WG K g cs' (.d (itD p)) fun cs2 => Nt K B1 fh (tu (lp D' (Nx K B1 fh (I (j + 1))))) cs2 hs')
    (hend : ∀ cs' hs', I kvs.length cs' hs' → Nt K B0 fh D.nx cs' ((a, .dit (ditD kvs)) :: hs')) : Nt K B0 fh (tLock (tFor (iItemsT td) g tu) D) cs hs := by
  refine nt_lock hi fun B1 od ps x1 hB kv back => ?_
  intro B H σ xx s E
  refine ht B H σ fh s E _ fun v c h2 B2 H2 x2 s2 E2 ⟨e, e'⟩ => ?_
  subst e e'
  have ev : some v = some (V.ref a) := s2
  cases ev
  have hB2 := x2 a _ (xx a _ hB)
  refine ⟨a, od, ps, rfl, E2.bh a _ hB2, ?_⟩
  have hsrc := src_itemsT (K := K) hB2 (kv.mono (ex_trans xx x2))
  refine ⟨fun j m σ' H' => m = kvs.length - j ∧ j ≤ kvs.length ∧ Nx K B2 fh (I j) σ' H', ⟨kvs.length, by simp, Nat.zero_le _, cs, _, B2, ex_refl, s.mono x2, E2, h0⟩, ?_⟩
  rintro j m σ' H' ⟨rfl, hj, cs', hs', B', x', s', E', hI⟩
  obtain ⟨g1, g2, g3⟩ := hsrc B' H' x' E'.bh
  rw [List.length_map] at g1 g2 g3
  by_cases hlt : j < kvs.length
  · refine .inr ⟨g1 j hlt, Nx K B2 fh (I (j + 1)), fun σ2 H2 n2 => ⟨kvs.length - (j + 1), by omega, rfl, by omega, n2⟩, fun v H2 hy => ?_⟩
    obtain ⟨B3, c, x3, hc, sc, E3⟩ := g3 j v H2 hlt hy
    have E4 := E3 _ E'
    rw [List.getElem?_map, List.getElem?_eq_getElem hlt] at hc
    cases hc
    exact hstep _ B2 (ex_trans x1 (ex_trans xx x2)) j kvs[j] cs' hs' (List.getElem?_eq_getElem hlt) hI B3 H2 σ' v E4.bh (s'.mono x3) sc _ fun σ2 cs2 s2 hk => hk B3 H2 σ2 (ex_trans x' x3) s2 E4
  · obtain rfl : j = kvs.length := by omega
    exact .inl ⟨g2, back cs' hs' (hend cs' hs' hI) B' H' σ' (ex_trans (ex_trans xx x2) x') s' E'⟩
/-! the rest of the code is put aside: what stands ahead of it leads to J -/
abbrev Goes (K : PySem.W.Frag) (B0 : Hp) (fh : List HC) (J : List C → List HC → Prop) (N : L2.St → Hp → Prop) : Prop := ∀ B1 cs' hs', Ex B0 B1 → J cs' hs' → Nt K B1 fh N cs' hs'
theorem Goes.at {J : List C → List HC → Prop} {N : L2.St → Hp → Prop} (h : Goes K B0 fh J N) (hJ : J cs hs) : Nt K B0 fh N cs hs := h B0 cs hs ex_refl hJ
theorem Goes.atM {B1 : Hp} {J : List C → List HC → Prop} {N : L2.St → Hp → Prop} (h : Goes K B0 fh J N) (e : Ex B0 B1) (hJ : J cs hs) : Nt K B1 fh N cs hs := h B1 cs hs e hJ
theorem nt_seqJ {tw : TS} (J : List C → List HC → Prop) (h2 : ∀ B1 cs' hs', Ex B0 B1 → J cs' hs' → Nt K B1 fh (tw D) cs' hs') (h1 : ∀ N, Goes K B0 fh J N → Nt K B0 fh (tu { D with nx := N }) cs hs) : Nt K B0 fh (tSeq tu tw D) cs hs := h1 (tw D) h2
theorem nt_seqJ2 {tv tw : TS} (J : List C → List HC → Prop) (h2 : ∀ B1 cs' hs', Ex B0 B1 → J cs' hs' → Nt K B1 fh (tw D) cs' hs') (h1 : ∀ N, Goes K B0 fh J N → Nt K B0 fh (tu { D with nx := tv { D with nx := N } }) cs hs) : Nt K B0 fh (tSeq tu (tSeq tv tw) D) cs hs := h1 (tw D) h2
theorem nt_seqJ3 {tv tv2 tw : TS} (J : List C → List HC → Prop) (h2 : ∀ B1 cs' hs', Ex B0 B1 → J cs' hs' → Nt K B1 fh (tw D) cs' hs') (h1 : ∀ N, Goes K B0 fh J N → Nt K B0 fh (tu { D with nx := tv { D with nx := tv2 { D with nx := N } } }) cs hs) : Nt K B0 fh (tSeq tu (tSeq tv (tSeq tv2 tw)) D) cs hs := h1 (tw D) h2
/-- a, b, .. = x, y, ..: by a tuple that nothing else holds -/
def LenN (cl : List C) (n : Nat) (p : Prop) : Prop := cl.length = n ∧ Nat.ble cl.length 1000 = true ∧ p
theorem lenN {cl : List C} {n : Nat} {p : Prop} (e : cl.length = n) (z : Nat.ble cl.length 1000 = true) (h : p) : LenN cl n p := ⟨e, z, h⟩
theorem nt_parT {n : Nat} {gs : TGs} (h : WA K tr cs hs fun cl h1 => LenN cl n (WGs K gs cs cl fun cs2 => Nt K B0 fh D.nx cs2 h1)) : Nt K B0 fh (tAsg (tTup tr) (gTup K n gs) D) cs hs := by
  intro B H σ x s E
  refine h B H σ fh s E _ fun vs cl h1 B1 H1 x1 s1 E1 ⟨e, z, hk⟩ => ?_
  have hl := s1.len
  have z' := Nat.le_of_ble_eq_true z
  refine ⟨Evl.sz_of (by omega), fun p hp => ?_⟩
  have x2 : Ex B1 (upd B1 p (.tup vs)) := Evl.Ex.new (free_of E1.bh hp)
  have E2 : En K (upd B1 p (.tup vs)) (upd H1 p (.tup vs)) (h1 ++ fh) := E1.newF hp
  refine ⟨p, vs, rfl, .inl (.inl upd_same), by omega, hk _ _ σ vs E2.bh ((s.mono x1).mono x2) (s1.mono x2) _ fun σ2 cs2 s2 hn => hn _ _ σ2 (ex_trans x (ex_trans x1 x2)) s2 E2⟩
/-! a list or a tuple walked -/
def iSeq (K : PySem.W.Frag) (tl : TE) : TI := fun σ H R => tl σ H fun x H1 => ∃ a, x = .ref a ∧ (((∃ xs, SqL K H1 a xs) ∧ R (Itl K a) H1) ∨ ((∃ xs, SqT K H1 a xs) ∧ R (Itt K a) H1))
theorem wi_S (h : WE K tl cs hs fun c h1 => ∃ d ds, c = .d d ∧ seqD d = some ds ∧ ki (ds.map .d) h1) : WI K (iSeq K tl) cs hs ki := by
  intro B H σ fh s E R r
  refine h B H σ fh s E _ fun v c h1 B1 H1 x1 s1 E1 ⟨d, ds, e, eq, hk⟩ => ?_
  subst e
  have hd := s1.dp
  cases hd with
  | @lst a xs _ hq ha =>
    cases eq
    exact ⟨a, rfl, .inl ⟨⟨xs, Evl.ex_l E1.bh hq⟩, r _ _ h1 B1 H1 x1 E1 (src_list hq ha) hk⟩⟩
  | @tup a xs _ hq ha =>
    cases eq
    exact ⟨a, rfl, .inr ⟨⟨xs, Evl.ex_t E1.bh hq⟩, r _ _ h1 B1 H1 x1 E1 (src_tup hq ha) hk⟩⟩
  | _ => cases eq
/-! comprehensions over what is known only behind the walk's begin -/
section
variable {β : Type} {tt : TT} {wi : TI} {tk : TE}
theorem we_lcQ {vs js : List Nat} (β : Type) (hg : Tg g js) (hj : ∀ j ∈ js, j ∈ vs)
    (h : WI K wi cs hs fun its h1 => ∃ (bs : List β) (enc : β → PyData) (p : β → Bool) (f : β → PyData), its = (bs.map enc).map C.d ∧ bs.length ≤ 99999 ∧ (∀ b ∈ bs, WG K g (wipeC cs vs) (.d (enc b)) fun cs2 => WT K tt cs2 h1 fun t h3 => BB t (WE K te cs2 h3 fun c h4 => TurnP p f h1 b c h4) (SkipP p h1 b h3)) ∧ ∀ a, k (.r a) ((a, .lst ((bs.filter p).map f)) :: h1)) :
    WE K (tLc wi g tt te vs) cs hs k := by
  refine we_lcD hg hj fun B H σ fh s E R r => h B H σ fh s E R fun J its h1 B1 H1 x1 E1 hsrc ⟨bs, enc, p, f, e, hz, h2, h3⟩ => r J its h1 B1 H1 x1 E1 hsrc
    ⟨bs.map enc, e, by rw [List.length_map]; exact hz, fun i acc hs' => acc = ((bs.take i).filter p).map f ∧ hs' = h1, ⟨by simp, rfl⟩, fun i d acc hs' hd hI => ?_, fun acc hs' _ hI a => ?_⟩
  · obtain ⟨rfl, rfl⟩ := hI
    rw [List.getElem?_map] at hd
    obtain ⟨b, hb, rfl⟩ := Option.map_eq_some_iff.mp hd
    intro B H σ v bh s sv Q q
    refine h2 b (List.mem_of_getElem? hb) B H σ v bh s sv Q fun σ2 cs2 s2 ht => q σ2 cs2 s2 (ht.imp fun t h3 hb2 => ⟨fun e => (hb2.1 e).imp ?_, fun e => ?_⟩)
    · rintro c h4 ⟨rfl, rfl, hp⟩
      exact ⟨f b, rfl, by rw [take_step hb, if_pos hp], rfl⟩
    · obtain ⟨rfl, hp⟩ := hb2.2 e
      exact ⟨by rw [take_step hb, if_neg (by rw [hp]; decide), List.append_nil], rfl⟩
  · obtain ⟨rfl, rfl⟩ := hI
    rw [List.length_map, List.take_length]
    exact h3 a
theorem we_dcQ {vs js : List Nat} (β : Type) (hg : Tg g js) (hj : ∀ j ∈ js, j ∈ vs)
    (h : WI K wi cs hs fun its h1 => ∃ (bs : List β) (enc : β → PyData) (p : β → Bool) (kf : β → Key) (vf : β → C), its = (bs.map enc).map C.d ∧ bs.length ≤ 99999 ∧ (∀ b ∈ bs, WG K g (wipeC cs vs) (.d (enc b)) fun cs2 => WT K tt cs2 h1 fun t h3 => BB t (WE K tk cs2 h3 fun c h4 => IsK c fun key => WE K tv cs2 h4 fun c h5 => TurnK p kf vf h1 b key c h5) (SkipP p h1 b h3)) ∧
      ∀ a, k (.r a) ((a, .dic (mergeC [] ((bs.filter p).map fun b => (kf b, vf b)))) :: h1)) :
    WE K (tDc wi g tt tk tv vs) cs hs k := by
  refine we_dc hg hj fun B H σ fh s E R r => h B H σ fh s E R fun J its h1 B1 H1 x1 E1 hsrc ⟨bs, enc, p, kf, vf, e, hz, h2, h3⟩ => r J its h1 B1 H1 x1 E1 hsrc
    ⟨by rw [e, List.length_map, List.length_map]; exact hz, fun i acc hs' => acc = mergeC [] (((bs.take i).filter p).map fun b => (kf b, vf b)) ∧ hs' = h1, ⟨by simp [mergeC], rfl⟩, fun i d acc hs' hd hI => ?_, fun acc hs' _ hI a => ?_⟩
  · obtain ⟨rfl, rfl⟩ := hI
    subst e
    rw [List.getElem?_map, List.getElem?_map] at hd
    obtain ⟨d', hd', rfl⟩ := Option.map_eq_some_iff.mp hd
    obtain ⟨b, hb, rfl⟩ := Option.map_eq_some_iff.mp hd'
    intro B H σ v bh s sv Q q
    refine h2 b (List.mem_of_getElem? hb) B H σ v bh s sv Q fun σ2 cs2 s2 ht => q σ2 cs2 s2 (ht.imp fun t h3 hb2 => ⟨fun e => (hb2.1 e).imp ?_, fun e => ?_⟩)
    · rintro c h4 ⟨d, key, e1, e2, hw⟩
      refine ⟨d, key, e1, e2, hw.imp ?_⟩
      rintro c h5 ⟨rfl, rfl, rfl, hp⟩
      refine ⟨?_, rfl⟩
      rw [take_step hb, if_pos hp]
      simp [mergeC, List.foldl_append]
    · obtain ⟨rfl, hp⟩ := hb2.2 e
      exact ⟨by rw [take_step hb, if_neg (by rw [hp]; decide), List.append_nil], rfl⟩
  · obtain ⟨rfl, rfl⟩ := hI
    subst e
    rw [List.length_map, List.length_map, List.take_length]
    exact h3 a
end
/-! d[(..)] = v -/
theorem nt_dputT (h : WE K tv cs hs fun c h1 => WE K td cs h1 fun co h2 => ∃ a, co = .r a ∧ WA K tr cs h2 fun cl h3 => Unk cl fun key => At h3 a fun i mo => IsDt mo fun kvs => Less kvs.length (Nt K B0 fh D.nx cs (h3.set i (a, .dit (putC kvs key c))))) : Nt K B0 fh (sDPut td (tTup tr) tv D) cs hs := by
  intro B H σ xx s E
  refine h B H σ fh s E _ fun v c h1 B1 H1 x1 s1 E1 h2 => ?_
  refine h2 B1 H1 σ fh (s.mono x1) E1 _ fun vo co h2 B2 H2 x2 s2 E2 ⟨a, e, h3⟩ => ?_
  subst e
  have ev : some vo = some (V.ref a) := s2
  cases ev
  refine we_tupK (k := fun c h3 => ∃ key, c = .k key ∧ At h3 a fun i mo => IsDt mo fun kvs => Less kvs.length (Nt K B0 fh D.nx cs (h3.set i (a, .dit (putC kvs key _))))) (fun B H σ fh s E Q q => h3 B H σ fh s E Q fun vs cl h2 B2 H2 x2 s2 E2 ⟨ks, e, hz, hk⟩ => q vs cl h2 B2 H2 x2 s2 E2 ⟨ks, e, hz, ks, rfl, hk⟩) B2 H2 σ fh ((s.mono x1).mono x2) E2 _ fun vk ck h3 B3 H3 x3 s3 E3 ⟨key, e, i, mo, hi, kvs, e2, hz, hk⟩ => ?_
  subst e
  subst e2
  obtain ⟨pk, ep, hp⟩ := s3
  cases ep
  obtain ⟨_, o, ho, ps, e4, hd⟩ := E3.own hi
  subst e4
  exact ⟨a, _, rfl, DPut.t ho (E3.bh _ _ hp) (Evl.sz_lt (by rw [hd.len]; exact hz)), hk B3 _ σ (ex_trans xx (ex_trans x1 (ex_trans x2 x3))) (((s.mono x1).mono x2).mono x3) (E3.upd hi (mok_t (kv_put ((s1.mono x2).mono x3) hd)))⟩
/-! isinstance -/
theorem we_cv {v : V} (hk : k (.v v) hs) : WE K (tC v) cs hs k := fun B H σ fh s E Q q => q v (.v v) hs B H ex_refl rfl E hk
def tyD : PyData → String
  | .none => "NoneType"
  | .bool _ => "bool"
  | .int _ => "int"
  | .str _ => "str"
  | .list _ => "list"
  | .tuple _ => "tuple"
  | .dict _ => "dict"
theorem tyx_of {H : Hp} {v : V} {d : PyData} (h : Dp K H v d) : TyX K H v (.type (tyD d)) := by
  cases h with
  | non => exact .base .non
  | bl b => exact .base (.bl b)
  | int i => exact .base (.int i)
  | str x => exact .base (.str x)
  | lst hs _ =>
    rcases hs with (e | ⟨o, e⟩) | ⟨o, its, n, e, c, _⟩
    · exact .base (.lst e)
    · exact .base (.frz e)
    · exact .kList e c
  | tup hs _ =>
    rcases hs with (e | ⟨o, e⟩) | ⟨o, its, n, e, c, _⟩
    · exact .base (.tup e)
    · exact .fTuple e
    · exact .kTuple e c
theorem ra_isi {d : PyData} {n : String} {b : Bool} (hb : kitB (tyD d) n = some b) (hk : k (.d (.bool b)) hs) : RA K (rIsi K) [.d d, .v (.ty n)] hs k := by
  intro B H fh vs sv E Q q
  match vs, sv with
  | [v, w], ⟨s1, s2, _⟩ =>
    have ew : some w = some (V.ty n) := s2
    cases ew
    exact ⟨v, .ty n, _, _, b, rfl, .ty n, tyx_of (dp_mono E.bh _ _ s1.dp), kit_ty hb, q _ (.d (.bool b)) hs B H ex_refl ⟨_, rfl, .bl _⟩ E hk⟩
theorem kit_ii : kitB "int" "int" = some true := by decide +kernel
theorem kit_ib : kitB "int" "bool" = some false := by decide +kernel
end
section
variable {X : Cx} {K : PySem.W.Frag} {lvl : Nat} {x : Str} {S : List C → List HC → KC → Prop} {p pos : Pos} {e tg l : Expr} {es : List Expr} {t : TA} {tl : TE} {st : Stmt}
theorem cr_isi (hK : X.K = K := by rfl) : CallR X (.builtin "isinstance") (rIsi K) := hK ▸ call_isi
theorem pi_seqK (hl : PE X l tl) (hK : X.K = K := by rfl) : PI X tg l (iSeq K tl) := by
  subst hK
  refine ⟨fun pins s σ H R I h => ?_⟩
  refine thn (hl.run pins s σ H _ I h) fun v s1 ⟨x, H1, I1, r1, q1⟩ => ?_
  obtain ⟨a, e, q⟩ := q1
  subst e
  cases r1
  rcases q with ⟨⟨xs, hq⟩, q⟩ | ⟨⟨xs, hq⟩, q⟩
  · obtain ⟨its, rv, p, hz⟩ := I1.list hq
    refine wpAny_pyIter_list p.isList ?_
    refine ⟨s1.heap.objs.size, [s1.heap.objs.size], _, _, H1, rfl, I1.kept (t' := s1.toks) fun b o e => Heap.get?_push_of_some _ e, turn_list a _, ⟨_, Heap.get?_push_size _ rfl, rfl, rfl⟩, fun b hb => ?_, q⟩
    have e : b = s1.heap.objs.size := by simpa using hb
    subst e
    exact I1.fpOk (Nat.le_refl _) (I1.hok.fresh (Nat.le_refl _))
  · obtain ⟨its, rv, p, hz⟩ := I1.tuple hq
    refine wpAny_pyIter_tuple (show s1.heap.IsTuple a its.toArray from p) ?_
    refine ⟨s1.heap.objs.size, [s1.heap.objs.size], _, _, H1, rfl, I1.kept (t' := s1.toks) fun b o e => Heap.get?_push_of_some _ e, turn_tuple a _, ⟨_, Heap.get?_push_size _ rfl, rfl, rfl⟩, fun b hb => ?_, q⟩
    have e : b = s1.heap.objs.size := by simpa using hb
    subst e
    exact I1.fpOk (Nat.le_refl _) (I1.hok.fresh (Nat.le_refl _))
/-! defs with *args -/
def CalR (P : Program) (w : World) (K : PySem.W.Frag) (mg : Str → Option Value) (base : Heap) (lvl : Nat) (x : Str) (S : List C → List HC → KC → Prop) : Prop :=
  ∃ (a : Addr), FnR P w K mg base CX0 lvl a (spC K S) ∧ mg x = some (.ref a) ∧ PySem.W.keepIn K (.ref a) = true
theorem pe_calR (C : CalR X.prog X.w X.K X.mg X.base lvl x S) (hr : Room lvl X.A) (hg : Gl X x) (ha : PA X (e :: es) t) (hK : X.K = K := by rfl) (hdb : (x == ("__debug__" : Str)) = false := by decide)
    (he : starEach (e :: es) X.env = (false, eval e X.env) :: starEach es X.env := by rfl) (hpl : (backTo pos (starEach es X.env)).any (·.1) = false := by rfl) :
    PE X (.Call (.Name x p) (e :: es) [] pos) (tCall (spC K S) [] E0 t) := by
  subst hK
  obtain ⟨a, F, hm, hk⟩ := C
  refine ⟨fun pins s σ H Q I h => ?_⟩
  refine wpAny_Call_Name_kw (ld_glob I hg hm ?_ hdb)
  refine PySem.W.callWith_K (h₀ := X.base) I.ok.mod.kin hk (thn (ha.run pos pins s σ H _ I h) fun us s1 ⟨vs, H1, I1, r, q⟩ => ⟨I1.kIn, ?_⟩) he hpl
  have q' : spC X.K S (vs ++ []) H1 Q E0 := q
  rw [List.append_nil] at q'
  exact wpAny_call (run_fnR F hr pass0 I1 r q')
end
/-- one parameter ahead of the star -/
def starS (S : List C → List HC → KC → Prop) : List C → List HC → KC → Prop := fun cl hs k => ∃ (c : C) (ds : List PyData), cl = c :: ds.map C.d ∧ ds.length ≤ 100000 ∧ S [c, .d (.tuple ds)] hs k
theorem starS_sp {K : PySem.W.Frag} {S : List C → List HC → KC → Prop} (vs : List V) (H : Hp) (Q : VK) (E : XK) (h : spC K (starS S) vs H Q E) : ∃ ws rest, vs = ws ++ rest ∧ ws.length = 1 ∧ rest.length ≤ sizeLine ∧ ∀ p, H p = Option.none → spC K S (ws ++ [V.ref p]) (upd H p (.tup rest)) Q E := by
  obtain ⟨B, cl, hs, fh, k, sv, Ev, ⟨c, ds, rfl, hz, hS⟩, hq⟩ := h
  match vs, sv with
  | v :: vs, ⟨s1, s2⟩ =>
    have hd := s2.dp
    refine ⟨[v], vs, rfl, rfl, Evl.sz_of (by rw [hd.len]; exact hz), fun p hp => ?_⟩
    have x1 : Ex B (upd B p (.tup vs)) := Evl.Ex.new (free_of Ev.bh hp)
    exact ⟨upd B p (.tup vs), [c, .d (.tuple ds)], hs, fh, k, ⟨s1.mono x1, ⟨_, rfl, .tup (.inl (.inl upd_same)) (dpAll_mono x1 _ _ hd)⟩, trivial⟩, Ev.newF hp, hS, fun v c hs2 B2 H2 x2 => hq v c hs2 B2 H2 (ex_trans x1 x2)⟩
section
variable {P : Program} {w : World} {K : PySem.W.Frag} {mg : Str → Option Value} {base : Heap}
theorem okCR {x ql : Str} {st : Stmt} {f : Addr} {fd : FuncData} {N : List Str} {p1 pv : Str} {k n : Nat} {S : List C → List HC → KC → Prop} (F : Fun K x ql st f fd) (Sc : FnScope N [p1, pv] (defScope st)) (hN : N.length = n)
    (hbi : ∀ (kV doc pm : Value) (an : Option Addr) (cdv ct : Value) (us rest : List Value), us.length = [p1].length → bindArgs (PySem.W.fnOf x ql (defArgs st) (defBody st) (defScope st) .none kV doc pm an cdv ct) ⟨us ++ rest, []⟩ = (newTuple rest >>= fun t => pure ([p1].zip us ++ [(pv, t)])))
    (hb : ∀ (cdv : Value) (A : Around) (out : List PySem.Env) (s : Shared) (H : Hp) (E : XK), Room k (A.deeper (envOfC ql (defScope st) s.heap.objs.size f cdv)) →
      ∃ t, PSs (cxOf CX0 P w K mg base N ql (defScope st) f cdv A out s H E).nox (defBody st) t ∧ ∀ cl hs kk, S cl hs kk → Body K (n - cl.length) cl hs kk t) : FnR P w K mg base CX0 (k + 1) f (spC K (starS S)) := by
  obtain ⟨oc, od, kV, doc, pm, an, cdv, ct, osl, rfl, lk, hcd⟩ := F.ex
  refine L2.FnR.imp (StX.fn_star (ps := [p1]) (pv := pv) (sp := spC K S) lk hcd Sc (fun _ _ _ _ _ _ _ _ _ _ _ z => z) (hbi kV doc pm an cdv ct) fun A outer s H vs Q E hr h => ?_) starS_sp
  obtain ⟨t, ht, hq⟩ := hb cdv A outer s H E hr
  exact ⟨t, ht.nox, sp_body hN h hq⟩
end
end Cw
/-! Part 12: == and in of data with any texts; xs[::-1]. -/
namespace Cw
open PySem PySem.Spec PyProof.Rows L2 Gu
def rEqP (K : PySem.W.Frag) : R2 := fun x y H Q => ∃ d e, Dp K H x d ∧ Dp K H y e ∧ d.plain = true ∧ e.plain = true ∧ d.depth ≤ 60 ∧ Q (.bl (PyData.eqv d e)) H
def rNeP (K : PySem.W.Frag) : R2 := fun x y H Q => ∃ d e, Dp K H x d ∧ Dp K H y e ∧ d.plain = true ∧ e.plain = true ∧ d.depth ≤ 60 ∧ Q (.bl (!PyData.eqv d e)) H
def rInP (K : PySem.W.Frag) : R2 := fun x y H Q => ∃ d e ds, Dp K H x d ∧ Dp K H y e ∧ seqD e = some ds ∧ d.plain = true ∧ PyData.plainAll ds = true ∧ d.depth ≤ 60 ∧ Q (.bl (ds.any fun z => PyData.eqv z d)) H
def rNotInP (K : PySem.W.Frag) : R2 := fun x y H Q => ∃ d e ds, Dp K H x d ∧ Dp K H y e ∧ seqD e = some ds ∧ d.plain = true ∧ PyData.plainAll ds = true ∧ d.depth ≤ 60 ∧ Q (.bl (!ds.any fun z => PyData.eqv z d)) H
section
variable {X : Cx} {K : PySem.W.Frag}
theorem op_eqP (hu : X.A.units + 64 < cLine) (hK : X.K = K := by rfl) : OpR X (compareOp .Eq) (rEqP K) := by
  subst hK
  intro pins s σ H x y v u Q I rx ry h
  obtain ⟨d, e, hd, he, sd, se, hz, q⟩ := h
  obtain ⟨as, r1⟩ := Dp.reads I d x v hd rx
  obtain ⟨bs, r2⟩ := Dp.reads I e y u he ry
  exact SeqAt.eq_plain r1 r2 sd se (by have := Nat.min_le_left d.depth e.depth; omega) ⟨.bl _, H, I, rfl, q⟩
theorem op_neP (hu : X.A.units + 64 < cLine) (hK : X.K = K := by rfl) : OpR X (compareOp .NotEq) (rNeP K) := by
  subst hK
  intro pins s σ H x y v u Q I rx ry h
  obtain ⟨d, e, hd, he, sd, se, hz, q⟩ := h
  obtain ⟨as, r1⟩ := Dp.reads I d x v hd rx
  obtain ⟨bs, r2⟩ := Dp.reads I e y u he ry
  exact SeqAt.ne_plain r1 r2 sd se (by have := Nat.min_le_left d.depth e.depth; omega) ⟨.bl _, H, I, rfl, q⟩
theorem op_inP (hu : X.A.units + 65 < cLine) (hK : X.K = K := by rfl) : OpR X (compareOp .In) (rInP K) := by
  subst hK
  intro pins s σ H x y v u Q I rx ry h
  obtain ⟨d, e, ds, hd, he, hq, sd, se, hz, q⟩ := h
  obtain ⟨as, r1⟩ := Dp.reads I d x v hd rx
  obtain ⟨bs, r2⟩ := Dp.reads I e y u he ry
  have hm := Nat.min_le_right (PyData.depthAll ds) d.depth
  cases e with
  | list es =>
    cases hq
    exact SeqAt.in_list_data r2 r1 se sd (by omega) ⟨.bl _, H, I, rfl, q⟩
  | tuple es =>
    cases hq
    exact SeqAt.in_tuple_data r2 r1 se sd (by omega) ⟨.bl _, H, I, rfl, q⟩
  | _ => cases hq
theorem op_notInP (hu : X.A.units + 65 < cLine) (hK : X.K = K := by rfl) : OpR X (compareOp .NotIn) (rNotInP K) := by
  subst hK
  intro pins s σ H x y v u Q I rx ry h
  obtain ⟨d, e, ds, hd, he, hq, sd, se, hz, q⟩ := h
  obtain ⟨as, r1⟩ := Dp.reads I d x v hd rx
  obtain ⟨bs, r2⟩ := Dp.reads I e y u he ry
  have hm := Nat.min_le_right (PyData.depthAll ds) d.depth
  cases e with
  | list es =>
    cases hq
    exact SeqAt.notIn_list_data r2 r1 se sd (by omega) ⟨.bl _, H, I, rfl, q⟩
  | tuple es =>
    cases hq
    exact SeqAt.notIn_tuple_data r2 r1 se sd (by omega) ⟨.bl _, H, I, rfl, q⟩
  | _ => cases hq
theorem pe_revK {e : Expr} {te : TE} {k : Nat} {p1 p2 p3 pos : Pos} (he : PE X e te) (hK : X.K = K := by rfl) : PE X (.Subscript e (.Slice none none (some (.UnaryOp .USub (.Constant (.int 1) k p1) p2)) p3) pos) (tRevL K te) := hK ▸ pe_revL he
end
/-! name = {..} on one line, the name a local -/
section
variable {X : Cx}
theorem ps_setDc {i : Nat} {y : Str} {py : Pos} {kx vx tg iter : Expr} {ifs : List Expr} {scope : Scope} {own : List (Str × Nat)} {pos spos : Pos} {wi : TI} {g : TG} {tt : TT} {tk tv : TE} (hc : X.calm = true) (hN : X.N.Nodup) (hy : X.N[i]? = some y) (hyl : X.env.scope.names.lookup y = some .local)
    (hsw : swapsWith (.DictComp kx vx [⟨tg, iter, ifs, 0⟩] scope pos) (some (.Name y py)) spos.line X.env = pure true) (hi : PI X tg iter wi) (ok : BlkOk X.N X.env.scope scope own)
    (hg : ∀ (s : Shared) (H : Hp) (C : Addr) (cl : List (Str × Addr)) (fp : List Addr), PG (X.blk s H scope (compEnvC scope cl C X.env) fp) tg g) (ht : ∀ (s : Shared) (H : Hp) (C : Addr) (cl : List (Str × Addr)) (fp : List Addr), PTs (X.blk s H scope (compEnvC scope cl C X.env) fp) ifs tt)
    (hk : ∀ (s : Shared) (H : Hp) (C : Addr) (cl : List (Str × Addr)) (fp : List Addr), PE (X.blk s H scope (compEnvC scope cl C X.env) fp) kx tk)
    (he : ∀ (s : Shared) (H : Hp) (C : Addr) (cl : List (Str × Addr)) (fp : List Addr), PE (X.blk s H scope (compEnvC scope cl C X.env) fp) vx tv) (hs : ∀ x, foldedSetIterable iter X.env x = pure x := by intro _; rfl) :
    PS X (.Assign [.Name y py] (.DictComp kx vx [⟨tg, iter, ifs, 0⟩] scope pos) spos) (tAsg (tDc wi g tt tk tv (own.map (·.2))) (gName i)) := by
  refine ⟨fun pins s σ H D I h => ?_⟩
  rw [exec_Assign_Name_used _ _ _ _ hsw]
  refine wpAny_bind (wpAny_standAt (wpAny_bind ?_))
  show wpAny _ X.A (do let _ ← comprehension (.DictComp kx vx [⟨tg, iter, ifs, 0⟩] scope pos) scope X.env (firstIterPos [⟨tg, iter, ifs, 0⟩] pos) newDict false (eval iter X.env) (some (assign (.Name y py) X.env))) _ _ s
  have h : tDc wi g tt tk tv (own.map (·.2)) σ H (fun x H1 => gName i x σ H1 D.nx) := h
  refine wpAny_bind (thn (dc_core (Qf := fun _ s' => SP X pins D .next s') hc hN I hi ok hg ht hk he hs h fun L C s' m H' I' q hn f => ?_) fun _ s' hq => wpAny_pure (wpAny_pure hq))
  show wpAny _ _ (assign (.Name y py) X.env (.ref L)) _ _ _
  refine wpAny_assign_Name (store_ok2 (v := V.ref L) I' hN hy (.inl hyl) rfl (fun s2 I2 ⟨a, sb, ha⟩ => ?_) (.inr hyl))
  obtain ⟨f0, f1, f2, f3, f4, f5⟩ := f
  have haC : C ≠ a := by
    rcases ha with z | z
    · rw [z]; exact f1
    · exact fun e => f4 y a z e.symm
  refine ⟨m, hn.sameBut sb haC, fun h3 sb3 => ?_⟩
  exact ⟨_, H', I2.turned (t' := s2.toks) (fun b o hb e => (sb3.2 b hb).trans e) f0 f1 f3 f4 f5, q⟩
theorem sw_trueD {kx vx : Expr} {gs : List Comprehension} {scope : Scope} {pos py : Pos} {y : Str} {l : Nat} {env : Env} (hk : env.scope.kind = .function) (hy : env.scope.names.lookup y = some .local) (hl : (py.line == pos.line) = true)
    (ha : (scope.names.any fun (n, k) => n == y && (k == .local || k == .cell)) = false) : swapsWith (.DictComp kx vx gs scope pos) (some (.Name y py)) l env = pure true := by
  have ky : env.kindOf y = some .local := hy
  have hb : env.blockKind = .function := by unfold Env.blockKind; rw [hk]; rfl
  unfold swapsWith
  simp only [hb, ky, ha, Expr.pos, hl]
  rfl
end
section
variable {K : PySem.W.Frag} {cs : List C} {hs : List HC} {k : KC} {te : TE}
theorem rd_eqP {c1 c2 : C} {d1 d2 : PyData} (a1 : As hs c1 d1) (a2 : As hs c2 d2) (s1 : d1.plain = true) (s2 : d2.plain = true) (hz : d1.depth ≤ 60) (hk : k (.d (.bool (PyData.eqv d1 d2))) hs) : RD K (rEqP K) c1 c2 hs k := by
  intro B H fh v1 v2 l1 l2 E Q q
  exact ⟨d1, d2, a1.dp l1 E, a2.dp l2 E, s1, s2, hz, q _ (.d (.bool (PyData.eqv d1 d2))) hs B H ex_refl ⟨_, rfl, .bl _⟩ E hk⟩
theorem rd_neP {c1 c2 : C} {d1 d2 : PyData} (a1 : As hs c1 d1) (a2 : As hs c2 d2) (s1 : d1.plain = true) (s2 : d2.plain = true) (hz : d1.depth ≤ 60) (hk : k (.d (.bool (!PyData.eqv d1 d2))) hs) : RD K (rNeP K) c1 c2 hs k := by
  intro B H fh v1 v2 l1 l2 E Q q
  exact ⟨d1, d2, a1.dp l1 E, a2.dp l2 E, s1, s2, hz, q _ (.d (.bool (!PyData.eqv d1 d2))) hs B H ex_refl ⟨_, rfl, .bl _⟩ E hk⟩
theorem rd_inP {c1 c2 : C} {d e : PyData} {ds : List PyData} (a1 : As hs c1 d) (a2 : As hs c2 e) (hq : seqD e = some ds) (s1 : d.plain = true) (s2 : PyData.plainAll ds = true) (hz : d.depth ≤ 60) (hk : k (.d (.bool (ds.any fun z => PyData.eqv z d))) hs) : RD K (rInP K) c1 c2 hs k := by
  intro B H fh v1 v2 l1 l2 E Q q
  exact ⟨d, e, ds, a1.dp l1 E, a2.dp l2 E, hq, s1, s2, hz, q _ (.d (.bool _)) hs B H ex_refl ⟨_, rfl, .bl _⟩ E hk⟩
theorem rd_notInP {c1 c2 : C} {d e : PyData} {ds : List PyData} (a1 : As hs c1 d) (a2 : As hs c2 e) (hq : seqD e = some ds) (s1 : d.plain = true) (s2 : PyData.plainAll ds = true) (hz : d.depth ≤ 60) (hk : k (.d (.bool (!ds.any fun z => PyData.eqv z d))) hs) : RD K (rNotInP K) c1 c2 hs k := by
  intro B H fh v1 v2 l1 l2 E Q q
  exact ⟨d, e, ds, a1.dp l1 E, a2.dp l2 E, hq, s1, s2, hz, q _ (.d (.bool _)) hs B H ex_refl ⟨_, rfl, .bl _⟩ E hk⟩
theorem we_revD (h : WE K te cs hs fun c h1 => ∃ ds, As h1 c (.list ds) ∧ k (.d (.list ds.reverse)) h1) : WE K (tRevL K te) cs hs k := by
  intro B H σ fh s E Q q
  refine h B H σ fh s E _ fun v c h1 B1 H1 x1 s1 E1 ⟨ds, ha, hk⟩ => ?_
  obtain ⟨a, xs, rfl, hq, hd⟩ := ha.rl s1 E1
  refine ⟨a, xs, rfl, hq, fun p hp => ?_⟩
  exact q (.ref p) (.d (.list ds.reverse)) h1 _ _ (ex_trans x1 (Evl.Ex.new (free_of E1.bh hp))) ⟨_, rfl, .lst (.inl (.inl upd_same)) (dpAll_mono (Evl.Ex.new (free_of E1.bh hp)) _ _ (dpAll_rev hd))⟩ (E1.newF hp) hk
end
end Cw
/-! Part 13: dict comprehensions whose keys are tuples. -/
namespace Cw
open PySem PySem.Spec PyProof.Rows L2 Gu
section
variable {X : Cx}
theorem putT_run {pn : List (Addr × Obj)} {τ : L2.St} {G : Hp} {z : Shared} {Er : Value → Shared → Prop} {d b : Addr} {ps : List (List Key × V)} {ks : List Key} {x : V} {u : Value} {Qr : Unit → Shared → Prop} (J : Inv X pn τ G z) (hu : X.A.units + 1 < cLine)
    (hd : G d = some (.dT ps)) (hl : ps.length < sizeLine) (hb : G b = some (.tup (ks.map kV))) (rx : RelV x u) (k : ∀ z', Inv X pn τ (upd G d (.dT (putK ps ks x))) z' → Qr () z') : wpAny (model X.prog X.w) X.A (dictSet d (.ref b) u) Qr Er z := by
  obtain ⟨h1, h2, es, h3, h4⟩ := dt_of J.hok hd
  have l1 : es.length ≤ sizeLine := by rw [← Paired.length h3]; exact h1
  have l2 : (putK ps ks x).length ≤ sizeLine := by have := length_putK ps ks x; omega
  have room : (tupleKind (mixKind X.prog X.w)).room X.A := show X.A.units < cLine by omega
  refine wpAny_dictSet_heap (hsz := l1) room (key_of J.hok hb) h4 fun h' m' sm => k _ ?_
  obtain ⟨q, fs, ep, g1, g2, g3, g4, _, g5⟩ := m'
  refine d_write J (by rw [hd]; exact True.intro) sm ⟨q, g1⟩ ⟨l2, h2, _, (h3.put ks hb rx).keeps fun c ys ec => ?_, q, fs, ep, g1, g2, g3, g4, g5⟩
  rw [upd_ne (ne_of ec hd (fun z => nomatch z))]
  exact ec
/-- {k: v for .. in .. if ..}, the keys tuples of ints and texts -/
def tDcT (wi : TI) (g : TG) (tt : TT) (tk tv : TE) (vs : List Nat) : TE := fun σ H Q => wi σ H fun J H1 => ∀ d, H1 d = none → ∃ W : Nat → Nat → Hp → Prop, (∃ m, W 0 m (upd H1 d (.dT []))) ∧ ∀ i m H, W i m H →
  (J.stop i H ∧ Q (.ref d) H) ∨ (J.go i H ∧ ∃ Nw : Hp → Prop, (∀ H', Nw H' → ∃ m', m' < m ∧ W (i + 1) m' H') ∧ ∀ x H', J.yld i H x H' → g x (wipe σ vs) H' fun σ2 H2 => wipe σ2 vs = wipe σ vs ∧ tt σ2 H2 fun b H3 =>
    if b = true then tk σ2 H3 fun y H4 => tv σ2 H4 fun z H5 => ∃ ps ks p, y = .ref p ∧ H5 p = some (.tup (ks.map kV)) ∧ H5 d = some (.dT ps) ∧ ps.length < sizeLine ∧ Nw (upd H5 d (.dT (putK ps ks z))) else Nw H3)
theorem dcT_run {pn : List (Addr × Obj)} {z0 : Shared} {τ : L2.St} {G0 : Hp} {Qv : VK} {kx vx tg it0 : Expr} {cs : List Expr} {sc : Scope} {own : List (Str × Nat)} {p0 p1 : Pos} {wi : TI} {g : TG} {tt : TT} {tk tv : TE} {use : Option (Value → Sem Unit)} {Qe : Value → Shared → Prop}
    (hu : X.A.units + 1 < cLine) (calm : X.calm = true) (nd : X.N.Nodup) (J0 : Inv X pn τ G0 z0) (pi : PI X tg it0 wi) (blk : BlkOk X.N X.env.scope sc own)
    (pg : ∀ (s : Shared) (H : Hp) (C : Addr) (cl : List (Str × Addr)) (fp : List Addr), PG (X.blk s H sc (compEnvC sc cl C X.env) fp) tg g)
    (pt : ∀ (s : Shared) (H : Hp) (C : Addr) (cl : List (Str × Addr)) (fp : List Addr), PTs (X.blk s H sc (compEnvC sc cl C X.env) fp) cs tt)
    (pk : ∀ (s : Shared) (H : Hp) (C : Addr) (cl : List (Str × Addr)) (fp : List Addr), PE (X.blk s H sc (compEnvC sc cl C X.env) fp) kx tk)
    (pv : ∀ (s : Shared) (H : Hp) (C : Addr) (cl : List (Str × Addr)) (fp : List Addr), PE (X.blk s H sc (compEnvC sc cl C X.env) fp) vx tv)
    (nofold : ∀ x, foldedSetIterable it0 X.env x = pure x) (reads : tDcT wi g tt tk tv (own.map (·.2)) τ G0 Qv)
    (fin : ∀ d C z' m G', Inv X pn τ G' z' → Qv (.ref d) G' → z'.heap.Ns C m → FpOk X pn G' C → compPost (model X.prog X.w) X.A X.xe use Qe (.ref d) C (.ok .next) z') :
    wpAny (model X.prog X.w) X.A (comprehension (.DictComp kx vx [⟨tg, it0, cs, 0⟩] sc p0) sc X.env p1 newDict false (eval it0 X.env) use) Qe X.xe z0 := by
  have free : ∀ n ∈ sc.names, n.2 = .free → ∃ c, X.env.cells.lookup n.1 = some c := fun n hn en => (blk.free n hn en).elim (fun q => J0.ok.has _ (.inl q)) fun q => J0.ok.has _ (.inr q)
  refine wpAny_comprehension_free (use := use) rfl nofold (closure_ok free) blk.kind (fun n hn en => (blk.uniq n hn).trans (congrArg some en)) (thn (pi.run pn z0 τ G0 _ J0 reads) fun _ z1 w1 => thn w1 fun _ z2 w2 => ?_)
  obtain ⟨ia, fp, tn, Jt, G2, rfl, J2, Tn, ts2, fk2, rd⟩ := w2
  refine wpAny_newObj_type (newEnv_comp ?_)
  generalize ed : z2.heap.objs.size = d
  obtain ⟨W, ⟨n0, wn0⟩, go⟩ := rd d (J2.hok.fresh (Nat.le_of_eq ed))
  generalize ez : ({ z2 with heap := z2.heap.push { cls := .type "dict", data := .dict #[] } } : Shared) = z3
  have ez3 : z3.heap = z2.heap.push { cls := .type "dict", data := .dict #[] } := ez ▸ rfl
  have J3 : Inv X pn τ (upd G2 d (.dT [])) z3 := by
    subst ez ed
    exact J2.laid (t' := z2.toks) (fun b o e => Heap.get?_push_of_some _ e) (Nat.le_refl _) (dt_empty z2.heap J2.big)
  have below : ∀ b ∈ fp, b < z2.heap.objs.size := fun b hb => (Tn.obj _ _ ts2 b hb).elim fun _ e => Heap.lt_size e.1
  have fk3 : ∀ b ∈ fp, FpOk X pn (upd G2 d (.dT [])) b ∧ b < z3.heap.objs.size := fun b hb => by
    have lt := below b hb
    have ne : b ≠ d := ed ▸ Nat.ne_of_lt lt
    exact ⟨⟨(upd_ne ne).trans (fk2 b hb).1, (fk2 b hb).2⟩, by rw [ez3, Heap.size_push]; exact Nat.lt_succ_of_lt lt⟩
  have ts3 : tn 0 z3.heap := Tn.keep _ _ _ ts2 fun b _ o e => ez3 ▸ Heap.get?_push_of_some _ e
  have J4 := block_start J3 blk nd fk3
  generalize ecl : cellsFrom (z3.heap.objs.size + 1) sc.names (cloFrom X.env.cells sc.names []) = cl at J4
  have gg := pg z3 (upd G2 d (.dT [])) z3.heap.objs.size cl fp
  have gt := pt z3 (upd G2 d (.dT [])) z3.heap.objs.size cl fp
  have gk := pk z3 (upd G2 d (.dT [])) z3.heap.objs.size cl fp
  have gv := pv z3 (upd G2 d (.dT [])) z3.heap.objs.size cl fp
  show codeAny _ _ (.compStart (.DictComp kx vx [⟨tg, it0, cs, 0⟩] sc p0) 0 (.ref ia) (.ref d) (compEnvC sc cl z3.heap.objs.size X.env)) (compPost (model X.prog X.w) X.A X.xe use Qe (.ref d) z3.heap.objs.size) { z3 with heap := pushCells (z3.heap.push { cls := .type "dict", data := .dict #[] }) sc.names }
  have off3 : ∀ b ∈ fp, (upd G2 d (.dT [])) b = none := fun b hb => (fk3 b hb).1.1
  generalize ece : compEnvC sc cl z3.heap.objs.size X.env = ce at J4 gg gt gk gv ⊢
  have loc : ce.locals = z3.heap.objs.size := ece ▸ rfl
  generalize eG : upd G2 d (.dT []) = G3 at J3 J4 gg gt gk gv wn0 off3 fk3
  generalize ez4 : ({ z3 with heap := pushCells (z3.heap.push { cls := .type "dict", data := .dict #[] }) sc.names } : Shared) = z4 at J4 ⊢
  have ts4 : tn 0 z4.heap := Tn.keep _ _ _ ts3 fun b _ o e => ez4 ▸ pushCells_keeps _ _ _ _ (Heap.get?_push_of_some _ e)
  have foot : ∀ {τ' : L2.St} {G' : Hp} {z' : Shared}, Inv (X.blk z3 G3 sc ce fp) [] τ' G' z' → (∀ b ∈ fp, G' b = none) → ∀ b ∈ fp, FpOk (X.blk z3 G3 sc ce fp) [] G' b := fun {τ' G' z'} J hn b hb =>
    ⟨hn b hb, (J.ok.exf b hb).1, J.ok.exfs b hb, .inl hb, fun n c e => (J.ok.exf b hb).2 n c e, fun q hq => nomatch (show q ∈ ([] : List (Addr × Obj)) from hq)⟩
  have loop : codeAny (model X.prog X.w) X.A (.compLoop (.DictComp kx vx [⟨tg, it0, cs, 0⟩] sc p0) 0 (.ref ia) (.ref d) ce) (compPost (model X.prog X.w) X.A X.xe use Qe (.ref d) z3.heap.objs.size) z4 := by
    refine compLoop_anyD (fun n z' => ∃ i G', Inv (X.blk z3 G3 sc ce fp) [] (wipe τ (own.map (·.2))) G' z' ∧ tn i z'.heap ∧ (∀ b ∈ fp, G' b = none) ∧ W i n G') ?_ n0 ⟨0, G3, J4, ts4, off3, wn0⟩
    rintro n z5 ⟨i, G5, J5, ts5, off5, wn5⟩
    rcases go i n G5 wn5 with ⟨stop, qv⟩ | ⟨on, Nw, hNw, turn⟩
    · refine thnF (Tn.done (X.blk z3 G3 sc ce fp) rfl rfl rfl calm i [] z5 _ G5 (fun _ _ => False) J5 (foot J5 off5) ts5 stop) fun r z6 ⟨er, J6⟩ => ?_
      subst er
      have J7 : Inv X pn τ G5 z6 := J3.call' (ch := fp) J6.os J6.base J6.hok J6.bare fun b hb => ⟨(fk3 b hb).1.2.2.2.1, (fk3 b hb).1.2.1, (fk3 b hb).1.2.2.2.2.1, (fk3 b hb).1.2.2.2.2.2⟩
      have fr : G5 z3.heap.objs.size = none := loc ▸ (show G5 ce.locals = none from J6.free)
      obtain ⟨m, hm, _⟩ := J6.loc
      exact fin d z3.heap.objs.size z6 m G5 J7 qv (loc ▸ (show z6.heap.Ns ce.locals m from hm)) (J3.fpOk (Nat.le_refl _) fr)
    · refine thnF (Tn.item (X.blk z3 G3 sc ce fp) rfl rfl rfl calm i [] z5 _ G5 (fun _ _ => False) J5 (foot J5 off5) ts5 on) fun r z6 ⟨u, er, w6⟩ => ?_
      subst er
      refine thnF w6 fun _ z7 ⟨x, G7, J7, r7, y7, ts7, off7⟩ => ?_
      refine thnF (gg.run _ z7 _ G7 x u _ (J7.pinned (foot J7 off7) (Tn.obj _ _ ts7)) r7 (turn x G7 y7)) fun _ z8 ⟨τ8, G8, J8, ew, w8⟩ => ?_
      refine thnF (gt.run _ z8 τ8 G8 _ J8 w8) fun b z9 ⟨G9, J9, w9⟩ => ?_
      have back : ∀ {z' : Shared} {G' : Hp}, Inv (X.blk z3 G3 sc ce fp) ([] ++ pinsAt fp z7.heap) τ8 G' z' → Nw G' → ∃ m, m < n ∧ ∃ i G', Inv (X.blk z3 G3 sc ce fp) [] (wipe τ (own.map (·.2))) G' z' ∧ tn i z'.heap ∧ (∀ b ∈ fp, G' b = none) ∧ W i m G' := fun {z' G'} J nw => by
        obtain ⟨m', lt, wm⟩ := hNw G' nw
        have pins' : ∀ b ∈ fp, ∀ o, z7.heap.get? b = some o → z'.heap.get? b = some o ∧ G' b = none := fun b hb o e =>
          have q := J.pin (b, o) (List.mem_append_right _ (List.mem_append_right _ (mem_pinsAt hb e)))
          ⟨q.1, q.2.1⟩
        have same : (wipe τ (own.map (·.2))).length = τ8.length := by rw [← ew, wipe_length]
        refine ⟨m', lt, i + 1, G', (J.unpinned (pins := [])).weak same (fun j v e => ?_), Tn.keep _ _ _ ts7 fun b hb o e => (pins' b hb o e).1, fun b hb => ?_, wm⟩
        · exact (wipe_some (ew ▸ e)).1
        · exact (Tn.obj _ _ ts7 b hb).elim fun o e => (pins' b hb o e.1).2
      cases b with
      | false =>
        rw [if_neg (by decide)] at w9 ⊢
        exact back J9 w9
      | true =>
        rw [if_pos rfl] at w9 ⊢
        refine thnF (gk.run _ z9 τ8 G9 _ J9 w9) fun uk z10 ⟨yk, G10, J10, r10, w10⟩ => ?_
        refine thnF (gv.run _ z10 τ8 G10 _ J10 w10) fun uv z11 ⟨yv, G11, J11, r11, ps, ks, p, ep, hp, hd, hz, nw⟩ => ?_
        subst ep
        cases (show uk = Value.ref p from r10)
        exact putT_run (X := X.blk z3 G3 sc ce fp) J11 hu hd hz hp r11 fun z12 J12 => back J12 nw
  exact codeAny_compStart_dict loop (Tn.self X.A 0 _ _ _ ts4 loop)
theorem pe_dcT {kx vx tg it0 : Expr} {cs : List Expr} {sc : Scope} {own : List (Str × Nat)} {p0 : Pos} {wi : TI} {g : TG} {tt : TT} {tk tv : TE} (hu : X.A.units + 1 < cLine) (calm : X.calm = true) (nd : X.N.Nodup) (pi : PI X tg it0 wi) (blk : BlkOk X.N X.env.scope sc own)
    (pg : ∀ (s : Shared) (H : Hp) (C : Addr) (cl : List (Str × Addr)) (fp : List Addr), PG (X.blk s H sc (compEnvC sc cl C X.env) fp) tg g)
    (pt : ∀ (s : Shared) (H : Hp) (C : Addr) (cl : List (Str × Addr)) (fp : List Addr), PTs (X.blk s H sc (compEnvC sc cl C X.env) fp) cs tt)
    (pk : ∀ (s : Shared) (H : Hp) (C : Addr) (cl : List (Str × Addr)) (fp : List Addr), PE (X.blk s H sc (compEnvC sc cl C X.env) fp) kx tk)
    (pv : ∀ (s : Shared) (H : Hp) (C : Addr) (cl : List (Str × Addr)) (fp : List Addr), PE (X.blk s H sc (compEnvC sc cl C X.env) fp) vx tv) (nofold : ∀ x, foldedSetIterable it0 X.env x = pure x := by intro _; rfl) :
    PE X (.DictComp kx vx [⟨tg, it0, cs, 0⟩] sc p0) (tDcT wi g tt tk tv (own.map (·.2))) := by
  refine ⟨fun pn z τ G Q J rd => ?_⟩
  rw [arm_eval_DictComp]
  refine dcT_run hu calm nd J pi blk pg pt pk pv nofold rd fun d C z' m G' J' q hn fk => ⟨m, hn, fun h'' sm => ?_⟩
  obtain ⟨k0, k1, k2, k3, k4, k5⟩ := fk
  exact ⟨.ref d, G', J'.turned (t' := z'.toks) (fun b o hb e => (sm.2 b hb).trans e) k0 k1 k3 k4 k5, rfl, q⟩
theorem ps_setDcT {i : Nat} {y : Str} {py : Pos} {kx vx tg it0 : Expr} {cs : List Expr} {sc : Scope} {own : List (Str × Nat)} {p0 sp : Pos} {wi : TI} {g : TG} {tt : TT} {tk tv : TE} (hu : X.A.units + 1 < cLine) (calm : X.calm = true) (nd : X.N.Nodup) (hy : X.N[i]? = some y) (hyl : X.env.scope.names.lookup y = some .local)
    (hsw : swapsWith (.DictComp kx vx [⟨tg, it0, cs, 0⟩] sc p0) (some (.Name y py)) sp.line X.env = pure true) (pi : PI X tg it0 wi) (blk : BlkOk X.N X.env.scope sc own)
    (pg : ∀ (s : Shared) (H : Hp) (C : Addr) (cl : List (Str × Addr)) (fp : List Addr), PG (X.blk s H sc (compEnvC sc cl C X.env) fp) tg g)
    (pt : ∀ (s : Shared) (H : Hp) (C : Addr) (cl : List (Str × Addr)) (fp : List Addr), PTs (X.blk s H sc (compEnvC sc cl C X.env) fp) cs tt)
    (pk : ∀ (s : Shared) (H : Hp) (C : Addr) (cl : List (Str × Addr)) (fp : List Addr), PE (X.blk s H sc (compEnvC sc cl C X.env) fp) kx tk)
    (pv : ∀ (s : Shared) (H : Hp) (C : Addr) (cl : List (Str × Addr)) (fp : List Addr), PE (X.blk s H sc (compEnvC sc cl C X.env) fp) vx tv) (nofold : ∀ x, foldedSetIterable it0 X.env x = pure x := by intro _; rfl) :
    PS X (.Assign [.Name y py] (.DictComp kx vx [⟨tg, it0, cs, 0⟩] sc p0) sp) (tAsg (tDcT wi g tt tk tv (own.map (·.2))) (gName i)) := by
  refine ⟨fun pn z τ G D J rd => ?_⟩
  rw [exec_Assign_Name_used _ _ _ _ hsw]
  refine wpAny_bind (wpAny_standAt (wpAny_bind ?_))
  show wpAny _ X.A (do let _ ← comprehension (.DictComp kx vx [⟨tg, it0, cs, 0⟩] sc p0) sc X.env (firstIterPos [⟨tg, it0, cs, 0⟩] p0) newDict false (eval it0 X.env) (some (assign (.Name y py) X.env))) _ _ z
  refine wpAny_bind (thn (dcT_run (Qv := fun x G1 => gName i x τ G1 D.nx) (Qe := fun _ z' => SP X pn D .next z') hu calm nd J pi blk pg pt pk pv nofold rd fun d C z' m G' J' q hn fk => ?_) fun _ z' hq => wpAny_pure (wpAny_pure hq))
  refine wpAny_assign_Name (store_ok2 (v := V.ref d) J' nd hy (.inl hyl) rfl (fun z2 J2 ⟨a, sm, ha⟩ => ?_) (.inr hyl))
  obtain ⟨k0, k1, k2, k3, k4, k5⟩ := fk
  have nec : C ≠ a := ha.elim (fun q => q ▸ k1) fun q e => k4 y a q e.symm
  exact ⟨m, hn.sameBut sm nec, fun h3 sm3 => ⟨_, G', J2.turned (t' := z2.toks) (fun b o hb e => (sm3.2 b hb).trans e) k0 k1 k3 k4 k5, q⟩⟩
end
end Cw
/-! Part 14: sorted(d), the keys of d tuples that begin with a text and are otherwise mixed. -/
namespace Cw
open PySem PySem.Spec PyProof.Rows L2 Gu
def tokK : Key → Int ⊕ List Nat
  | .inl i => .inl i
  | .inr s => .inr s.cps.toList
theorem tokK_inj : ∀ {a b : Key}, tokK a = tokK b → a = b
  | .inl _, .inl _, e => by cases e; rfl
  | .inr a, .inr b, e => by
    have h : a.cps.toList = b.cps.toList := Sum.inr.inj e
    have h2 : a.cps = b.cps := Array.toList_inj.mp h
    cases a
    cases b
    cases h2
    rfl
  | .inl _, .inr _, e => by cases e
  | .inr _, .inl _, e => by cases e
/-- a key tuple is below another one -/
def ltKs (ks ls : List Key) : Bool := lexLt itemOrd (ks.map tokK) (ls.map tokK)
/-- two key tuples can be compared: where they first differ they are of one kind -/
def CmpK : List Key → List Key → Prop
  | .inl a :: ks, .inl b :: ls => a = b → CmpK ks ls
  | .inr a :: ks, .inr b :: ls => a = b → CmpK ks ls
  | .inl _ :: _, .inr _ :: _ => False
  | .inr _ :: _, .inl _ :: _ => False
  | _, _ => True
section
variable {prog : Program} {w : World} {A : Around} {s : Shared}
theorem one_str (c : Bool) {a b : Str} {t u : Tok} {Q : Bool → Shared → Prop} {E : Value → Shared → Prop} (h : Q (decide (a.cps.toList < b.cps.toList)) s) : wpAny (model prog w) A (oneLt' c (.str a t) (.str b u)) Q E s := by
  cases c with
  | true => exact oneLt_str h
  | false => exact PySem.W.kat_one _ _ (PyProof.Rows.lt_str (Q := PySem.W.BoolBack Q) h)
theorem one_int (c : Bool) {a b : Int} {t u : Tok} {Q : Bool → Shared → Prop} {E : Value → Shared → Prop} (h : Q (decide (a < b)) s) : wpAny (model prog w) A (oneLt' c (.int a t) (.int b u)) Q E s := by
  cases c with
  | true => exact oneLt_int h
  | false => exact PySem.W.kat_one _ _ (PyProof.Rows.lt_int (Q := PySem.W.BoolBack Q) h)
theorem keys_lex {Q : Bool → Shared → Prop} : ∀ {ks ls : List Key} {ps qs : List Value} {i : Nat} {fin : Bool}, Vals (ks.map kV) ps → Vals (ls.map kV) qs → CmpK ks ls → fin = decide (ks.length < ls.length) → Q (ltKs ks ls) s → PySem.W.KatLex prog w A true fin Q (ps.zip qs) i s
  | [], [], _, _, _, _, .nil, .nil, _, e, h => by
    subst e
    exact PySem.W.kat_nil h
  | [], _ :: _, _, _, _, _, .nil, .cons _ _, _, e, h => by
    subst e
    exact PySem.W.kat_nil h
  | _ :: _, [], _, _, _, _, .cons _ _, .nil, _, e, h => by
    subst e
    exact PySem.W.kat_nil h
  | .inl a :: ks, .inl b :: ls, _, _, i, fin, .cons ⟨t, et⟩ r1, .cons ⟨u, eu⟩ r2, hc, e, h => by
    subst et eu
    refine PySem.W.kat_cons (SeqAt.EqAt.int_int a t b u prog w _ _ ?_)
    refine PySem.W.kat_go (fun e1 => ?_) (fun e1 => ?_)
    · have ex : a = b := by simpa using e1
      subst ex
      refine PySem.W.kat_yes (keys_lex r1 r2 (hc rfl) (by rw [e]; simp) ?_)
      have e2 : ltKs (.inl a :: ks) (.inl a :: ls) = ltKs ks ls := lex_self (O := itemOrd) _ _ _
      rw [← e2]
      exact h
    · have ex : ¬ a = b := by simpa using e1
      refine PySem.W.kat_no (one_int _ ?_)
      have e2 : ltKs (.inl a :: ks) (.inl b :: ls) = decide (a < b) := lex_diff (O := itemOrd) fun z => ex (Sum.inl.inj z)
      rw [← e2]
      exact h
  | .inr a :: ks, .inr b :: ls, _, _, i, fin, .cons ⟨t, et⟩ r1, .cons ⟨u, eu⟩ r2, hc, e, h => by
    subst et eu
    refine PySem.W.kat_cons (SeqAt.EqAt.str_str a t b u prog w _ _ ?_)
    refine PySem.W.kat_go (fun e1 => ?_) (fun e1 => ?_)
    · have ex : a = b := by simpa using e1
      subst ex
      refine PySem.W.kat_yes (keys_lex r1 r2 (hc rfl) (by rw [e]; simp) ?_)
      have e2 : ltKs (.inr a :: ks) (.inr a :: ls) = ltKs ks ls := lex_self (O := itemOrd) _ _ _
      rw [← e2]
      exact h
    · have ex : ¬ a = b := by simpa using e1
      refine PySem.W.kat_no (one_str _ ?_)
      have e2 : ltKs (.inr a :: ks) (.inr b :: ls) = decide (a.cps.toList < b.cps.toList) := lex_diff (O := itemOrd) fun z => ex (by
        have := tokK_inj (a := .inr a) (b := .inr b) z
        cases this
        rfl)
      rw [← e2]
      exact h
  | .inl _ :: _, .inr _ :: _, _, _, _, _, _, _, hc, _, _ => hc.elim
  | .inr _ :: _, .inl _ :: _, _, _, _, _, _, _, hc, _, _ => hc.elim
/-- the value is a tuple of these ints and texts -/
def TupK (h : Heap) (v : Value) (ks : List Key) : Prop := ∃ (a : Addr) (o : Obj) (its : List Value) (n : Nat), v = .ref a ∧ h.get? a = some o ∧ o.cls = .type "tuple" ∧ o.data = .seq its.toArray n ∧ Vals (ks.map kV) its
theorem TupK.keeps {h h' : Heap} {v : Value} {ks : List Key} (t : TupK h v ks) (k : ∀ b o, h.get? b = some o → o.cls = .type "tuple" → h'.get? b = some o) : TupK h' v ks := by
  obtain ⟨a, o, its, n, e, ho, hc, r⟩ := t
  exact ⟨a, o, its, n, e, k a o ho hc, hc, r⟩
theorem tupK_cmp {vs : List Value} {key : Value → List Key} (ht : ∀ v ∈ vs, TupK s.heap v (key v)) (hc : ∀ v ∈ vs, ∀ u ∈ vs, CmpK (key v) (key u)) : SrtO.Cmp prog w A s (tuples' true) (fun p => p.1 ∈ vs) (SrtO.lt2 fun v u => ltKs (key v) (key u)) := by
  intro p q hp hq
  obtain ⟨a, o, its, n, e, ho, _, hd, r⟩ := ht _ hp
  obtain ⟨a', o', its', n', e', ho', _, hd', r'⟩ := ht _ hq
  show wpAny (model prog w) A (keyLt' (tuples' true) p.1 q.1) (fun x s' => s' = s ∧ x = ltKs (key p.1) (key q.1)) (fun _ _ => False) s
  have hcc := hc _ hp _ hq
  generalize key p.1 = ks at r hcc ⊢
  generalize key q.1 = ls at r' hcc ⊢
  rw [e, e']
  have l1 := r.length
  have l2 := r'.length
  rw [List.length_map] at l1 l2
  refine PySem.W.kat_lt ho hd ho' hd' ?_
  rw [List.toList_toArray, List.toList_toArray]
  exact keys_lex r r' hcc (by rw [List.size_toArray, List.size_toArray, l1, l2]) ⟨rfl, rfl⟩
theorem tupK_firsts {h : Heap} {key : Value → List Key} : ∀ {vs : List Value}, (∀ v ∈ vs, TupK h v (key v) ∧ ∃ x r, key v = .inr x :: r) → ∃ fs : List Value, PySem.W.KatTups h vs fs ∧ fs.length = vs.length ∧ ∀ f ∈ fs, ∃ x t, f = Value.str x t
  | [], _ => ⟨[], PySem.W.KatTups.nil, rfl, fun _ hm => by simp at hm⟩
  | v :: vs, hp => by
    obtain ⟨fs, k1, k2, k3⟩ := tupK_firsts (vs := vs) fun v' hm => hp v' (List.mem_cons_of_mem _ hm)
    obtain ⟨⟨a, o, its, n, e, ho, hc, hd, r⟩, x, rest, ek⟩ := hp v (List.mem_cons_self ..)
    rw [ek] at r
    subst e
    cases r with
    | @cons _ u _ us h1 h2 =>
      obtain ⟨t, et⟩ := h1
      refine ⟨u :: fs, PySem.W.KatTups.cons ho hc hd (by simp) k1, by rw [List.length_cons, List.length_cons, k2], fun f hm => ?_⟩
      rcases List.mem_cons.mp hm with rfl | hm
      · exact ⟨x, t, et⟩
      · exact k3 f hm
theorem tupK_sortable {a : Addr} {vs : List Value} {key : Value → List Key} (h0 : 0 < vs.length) (ht : ∀ v ∈ vs, TupK s.heap v (key v) ∧ ∃ x r, key v = .inr x :: r) (hc : ∀ v ∈ vs, ∀ u ∈ vs, CmpK (key v) (key u)) (ha : ∀ o, s.heap.get? a = some o → o.cls ≠ .type "tuple") :
    SrtO.SortableO prog w A s a vs fun v u => ltKs (key v) (key u) := by
  intro h' keep
  have ht' : ∀ v ∈ vs, TupK h' v (key v) ∧ ∃ x r, key v = .inr x :: r := fun v hm => ⟨(ht v hm).1.keeps fun b o e c => keep b o (fun z => ha o (z ▸ e) c) e, (ht v hm).2⟩
  obtain ⟨fs, k1, k2, k3⟩ := tupK_firsts ht'
  refine ⟨tuples' true, fun Q E hq => ?_, tupK_cmp (fun v hv => (ht' v hv).1) hc⟩
  refine PySem.W.kat_kind (T := .type "str") k1 (by omega) (fun f hm => ?_) (by rfl) ?_
  · obtain ⟨x, t, rfl⟩ := k3 f hm
    exact PySem.W.Looks.now
  · have e : (Value.type "str" != Value.type "tuple") = true := by first | decide +kernel | rfl | decide
    rw [e]
    exact hq
end
theorem swoK (key : Value → List Key) : SrtO.Swo fun v u => ltKs (key v) (key u) := by
  refine ⟨fun x y h => ?_, fun x y z h1 h2 => ?_⟩
  · cases e : ltKs (key y) (key x) with
    | false => rfl
    | true =>
      have := (listOrd itemOrd).trans _ _ _ h e
      rw [(listOrd itemOrd).irrefl] at this
      cases this
  · cases e : ltKs (key z) (key x) with
    | false => rfl
    | true =>
      rcases (listOrd itemOrd).negTrans _ ((key y).map tokK) _ e with q | q
      · exact absurd (q.symm.trans h2) (by decide)
      · exact absurd (q.symm.trans h1) (by decide)
end Cw
namespace Cw
open PySem PySem.Spec PyProof.Rows L2 Gu
def unV : V → Key
  | .int i => .inl i
  | .str x => .inr x
  | _ => .inl 0
theorem unV_kV (ks : List Key) : (ks.map kV).map unV = ks := by
  rw [List.map_map]
  conv => rhs; rw [← List.map_id ks]
  congr 1
  funext k
  cases k <;> rfl
def keyAt (H : Hp) (b : Addr) : List Key := match H b with
  | some (.tup xs) => xs.map unV
  | _ => []
def keyVal (H : Hp) : Value → List Key
  | .ref b => keyAt H b
  | _ => []
theorem keyAt_of {H : Hp} {b : Addr} {ks : List Key} (h : H b = some (.tup (ks.map kV))) : keyAt H b = ks := by
  unfold keyAt
  rw [h]
  exact unV_kV ks
def rSortT : List V → Hp → VK → Prop := fun xs H Q => ∃ (a : Addr) (kvs : List (List Key × V)), xs = [.ref a] ∧ Rd H a (.dT kvs) ∧ (∀ x ∈ kvs.map (·.1), ∀ y ∈ kvs.map (·.1), CmpK x y) ∧ (∀ x ∈ kvs.map (·.1), ∃ u r, x = .inr u :: r) ∧
  ∀ (p : Addr) (bs : List Addr), H p = none → (∀ b ∈ bs, ∃ ks : List Key, H b = some (.tup (ks.map kV))) → (bs.map (keyAt H)).Perm (kvs.map (·.1)) → (bs.map (keyAt H)).Pairwise (fun x y => ltKs y x = false) → Q (.ref p) (upd H p (.lst (bs.map V.ref)))
theorem isKeys_at {H : Hp} : ∀ {kvs : List (List Key × V)} {bs : List Addr}, IsKeys H kvs bs → bs.map (keyAt H) = kvs.map (·.1) ∧ ∀ b ∈ bs, ∃ ks : List Key, H b = some (.tup (ks.map kV))
  | [], [], _ => ⟨rfl, fun b hb => by cases hb⟩
  | p :: kvs, b :: bs, h => by
    cases h with
    | cons h1 h2 =>
      obtain ⟨e1, e2⟩ := isKeys_at h2
      refine ⟨by rw [List.map_cons, List.map_cons, e1, keyAt_of h1], fun c hc => ?_⟩
      rcases List.mem_cons.mp hc with rfl | hc
      · exact ⟨_, h1⟩
      · exact e2 c hc
  | [], _ :: _, h => by cases h
  | _ :: _, [], h => by cases h
theorem refs_of : ∀ {out : List Value}, (∀ v ∈ out, ∃ b : Addr, v = .ref b) → ∃ bs : List Addr, out = bs.map Value.ref
  | [], _ => ⟨[], rfl⟩
  | v :: out, h => by
    obtain ⟨b, rfl⟩ := h v (List.mem_cons_self ..)
    obtain ⟨bs, e⟩ := refs_of (out := out) fun u hu => h u (List.mem_cons_of_mem _ hu)
    exact ⟨b :: bs, by rw [e]; rfl⟩
theorem cr_sortT {X : Cx} (calm : X.calm = true) : CallR X (.builtin "sorted") rSortT := by
  intro pn z τ G xs us Q J r q
  obtain ⟨a, kvs, ex, hd, hcmp, hfst, q⟩ := q
  subst ex
  obtain ⟨u, eu, rx⟩ := vals1' r
  subst eu
  cases rx
  obtain ⟨hl, hs, ks, pr, o, es, ep, ho, hx, hdt, he, _⟩ := (show ObjOk X.prog X.w G z.heap a (.dT kvs) from hd.ok J.hok)
  have l1 : es.size = ks.length := size_of_entries he
  have l2 : kvs.length = ks.length := Paired.length pr
  obtain ⟨k1, k2⟩ := isKeys_at (isKeys_of pr)
  generalize eb0 : (ks.map fun x => x.2.1) = bs0 at k1 k2
  refine Calls.call_function_entry PyProof.Rows.kind_sorted PyProof.Rows.plain_sorted PyProof.Rows.entry_sorted (PyProof.Rows.args_sorted1 _) ?_
  unfold Builtin.«sorted»
  refine wpAny_bind (m := checkCount "sorted" 1 1 _) (wpAny_pure ?_)
  refine wpAny_bind (PySem.W.kdu_collect (A := X.A.in1) (kdl_raw hs hx hdt) (J.ok.hd calm) ho (by omega) fun h' tk acc hk hacc => ?_)
  have ea : acc.toList = bs0.map Value.ref := by
    rw [← eb0, List.map_map]
    refine List.ext_getElem? fun j => ?_
    rw [List.getElem?_map]
    by_cases hj : j < ks.length
    · have hj2 : j < acc.toList.length := by rw [Array.length_toList, hacc.1, l1]; exact hj
      obtain ⟨en, e1, e2⟩ := hacc.2 j acc.toList[j] (by rw [← Array.getElem?_toList]; exact List.getElem?_eq_getElem hj2)
      have e3 := entry_at he j
      rw [List.getElem?_eq_getElem hj] at e3 ⊢
      rw [e1] at e3
      rw [List.getElem?_eq_getElem hj2, e2, Option.some.inj e3]
      rfl
    · have hj2 : acc.toList.length ≤ j := by rw [Array.length_toList, hacc.1, l1]; omega
      rw [List.getElem?_eq_none hj2, List.getElem?_eq_none (l := ks) (by omega)]
      rfl
  have J1 : Inv X pn τ G { z with heap := h', toks := tk } := J.kept hk
  have hz : acc.toList.length ≤ sizeLine := by rw [Array.length_toList, hacc.1, l1, ← l2]; exact hl
  refine wpAny_bind (wpAny_newList ?_ hz)
  have hoL : (h'.push (seqObj "list" acc.toList.toArray 0)).get? h'.objs.size = some (seqObj "list" acc.toList.toArray 0) := Heap.get?_push_size _ rfl
  show wpAny _ _ _ _ _ { z with heap := h'.push (seqObj "list" acc.toList.toArray 0), toks := tk }
  have hmem : ∀ v ∈ acc.toList, ∃ b ∈ bs0, v = .ref b := fun v hv => by
    rw [ea] at hv
    obtain ⟨b, hb, e⟩ := List.mem_map.mp hv
    exact ⟨b, hb, e.symm⟩
  have hkey : ∀ v ∈ acc.toList, keyVal G v ∈ kvs.map (·.1) := fun v hv => by
    obtain ⟨b, hb, e⟩ := hmem v hv
    rw [e, ← k1]
    exact List.mem_map.mpr ⟨b, hb, rfl⟩
  have htup : ∀ v ∈ acc.toList, TupK (h'.push (seqObj "list" acc.toList.toArray 0)) v (keyVal G v) := fun v hv => by
    obtain ⟨b, hb, e⟩ := hmem v hv
    obtain ⟨kk, hkk⟩ := k2 b hb
    obtain ⟨_, its, rv, ob, g1, g2, n, g3⟩ := (show ObjOk X.prog X.w G h' b (.tup (kk.map kV)) from J1.hok b _ hkk)
    refine ⟨b, ob, its, n, e, Heap.get?_push_of_some _ g1, g2, g3, ?_⟩
    rw [e, show keyVal G (.ref b) = kk from keyAt_of hkk]
    exact rv
  refine wpAny_bind (wpAny_holding (wpAny_call_entry slot_list_sort ⟨_, hoL, rfl⟩ entry_list_sort (SrtO.list_sort_ord (swoK (keyVal G)) hoL hz (fun h2 => ?_) fun out hs1 hb1 => ⟨_, rfl, ?_⟩) (args_list_sort _)))
  · refine tupK_sortable (by omega) (fun v hv => ⟨htup v hv, hfst _ (hkey v hv)⟩) (fun v hv v' hv' => hcmp _ (hkey v hv) _ (hkey v' hv')) fun o' e => ?_
    cases (e.symm.trans hoL)
    exact fun c => absurd (Value.type.inj c) (by decide)
  · obtain ⟨bs, rfl⟩ := refs_of (out := out) fun v hv => by
      obtain ⟨b, _, e⟩ := hmem v (hb1.perm.mem_iff.mp hv)
      exact ⟨b, e⟩
    have hp : bs.Perm bs0 := by
      have := hb1.perm
      rw [ea] at this
      have h3 := this.map (fun v => match v with | .ref b => b | _ => 0)
      rw [List.map_map, List.map_map] at h3
      have e4 : ((fun v : Value => match v with | .ref b => b | _ => 0) ∘ Value.ref) = (id : Addr → Addr) := rfl
      rw [e4, List.map_id, List.map_id] at h3
      exact h3
    have hsort : (bs.map (keyAt G)).Pairwise fun x y => ltKs y x = false := List.pairwise_map.mpr (List.pairwise_map.mp hs1)
    obtain ⟨e', he'⟩ := PyProof.Rows.sortedHeap_at (vs := acc.toList) (out := (bs.map Value.ref).toArray) hoL
    have hlen : (bs.map V.ref).length ≤ sizeLine := by
      rw [List.length_map, hp.length_eq, ← eb0, List.length_map, ← l2]
      exact hl
    refine wpAny_pure ⟨_, rfl, .ref h'.objs.size, upd G h'.objs.size (.lst (bs.map V.ref)), J1.laid (t' := tk) (fun b v e => ?_) (Nat.le_refl _) (show ObjOk X.prog X.w _ _ _ (.lst (bs.map V.ref)) from ⟨hlen, bs.map Value.ref, e', vals_refs bs, he'⟩), rfl,
      q _ bs (J1.hok.fresh (Nat.le_refl _)) (fun b hb => k2 b (hp.mem_iff.mp hb)) (by rw [← k1]; exact hp.map _) hsort⟩
    have hb : b < h'.objs.size := Heap.lt_size e
    rw [PyProof.Rows.sortedHeap_old (Nat.ne_of_lt hb) (by rw [size_push']; exact Nat.lt_succ_of_lt hb)]
    exact Heap.get?_push_of_some _ e
end Cw
/-! Part 16: d.update(e), keys tuples; the cells' rules for dicts with tuple keys. -/
namespace Cw
open PySem PySem.Spec PyProof.Rows L2 Gu
def mergeT (kvs more : List (List Key × V)) : List (List Key × V) := more.foldl (fun acc p => putK acc p.1 p.2) kvs
theorem kt_merge {G : Hp} : ∀ {more : List (List Key × V)} {ys : List (List Key × Addr × Value)} {kvs : List (List Key × V)} {xs : List (List Key × Addr × Value)}, KT G kvs xs → KT G more ys → KT G (mergeT kvs more) (storedAllH xs ys)
  | [], [], _, _, r, _ => r
  | p :: more, q :: ys, kvs, xs, r, h => by
    cases h with
    | cons h1 h2 =>
      obtain ⟨e1, e2, e3⟩ := h1
      have := r.put p.1 e2 e3
      rw [show mergeT kvs (p :: more) = mergeT (putK kvs p.1 p.2) more from rfl, show storedAllH xs (q :: ys) = storedAllH (storedH xs q.1 q.2.1 q.2.2) ys from rfl, ← e1]
      exact kt_merge this h2
  | [], _ :: _, _, _, _, h => by cases h
  | _ :: _, [], _, _, _, h => by cases h
theorem mergeT_len : ∀ {more kvs : List (List Key × V)}, (mergeT kvs more).length ≤ kvs.length + more.length
  | [], _ => Nat.le_refl _
  | p :: more, kvs => by
    have h1 := mergeT_len (more := more) (kvs := putK kvs p.1 p.2)
    have h2 := length_putK kvs p.1 p.2
    show (mergeT (putK kvs p.1 p.2) more).length ≤ kvs.length + (more.length + 1)
    omega
def rUpdT : V → List V → Hp → VK → Prop := fun x vs H Q => ∃ (a b : Addr) (kvs more : List (List Key × V)), x = .ref a ∧ vs = [.ref b] ∧ a ≠ b ∧ H a = some (.dT kvs) ∧ H b = some (.dT more) ∧ kvs ≠ [] ∧ kvs.length + more.length ≤ sizeLine ∧ Q .non (upd H a (.dT (mergeT kvs more)))
theorem mt_updT {X : Cx} (hu : X.A.units + 1 < cLine) : MtR X "dict.update" rUpdT := by
  intro pn z τ G x vs v us Q J rx rv h
  obtain ⟨a, b, kvs, more, rfl, rfl, ne, ha, hb, hne, hz, q⟩ := h
  cases rx
  obtain ⟨u, rfl, ru⟩ := rv.one
  cases ru
  obtain ⟨z1, d1, xs, k1, m1⟩ := dt_of J.hok ha
  obtain ⟨z2, d2, ys, k2, m2⟩ := dt_of J.hok hb
  have l1 := Paired.length k1
  have l2 := Paired.length k2
  refine call_update_dictH (knd := tupleKind (mixKind X.prog X.w)) (tupleKind_room_in1 hu) ne d2 m1 m2 (.inl fun e => hne ?_) (by omega) fun h' n1 _ sm => ?_
  · rw [e] at l1
    exact List.length_eq_zero_iff.mp l1
  · obtain ⟨o, fs, ep, g1, g2, g3, g4, _, g5⟩ := n1
    refine ⟨.non, _, d_write (ob := .dT (mergeT kvs more)) J (by rw [ha]; exact True.intro) sm ⟨o, g1⟩ ⟨Nat.le_trans mergeT_len hz, d1, _, (kt_merge k1 k2).keeps fun c cs ec => ?_, o, fs, ep, g1, g2, g3, g4, g5⟩, rfl, q⟩
    rw [upd_ne (ne_of ec ha (fun z => nomatch z))]
    exact ec
section
variable {K : PySem.W.Frag} {B : Hp}
def mergeCT (kvs more : List (List Key × C)) : List (List Key × C) := more.foldl (fun acc p => putC acc p.1 p.2) kvs
theorem kv_mergeT : ∀ {more : List (List Key × V)} {md : List (List Key × C)} {ps : List (List Key × V)} {kvs : List (List Key × C)}, KvOk K B more md → KvOk K B ps kvs → KvOk K B (mergeT ps more) (mergeCT kvs md)
  | [], [], _, _, _, h => h
  | p :: more, q :: md, ps, kvs, ⟨e1, e2, e3⟩, h => by
    show KvOk K B (mergeT (putK ps p.1 p.2) more) (mergeCT (putC kvs q.1 q.2) md)
    rw [e1]
    exact kv_mergeT e3 (kv_put e2 h)
  | [], _ :: _, _, _, h, _ => h.elim
  | _ :: _, [], _, _, h, _ => h.elim
end
section
variable {K : PySem.W.Frag} {B0 : Hp} {cs : List C} {hs fh : List HC} {k : KC} {ta tb te tl td ty tx tv tk : TE} {tr : TA} {D : Ends} {g : TG} {tt : TT} {wi : TI} {ki : List C → List HC → Prop}
theorem own_inj {h2 : List HC} {i j : Nat} {x y : HC} (hn : ((h2 ++ fh).map Prod.fst).Nodup) (hi : h2[i]? = some x) (hj : h2[j]? = some y) (e : x.1 = y.1) : i = j := by
  have l1 := (List.getElem?_eq_some_iff.mp hi).1
  have l2 := (List.getElem?_eq_some_iff.mp hj).1
  have e1 : ((h2 ++ fh).map Prod.fst)[i]? = some x.1 := by rw [List.getElem?_map, List.getElem?_append_left l1, hi]; rfl
  have e2 : ((h2 ++ fh).map Prod.fst)[j]? = some y.1 := by rw [List.getElem?_map, List.getElem?_append_left l2, hj]; rfl
  rw [← e] at e2
  have l3 : i < ((h2 ++ fh).map Prod.fst).length := (List.getElem?_eq_some_iff.mp e1).1
  exact (List.getElem?_inj l3 hn).mp (e1.trans e2.symm)
/-- d.update(e), both one's own -/
theorem we_updT (h : WE K ta cs hs fun co h1 => ∃ a, co = .r a ∧ At h1 a fun _ mo => IsDt mo fun _ => WE K te cs h1 fun c h2 => ∃ b, c = .r b ∧ At h2 b fun j mo2 => IsDt mo2 fun es => At h2 a fun i mo => IsDt mo fun ds => i ≠ j ∧ ds ≠ [] ∧ ds.length + es.length ≤ 100000 ∧ k (.d .none) (h2.set i (a, .dit (mergeCT ds es)))) :
    WE K (tBM K "dict" rUpdT ta (tCons te tNil)) cs hs k := by
  intro B H σ fh s E Q q
  refine h B H σ fh s E _ fun vo co h1 B1 H1 x1 s1 E1 ⟨a, e, i0, mo0, hi0, ds0, e0, h2⟩ => ?_
  subst e
  subst e0
  have ev : some vo = some (V.ref a) := s1
  cases ev
  obtain ⟨_, o0, ho0, xs0, e00, _⟩ := E1.own hi0
  subst e00
  refine ⟨.inr (.inr (.inl ⟨rfl, .inr ⟨xs0, ho0⟩⟩)), h2 B1 H1 σ fh (s.mono x1) E1 _ fun v c h2 B2 H2 x2 s2 E2 ⟨b, e, j, mo2, hj, es, e3, i, mo, hi, ds, e2, nij, hne, hz, hk⟩ => ?_⟩
  subst e
  subst e2
  subst e3
  have ev : some v = some (V.ref b) := s2
  cases ev
  obtain ⟨_, o, ho, xs, e4, hd⟩ := E2.own hi
  subst e4
  obtain ⟨_, o', ho', ys, e5, hd'⟩ := E2.own hj
  subst e5
  have ne : a ≠ b := fun z => nij (own_inj E2.nd hi hj z)
  exact ⟨a, b, xs, ys, rfl, rfl, ne, ho, ho', fun z => hne (List.length_eq_zero_iff.mp (by rw [← hd.len, z]; rfl)), Evl.sz_of (by rw [hd.len, hd'.len]; exact hz), q .non (.d .none) _ B2 _ (ex_trans x1 x2) ⟨_, rfl, .non⟩ (E2.upd hi (mok_t (kv_mergeT hd' hd))) hk⟩
/-- what is to be a tuple key -/
def KeyE (K : PySem.W.Frag) (te : TE) (cs : List C) (hs : List HC) (k : List Key → List HC → Prop) : Prop := WE K te cs hs fun c h2 => ∃ key, c = .k key ∧ k key h2
theorem keyE_tup {kk : List Key → List HC → Prop} (h : WA K tr cs hs fun cl h2 => Unk cl fun ks => kk ks h2) : KeyE K (tTup tr) cs hs kk := we_tupK fun B H σ fh s E Q q => h B H σ fh s E Q fun vs cl h2 B2 H2 x2 s2 E2 ⟨ks, e, hz, hk⟩ => q vs cl h2 B2 H2 x2 s2 E2 ⟨ks, e, hz, ks, rfl, hk⟩
theorem keyE_var {kk : List Key → List HC → Prop} {i : Nat} {ks : List Key} (h : cs[i]? = some (.k ks)) (hk : kk ks hs) : KeyE K (tVar i) cs hs kk := we_var h (by intro z; cases z) ⟨ks, rfl, hk⟩
/-- d[e], the key a tuple -/
theorem we_dgetT (h : WE K td cs hs fun co h1 => ∃ a, co = .r a ∧ KeyE K ty cs h1 fun key h2 => At h2 a fun _ mo => IsDt mo fun kvs => ∃ x, valC kvs key = some x ∧ k x h2) : WE K (tDGet td ty) cs hs k := by
  intro B H σ fh s E Q q
  refine h B H σ fh s E _ fun vo co h1 B1 H1 x1 s1 E1 ⟨a, e, h2⟩ => ?_
  subst e
  have ev : some vo = some (V.ref a) := s1
  cases ev
  refine h2 B1 H1 σ fh (s.mono x1) E1 _ fun v c h2 B2 H2 x2 s2 E2 ⟨key, e, i, mo, hi, kvs, e2, x, hx, hk⟩ => ?_
  subst e
  subst e2
  obtain ⟨pk, ep, hp⟩ := s2
  cases ep
  obtain ⟨_, o, ho, ps, e4, hd⟩ := E2.own hi
  subst e4
  obtain ⟨u, hu, su⟩ := kv_val hd hx
  refine ⟨a, u, rfl, ?_, q u x h2 B2 H2 (ex_trans x1 x2) su E2 hk⟩
  have gg : DGet H2 a (.ref pk) (valV ps key) := DGet.t ho (E2.bh _ _ hp)
  rw [hu] at gg
  exact gg
/-! a list of cells walked; it is never changed again -/
theorem vs_at {B : Hp} : ∀ {vs : List V} {cl : List C} {j : Nat} {c : C}, VsOk K B vs cl → cl[j]? = some c → ∃ v, vs[j]? = some v ∧ Sl K B (some v) c
  | [], [], _, _, _, h => by simp at h
  | v :: _, _ :: _, 0, _, ⟨h1, _⟩, h => by cases h; exact ⟨v, rfl, h1⟩
  | _ :: vs, _ :: cl, j + 1, c, ⟨_, h2⟩, h => vs_at (j := j) h2 (by simpa using h)
  | [], _ :: _, _, _, h, _ => h.elim
  | _ :: _, [], _, _, h, _ => h.elim
theorem src_listC {B1 : Hp} {a : Addr} {xs : List V} {cl : List C} (hq : SqL K B1 a xs) (ha : VsOk K B1 xs cl) : Src K (Itl K a) cl B1 := by
  intro B H e1 e2
  have hq2 : SqL K H a xs := Evl.ex_l (ex_trans e1 e2) hq
  have hl := ha.len
  refine ⟨fun i hi => ⟨xs, xs[i]'(by omega), hq2, List.getElem?_eq_getElem (by omega)⟩, ⟨xs, hq2, by omega⟩, ?_⟩
  rintro i x H' hi ⟨rfl, hx⟩
  obtain ⟨v, hv, hd⟩ := vs_at (j := i) ha (List.getElem?_eq_getElem hi)
  have := hx xs hq2
  rw [hv] at this
  cases this
  exact ⟨B, cl[i], ex_refl, List.getElem?_eq_getElem hi, hd.mono e1, fun y E => E⟩
theorem En.frzC {B H : Hp} {a : Addr} {cl : List C} {y : List HC} (E : En K B H ((a, .lsc cl) :: y)) : ∃ B' xs, Ex B B' ∧ En K B' H y ∧ SqL K B' a xs ∧ VsOk K B' xs cl := by
  obtain ⟨hb, o, ho, xs, eo, hd⟩ := E.head
  subst eo
  have na := E.notIn
  refine ⟨L2.upd B a (.lst xs), xs, Evl.Ex.new hb, E.tail.grow (Evl.Ex.new hb) (fun b x h => ?_) fun b hb' => ?_, .inl (.inl upd_same), hd.mono (Evl.Ex.new hb)⟩
  · by_cases e : b = a
    · subst e
      rw [upd_same] at h
      rw [ho, ← h]
    · rw [upd_ne e] at h
      exact E.bh b x h
  · have ne : b ≠ a := fun e => na (e ▸ hb')
    exact ⟨by rw [upd_ne ne]; exact (E.tail.at hb').1, fun _ h => h⟩
theorem wi_LC (h : WE K tl cs hs fun c h1 => ∃ a i cl, c = .r a ∧ h1[i]? = some (a, .lsc cl) ∧ ki cl (h1.eraseIdx i)) : WI K (iList K tl) cs hs ki := by
  intro B H σ fh s E R r
  refine h B H σ fh s E _ fun v c h1 B1 H1 x1 s1 E1 ⟨a, i, cl, e, hi, hk⟩ => ?_
  subst e
  have ev : some v = some (V.ref a) := s1
  cases ev
  obtain ⟨B2, xs, x2, E2, hq, hv⟩ := (E1.take hi).frzC
  exact ⟨a, rfl, ⟨xs, Evl.ex_l E2.bh hq⟩, r _ _ _ B2 H1 (ex_trans x1 x2) E2 (src_listC hq hv) hk⟩
/-! sorted(d) -/
theorem addTs {B H : Hp} (bh : Ex B H) : ∀ (bs : List Addr), (∀ b ∈ bs, ∃ ks : List Key, H b = some (.tup (ks.map kV))) → ∃ B', Ex B B' ∧ Ex B' H ∧ (∀ b ∈ bs, ∃ ks : List Key, H b = some (.tup (ks.map kV)) ∧ B' b = some (.tup (ks.map kV))) ∧ ∀ y, En K B H y → En K B' H y
  | [], _ => ⟨B, ex_refl, bh, fun b hb => (by cases hb), fun y E => E⟩
  | b :: bs, h => by
    obtain ⟨ks, hk⟩ := h b (List.mem_cons_self ..)
    obtain ⟨B1, x1, b1, hb1, En1⟩ := addT (K := K) bh hk
    obtain ⟨B2, x2, b2, hb2, En2⟩ := addTs b1 bs fun c hc => h c (List.mem_cons_of_mem _ hc)
    refine ⟨B2, ex_trans x1 x2, b2, fun c hc => ?_, fun y E => En2 y (En1 y E)⟩
    rcases List.mem_cons.mp hc with rfl | hc
    · exact ⟨ks, hk, x2 _ _ hb1⟩
    · exact hb2 c hc
theorem vs_keyrefs {B H : Hp} : ∀ {bs : List Addr}, (∀ b ∈ bs, ∃ ks : List Key, H b = some (.tup (ks.map kV)) ∧ B b = some (.tup (ks.map kV))) → VsOk K B (bs.map V.ref) ((bs.map (keyAt H)).map C.k)
  | [], _ => trivial
  | b :: bs, h => by
    obtain ⟨ks, h1, h2⟩ := h b (List.mem_cons_self ..)
    refine ⟨⟨b, rfl, ?_⟩, vs_keyrefs fun c hc => h c (List.mem_cons_of_mem _ hc)⟩
    rw [keyAt_of h1]
    exact h2
theorem ra_sortT {a : Addr} {kvs : List (List Key × C)} (hi : ∃ i : Nat, hs[i]? = some (a, MO.dit kvs)) (hc : ∀ x ∈ kvs.map (·.1), ∀ y ∈ kvs.map (·.1), CmpK x y) (hf : ∀ x ∈ kvs.map (·.1), ∃ u r, x = .inr u :: r)
    (hk : ∀ (p : Addr) (ks : List (List Key)), ks.Perm (kvs.map (·.1)) → ks.Pairwise (fun x y => ltKs y x = false) → k (.r p) ((p, .lsc (ks.map C.k)) :: hs)) : RA K rSortT [.r a] hs k := by
  intro B H fh vs sv E Q q
  match vs, sv with
  | [v], ⟨s1, _⟩ =>
    have ev : some v = some (V.ref a) := s1
    cases ev
    obtain ⟨i, hi⟩ := hi
    obtain ⟨_, o, ho, ps, e4, hd⟩ := E.own hi
    subst e4
    have ek := kv_keys hd
    refine ⟨a, ps, rfl, .inl ho, by rw [ek]; exact hc, by rw [ek]; exact hf, fun p bs hp hbs hperm hsort => ?_⟩
    obtain ⟨B2, x2, bh2, hb2, En2⟩ := addTs (K := K) E.bh bs hbs
    have E2 := En2 _ E
    exact q (.ref p) (.r p) _ B2 _ x2 rfl (E2.newM hp (mok_c (vs_keyrefs hb2))) (hk p _ (by rw [← ek]; exact hperm) hsort)
/-! dict comprehensions with tuple keys -/
def PvT (K : PySem.W.Frag) (B1 : Hp) (Dl : Addr) (fh : List HC) (n0 : Nat) (I : Nat → List (List Key × C) → List HC → Prop) (i : Nat) (H : Hp) : Prop :=
  ∃ B hs acc, Ex B1 B ∧ En K B H ((Dl, .dit acc) :: (hs ++ fh)) ∧ acc.length ≤ i ∧ i ≤ n0 ∧ I i acc hs
theorem we_dcT {vs js : List Nat} (hg : Tg g js) (hj : ∀ j ∈ js, j ∈ vs) (h : WI K wi cs hs fun its h1 => its.length ≤ 99999 ∧ ∃ I : Nat → List (List Key × C) → List HC → Prop, I 0 [] h1 ∧
      (∀ i c acc hs', its[i]? = some c → I i acc hs' → WG K g (wipeC cs vs) c fun cs2 => WT K tt cs2 hs' fun b h3 => BB b (KeyE K tk cs2 h3 fun key h4 => WE K tv cs2 h4 fun cv h5 => I (i + 1) (putC acc key cv) h5) (I (i + 1) acc h3)) ∧
      ∀ acc hs', acc.length ≤ its.length → I its.length acc hs' → ∀ a, k (.r a) ((a, .dit acc) :: hs')) : WE K (tDcT wi g tt tk tv vs) cs hs k := by
  intro B H σ fh s E Q q
  refine h B H σ fh s E _ fun J its h1 B1 H1 x1 E1 hsrc ⟨hz, I, h0, hs, hd⟩ Dl hD => ?_
  have s1 := sl_wipe (s.mono x1) vs
  refine ⟨fun i m H' => m = its.length - i ∧ PvT K B1 Dl fh its.length I i H', ⟨its.length, by simp, B1, h1, [], ex_refl, E1.newM hD (mok_t (show KvOk K B1 [] [] from trivial)), Nat.le_refl _, Nat.zero_le _, h0⟩, ?_⟩
  rintro i m H' ⟨rfl, B', hs', acc, x', E', ha, hi, hI⟩
  obtain ⟨g1, g2, g3⟩ := hsrc B' H' x' E'.bh
  by_cases hlt : i < its.length
  · refine .inr ⟨g1 i hlt, PvT K B1 Dl fh its.length I (i + 1), fun H2 n2 => ⟨its.length - (i + 1), by omega, rfl, n2⟩, fun v H2 hy => ?_⟩
    obtain ⟨B2, c, x2, hc, sc, E2⟩ := g3 i v H2 hlt hy
    have E3 := E2 _ E'
    have w := hs i c acc hs' hc hI B2 H2 (wipe σ vs) v E3.bh (s1.mono (ex_trans x' x2)) sc
      (fun σ2 H2 => wipe σ2 vs = wipe σ vs → tt σ2 H2 fun b H3 =>
        if b = true then tk σ2 H3 fun y H4 => tv σ2 H4 fun z H5 => ∃ ps ks p, y = .ref p ∧ H5 p = some (.tup (ks.map kV)) ∧ H5 Dl = some (.dT ps) ∧ ps.length < sizeLine ∧ PvT K B1 Dl fh its.length I (i + 1) (upd H5 Dl (.dT (putK ps ks z))) else PvT K B1 Dl fh its.length I (i + 1) H3)
      fun σ2 cs2 s2 hk hw => ?_
    · refine hg.mono _ _ _ _ _ ?_ (hg.keep _ _ _ _ w)
      rintro σ2 H3 ⟨hq, hl2, hi2⟩
      rw [wipe_length] at hl2
      have hw := wipe_same hj hl2 hi2
      exact ⟨hw, hq hw⟩
    · have E4 : En K B2 H2 (hs' ++ ((Dl, .dit acc) :: fh)) := E3.perm List.perm_middle
      refine hk B2 H2 σ2 _ s2 E4 _ fun b h3 B3 H3 x3 E5 hk3 => ?_
      cases b with
      | false => exact iteF ⟨B3, h3, acc, ex_trans x' (ex_trans x2 x3), E5.perm List.perm_middle.symm, by omega, by omega, hk3.2 rfl⟩
      | true =>
        refine iteT (hk3.1 rfl B3 H3 σ2 _ (s2.mono x3) E5 _ fun y c h4 B4 H4 x4 s4 E6 ⟨key, ey, hk4⟩ => ?_)
        subst ey
        obtain ⟨pk, ep, hpk⟩ := s4
        cases ep
        refine hk4 B4 H4 σ2 _ ((s2.mono x3).mono x4) E6 _ fun z cz h5 B5 H5 x5 s5 E7 hk5 => ?_
        have E8 : En K B5 H5 ((Dl, .dit acc) :: (h5 ++ fh)) := E7.perm List.perm_middle.symm
        obtain ⟨_, ob, hob, ps, e5, hd5⟩ := E8.head
        subst e5
        have hl5 := hd5.len
        have hpl := putC_len acc key cz
        exact ⟨ps, key, pk, rfl, E8.bh _ _ (x5 _ _ hpk), hob, Evl.sz_lt (by omega), B5, h5, putC acc key cz, ex_trans x' (ex_trans x2 (ex_trans x3 (ex_trans x4 x5))), E8.chg (mok_t (kv_put s5 hd5)), by omega, by omega, hk5⟩
  · obtain rfl : i = its.length := by omega
    refine .inl ⟨g2, q (.ref Dl) (.r Dl) ((Dl, .dit acc) :: hs') B' H' (ex_trans x1 x') rfl E' (hd acc hs' ha hI Dl)⟩
end
end Cw
/-! Part 17: comprehensions over the items and the values of a dict with tuple keys (the dict is locked meanwhile). -/
namespace Cw
open PySem PySem.Spec PyProof.Rows L2 Gu
section
variable {K : PySem.W.Frag} {B0 : Hp} {cs : List C} {hs fh : List HC} {k : KC} {ta tb te tl td ty tx tv tk : TE} {tr : TA} {D : Ends} {g : TG} {tt : TT} {wi : TI} {tu : TS}
/-- the comprehension's turns, wherever the items come from -/
theorem lc_run {vs js : List Nat} {B1 H1 : Hp} {σ : L2.St} {h1 : List HC} {J : It} {its : List C} (hg : Tg g js) (hj : ∀ j ∈ js, j ∈ vs) (s0 : SlA K B1 σ cs) (E1 : En K B1 H1 (h1 ++ fh)) (hsrc : Src K J its B1) (hz : its.length ≤ 99999) (I : Nat → List PyData → List HC → Prop) (h0 : I 0 [] h1)
    (hstep : ∀ i c acc hs', its[i]? = some c → I i acc hs' → WG K g (wipeC cs vs) c fun cs2 => WT K tt cs2 hs' fun b h3 => BB b (WE K te cs2 h3 fun c h4 => IsD c fun y => I (i + 1) (acc ++ [y]) h4) (I (i + 1) acc h3)) {Q : VK}
    (hd : ∀ acc hs' B' H' p, Ex B1 B' → En K B' H' ((p, .lst acc) :: (hs' ++ fh)) → acc.length ≤ its.length → I its.length acc hs' → Q (.ref p) H') : tLc (fun _ H R => R J H) g tt te vs σ H1 Q := by
  intro Dl hD
  have s1 := sl_wipe s0 vs
  refine ⟨fun i m H' => m = its.length - i ∧ PvL K σ vs cs B1 Dl fh its.length I i H', ⟨its.length, by simp, B1, h1, [], ex_refl, E1.newM hD ⟨[], rfl, .nil⟩, Nat.le_refl _, Nat.zero_le _, h0⟩, ?_⟩
  rintro i m H' ⟨rfl, B', hs', acc, x', E', ha, hi, hI⟩
  obtain ⟨g1, g2, g3⟩ := hsrc B' H' x' E'.bh
  by_cases hlt : i < its.length
  · refine .inr ⟨g1 i hlt, PvL K σ vs cs B1 Dl fh its.length I (i + 1), fun H2 n2 => ⟨its.length - (i + 1), by omega, rfl, n2⟩, fun v H2 hy => ?_⟩
    obtain ⟨B2, c, x2, hc, sc, E2⟩ := g3 i v H2 hlt hy
    have E3 := E2 _ E'
    have w := hstep i c acc hs' hc hI B2 H2 (wipe σ vs) v E3.bh (s1.mono (ex_trans x' x2)) sc
      (fun σ2 H2 => wipe σ2 vs = wipe σ vs → tt σ2 H2 fun b H3 =>
        if b = true then te σ2 H3 fun y H4 => ∃ acc, H4 Dl = some (.lst acc) ∧ acc.length < sizeLine ∧ PvL K σ vs cs B1 Dl fh its.length I (i + 1) (upd H4 Dl (.lst (acc ++ [y]))) else PvL K σ vs cs B1 Dl fh its.length I (i + 1) H3)
      fun σ2 cs2 s2 hk hw => ?_
    · refine hg.mono _ _ _ _ _ ?_ (hg.keep _ _ _ _ w)
      rintro σ2 H3 ⟨hq, hl2, hi2⟩
      rw [wipe_length] at hl2
      have hw := wipe_same hj hl2 hi2
      exact ⟨hw, hq hw⟩
    · have E4 : En K B2 H2 (hs' ++ ((Dl, .lst acc) :: fh)) := E3.perm List.perm_middle
      refine hk B2 H2 σ2 _ s2 E4 _ fun b h3 B3 H3 x3 E5 hk3 => ?_
      cases b with
      | false => exact iteF ⟨B3, h3, acc, ex_trans x' (ex_trans x2 x3), E5.perm List.perm_middle.symm, by omega, by omega, hk3.2 rfl⟩
      | true =>
        refine iteT (hk3.1 rfl B3 H3 σ2 _ (s2.mono x3) E5 _ fun y c h4 B4 H4 x4 s4 E6 ⟨yd, ey, hk4⟩ => ?_)
        subst ey
        have E7 : En K B4 H4 ((Dl, .lst acc) :: (h4 ++ fh)) := E6.perm List.perm_middle.symm
        obtain ⟨_, ob, hob, xs, e5, hd5⟩ := E7.head
        subst e5
        have hdy := s4.dp
        have hl5 := hd5.len
        exact ⟨xs, hob, Evl.sz_lt (by omega), B4, h4, acc ++ [yd], ex_trans x' (ex_trans x2 (ex_trans x3 x4)), E7.chg ⟨_, rfl, dpAll_snoc hdy hd5⟩, by rw [List.length_append, List.length_singleton]; omega, by omega, hk4⟩
  · obtain rfl : i = its.length := by omega
    exact .inl ⟨g2, hd acc hs' B' H' Dl x' E' ha hI⟩
/-- a lock taken, a lock given back -/
theorem lock_in {B H : Hp} {a : Addr} {i : Nat} {kvs : List (List Key × C)} (E : En K B H (hs ++ fh)) (hi : hs[i]? = some (a, .dit kvs)) : B a = none ∧ ∃ ps, H a = some (.dT ps) ∧ KvOk K B ps kvs ∧ ∀ od, En K (upd B a (.frz od (.dT ps))) (upd H a (.frz od (.dT ps))) (hs.eraseIdx i ++ fh) := by
  have E1 := E.take hi
  obtain ⟨hb, u, hu, ps, rfl, kv⟩ := E1.head
  refine ⟨hb, ps, hu, kv, fun od => ?_⟩
  have x1 : Ex B (upd B a (.frz od (.dT ps))) := Evl.Ex.new hb
  refine ⟨fun b o e => ?_, fun p hp => ?_, E1.tail.nd⟩
  · by_cases z : b = a
    · subst z
      rw [upd_same] at e ⊢
      exact e
    · rw [upd_ne z] at e ⊢
      exact E1.bh b o e
  · obtain ⟨o1, o2, o3, o4⟩ := E1.tail.ow p hp
    have z : p.1 ≠ a := fun z => E1.notIn (z ▸ List.mem_map.mpr ⟨p, hp, rfl⟩)
    exact ⟨by rw [upd_ne z]; exact o1, o2, by rw [upd_ne z]; exact o3, o4.mono x1⟩
theorem lock_out {B B2 H2 : Hp} {a : Addr} {od : Obj} {ps : List (List Key × V)} {kvs : List (List Key × C)} {y : List HC} (hb : B a = none) (kv : KvOk K B ps kvs) (x2 : Ex (upd B a (.frz od (.dT ps))) B2) (E2 : En K B2 H2 y) : H2 a = some (.frz od (.dT ps)) ∧ B2 a = some (.frz od (.dT ps)) ∧ Ex B (delB B2 a) ∧ En K (delB B2 a) (upd H2 a (.dT ps)) ((a, .dit kvs) :: y) := by
  have b2 := x2 a _ upd_same
  have xd : Ex B (delB B2 a) := fun b o e => by
    have z : b ≠ a := fun z => by rw [z, hb] at e; cases e
    rw [del_ne z]
    exact x2 b o (Evl.Ex.new hb b o e)
  refine ⟨E2.bh a _ b2, b2, xd, ⟨fun b o e => ?_, fun p hp => ?_, ?_⟩⟩
  · by_cases z : b = a
    · subst z
      exact absurd (show delB B2 b b = none from if_pos rfl) (by rw [e]; exact fun z => nomatch z)
    · rw [del_ne z] at e
      rw [upd_ne z]
      exact E2.bh b o e
  · rcases List.mem_cons.mp hp with rfl | hp
    · exact ⟨if_pos rfl, _, upd_same, ps, rfl, kv.mono xd⟩
    · obtain ⟨o1, o2, o3, o4⟩ := E2.ow p hp
      have z : p.1 ≠ a := fun z => by rw [z, b2] at o1; cases o1
      exact ⟨by rw [del_ne z]; exact o1, o2, by rw [upd_ne z]; exact o3, o4.del b2⟩
  · refine List.nodup_cons.mpr ⟨fun hm => ?_, E2.nd⟩
    obtain ⟨p, hp, e⟩ := List.mem_map.mp hm
    obtain ⟨o1, _⟩ := E2.ow p hp
    rw [e, b2] at o1
    cases o1
theorem we_lcItems {vs js : List Nat} {a : Addr} {i : Nat} {kvs : List (List Key × PyData)} (hg : Tg g js) (hj : ∀ j ∈ js, j ∈ vs) (hi : hs[i]? = some (a, .dit (ditD kvs))) (ht : WE K td cs (hs.eraseIdx i) fun c h2 => c = .r a ∧ h2 = hs.eraseIdx i) (hz : kvs.length ≤ 99999)
    (I : Nat → List PyData → List HC → Prop) (h0 : I 0 [] (hs.eraseIdx i))
    (hstep : ∀ j p acc hs', kvs[j]? = some p → I j acc hs' → WG K g (wipeC cs vs) (.d (itD p)) fun cs2 => WT K tt cs2 hs' fun b h3 => BB b (WE K te cs2 h3 fun c h4 => IsD c fun y => I (j + 1) (acc ++ [y]) h4) (I (j + 1) acc h3))
    (hend : ∀ acc hs', acc.length ≤ kvs.length → I kvs.length acc hs' → ∀ p, k (.r p) ((p, .lst acc) :: (a, .dit (ditD kvs)) :: hs')) : WE K (tLockE (tLc (iItemsT td) g tt te vs)) cs hs k := by
  intro B H σ fh s E Q q
  obtain ⟨hb, ps, hu, kv, lk⟩ := lock_in E hi
  refine ⟨a, _, hu, trivial, fun od => ?_⟩
  have x1 : Ex B (upd B a (.frz od (.dT ps))) := Evl.Ex.new hb
  refine ht _ _ σ fh (s.mono x1) (lk od) _ fun v c h2 B2 H2 x2 s2 E2 ⟨e, e'⟩ => ?_
  subst e e'
  have ev : some v = some (V.ref a) := s2
  cases ev
  have hB2 := x2 a _ upd_same
  refine ⟨a, od, ps, rfl, E2.bh a _ hB2, ?_⟩
  show tLc (fun _ H R => R (ItiT a od ps) H) g tt te vs σ H2 (fun v H' => H' a = some (.frz od (.dT ps)) ∧ Q v (upd H' a (.dT ps)))
  refine lc_run hg hj ((s.mono x1).mono x2) E2 (src_itemsT (K := K) hB2 (kv.mono (ex_trans x1 x2))) (by rw [List.length_map]; exact hz) I h0 (fun j c acc hs' hc hI => ?_) fun acc hs' B' H' p x' E' ha hI => ?_
  · rw [List.getElem?_map] at hc
    obtain ⟨p, hp, rfl⟩ := Option.map_eq_some_iff.mp hc
    exact hstep j p acc hs' hp hI
  · rw [List.length_map] at ha hI
    obtain ⟨f1, f2, f3, f4⟩ := lock_out hb kv (ex_trans x2 x') E'
    refine ⟨f1, q (.ref p) (.r p) _ (delB B' a) _ f3 rfl ?_ (hend acc hs' ha hI p)⟩
    exact f4.perm (List.Perm.swap ..)
/-! d.values() -/
def ItvT (d : Addr) (o : Obj) (kvs : List (List Key × V)) : It :=
  ⟨fun i H => H d = some (.frz o (.dT kvs)) ∧ i < kvs.length, fun i H x H' => ∃ (k : List Key), kvs[i]? = some (k, x) ∧ H' = H, fun i H => H d = some (.frz o (.dT kvs)) ∧ kvs.length ≤ i⟩
theorem src_valuesT {B1 : Hp} {d : Addr} {o : Obj} {ps : List (List Key × V)} {kvs : List (List Key × PyData)} (hd : B1 d = some (.frz o (.dT ps))) (kv : KvOk K B1 ps (ditD kvs)) : Src K (ItvT d o ps) (kvs.map fun p => C.d p.2) B1 := by
  intro B H e1 e2
  have hH := e2 d _ (e1 d _ hd)
  have hl : ps.length = kvs.length := by
    have := kv.len
    rwa [List.length_map] at this
  refine ⟨fun i hi => ⟨hH, by rw [List.length_map] at hi; omega⟩, ⟨hH, by rw [List.length_map]; omega⟩, ?_⟩
  rintro i x H' hi ⟨k, hkv, rfl⟩
  rw [List.length_map] at hi
  obtain ⟨_, dv⟩ := kv_at kv hkv (List.getElem?_eq_getElem hi)
  exact ⟨B, .d kvs[i].2, ex_refl, by rw [List.getElem?_map, List.getElem?_eq_getElem hi]; rfl, ⟨_, rfl, dp_mono e1 _ _ dv⟩, fun y E => E⟩
def iValuesT (td : TE) : TI := fun σ H R => td σ H fun x H1 => ∃ d o kvs, x = .ref d ∧ H1 d = some (.frz o (.dT kvs)) ∧ R (ItvT d o kvs) H1
theorem nt_forValues {a : Addr} {i : Nat} {kvs : List (List Key × PyData)} (hi : hs[i]? = some (a, .dit (ditD kvs))) (ht : WE K td cs (hs.eraseIdx i) fun c h2 => c = .r a ∧ h2 = hs.eraseIdx i)
    (I : Nat → List C → List HC → Prop) (h0 : I 0 cs (hs.eraseIdx i))
    (hstep : ∀ D' B1, Ex B0 B1 → ∀ j p cs' hs', kvs[j]? = some p → I j cs' hs' → WG K g cs' (.d p.2) fun cs2 => Nt K B1 fh (tu (lp D' (Nx K B1 fh (I (j + 1))))) cs2 hs')
    (hend : ∀ cs' hs', I kvs.length cs' hs' → Nt K B0 fh D.nx cs' ((a, .dit (ditD kvs)) :: hs')) : Nt K B0 fh (tLock (tFor (iValuesT td) g tu) D) cs hs := by
  refine nt_lock hi fun B1 od ps x1 hB kv back => ?_
  intro B H σ xx s E
  refine ht B H σ fh s E _ fun v c h2 B2 H2 x2 s2 E2 ⟨e, e'⟩ => ?_
  subst e e'
  have ev : some v = some (V.ref a) := s2
  cases ev
  have hB2 := x2 a _ (xx a _ hB)
  refine ⟨a, od, ps, rfl, E2.bh a _ hB2, ?_⟩
  have hsrc := src_valuesT (K := K) hB2 (kv.mono (ex_trans xx x2))
  refine ⟨fun j m σ' H' => m = kvs.length - j ∧ j ≤ kvs.length ∧ Nx K B2 fh (I j) σ' H', ⟨kvs.length, by simp, Nat.zero_le _, cs, _, B2, ex_refl, s.mono x2, E2, h0⟩, ?_⟩
  rintro j m σ' H' ⟨rfl, hj, cs', hs', B', x', s', E', hI⟩
  obtain ⟨g1, g2, g3⟩ := hsrc B' H' x' E'.bh
  rw [List.length_map] at g1 g2 g3
  by_cases hlt : j < kvs.length
  · refine .inr ⟨g1 j hlt, Nx K B2 fh (I (j + 1)), fun σ2 H2 n2 => ⟨kvs.length - (j + 1), by omega, rfl, by omega, n2⟩, fun v H2 hy => ?_⟩
    obtain ⟨B3, c, x3, hc, sc, E3⟩ := g3 j v H2 hlt hy
    have E4 := E3 _ E'
    rw [List.getElem?_map, List.getElem?_eq_getElem hlt] at hc
    cases hc
    exact hstep _ B2 (ex_trans x1 (ex_trans xx x2)) j kvs[j] cs' hs' (List.getElem?_eq_getElem hlt) hI B3 H2 σ' v E4.bh (s'.mono x3) sc _ fun σ2 cs2 s2 hk => hk B3 H2 σ2 (ex_trans x' x3) s2 E4
  · obtain rfl : j = kvs.length := by omega
    exact .inl ⟨g2, back cs' hs' (hend cs' hs' hI) B' H' σ' (ex_trans (ex_trans xx x2) x') s' E'⟩
end
end Cw
namespace Cw
open PySem PySem.Spec PyProof.Rows L2 Gu
section
variable {P : Program} {w : World} {K : PySem.W.Frag} {d : Addr} {o : Obj} {es : Array DictEntry} {ep : Nat} {tg : Expr}
theorem turn_valuesT {kvs : List (List Key × V)} (it : Addr) (hod : o.data = .dict es ep) : Turn P w K tg (ItvT d o kvs) [it] it (fun i h => h.IsValIter it d i kvs.length ep) where
  mem := List.mem_singleton.mpr rfl
  obj := fun i h st b hb => by
    cases List.mem_singleton.mp hb
    obtain ⟨oi, e, _, dd⟩ := st
    exact ⟨oi, e, fun v z => by rw [dd] at z; cases z⟩
  keep := fun i h h' st k => st.at fun oi e => k it (List.mem_singleton.mpr rfl) oi e
  item := by
    rintro X rfl rfl rfl hc i pn z τ G Er J hf st ⟨hd, hi⟩
    obtain ⟨k0, k1, k2, k3, k4, k5⟩ := hf it (List.mem_singleton.mpr rfl)
    obtain ⟨es', ep', hs, raw, hdt, hsz, ent⟩ := frz_vals J hd
    obtain ⟨rfl, rfl⟩ := dict_ep hod hdt
    obtain ⟨k, v, hkv⟩ : ∃ k v, kvs[i]? = some (k, v) := ⟨_, _, List.getElem?_eq_getElem hi⟩
    obtain ⟨q, en, hen, _, _, e3⟩ := ent i k v hkv
    have hi' : i < es'.size := by omega
    have hen' : es'[i] = en := Option.some.inj ((Array.getElem?_eq_getElem hi').symm.trans hen)
    rw [← hsz] at st
    refine wpAny_pyNext_values_item_raw st raw hi' fun h' st' sb => ?_
    obtain ⟨oi, e, c, dd⟩ := id st'
    have J1 : Inv X pn τ G { z with heap := h' } := J.turned (t' := z.toks) (fun b ob hb e => (sb.2 b hb).trans e) k0 k1 k3 k4 k5
    refine ⟨_, rfl, go_of (s := { z with heap := h' }) e c dd (by decide) ⟨v, G, J1, by rw [hen']; exact e3, ⟨k, hkv, rfl⟩, ?_, fun b hb => (hf b hb).1⟩⟩
    show h'.IsValIter it d (i + 1) kvs.length _
    rw [← hsz]
    exact st'
  done := by
    rintro X rfl rfl rfl hc i pn z τ G Er J hf st ⟨hd, hi⟩
    obtain ⟨k0, k1, k2, k3, k4, k5⟩ := hf it (List.mem_singleton.mpr rfl)
    obtain ⟨es', ep', hs, raw, hdt, hsz, ent⟩ := frz_vals J hd
    obtain ⟨rfl, rfl⟩ := dict_ep hod hdt
    rw [← hsz] at st
    exact wpAny_pyNext_values_end_raw (J.ok.hd hc) st raw (by omega) fun h' eb => ⟨rfl, J.turned (t' := z.toks) (fun b ob hb e => eb b ob hb e) k0 k1 k3 k4 k5⟩
  self := fun A i s Q E st h => wpAny_pyIter_valiter st h
end
section
variable {X : Cx} {tg e : Expr} {td : TE} {apos cpos : Pos}
theorem pi_valuesT (he : PE X e td) (hbase : attributeBase e "values" X.env (eval e X.env) = eval e X.env := by rfl) (hline : (apos.endLine == cpos.line) = true := by rfl) :
    PI X tg (.Call (.Attribute e "values" apos) [] [] cpos) (iValuesT td) := by
  refine ⟨fun pn z τ G R J h => wpAny_Call_method (T := "dict") (id := "dict.values") hbase rfl hline F.plainAttrs_dict F.slot_dict_values F.type_dict_values ?_⟩
  refine thn (he.run pn z τ G _ J h) fun u z1 ⟨x, G1, J1, rx, d, o, kvs, ex, hd, q⟩ => ?_
  subst ex
  cases (show u = Value.ref d from rx)
  obtain ⟨es, ep, hs, raw, hdt, hsz, ent⟩ := frz_vals J1 hd
  obtain ⟨o1, g1, g2, g3⟩ := id raw
  refine ⟨raw.typeIs, fun a ea => by cases ea; exact ⟨o1, g1, g2.2.1⟩, ?_⟩
  have J2 : Inv X pn τ G1 { z1 with heap := z1.heap.push { cls := .type "dict_values", data := .fields #[.ref d] } } := J1.kept (t' := z1.toks) fun b ob y => Heap.get?_push_of_some _ y
  have raw2 : (z1.heap.push { cls := .type "dict_values", data := .fields #[.ref d] }).DictRaw d es ep := raw.push _
  have fin : wpAny (model X.prog X.w) X.A (pyIter (.ref z1.heap.objs.size)) (PIE X pn τ tg R) X.xe { z1 with heap := z1.heap.push { cls := .type "dict_values", data := .fields #[.ref d] } } := by
    refine wpAny_pyIter_values_raw (d := d) ⟨_, Heap.get?_push_size _ rfl, rfl, rfl⟩ raw2 (pi_one (tk := z1.toks) J2 _ (turn_valuesT _ hdt) ⟨_, Heap.get?_push_size _ rfl, rfl, ?_⟩ q)
    rw [hsz]
    rfl
  exact method_meetsIn F.slot_dict_values F.entry_dict_values rfl (PySem.evalArgs_none ⟨rfl, raw.typeIs, F.args_dict_values_1 _, _, meets_dict_values_raw d hs, ⟨es, ep, raw⟩, fin⟩)
end
end Cw
/-! Part 19: min and max of a list, dict(d), repr of numbers and None, locked comprehensions stored. -/
namespace Cw
open PySem PySem.Spec PyProof.Rows L2 Gu
section
variable {X : Cx} {K : PySem.W.Frag}
theorem cr_minLK (hc : X.calm = true) (hK : X.K = K := by rfl) : CallR X (.builtin "min") (rMin K) := hK ▸ cr_min hc
theorem cr_maxLK (hc : X.calm = true) (hK : X.K = K := by rfl) : CallR X (.builtin "max") (rMax K) := hK ▸ cr_max hc
def rDictD : List V → Hp → VK → Prop := fun xs H Q => ∃ (a : Addr) (kvs : List (Key × V)), xs = [.ref a] ∧ Rd H a (.dK kvs) ∧ ∀ p, H p = none → Q (.ref p) (upd H p (.dK kvs))
theorem cr_dictD : CallR X (.type "dict") rDictD := call_dictD
def rReprS : List V → Hp → VK → Prop := fun xs H Q => (∃ i : Int, xs = [.int i] ∧ i.natAbs.log2 < 1920 ∧ Q (.str (toString i)) H) ∨ (xs = [.non] ∧ Q (.str "None") H)
theorem cr_reprS : CallR X (.builtin "repr") rReprS := by
  intro pn z τ G xs us Q J r h
  rcases h with h | ⟨rfl, q⟩
  · exact SkE.call_repr_int pn z τ G xs us Q J r h
  · obtain ⟨u, rfl, ru⟩ := vals1' r
    cases ru
    exact PySem.P.repr_of_none ⟨.str _, G, J.tok _, ⟨_, rfl⟩, q⟩
end
section
variable {K : PySem.W.Frag} {B0 : Hp} {cs : List C} {hs fh : List HC} {k : KC} {te : TE} {D : Ends}
theorem ra_min {c : C} {ns : List Int} (ha : As hs c (.list (ns.map PyData.int))) (h0 : ns ≠ []) (hk : ∀ m, m ∈ ns → (∀ y ∈ ns, m ≤ y) → k (.d (.int m)) hs) : RA K (rMin K) [c] hs k := by
  intro B H fh vs sv E Q q
  match vs, sv with
  | [v], ⟨s1, _⟩ =>
    obtain ⟨a, xs, rfl, hq, hd⟩ := ha.rl s1 E
    rw [dpAll_ints hd] at hq
    exact ⟨a, ns, rfl, hq, List.length_pos_iff.mpr h0, fun m h1 h2 => q _ (.d (.int m)) hs B H ex_refl ⟨_, rfl, .int _⟩ E (hk m h1 h2)⟩
theorem ra_max {c : C} {ns : List Int} (ha : As hs c (.list (ns.map PyData.int))) (h0 : ns ≠ []) (hk : ∀ m, m ∈ ns → (∀ y ∈ ns, y ≤ m) → k (.d (.int m)) hs) : RA K (rMax K) [c] hs k := by
  intro B H fh vs sv E Q q
  match vs, sv with
  | [v], ⟨s1, _⟩ =>
    obtain ⟨a, xs, rfl, hq, hd⟩ := ha.rl s1 E
    rw [dpAll_ints hd] at hq
    exact ⟨a, ns, rfl, hq, List.length_pos_iff.mpr h0, fun m h1 h2 => q _ (.d (.int m)) hs B H ex_refl ⟨_, rfl, .int _⟩ E (hk m h1 h2)⟩
theorem ra_dictD {a : Addr} {kvs : List (Key × C)} (hi : ∃ i : Nat, hs[i]? = some (a, MO.dic kvs)) (hk : ∀ p, k (.r p) ((p, .dic kvs) :: hs)) : RA K rDictD [.r a] hs k := by
  intro B H fh vs sv E Q q
  match vs, sv with
  | [v], ⟨s1, _⟩ =>
    have ev : some v = some (V.ref a) := s1
    cases ev
    obtain ⟨i, hi⟩ := hi
    obtain ⟨_, o, ho, ps, e4, hd⟩ := E.own hi
    subst e4
    exact ⟨a, ps, rfl, .inl ho, fun p hp => q (.ref p) (.r p) _ B _ ex_refl rfl (E.newM hp (mok_d hd)) (hk p)⟩
def reprO : Option Int → Str
  | none => "None"
  | some i => toString i
theorem ra_reprI {i : Int} (hz : i.natAbs.log2 < 1920) (hk : k (.d (.str (toString i))) hs) : RA K rReprS [.d (.int i)] hs k := by
  intro B H fh vs sv E Q q
  match vs, sv with
  | [v], ⟨s1, _⟩ =>
    cases s1.int
    exact .inl ⟨i, rfl, hz, q _ (.d (.str _)) hs B H ex_refl ⟨_, rfl, .str _⟩ E hk⟩
theorem ra_reprN (hk : k (.d (.str "None")) hs) : RA K rReprS [.d .none] hs k := by
  intro B H fh vs sv E Q q
  match vs, sv with
  | [v], ⟨s1, _⟩ =>
    have hn := s1.dp
    cases hn
    exact .inr ⟨rfl, q _ (.d (.str _)) hs B H ex_refl ⟨_, rfl, .str _⟩ E hk⟩
theorem nt_setLock {j : Nat} (h : WE K (tLockE te) cs hs fun c h1 => Nt K B0 fh D.nx (cs.set j c) h1) : Nt K B0 fh (tLock (tAsg te (gName j)) D) cs hs := fun B H σ x s E => nt_set (D := D) h B H σ x s E
end
end Cw
/-! Part 20: d != e, where d is a dict of numbers and e another one or None. -/
namespace Cw
open PySem PySem.Spec PyProof.Rows L2 Gu PySem.SeqAt
def intD (ks : List (Key × Int)) : List (Key × V) := ks.map fun p => (p.1, V.int p.2)
def lookI (ls : List (Key × Int)) (k : Key) : Option Int := (ls.find? fun p => decide (p.1 = k)).map (·.2)
def hitsI (ls : List (Key × Int)) : List (Key × Int) → Bool
  | [] => true
  | p :: r => match lookI ls p.1 with
    | none => false
    | some y => (p.2 == y) && hitsI ls r
theorem val_intD {k : Key} : ∀ {ls : List (Key × Int)}, valV (intD ls) k = (lookI ls k).map V.int
  | [] => rfl
  | p :: ls => by
    have ih := val_intD (k := k) (ls := ls)
    unfold valV intD lookI at ih ⊢
    rw [List.map_cons]
    by_cases e : p.1 = k
    · rw [List.find?_cons_of_pos (by simp [e]), List.find?_cons_of_pos (by simp [e])]
      rfl
    · rw [List.find?_cons_of_neg (by simp [e]), List.find?_cons_of_neg (by simp [e])]
      exact ih
theorem hits_int {A : Around} {s : Shared} {ls : List (Key × Int)} {vb : List (Key × Value)} (rb : KV (intD ls) vb) : ∀ {ks : List (Key × Int)} {va : List (Key × Value)}, KV (intD ks) va → PySem.W.KeqHits A s vb va (hitsI ls ks)
  | [], _, h => by
    cases h
    exact .nil
  | p :: ks, _, h => by
    cases h with
    | @cons _ q _ qs h1 h2 =>
      have ih := hits_int (A := A) (s := s) rb h2
      obtain ⟨k, v⟩ := q
      obtain ⟨e1, e2⟩ := h1
      have e1' : p.1 = k := e1
      obtain ⟨t, e2'⟩ : ∃ t, v = Value.int p.2 t := e2
      subst e1' e2'
      have rv := rb.val p.1
      rw [val_intD] at rv
      unfold hitsI
      match hl : lookI ls p.1 with
      | none =>
        rw [hl] at rv
        have hn : valueAt vb p.1 = none := rv.none_of
        exact .miss hn
      | some y =>
        rw [hl] at rv
        obtain ⟨y', hy, ry⟩ := rv.some_of
        obtain ⟨t', rfl⟩ := ry
        exact .hit hy (SeqAt.EqAt.int_int p.2 t y t') ih
def rNeDN : R2 := fun x y H Q => ∃ (a : Addr) (ks : List (Key × Int)), x = .ref a ∧ H a = some (.dK (intD ks)) ∧ ((y = .non ∧ Q (.bl true) H) ∨ ∃ (b : Addr) (ls : List (Key × Int)), y = .ref b ∧ H b = some (.dK (intD ls)) ∧ Q (.bl (!(ks.length == ls.length && hitsI ls ks))) H)
theorem sub_none_dict : isSubtype (.type "NoneType") (.type "dict") = pure false := by rw [isSubtype_type]; kernel_rfl
theorem op_neDN {X : Cx} (hu : X.A.units + 64 < cLine) : OpR X (compareOp .NotEq) rNeDN := by
  intro pn z τ G x y v u Q J rx ry h
  obtain ⟨a, ks, rfl, ha, h⟩ := h
  obtain rfl : v = Value.ref a := rx
  obtain ⟨_, ya, va, ra, da⟩ := (show ObjOk X.prog X.w G z.heap a (.dK (intD ks)) from J.hok a _ ha)
  rcases h with ⟨rfl, q⟩ | ⟨b, ls, rfl, hb, q⟩
  · obtain rfl : u = Value.none := ry
    refine SeqAt.rc_ne_decline_or (k := false) da.typeIs rfl (by decide) sub_none_dict PySem.F.slot_dict_ne PySem.F.slot_NoneType_ne_refl (fun Q' hq => ?_) (fun _ hq => call_gives PySem.F.slot_NoneType_ne_refl rfl PySem.F.entry_NoneType_ne (PySem.F.args_NoneType_ne_2 _ _) (NoneType___ne___none_ref_0 a) hq)
      (fun _ hq => wpAny_of_eq (rfl : isSame (.ref a) .none = pure false) hq) (.inr (by omega)) ⟨.bl true, G, J, rfl, q⟩
    refine wpAny_call_entry PySem.F.slot_dict_ne da.typeIs PySem.F.entry_dict_ne ?_ (PySem.F.args_dict_ne_2 _ _)
    show wpAny _ _ (Builtin.Dict.dictSlotArgs "__ne__" ⟨[.ref a, .none], []⟩ >>= _) _ _ z
    refine wpAny_bind ?_
    unfold Builtin.Dict.dictSlotArgs
    refine wpAny_bind (wpAny_notOrdered_dict da.typeIs ?_)
    show wpAny _ _ (pure (Value.ref a, Value.none)) _ _ z
    refine wpAny_pure ?_
    refine wpAny_bind (wpAny_isInstance (T := "NoneType") (b := false) rfl sub_none_dict ?_)
    simp only [Bool.not_false, if_true]
    refine wpAny_bind (wpAny_rule ?_)
    exact wpAny_pure ⟨_, rfl, hq⟩
  · obtain rfl : u = Value.ref b := ry
    obtain ⟨_, yb, vb, rb, db⟩ := (show ObjOk X.prog X.w G z.heap b (.dK (intD ls)) from J.hok b _ hb)
    have l1 := ra.length
    have l2 := rb.length
    unfold intD at l1 l2
    rw [List.length_map] at l1 l2
    refine PySem.W.keq_ne (knd := mixKind X.prog X.w) (r := hitsI ls ks) ya yb da db (by omega) (fun _ => hits_int rb ra) ?_
    rw [← l1, ← l2]
    exact ⟨.bl _, G, J, rfl, q⟩
section
variable {K : PySem.W.Frag} {hs : List HC} {k : KC}
def intC (ks : List (Key × Int)) : List (Key × C) := ks.map fun p => (p.1, C.d (.int p.2))
theorem kv_intC {B : Hp} : ∀ {ks : List (Key × Int)} {ps : List (Key × V)}, KvOk K B ps (intC ks) → ps = intD ks
  | [], [], _ => rfl
  | p :: ks, q :: ps, ⟨e1, e2, e3⟩ => by
    have ih := kv_intC e3
    have e4 := e2.int
    rw [ih]
    show q :: intD ks = (p.1, V.int p.2) :: intD ks
    rw [← e1, ← Option.some.inj e4]
  | [], _ :: _, h => h.elim
  | _ :: _, [], h => h.elim
theorem rd_neDN0 {a : Addr} {ks : List (Key × Int)} (hi : ∃ i : Nat, hs[i]? = some (a, MO.dic (intC ks))) (hk : k (.d (.bool true)) hs) : RD K rNeDN (.r a) (.d .none) hs k := by
  intro B H fh v1 v2 s1 s2 E Q q
  have ev : some v1 = some (V.ref a) := s1
  cases ev
  have hn := s2.dp
  cases hn
  obtain ⟨i, hi⟩ := hi
  obtain ⟨_, o, ho, ps, e4, hd⟩ := E.own hi
  subst e4
  rw [kv_intC hd] at ho
  exact ⟨a, ks, rfl, ho, .inl ⟨rfl, q _ (.d (.bool true)) hs B H ex_refl ⟨_, rfl, .bl _⟩ E hk⟩⟩
theorem rd_neDN {a b : Addr} {ks ls : List (Key × Int)} (hi : ∃ i : Nat, hs[i]? = some (a, MO.dic (intC ks))) (hj : ∃ i : Nat, hs[i]? = some (b, MO.dic (intC ls))) (hk : k (.d (.bool (!(ks.length == ls.length && hitsI ls ks)))) hs) : RD K rNeDN (.r a) (.r b) hs k := by
  intro B H fh v1 v2 s1 s2 E Q q
  have ev : some v1 = some (V.ref a) := s1
  cases ev
  have ev : some v2 = some (V.ref b) := s2
  cases ev
  obtain ⟨i, hi⟩ := hi
  obtain ⟨j, hj⟩ := hj
  obtain ⟨_, o, ho, ps, e4, hd⟩ := E.own hi
  subst e4
  rw [kv_intC hd] at ho
  obtain ⟨_, o', ho', ps', e5, hd'⟩ := E.own hj
  subst e5
  rw [kv_intC hd'] at ho'
  exact ⟨a, ks, rfl, ho, .inr ⟨b, ls, rfl, ho', q _ (.d (.bool _)) hs B H ex_refl ⟨_, rfl, .bl _⟩ E hk⟩⟩
end
end Cw
/-! Part 21: comprehensions over the keys of a dict (the dict is locked meanwhile). -/
namespace Cw
open PySem PySem.Spec PyProof.Rows L2 Gu
section
variable {K : PySem.W.Frag} {B : Hp} {a : Addr} {od : Obj} {ps : List (Key × V)}
theorem del_keepK (h : B a = some (.frz od (.dK ps))) {b : Addr} {o : HO} (e : B b = some o) (n : ∀ qs, o ≠ .frz od (.dK qs)) : delB B a b = some o := by
  by_cases z : b = a
  · subst z
    exact absurd (Option.some.inj (e.symm.trans h)) (n ps)
  · rw [del_ne z]
    exact e
theorem rd_delK (h : B a = some (.frz od (.dK ps))) {b : Addr} {o : HO} (n : ∀ qs, o ≠ .dK qs) (n2 : ∀ u q, o ≠ .frz u q) (r : Rd B b o) : Rd (delB B a) b o := by
  rcases r with e | ⟨ob, e⟩
  · exact .inl (del_keepK h e fun qs z => n2 _ _ z)
  · refine .inr ⟨ob, del_keepK h e fun qs z => ?_⟩
    injection z with _ z2
    exact n qs z2
mutual
theorem dp_delK (h : B a = some (.frz od (.dK ps))) : ∀ (d : PyData) (v : V), Dp K B v d → Dp K (delB B a) v d
  | .none, _, x => by cases x; exact .non
  | .bool _, _, x => by cases x; exact .bl _
  | .int _, _, x => by cases x; exact .int _
  | .str _, _, x => by cases x; exact .str _
  | .list ds, _, x => by
    cases x with
    | lst hs ha => exact .lst (hs.imp (rd_delK h (fun _ z => nomatch z) fun _ _ z => nomatch z) id) (dpAll_delK h ds _ ha)
  | .tuple ds, _, x => by
    cases x with
    | tup hs ha => exact .tup (hs.imp (rd_delK h (fun _ z => nomatch z) fun _ _ z => nomatch z) id) (dpAll_delK h ds _ ha)
  | .dict _, _, x => by cases x
theorem dpAll_delK (h : B a = some (.frz od (.dK ps))) : ∀ (ds : List PyData) (vs : List V), DpAll K B vs ds → DpAll K (delB B a) vs ds
  | [], _, x => by cases x; exact .nil
  | d :: ds, _, x => by
    cases x with
    | cons h1 h2 => exact .cons (dp_delK h d _ h1) (dpAll_delK h ds _ h2)
end
theorem stays_delK (h : B a = some (.frz od (.dK ps))) : Stays K B (delB B a) := by
  refine ⟨fun d v hd => dp_delK h d v hd, fun b us hs => ?_, fun b us hs => ?_, fun b o nf hb => del_keepK h hb fun qs => nf _ _⟩
  · rcases hs with hs | hs
    · exact .inl (rd_delK h (fun _ z => nomatch z) (fun _ _ z => nomatch z) hs)
    · exact .inr hs
  · rcases hs with hs | hs
    · exact .inl (rd_delK h (fun _ z => nomatch z) (fun _ _ z => nomatch z) hs)
    · exact .inr hs
theorem Sl.delK (h : B a = some (.frz od (.dK ps))) {o : Option V} : ∀ {c : C}, Sl K B o c → Sl K (delB B a) o c
  | .any, _ => trivial
  | .d _, ⟨v, e, x⟩ => ⟨v, e, dp_delK h _ _ x⟩
  | .v _, x => x
  | .k _, ⟨p, e, x⟩ => ⟨p, e, del_keepK h x fun _ z => nomatch z⟩
  | .z _, ⟨v, e, x⟩ => ⟨v, e, fz_stay (stays_delK h) _ _ x⟩
theorem SlA.delK (h : B a = some (.frz od (.dK ps))) : ∀ {s : List (Option V)} {cs : List C}, SlA K B s cs → SlA K (delB B a) s cs
  | [], [], _ => trivial
  | _ :: _, _ :: _, ⟨x, y⟩ => ⟨x.delK h, SlA.delK h y⟩
theorem VsOk.delK (h : B a = some (.frz od (.dK ps))) : ∀ {s : List V} {cs : List C}, VsOk K B s cs → VsOk K (delB B a) s cs
  | [], [], _ => trivial
  | _ :: _, _ :: _, ⟨x, y⟩ => ⟨x.delK h, VsOk.delK h y⟩
theorem KvOk.delK {κ : Type} (h : B a = some (.frz od (.dK ps))) : ∀ {s : List (κ × V)} {cs : List (κ × C)}, KvOk K B s cs → KvOk K (delB B a) s cs
  | [], [], _ => trivial
  | _ :: _, _ :: _, ⟨e, x, y⟩ => ⟨e, x.delK h, KvOk.delK h y⟩
theorem MOk.delK (h : B a = some (.frz od (.dK ps))) : ∀ {mo : MO} {u : HO}, MOk K B mo u → MOk K (delB B a) mo u
  | .lst _, _, ⟨xs, e, x⟩ => ⟨xs, e, dpAll_delK h _ _ x⟩
  | .lsc _, _, ⟨xs, e, x⟩ => ⟨xs, e, x.delK h⟩
  | .dic _, _, ⟨xs, e, x⟩ => ⟨xs, e, x.delK h⟩
  | .dit _, _, ⟨xs, e, x⟩ => ⟨xs, e, x.delK h⟩
  | .ins .., _, ⟨xs, e, x⟩ => ⟨xs, e, x.delK h⟩
  | .tab _, _, ⟨xs, e, x1, x2⟩ => ⟨xs, e, x1, fun pos cv z => let ⟨c, h1, h2⟩ := x2 pos cv z; ⟨c, h1, del_keepK h h2 fun qs z => by unfold LamX.CodeO at z; cases z⟩⟩
end
section
variable {K : PySem.W.Frag} {B0 : Hp} {cs : List C} {hs fh : List HC} {k : KC} {ta tb te tl td ty tx tv tk : TE} {tr : TA} {D : Ends} {g : TG} {tt : TT} {wi : TI} {tu : TS}
theorem lockD_in {B H : Hp} {a : Addr} {i : Nat} {kvs : List (Key × C)} (E : En K B H (hs ++ fh)) (hi : hs[i]? = some (a, .dic kvs)) : B a = none ∧ ∃ ps, H a = some (.dK ps) ∧ KvOk K B ps kvs ∧ ∀ od, En K (upd B a (.frz od (.dK ps))) (upd H a (.frz od (.dK ps))) (hs.eraseIdx i ++ fh) := by
  have E1 := E.take hi
  obtain ⟨hb, u, hu, ps, rfl, kv⟩ := E1.head
  refine ⟨hb, ps, hu, kv, fun od => ?_⟩
  have x1 : Ex B (upd B a (.frz od (.dK ps))) := Evl.Ex.new hb
  refine ⟨fun b o e => ?_, fun p hp => ?_, E1.tail.nd⟩
  · by_cases z : b = a
    · subst z
      rw [upd_same] at e ⊢
      exact e
    · rw [upd_ne z] at e ⊢
      exact E1.bh b o e
  · obtain ⟨o1, o2, o3, o4⟩ := E1.tail.ow p hp
    have z : p.1 ≠ a := fun z => E1.notIn (z ▸ List.mem_map.mpr ⟨p, hp, rfl⟩)
    exact ⟨by rw [upd_ne z]; exact o1, o2, by rw [upd_ne z]; exact o3, o4.mono x1⟩
theorem lockD_out {B B2 H2 : Hp} {a : Addr} {od : Obj} {ps : List (Key × V)} {kvs : List (Key × C)} {y : List HC} (hb : B a = none) (kv : KvOk K B ps kvs) (x2 : Ex (upd B a (.frz od (.dK ps))) B2) (E2 : En K B2 H2 y) : H2 a = some (.frz od (.dK ps)) ∧ B2 a = some (.frz od (.dK ps)) ∧ Ex B (delB B2 a) ∧ En K (delB B2 a) (upd H2 a (.dK ps)) ((a, .dic kvs) :: y) := by
  have b2 := x2 a _ upd_same
  have xd : Ex B (delB B2 a) := fun b o e => by
    have z : b ≠ a := fun z => by rw [z, hb] at e; cases e
    rw [del_ne z]
    exact x2 b o (Evl.Ex.new hb b o e)
  refine ⟨E2.bh a _ b2, b2, xd, ⟨fun b o e => ?_, fun p hp => ?_, ?_⟩⟩
  · by_cases z : b = a
    · subst z
      exact absurd (show delB B2 b b = none from if_pos rfl) (by rw [e]; exact fun z => nomatch z)
    · rw [del_ne z] at e
      rw [upd_ne z]
      exact E2.bh b o e
  · rcases List.mem_cons.mp hp with rfl | hp
    · exact ⟨if_pos rfl, _, upd_same, ps, rfl, kv.mono xd⟩
    · obtain ⟨o1, o2, o3, o4⟩ := E2.ow p hp
      have z : p.1 ≠ a := fun z => by rw [z, b2] at o1; cases o1
      exact ⟨by rw [del_ne z]; exact o1, o2, by rw [upd_ne z]; exact o3, o4.delK b2⟩
  · refine List.nodup_cons.mpr ⟨fun hm => ?_, E2.nd⟩
    obtain ⟨p, hp, e⟩ := List.mem_map.mp hm
    obtain ⟨o1, _⟩ := E2.ow p hp
    rw [e, b2] at o1
    cases o1
theorem kv_key {B : Hp} : ∀ (ps : List (Key × V)) (kvs : List (Key × C)) (i : Nat) {q : Key} {v : V} {p : Key × C}, KvOk K B ps kvs → ps[i]? = some (q, v) → kvs[i]? = some p → q = p.1 := by
  intro ps
  induction ps with
  | nil => intro kvs i q v p _ h1 _; simp at h1
  | cons u ps ih =>
    intro kvs i q v p h h1 h2
    cases kvs with
    | nil => exact h.elim
    | cons r kvs =>
      have e1 := h.1
      have e3 := h.2.2
      cases i with
      | zero =>
        rw [List.getElem?_cons_zero] at h1 h2
        cases h1
        cases h2
        exact e1
      | succ i =>
        rw [List.getElem?_cons_succ] at h1 h2
        exact ih kvs i e3 h1 h2
theorem src_keys {B1 : Hp} {d : Addr} {o : Obj} {ps : List (Key × V)} {kvs : List (Key × C)} (hd : B1 d = some (.frz o (.dK ps))) (kv : KvOk K B1 ps kvs) : Src K (Itk d o ps) (kvs.map fun p => C.d (keyD p.1)) B1 := by
  intro B H e1 e2
  have hH := e2 d _ (e1 d _ hd)
  have hl : ps.length = kvs.length := kv.len
  refine ⟨fun i hi => ⟨hH, by rw [List.length_map] at hi; omega⟩, ⟨hH, by rw [List.length_map]; omega⟩, ?_⟩
  rintro i x H' hi ⟨rfl, q, v, hkv, rfl⟩
  rw [List.length_map] at hi
  have e3 := kv_key _ _ _ kv hkv (List.getElem?_eq_getElem hi)
  refine ⟨B, .d (keyD kvs[i].1), ex_refl, by rw [List.getElem?_map, List.getElem?_eq_getElem hi]; rfl, ⟨_, rfl, ?_⟩, fun y E => E⟩
  rw [← e3]
  exact dp_keyD
theorem we_lcKeys {vs js : List Nat} {a : Addr} {i : Nat} {kvs : List (Key × C)} (hg : Tg g js) (hj : ∀ j ∈ js, j ∈ vs) (hi : hs[i]? = some (a, .dic kvs)) (ht : WE K td cs (hs.eraseIdx i) fun c h2 => c = .r a ∧ h2 = hs.eraseIdx i) (hz : kvs.length ≤ 99999)
    (I : Nat → List PyData → List HC → Prop) (h0 : I 0 [] (hs.eraseIdx i))
    (hstep : ∀ j p acc hs', kvs[j]? = some p → I j acc hs' → WG K g (wipeC cs vs) (.d (keyD p.1)) fun cs2 => WT K tt cs2 hs' fun b h3 => BB b (WE K te cs2 h3 fun c h4 => IsD c fun y => I (j + 1) (acc ++ [y]) h4) (I (j + 1) acc h3))
    (hend : ∀ acc hs', acc.length ≤ kvs.length → I kvs.length acc hs' → ∀ p, k (.r p) ((p, .lst acc) :: (a, .dic kvs) :: hs')) : WE K (tLockE (tLc (iKeys td) g tt te vs)) cs hs k := by
  intro B H σ fh s E Q q
  obtain ⟨hb, ps, hu, kv, lk⟩ := lockD_in E hi
  refine ⟨a, _, hu, trivial, fun od => ?_⟩
  have x1 : Ex B (upd B a (.frz od (.dK ps))) := Evl.Ex.new hb
  refine ht _ _ σ fh (s.mono x1) (lk od) _ fun v c h2 B2 H2 x2 s2 E2 ⟨e, e'⟩ => ?_
  subst e e'
  have ev : some v = some (V.ref a) := s2
  cases ev
  have hB2 := x2 a _ upd_same
  refine ⟨a, od, rfl, .inl ⟨ps, E2.bh a _ hB2, ?_⟩⟩
  show tLc (fun _ H R => R (Itk a od ps) H) g tt te vs σ H2 (fun v H' => H' a = some (.frz od (.dK ps)) ∧ Q v (upd H' a (.dK ps)))
  refine lc_run hg hj ((s.mono x1).mono x2) E2 (src_keys (K := K) hB2 (kv.mono (ex_trans x1 x2))) (by rw [List.length_map]; exact hz) I h0 (fun j c acc hs' hc hI => ?_) fun acc hs' B' H' p x' E' ha hI => ?_
  · rw [List.getElem?_map] at hc
    obtain ⟨p, hp, rfl⟩ := Option.map_eq_some_iff.mp hc
    exact hstep j p acc hs' hp hI
  · rw [List.length_map] at ha hI
    obtain ⟨f1, f2, f3, f4⟩ := lockD_out hb kv (ex_trans x2 x') E'
    refine ⟨f1, q (.ref p) (.r p) _ (delB B' a) _ f3 rfl ?_ (hend acc hs' ha hI p)⟩
    exact f4.perm (List.Perm.swap ..)
end
end Cw
/-! Part 22: a list extended by a tuple. -/
namespace Cw
open PySem PySem.Spec PyProof.Rows L2 Gu
theorem extend_tup (l : Addr) (items : Array Value) (n : Nat) (b : Addr) (o : Obj) (items2 : Array Value) (n2 : Nat) (ho : o.cls = .type "tuple") (hd : o.data = .seq items2 n2) (hs0 : ¬(!items.isEmpty && Builtin.List.listTooLong (items.size + items2.size)) = true) (hs1 : items.size ≤ sizeLine) (hs2 : items.size + items2.size ≤ sizeLine + 1) :
    Meets (Builtin.«list.extend» ⟨[.ref l, .ref b], []⟩) (fun _ R s => s.heap.get? l = some { cls := .type "list", dict := none, data := .seq items n, slots := #[] } ∧ s.heap.get? b = some o ∧ R (.ok (.ret Value.none)) { s with heap := s.heap.update l (Obj.mapSeq fun x => x ++ items2), toks := s.toks }) :=
  .of_wp fun prog w A R s h => by
    obtain ⟨oc, od, odt, osl⟩ := o
    simp only at ho hd
    subst ho hd
    obtain ⟨hp, g, d, tk, os⟩ := s; obtain ⟨hl, hb, h⟩ := h; have f1 := PySem.AutoSeq1.idx_int; have f2 := PySem.AutoSeq1.sub_tuple_tuple; have f3 := PySem.AutoSeq1.sub_list_list; have f4 := PySem.AutoSeq1.sub_tuple_list; have f5 := PySem.AutoSeq1.sub_list_tuple;
    have hz' : (items ++ items2).size ≤ sizeLine + 1 := by rw [Array.size_append]; exact hs2
    wp_walk using (wpAny_updateSeq hl rfl (hz := hs1) (_hz' := hz')), PySem.AutoSeq1.wpAny_loadPart' hl, PySem.AutoSeq1.wpAny_loadPart' hb; exact ⟨_, rfl, h⟩
def rExtendT (K : PySem.W.Frag) : V → List V → Hp → VK → Prop := fun x vs H Q => ∃ l b xs zs, x = .ref l ∧ vs = [.ref b] ∧ H l = some (.lst xs) ∧ SqT K H b zs ∧ xs.length + zs.length ≤ sizeLine ∧ Q .non (upd H l (.lst (xs ++ zs)))
theorem mt_extendT {X : Cx} {K : PySem.W.Frag} (hK : X.K = K := by rfl) : MtM X "list.extend" (rExtendT K) := by
  intro pins s σ H x vs v us Q I rx rv h
  obtain ⟨l, b, xs, zs, rfl, rfl, hH, hB, hz, q⟩ := h
  cases rx
  obtain ⟨u, rfl, ru⟩ := rv.one
  cases ru
  obtain ⟨z, its, n, r, hl, e⟩ := I.lstM hH
  subst hK
  obtain ⟨its2, r2, ⟨o, e2, hc2, n2, hd2⟩, _⟩ := I.tuple hB
  have hl2 := r2.length
  have hsz : its.toArray.size + its2.toArray.size ≤ sizeLine := by rw [List.size_toArray, List.size_toArray]; omega
  have hlong : ¬ (!its.toArray.isEmpty && Builtin.List.listTooLong (its.toArray.size + its2.toArray.size)) = true := by
    rw [notLongL hsz, Bool.and_false]
    exact Bool.false_ne_true
  refine call_meets F.slot_list_extend ⟨_, e, rfl⟩ F.entry_list_extend (F.args_list_extend_2 _ _)
    (extend_tup l its.toArray n b o its2.toArray n2 hc2 hd2 hlong (by rw [List.size_toArray]; omega) (by omega)) ⟨e, e2, ?_⟩
  refine ⟨.non, _, I.lset (its' := its ++ its2) hH e (by simp) (r.append r2) ?_, rfl, q⟩
  rw [List.length_append]
  omega
section
variable {K : PySem.W.Frag} {cs : List C} {hs : List HC} {k : KC} {ta te : TE}
theorem we_extendT (h : WE K ta cs hs fun co h1 => ∃ a, co = .r a ∧ At h1 a fun _ mo => IsL mo fun _ => WE K te cs h1 fun c h2 => ∃ es, c = .d (.tuple es) ∧ At h2 a fun i mo => IsL mo fun ds => ds.length + es.length ≤ 100000 ∧ k (.d .none) (h2.set i (a, .lst (ds ++ es)))) :
    WE K (tBM K "list" (rExtendT K) ta (tCons te tNil)) cs hs k := by
  intro B H σ fh s E Q q
  refine h B H σ fh s E _ fun vo co h1 B1 H1 x1 s1 E1 ⟨a, e, i0, mo0, hi0, ds0, e0, h2⟩ => ?_
  subst e
  subst e0
  have ev : some vo = some (V.ref a) := s1
  cases ev
  obtain ⟨_, o0, ho0, xs0, e00, _⟩ := E1.own hi0
  subst e00
  refine ⟨.inl ⟨rfl, xs0, .inl (.inl ho0)⟩, h2 B1 H1 σ fh (s.mono x1) E1 _ fun v c h2 B2 H2 x2 s2 E2 ⟨es, e, i, mo, hi, ds, e2, hz, hk⟩ => ?_⟩
  subst e
  subst e2
  obtain ⟨_, o, ho, xs, e4, hd⟩ := E2.own hi
  subst e4
  have hdp := s2.dp
  cases hdp with
  | @tup b zs _ hsq ha =>
    refine ⟨a, b, xs, zs, rfl, rfl, ho, Evl.ex_t E2.bh hsq, Evl.sz_of (by rw [hd.len, ha.len]; exact hz), q .non (.d .none) _ B2 _ (ex_trans x1 x2) ⟨_, rfl, .non⟩ (E2.upd hi (mok_l (dpAll_app hd ha))) hk⟩
end
end Cw
/-! Part 23: comprehensions over the keys of a dict that is read meanwhile; `e or ()`. -/
namespace Cw
open PySem PySem.Spec PyProof.Rows L2 Gu
def WTB (B1 : Hp) (K : PySem.W.Frag) (tt : TT) (cs : List C) (hs : List HC) (k : Bool → List HC → Prop) : Prop := ∀ (B H : Hp) (σ : L2.St) (fh : List HC), Ex B1 B → SlA K B σ cs → En K B H (hs ++ fh) → ∀ Q : Bool → Hp → Prop,
  (∀ b hs2 B2 H2, Ex B B2 → En K B2 H2 (hs2 ++ fh) → k b hs2 → Q b H2) → tt σ H Q
/-- a test, while the dict at a stands locked -/
def WTF (a : Addr) (kvs : List (Key × C)) (K : PySem.W.Frag) (tt : TT) (cs : List C) (hs : List HC) (k : Bool → List HC → Prop) : Prop := ∀ (B1 : Hp) (od : Obj) (ps : List (Key × V)), B1 a = some (.frz od (.dK ps)) → KvOk K B1 ps kvs → WTB B1 K tt cs hs k
section
variable {K : PySem.W.Frag} {B0 : Hp} {cs : List C} {hs fh : List HC} {k : KC} {ta tb te tl td ty tx tv tk : TE} {tr : TA} {D : Ends} {g : TG} {tt : TT} {wi : TI} {tu : TS}
theorem lc_runB {vs js : List Nat} {B1 H1 : Hp} {σ : L2.St} {h1 : List HC} {J : It} {its : List C} (hg : Tg g js) (hj : ∀ j ∈ js, j ∈ vs) (s0 : SlA K B1 σ cs) (E1 : En K B1 H1 (h1 ++ fh)) (hsrc : Src K J its B1) (hz : its.length ≤ 99999) (I : Nat → List PyData → List HC → Prop) (h0 : I 0 [] h1)
    (hstep : ∀ i c acc hs', its[i]? = some c → I i acc hs' → WG K g (wipeC cs vs) c fun cs2 => WTB B1 K tt cs2 hs' fun b h3 => BB b (WE K te cs2 h3 fun c h4 => IsD c fun y => I (i + 1) (acc ++ [y]) h4) (I (i + 1) acc h3)) {Q : VK}
    (hd : ∀ acc hs' B' H' p, Ex B1 B' → En K B' H' ((p, .lst acc) :: (hs' ++ fh)) → acc.length ≤ its.length → I its.length acc hs' → Q (.ref p) H') : tLc (fun _ H R => R J H) g tt te vs σ H1 Q := by
  intro Dl hD
  have s1 := sl_wipe s0 vs
  refine ⟨fun i m H' => m = its.length - i ∧ PvL K σ vs cs B1 Dl fh its.length I i H', ⟨its.length, by simp, B1, h1, [], ex_refl, E1.newM hD ⟨[], rfl, .nil⟩, Nat.le_refl _, Nat.zero_le _, h0⟩, ?_⟩
  rintro i m H' ⟨rfl, B', hs', acc, x', E', ha, hi, hI⟩
  obtain ⟨g1, g2, g3⟩ := hsrc B' H' x' E'.bh
  by_cases hlt : i < its.length
  · refine .inr ⟨g1 i hlt, PvL K σ vs cs B1 Dl fh its.length I (i + 1), fun H2 n2 => ⟨its.length - (i + 1), by omega, rfl, n2⟩, fun v H2 hy => ?_⟩
    obtain ⟨B2, c, x2, hc, sc, E2⟩ := g3 i v H2 hlt hy
    have E3 := E2 _ E'
    have w := hstep i c acc hs' hc hI B2 H2 (wipe σ vs) v E3.bh (s1.mono (ex_trans x' x2)) sc
      (fun σ2 H2 => wipe σ2 vs = wipe σ vs → tt σ2 H2 fun b H3 =>
        if b = true then te σ2 H3 fun y H4 => ∃ acc, H4 Dl = some (.lst acc) ∧ acc.length < sizeLine ∧ PvL K σ vs cs B1 Dl fh its.length I (i + 1) (upd H4 Dl (.lst (acc ++ [y]))) else PvL K σ vs cs B1 Dl fh its.length I (i + 1) H3)
      fun σ2 cs2 s2 hk hw => ?_
    · refine hg.mono _ _ _ _ _ ?_ (hg.keep _ _ _ _ w)
      rintro σ2 H3 ⟨hq, hl2, hi2⟩
      rw [wipe_length] at hl2
      have hw := wipe_same hj hl2 hi2
      exact ⟨hw, hq hw⟩
    · have E4 : En K B2 H2 (hs' ++ ((Dl, .lst acc) :: fh)) := E3.perm List.perm_middle
      refine hk B2 H2 σ2 _ (ex_trans x' x2) s2 E4 _ fun b h3 B3 H3 x3 E5 hk3 => ?_
      cases b with
      | false => exact iteF ⟨B3, h3, acc, ex_trans x' (ex_trans x2 x3), E5.perm List.perm_middle.symm, by omega, by omega, hk3.2 rfl⟩
      | true =>
        refine iteT (hk3.1 rfl B3 H3 σ2 _ (s2.mono x3) E5 _ fun y c h4 B4 H4 x4 s4 E6 ⟨yd, ey, hk4⟩ => ?_)
        subst ey
        have E7 : En K B4 H4 ((Dl, .lst acc) :: (h4 ++ fh)) := E6.perm List.perm_middle.symm
        obtain ⟨_, ob, hob, xs, e5, hd5⟩ := E7.head
        subst e5
        have hdy := s4.dp
        have hl5 := hd5.len
        exact ⟨xs, hob, Evl.sz_lt (by omega), B4, h4, acc ++ [yd], ex_trans x' (ex_trans x2 (ex_trans x3 x4)), E7.chg ⟨_, rfl, dpAll_snoc hdy hd5⟩, by rw [List.length_append, List.length_singleton]; omega, by omega, hk4⟩
  · obtain rfl : i = its.length := by omega
    exact .inl ⟨g2, hd acc hs' B' H' Dl x' E' ha hI⟩
theorem we_lcKeysB {vs js : List Nat} {a : Addr} {i : Nat} {kvs : List (Key × C)} (hg : Tg g js) (hj : ∀ j ∈ js, j ∈ vs) (hi : hs[i]? = some (a, .dic kvs)) (ht : WE K td cs (hs.eraseIdx i) fun c h2 => c = .r a ∧ h2 = hs.eraseIdx i) (hz : kvs.length ≤ 99999)
    (I : Nat → List PyData → List HC → Prop) (h0 : I 0 [] (hs.eraseIdx i))
    (hstep : ∀ j p acc hs', kvs[j]? = some p → I j acc hs' → WG K g (wipeC cs vs) (.d (keyD p.1)) fun cs2 => WTF a kvs K tt cs2 hs' fun b h3 => BB b (WE K te cs2 h3 fun c h4 => IsD c fun y => I (j + 1) (acc ++ [y]) h4) (I (j + 1) acc h3))
    (hend : ∀ acc hs', acc.length ≤ kvs.length → I kvs.length acc hs' → ∀ p, k (.r p) ((p, .lst acc) :: (a, .dic kvs) :: hs')) : WE K (tLockE (tLc (iKeys td) g tt te vs)) cs hs k := by
  intro B H σ fh s E Q q
  obtain ⟨hb, ps, hu, kv, lk⟩ := lockD_in E hi
  refine ⟨a, _, hu, trivial, fun od => ?_⟩
  have x1 : Ex B (upd B a (.frz od (.dK ps))) := Evl.Ex.new hb
  refine ht _ _ σ fh (s.mono x1) (lk od) _ fun v c h2 B2 H2 x2 s2 E2 ⟨e, e'⟩ => ?_
  subst e e'
  have ev : some v = some (V.ref a) := s2
  cases ev
  have hB2 := x2 a _ upd_same
  refine ⟨a, od, rfl, .inl ⟨ps, E2.bh a _ hB2, ?_⟩⟩
  show tLc (fun _ H R => R (Itk a od ps) H) g tt te vs σ H2 (fun v H' => H' a = some (.frz od (.dK ps)) ∧ Q v (upd H' a (.dK ps)))
  refine lc_runB hg hj ((s.mono x1).mono x2) E2 (src_keys (K := K) hB2 (kv.mono (ex_trans x1 x2))) (by rw [List.length_map]; exact hz) I h0 (fun j c acc hs' hc hI => ?_) fun acc hs' B' H' p x' E' ha hI => ?_
  · rw [List.getElem?_map] at hc
    obtain ⟨p, hp, rfl⟩ := Option.map_eq_some_iff.mp hc
    exact fun B H σ v e1 e2 e3 Q q => hstep j p acc hs' hp hI B H σ v e1 e2 e3 Q fun σ2 cs2 e4 h => q σ2 cs2 e4 (h _ od ps hB2 (kv.mono (ex_trans x1 x2)))
  · rw [List.length_map] at ha hI
    obtain ⟨f1, f2, f3, f4⟩ := lockD_out hb kv (ex_trans x2 x') E'
    refine ⟨f1, q (.ref p) (.r p) _ (delB B' a) _ f3 rfl ?_ (hend acc hs' ha hI p)⟩
    exact f4.perm (List.Perm.swap ..)
/-- x in d[y], d locked, its values data -/
theorem wtf_in {a : Addr} {kvs : List (Key × C)} {i j d : Nat} {x : PyData} {key : Key} {e : PyData} {ds : List PyData} {kt : Bool → List HC → Prop} (hi : cs[i]? = some (.d x)) (hd : cs[d]? = some (.r a)) (hj : cs[j]? = some (.d (keyD key))) (hv : valC kvs key = some (.d e)) (hq : seqD e = some ds) (s1 : SeqAt.shaped x = true) (s2 : SeqAt.shaped e = true)
    (hk : kt (ds.any fun z => PyData.eqv z x) hs) : WTF a kvs K (tTest (tOp (rInS K) (tVar i) (tDGet (tVar d) (tVar j)))) cs hs kt := by
  intro B1 od ps hB kv B H σ fh x1 s E Q q
  have v1 : WE K (tVar i) cs hs fun c h => c = .d x ∧ h = hs := we_varD hi ⟨rfl, rfl⟩
  have v2 : WE K (tVar d) cs hs fun c h => c = .r a ∧ h = hs := we_varV hd ⟨rfl, rfl⟩
  have v3 : WE K (tVar j) cs hs fun c h => c = .d (keyD key) ∧ h = hs := we_varD hj ⟨rfl, rfl⟩
  show tVar i σ H fun x1 H1 => tDGet (tVar d) (tVar j) σ H1 fun x2 H2 => rInS K x1 x2 H2 fun v H3 => ∃ b, v = .bl b ∧ Q b H3
  refine v1 B H σ fh s E _ fun w1 c1 h1 B2 H2 x2 s2' E2 ⟨e1, e1'⟩ => ?_
  subst e1 e1'
  refine v2 B2 H2 σ fh (s.mono x2) E2 _ fun w2 c2 h2 B3 H3 x3 s3 E3 ⟨e2, e2'⟩ => ?_
  subst e2 e2'
  have ev : some w2 = some (V.ref a) := s3
  cases ev
  refine v3 B3 H3 σ fh ((s.mono x2).mono x3) E3 _ fun w3 c3 h3 B4 H4 x4 s4 E4 ⟨e3, e3'⟩ => ?_
  subst e3 e3'
  have := dp_key s4.dp
  subst this
  have xx := ex_trans x1 (ex_trans x2 (ex_trans x3 x4))
  obtain ⟨u, hu, su⟩ := kv_val (kv.mono xx) hv
  refine ⟨a, u, rfl, .inl ⟨ps, key, .inr ⟨od, E4.bh a _ (xx a _ hB)⟩, rfl, hu.symm⟩, ?_⟩
  have rr : RD K (rInS K) (.d x) (.d e) h3 fun c h => IsB c fun b => kt b h := rd_inS asD asD hq s1 s2 (isB hk)
  refine rr B4 H4 fh w1 u (s2'.mono (ex_trans x3 x4)) su E4 _ fun v c h5 B5 H5 x5 s5 E5 ⟨b, e, hk5⟩ => ?_
  subst e
  cases s5.bl
  exact ⟨b, rfl, q b h5 B5 H5 (ex_trans x2 (ex_trans x3 (ex_trans x4 x5))) E5 hk5⟩
end
end Cw
/-! Part 24: `e or ()` where e is None or a tuple. -/
namespace Cw
open PySem PySem.Spec PyProof.Rows L2 Gu
section
variable {K : PySem.W.Frag} {cs : List C} {hs : List HC} {k : KC} {ta tb : TE} {X : Cx}
theorem pe_orTK {a b : Expr} {rest : List Expr} {pos : Pos} (ha : PE X a ta) (hb : PE X (.BoolOp .Or (b :: rest) pos) tb) (hK : X.K = K := by rfl) : PE X (.BoolOp .Or (a :: b :: rest) pos) (tOrT K ta tb) := hK ▸ pe_orT ha hb
/-- None: the other side; a tuple that is not empty: itself -/
theorem we_orT (h : WE K ta cs hs fun c h1 => (c = .d .none ∧ WE K tb cs h1 k) ∨ ∃ d ds, c = .d (.tuple (d :: ds)) ∧ k c h1) : WE K (tOrT K ta tb) cs hs k := by
  intro B H σ fh s E Q q
  refine h B H σ fh s E _ fun v c h1 B1 H1 x1 s1 E1 hc => ?_
  rcases hc with ⟨rfl, h2⟩ | ⟨d, ds, rfl, hk⟩
  · have hn := s1.dp
    cases hn
    refine ⟨false, rfl, ?_⟩
    exact iteF (h2 B1 H1 σ fh (s.mono x1) E1 _ fun v c h2 B2 H2 x2 s2 E2 hk => q v c h2 B2 H2 (ex_trans x1 x2) s2 E2 hk)
  · have hn := s1.dp
    refine ⟨true, ?_, iteT (q v _ h1 B1 H1 x1 s1 E1 hk)⟩
    cases hn with
    | @tup b zs _ hsq ha =>
      refine .inr (.inl ⟨zs, Evl.ex_t E1.bh hsq, ?_⟩)
      cases ha
      rfl
end
end Cw
/-! Part 25: a dict that a call gave is walked at once; sorted lists of mixed tuples; d.update of numbers and texts. -/
namespace Cw
open PySem PySem.Spec PyProof.Rows L2 Gu
/-- what a call gave is walked: nothing else knows it, it stays as it is -/
def tFrzE (t : TE) : TE := fun σ H Q => t σ H fun x H1 => ∃ d u, x = .ref d ∧ H1 d = some u ∧ Mut (some u) ∧ ∀ od, Q x (upd H1 d (.frz od u))
section
variable {X : Cx}
theorem pe_frzE {e : Expr} {t : TE} (h : PE X e t) : PE X e (tFrzE t) := by
  refine ⟨fun pins s σ H Q I hw => ?_⟩
  refine thn (h.run pins s σ H _ I hw) fun v s1 ⟨x, H1, I1, r, d, u, e, hd, mu, q⟩ => ?_
  obtain ⟨od, I2⟩ := I1.lock hd mu
  exact ⟨x, _, I2, r, q od⟩
end
section
variable {K : PySem.W.Frag} {B0 : Hp} {cs : List C} {hs fh : List HC} {k : KC} {ta tb te tl td ty tx tv tk : TE} {tr : TA} {D : Ends} {g : TG} {tt : TT} {wi : TI} {tu : TS} {ki : List C → List HC → Prop}
theorem wi_itemsF (h : WE K td cs hs fun c h1 => ∃ (a : Addr) (i : Nat) (kvs : List (List Key × PyData)), c = .r a ∧ h1[i]? = some (a, .dit (ditD kvs)) ∧ ki (kvs.map fun p => C.d (itD p)) (h1.eraseIdx i)) : WI K (iItemsT (tFrzE td)) cs hs ki := by
  intro B H σ fh s E R r
  refine h B H σ fh s E _ fun v c h1 B1 H1 x1 s1 E1 ⟨a, i, kvs, e, hi, hk⟩ => ?_
  subst e
  have ev : some v = some (V.ref a) := s1
  cases ev
  obtain ⟨hb, ps, hu, kv, lk⟩ := lock_in E1 hi
  refine ⟨a, _, rfl, hu, trivial, fun od => ?_⟩
  have x2 : Ex B1 (upd B1 a (.frz od (.dT ps))) := Evl.Ex.new hb
  exact ⟨a, od, ps, rfl, upd_same, r _ _ _ _ _ (ex_trans x1 x2) (lk od) (src_itemsT (K := K) upd_same (kv.mono x2)) hk⟩
theorem wi_valuesF (h : WE K td cs hs fun c h1 => ∃ (a : Addr) (i : Nat) (kvs : List (List Key × PyData)), c = .r a ∧ h1[i]? = some (a, .dit (ditD kvs)) ∧ ki (kvs.map fun p => C.d p.2) (h1.eraseIdx i)) : WI K (iValuesT (tFrzE td)) cs hs ki := by
  intro B H σ fh s E R r
  refine h B H σ fh s E _ fun v c h1 B1 H1 x1 s1 E1 ⟨a, i, kvs, e, hi, hk⟩ => ?_
  subst e
  have ev : some v = some (V.ref a) := s1
  cases ev
  obtain ⟨hb, ps, hu, kv, lk⟩ := lock_in E1 hi
  refine ⟨a, _, rfl, hu, trivial, fun od => ?_⟩
  have x2 : Ex B1 (upd B1 a (.frz od (.dT ps))) := Evl.Ex.new hb
  exact ⟨a, od, ps, rfl, upd_same, r _ _ _ _ _ (ex_trans x1 x2) (lk od) (src_valuesT (K := K) upd_same (kv.mono x2)) hk⟩
theorem wi_keysF (h : WE K td cs hs fun c h1 => ∃ (a : Addr) (i : Nat) (kvs : List (Key × C)), c = .r a ∧ h1[i]? = some (a, .dic kvs) ∧ ki (kvs.map fun p => C.d (keyD p.1)) (h1.eraseIdx i)) : WI K (iKeys (tFrzE td)) cs hs ki := by
  intro B H σ fh s E R r
  refine h B H σ fh s E _ fun v c h1 B1 H1 x1 s1 E1 ⟨a, i, kvs, e, hi, hk⟩ => ?_
  subst e
  have ev : some v = some (V.ref a) := s1
  cases ev
  obtain ⟨hb, ps, hu, kv, lk⟩ := lockD_in E1 hi
  refine ⟨a, _, rfl, hu, trivial, fun od => ?_⟩
  have x2 : Ex B1 (upd B1 a (.frz od (.dK ps))) := Evl.Ex.new hb
  exact ⟨a, od, rfl, .inl ⟨ps, upd_same, r _ _ _ _ _ (ex_trans x1 x2) (lk od) (src_keys (K := K) upd_same (kv.mono x2)) hk⟩⟩
end
/-! sorted of a list whose items are tuples of numbers and texts -/
section
variable {X : Cx}
def rSortM (K : PySem.W.Frag) : List V → Hp → VK → Prop := fun xs H Q => ∃ (a : Addr) (bs : List (V × List Key)), xs = [.ref a] ∧ SqL K H a (bs.map Prod.fst) ∧ (∀ b ∈ bs, ∃ p, b.1 = V.ref p ∧ SqT K H p (b.2.map kV)) ∧ (∀ x ∈ bs.map (·.2), ∀ y ∈ bs.map (·.2), CmpK x y) ∧ (∀ x ∈ bs.map (·.2), ∃ u r, x = .inr u :: r) ∧
  ∀ (p : Addr) (out : List (V × List Key)), H p = none → out.Perm bs → Q (.ref p) (upd H p (.lst (out.map Prod.fst)))
def valKey : Value → Key
  | .int i _ => .inl i
  | .str x _ => .inr x
  | _ => .inl 0
def heapKey (h : Heap) : Value → List Key
  | .ref a => match h.get? a with
    | some o => match o.data with
      | .seq its _ => its.toList.map valKey
      | _ => []
    | none => []
  | _ => []
theorem valKeys : ∀ {ks : List Key} {its : List Value}, Vals (ks.map kV) its → its.map valKey = ks
  | [], [], _ => rfl
  | .inl i :: ks, _, .cons ⟨t, e⟩ r => by
    subst e
    rw [List.map_cons, valKeys r]
    rfl
  | .inr i :: ks, _, .cons ⟨t, e⟩ r => by
    subst e
    rw [List.map_cons, valKeys r]
    rfl
theorem TupK.heapKey {h : Heap} {v : Value} {ks : List Key} (t : TupK h v ks) : heapKey h v = ks := by
  obtain ⟨a, o, its, n, rfl, ho, _, hd, r⟩ := t
  show (match h.get? a with
    | some o => match o.data with
      | .seq its _ => its.toList.map valKey
      | _ => []
    | none => []) = ks
  rw [ho]
  dsimp only
  rw [hd]
  exact valKeys r
theorem vals_perm {α : Type} {f : α → V} {out its : List Value} (p : out.Perm its) : ∀ {bs : List α}, Vals (bs.map f) its → ∃ bs' : List α, bs'.Perm bs ∧ Vals (bs'.map f) out := by
  induction p with
  | nil => exact fun {bs} h => ⟨bs, List.Perm.refl _, h⟩
  | cons x _ ih =>
    intro bs h
    match bs, h with
    | b :: bs, .cons h1 h2 =>
      obtain ⟨bs', p', h'⟩ := ih h2
      exact ⟨b :: bs', p'.cons b, .cons h1 h'⟩
  | swap x y l =>
    intro bs h
    match bs, h with
    | b :: c :: bs, .cons h1 (.cons h2 h3) => exact ⟨c :: b :: bs, .swap b c bs, .cons h2 (.cons h1 h3)⟩
  | trans _ _ ih1 ih2 =>
    intro bs h
    obtain ⟨b2, p2, h2⟩ := ih2 h
    obtain ⟨b1, p1, h1⟩ := ih1 h2
    exact ⟨b1, p1.trans p2, h1⟩
theorem vals_mem {α : Type} {f : α → V} : ∀ {bs : List α} {us : List Value}, Vals (bs.map f) us → ∀ v ∈ us, ∃ b ∈ bs, RelV (f b) v
  | [], _, .nil, v, hv => by cases hv
  | b :: bs, _, .cons h1 h2, v, hv => by
    rcases List.mem_cons.mp hv with rfl | hv
    · exact ⟨b, List.mem_cons_self .., h1⟩
    · obtain ⟨c, hc, r⟩ := vals_mem h2 v hv
      exact ⟨c, List.mem_cons_of_mem _ hc, r⟩
theorem call_sortM {X : Cx} : CallR X (.builtin "sorted") (rSortM X.K) := by
  intro pins s σ H xs us Q I r h
  obtain ⟨a, bs, rfl, hs, ht, hc, hf, q⟩ := h
  rw [Vals.ref1 r]
  obtain ⟨its, rv, hl, hz⟩ := I.list hs
  have hlen := rv.length
  have tup : ∀ v ∈ its, ∃ b ∈ bs, TupK s.heap v b.2 := fun v hv => by
    obtain ⟨b, hb, rb⟩ := vals_mem rv v hv
    obtain ⟨p, ep, hp⟩ := ht b hb
    rw [ep] at rb
    cases rb
    obtain ⟨its2, r2, ⟨o, e2, hc2, n2, hd2⟩, _⟩ := I.tuple hp
    exact ⟨b, hb, p, o, its2, n2, rfl, e2, hc2, hd2, r2⟩
  have key : ∀ v ∈ its, ∃ b ∈ bs, TupK s.heap v b.2 ∧ heapKey s.heap v = b.2 := fun v hv => by
    obtain ⟨b, hb, t⟩ := tup v hv
    exact ⟨b, hb, t, t.heapKey⟩
  refine SrtO.sorted_ord (swoK (heapKey s.heap)) hl.isList (by omega) (fun h2 h1 a1 e1 keep => ?_) fun out hsrt hstb => ?_
  · refine tupK_sortable (by omega) (fun v hv => ?_) (fun v hv u hu => ?_) fun o e => ?_
    · obtain ⟨b, hb, t, e⟩ := key v hv
      rw [e]
      exact ⟨t.keeps fun c o ho _ => (keep c o ho).2, hf _ (List.mem_map.mpr ⟨b, hb, rfl⟩)⟩
    · obtain ⟨b, hb, _, e⟩ := key v hv
      obtain ⟨c, hc', _, e'⟩ := key u hu
      rw [e, e']
      exact hc _ (List.mem_map.mpr ⟨b, hb, rfl⟩) _ (List.mem_map.mpr ⟨c, hc', rfl⟩)
    · cases (e.symm.trans e1)
      exact fun c => absurd (Value.type.inj c) (by decide)
  · obtain ⟨n, hn⟩ := PyProof.Rows.sortedAll_at s.heap its out.toArray
    obtain ⟨bs', p', r'⟩ := vals_perm hstb.perm rv
    exact ⟨.ref _, upd H (s.heap.objs.size + 1) (.lst _), I.laid (t' := s.toks) (fun _ _ => PyProof.Rows.sortedAll_old) (Nat.le_succ _) ⟨by rw [List.length_map, p'.length_eq, ← List.length_map (f := Prod.fst)]; exact hz, out, n, r', hn⟩, rfl, q _ _ (I.hok.fresh (Nat.le_succ _)) p'⟩
theorem cr_sortM {X : Cx} {K : PySem.W.Frag} (hK : X.K = K := by rfl) : CallR X (.builtin "sorted") (rSortM K) := hK ▸ call_sortM
end
section
variable {K : PySem.W.Frag} {B H : Hp} {cs : List C} {hs fh : List HC} {k : KC}
abbrev keysD (ks : List Key) : PyData := .tuple (ks.map keyD)
theorem dp_keysD {v : V} {ks : List Key} (h : Dp K B v (keysD ks)) : ∃ p, v = .ref p ∧ SqT K B p (ks.map kV) := by
  obtain ⟨a, us, rfl, hs, ha⟩ := dp_tup h
  have : us = ks.map kV := by
    clear h hs
    induction ks generalizing us with
    | nil => cases ha; rfl
    | cons x ks ih =>
      cases ha with
      | cons h1 h2 =>
        rw [List.map_cons, ← ih _ h2, dp_key h1]
  rw [this] at hs
  exact ⟨a, rfl, hs⟩
theorem ra_sortM {c : C} {kss : List (List Key)} (ha : As hs c (.list (kss.map keysD))) (hc : ∀ x ∈ kss, ∀ y ∈ kss, CmpK x y) (hf : ∀ x ∈ kss, ∃ u r, x = .inr u :: r) (hk : ∀ kss' : List (List Key), kss'.Perm kss → k (.d (.list (kss'.map keysD))) hs) : RA K (rSortM K) [c] hs k := by
  intro B H fh vs sv E Q q
  match vs, sv with
  | [v], ⟨s1, _⟩ =>
    obtain ⟨a, xs, rfl, hq, hd⟩ := ha.rl s1 E
    have hl := hd.len
    rw [List.length_map] at hl
    have e1 : (xs.zip kss).map Prod.fst = xs := List.map_fst_zip (by omega)
    have e2 : (xs.zip kss).map (·.2) = kss := List.map_snd_zip (by omega)
    have hz : ∀ b ∈ xs.zip kss, Dp K B b.1 (keysD b.2) := fun b hb => by
      have := dp_zip hd (b.1, keysD b.2) (by
        rw [List.zip_map_right]
        exact List.mem_map.mpr ⟨b, hb, rfl⟩)
      exact this
    refine ⟨a, xs.zip kss, rfl, by rw [e1]; exact hq, fun b hb => ?_, by rw [e2]; exact hc, by rw [e2]; exact hf, fun p out hp pm => ?_⟩
    · obtain ⟨p, ep, hp⟩ := dp_keysD (hz b hb)
      exact ⟨p, ep, Evl.ex_t E.bh hp⟩
    · have x1 := Evl.Ex.new (o := .lst (out.map Prod.fst)) (free_of E.bh hp)
      have hdo : DpAll K B (out.map Prod.fst) ((out.map (·.2)).map keysD) := by
        have h3 : ∀ b ∈ out, Dp K B b.1 (keysD b.2) := fun b hb => hz b (pm.mem_iff.mp hb)
        clear pm q hp x1
        induction out with
        | nil => exact .nil
        | cons b out ih => exact .cons (h3 b (List.mem_cons_self ..)) (ih fun c hc => h3 c (List.mem_cons_of_mem _ hc))
      exact q (.ref p) (.d (.list ((out.map (·.2)).map keysD))) hs _ _ x1 ⟨_, rfl, .lst (.inl (.inl upd_same)) (dpAll_mono x1 _ _ hdo)⟩ (E.newF hp) (hk _ (by rw [← e2]; exact pm.map _))
end
/-! d.update(e), keys numbers and texts -/
def rUpdK : V → List V → Hp → VK → Prop := fun x vs H Q => ∃ (a b : Addr) (kvs more : List (Key × V)), x = .ref a ∧ vs = [.ref b] ∧ a ≠ b ∧ H a = some (.dK kvs) ∧ H b = some (.dK more) ∧ kvs.length + more.length ≤ sizeLine ∧ Q .non (upd H a (.dK (mergeK kvs more)))
theorem mergeK_len : ∀ {more kvs : List (Key × V)}, (mergeK kvs more).length ≤ kvs.length + more.length
  | [], _ => Nat.le_refl _
  | p :: more, kvs => by
    have h1 := mergeK_len (more := more) (kvs := putK kvs p.1 p.2)
    have h2 := length_putK kvs p.1 p.2
    show (mergeK (putK kvs p.1 p.2) more).length ≤ kvs.length + (more.length + 1)
    omega
theorem mt_updK {X : Cx} : MtR X "dict.update" rUpdK := by
  intro pn z τ G x vs v us Q J rx rv h
  obtain ⟨a, b, kvs, more, rfl, rfl, ne, ha, hb, hz, q⟩ := h
  cases rx
  obtain ⟨u, rfl, ru⟩ := rv.one
  cases ru
  obtain ⟨z1, d1, xs, k1, m1⟩ := dk_of J.hok ha
  obtain ⟨z2, d2, ys, k2, m2⟩ := dk_of J.hok hb
  have l1 := k1.length
  have l2 := k2.length
  refine call_meetsIn PySem.F.slot_dict_update m1.typeIs PySem.F.entry_dict_update (PySem.F.args_dict_update_2 _ _) (meets_dict_update (mixKind X.prog X.w) a b ne d2) ⟨xs, ys, m1, m2, by omega, fun h' hmm _ sm => ?_⟩
  obtain ⟨o', ho', hd'⟩ := Heap.dictOf_iff.mp hmm
  exact ⟨.non, _, d_write (t' := z.toks) (ob := .dK (mergeK kvs more)) J (by rw [ha]; exact True.intro) sm ⟨o', ho'⟩ (dk_new (Nat.le_trans mergeK_len hz) d1 (KV.merge k2 k1) hmm), rfl, q⟩
section
variable {K : PySem.W.Frag} {cs : List C} {hs : List HC} {k : KC} {ta te : TE}
theorem we_updK (h : WE K ta cs hs fun co h1 => ∃ a, co = .r a ∧ At h1 a fun _ mo => IsDi mo fun _ => WE K te cs h1 fun c h2 => ∃ b, c = .r b ∧ At h2 b fun j mo2 => IsDi mo2 fun es => At h2 a fun i mo => IsDi mo fun ds => i ≠ j ∧ ds.length + es.length ≤ 100000 ∧ k (.d .none) (h2.set i (a, .dic (mergeC ds es)))) :
    WE K (tBM K "dict" rUpdK ta (tCons te tNil)) cs hs k := by
  intro B H σ fh s E Q q
  refine h B H σ fh s E _ fun vo co h1 B1 H1 x1 s1 E1 ⟨a, e, i0, mo0, hi0, ds0, e0, h2⟩ => ?_
  subst e
  subst e0
  have ev : some vo = some (V.ref a) := s1
  cases ev
  obtain ⟨_, o0, ho0, xs0, e00, _⟩ := E1.own hi0
  subst e00
  refine ⟨.inr (.inr (.inl ⟨rfl, .inl ⟨xs0, ho0⟩⟩)), h2 B1 H1 σ fh (s.mono x1) E1 _ fun v c h2 B2 H2 x2 s2 E2 ⟨b, e, j, mo2, hj, es, e3, i, mo, hi, ds, e2, nij, hz, hk⟩ => ?_⟩
  subst e
  subst e2
  subst e3
  have ev : some v = some (V.ref b) := s2
  cases ev
  obtain ⟨_, o, ho, xs, e4, hd⟩ := E2.own hi
  subst e4
  obtain ⟨_, o', ho', ys, e5, hd'⟩ := E2.own hj
  subst e5
  have ne : a ≠ b := fun z => nij (own_inj E2.nd hi hj z)
  exact ⟨a, b, xs, ys, rfl, rfl, ne, ho, ho', Evl.sz_of (by rw [hd.len, hd'.len]; exact hz), q .non (.d .none) _ B2 _ (ex_trans x1 x2) ⟨_, rfl, .non⟩ (E2.upd hi (mok_d (kv_merge hd' hd))) hk⟩
end
end Cw
/-! Part 26: list comprehensions of two clauses; dict comprehensions over the items of a locked dict. -/
namespace Cw
open PySem PySem.Spec PyProof.Rows L2 Gu
section
variable {K : PySem.W.Frag} {B0 : Hp} {cs : List C} {hs fh : List HC} {k : KC} {ta tb te tl td ty tx tv tk : TE} {tr : TA} {D : Ends} {g g1 : TG} {tt tt1 : TT} {wi wi1 : TI} {tu : TS}
def Pv2 (K : PySem.W.Frag) (B1 : Hp) (Dl : Addr) (fh : List HC) (I : List PyData → List HC → Prop) (H : Hp) : Prop := ∃ B hs acc, Ex B1 B ∧ En K B H ((Dl, .lst acc) :: (hs ++ fh)) ∧ I acc hs
theorem we_lc2 {vs js vs1 js1 : List Nat} (hg : Tg g js) (hj : ∀ j ∈ js, j ∈ vs) (hg1 : Tg g1 js1) (hj1 : ∀ j ∈ js1, j ∈ vs1)
    (h : WI K wi cs hs fun its h1 => ∃ I : Nat → List PyData → List HC → Prop, I 0 [] h1 ∧
      (∀ i c acc hs', its[i]? = some c → I i acc hs' → WG K g (wipeC cs vs) c fun cs2 => WT K tt cs2 hs' fun b h3 => BB b
        (WI K wi1 cs2 h3 fun its1 h4 => ∃ I1 : Nat → List PyData → List HC → Prop, I1 0 acc h4 ∧
          (∀ j c1 acc1 h5, its1[j]? = some c1 → I1 j acc1 h5 → WG K g1 (wipeC cs2 vs1) c1 fun cs3 => WT K tt1 cs3 h5 fun b h6 => BB b (acc1.length ≤ 99999 ∧ WE K te cs3 h6 fun c h7 => IsD c fun y => I1 (j + 1) (acc1 ++ [y]) h7) (I1 (j + 1) acc1 h6)) ∧
          ∀ acc1 h5, I1 its1.length acc1 h5 → I (i + 1) acc1 h5) (I (i + 1) acc h3)) ∧
      ∀ acc hs', I its.length acc hs' → ∀ a, k (.r a) ((a, .lst acc) :: hs')) : WE K (tLc2 wi g tt wi1 g1 tt1 te vs vs1) cs hs k := by
  intro B H σ fh s E Q q
  refine h B H σ fh s E _ fun J its h1 B1 H1 x1 E1 hsrc ⟨I, h0, hstep, hd⟩ Dl hD => ?_
  have s1 := sl_wipe (s.mono x1) vs
  refine ⟨fun i m H' => m = its.length - i ∧ i ≤ its.length ∧ Pv2 K B1 Dl fh (I i) H', ⟨its.length, by simp, Nat.zero_le _, B1, h1, [], ex_refl, E1.newM hD ⟨[], rfl, .nil⟩, h0⟩, ?_⟩
  rintro i m H' ⟨rfl, hi, B', hs', acc, x', E', hI⟩
  obtain ⟨g1', g2, g3⟩ := hsrc B' H' x' E'.bh
  by_cases hlt : i < its.length
  · refine .inr ⟨g1' i hlt, fun H2 => Pv2 K B1 Dl fh (I (i + 1)) H2, fun H2 n2 => ⟨its.length - (i + 1), by omega, rfl, by omega, n2⟩, fun v H2 hy => ?_⟩
    obtain ⟨B2, c, x2, hc, sc, E2⟩ := g3 i v H2 hlt hy
    have E3 := E2 _ E'
    have w := hstep i c acc hs' hc hI B2 H2 (wipe σ vs) v E3.bh (s1.mono (ex_trans x' x2)) sc
      (fun σ2 H2 => wipe σ2 vs = wipe σ vs → tt σ2 H2 fun b H3 =>
        if b = true then wi1 σ2 H3 fun J1 H4 => ∃ W1 : Nat → Nat → Hp → Prop, (∃ m, W1 0 m H4) ∧ ∀ j k H, W1 j k H →
          (J1.stop j H ∧ Pv2 K B1 Dl fh (I (i + 1)) H) ∨ (J1.go j H ∧ ∃ Nx1 : Hp → Prop, (∀ H', Nx1 H' → ∃ k', k' < k ∧ W1 (j + 1) k' H') ∧ ∀ x H', J1.yld j H x H' → g1 x (wipe σ2 vs1) H' fun σ3 H5 => wipe σ3 vs1 = wipe σ2 vs1 ∧ tt1 σ3 H5 fun b H6 =>
            if b = true then te σ3 H6 fun y H7 => ∃ acc, H7 Dl = some (.lst acc) ∧ acc.length < sizeLine ∧ Nx1 (upd H7 Dl (.lst (acc ++ [y]))) else Nx1 H6)
        else Pv2 K B1 Dl fh (I (i + 1)) H3)
      fun σ2 cs2 s2 hk hw => ?_
    · refine hg.mono _ _ _ _ _ ?_ (hg.keep _ _ _ _ w)
      rintro σ2 H3 ⟨hq, hl2, hi2⟩
      rw [wipe_length] at hl2
      have hw := wipe_same hj hl2 hi2
      exact ⟨hw, hq hw⟩
    · have E4 : En K B2 H2 (hs' ++ ((Dl, .lst acc) :: fh)) := E3.perm List.perm_middle
      refine hk B2 H2 σ2 _ s2 E4 _ fun b h3 B3 H3 x3 E5 hk3 => ?_
      cases b with
      | false => exact iteF ⟨B3, h3, acc, ex_trans x' (ex_trans x2 x3), E5.perm List.perm_middle.symm, hk3.2 rfl⟩
      | true =>
        refine iteT (hk3.1 rfl B3 H3 σ2 _ (s2.mono x3) E5 _ fun J1 its1 h4 B4 H4 x4 E6 hsrc1 ⟨I1, i0, istep, iend⟩ => ?_)
        have s3 := sl_wipe ((s2.mono x3).mono x4) vs1
        refine ⟨fun j m H' => m = its1.length - j ∧ j ≤ its1.length ∧ Pv2 K B4 Dl fh (I1 j) H', ⟨its1.length, by simp, Nat.zero_le _, B4, h4, acc, ex_refl, E6.perm List.perm_middle.symm, i0⟩, ?_⟩
        rintro j m H' ⟨rfl, hjl, B5, h5, acc1, x5, E7, hI1⟩
        obtain ⟨f1, f2, f3⟩ := hsrc1 B5 H' x5 E7.bh
        by_cases hlt1 : j < its1.length
        · refine .inr ⟨f1 j hlt1, fun H2 => Pv2 K B4 Dl fh (I1 (j + 1)) H2, fun H2 n2 => ⟨its1.length - (j + 1), by omega, rfl, by omega, n2⟩, fun v1 H6 hy1 => ?_⟩
          obtain ⟨B6, c1, x6, hc1, sc1, E8⟩ := f3 j v1 H6 hlt1 hy1
          have E9 := E8 _ E7
          have w1 := istep j c1 acc1 h5 hc1 hI1 B6 H6 (wipe σ2 vs1) v1 E9.bh (s3.mono (ex_trans x5 x6)) sc1
            (fun σ3 H5 => wipe σ3 vs1 = wipe σ2 vs1 → tt1 σ3 H5 fun b H6 =>
              if b = true then te σ3 H6 fun y H7 => ∃ acc, H7 Dl = some (.lst acc) ∧ acc.length < sizeLine ∧ Pv2 K B4 Dl fh (I1 (j + 1)) (upd H7 Dl (.lst (acc ++ [y]))) else Pv2 K B4 Dl fh (I1 (j + 1)) H6)
            fun σ3 cs3 s4 hk4 hw4 => ?_
          · refine hg1.mono _ _ _ _ _ ?_ (hg1.keep _ _ _ _ w1)
            rintro σ3 H3 ⟨hq, hl2, hi2⟩
            rw [wipe_length] at hl2
            have hw := wipe_same hj1 hl2 hi2
            exact ⟨hw, hq hw⟩
          · have E10 : En K B6 H6 (h5 ++ ((Dl, .lst acc1) :: fh)) := E9.perm List.perm_middle
            refine hk4 B6 H6 σ3 _ s4 E10 _ fun b h6 B7 H7 x7 E11 hk5 => ?_
            cases b with
            | false => exact iteF ⟨B7, h6, acc1, ex_trans x5 (ex_trans x6 x7), E11.perm List.perm_middle.symm, hk5.2 rfl⟩
            | true =>
              obtain ⟨hz, hk6⟩ := hk5.1 rfl
              refine iteT (hk6 B7 H7 σ3 _ (s4.mono x7) E11 _ fun y c h7 B8 H8 x8 s5 E12 ⟨yd, ey, hk7⟩ => ?_)
              subst ey
              have E13 : En K B8 H8 ((Dl, .lst acc1) :: (h7 ++ fh)) := E12.perm List.perm_middle.symm
              obtain ⟨_, ob, hob, xs, e5, hd5⟩ := E13.head
              subst e5
              have hdy := s5.dp
              exact ⟨xs, hob, Evl.sz_lt (by rw [hd5.len]; omega), B8, h7, acc1 ++ [yd], ex_trans x5 (ex_trans x6 (ex_trans x7 x8)), E13.chg ⟨_, rfl, dpAll_snoc hdy hd5⟩, hk7⟩
        · obtain rfl : j = its1.length := by omega
          exact .inl ⟨f2, B5, h5, acc1, ex_trans x' (ex_trans x2 (ex_trans x3 (ex_trans x4 x5))), E7, iend acc1 h5 hI1⟩
  · obtain rfl : i = its.length := by omega
    exact .inl ⟨g2, q (.ref Dl) (.r Dl) ((Dl, .lst acc) :: hs') B' H' (ex_trans x1 x') rfl E' (hd acc hs' hI Dl)⟩
/-! a dict comprehension's turns, wherever the items come from -/
theorem dc_run {vs js : List Nat} {B1 H1 : Hp} {σ : L2.St} {h1 : List HC} {J : It} {its : List C} (hg : Tg g js) (hj : ∀ j ∈ js, j ∈ vs) (s0 : SlA K B1 σ cs) (E1 : En K B1 H1 (h1 ++ fh)) (hsrc : Src K J its B1) (hz : its.length ≤ 99999) (I : Nat → List (Key × C) → List HC → Prop) (h0 : I 0 [] h1)
    (hstep : ∀ i c acc hs', its[i]? = some c → I i acc hs' → WG K g (wipeC cs vs) c fun cs2 => WT K tt cs2 hs' fun b h3 => BB b (WE K tk cs2 h3 fun c h4 => IsK c fun key => WE K tv cs2 h4 fun cv h5 => I (i + 1) (putC acc key cv) h5) (I (i + 1) acc h3)) {Q : VK}
    (hd : ∀ acc hs' B' H' p, Ex B1 B' → En K B' H' ((p, .dic acc) :: (hs' ++ fh)) → acc.length ≤ its.length → I its.length acc hs' → Q (.ref p) H') : tDc (fun _ H R => R J H) g tt tk tv vs σ H1 Q := by
  intro Dl hD
  have s1 := sl_wipe s0 vs
  refine ⟨fun i m H' => m = its.length - i ∧ PvD K B1 Dl fh its.length I i H', ⟨its.length, by simp, B1, h1, [], ex_refl, E1.newM hD (mok_d (show KvOk K B1 [] [] from trivial)), Nat.le_refl _, Nat.zero_le _, h0⟩, ?_⟩
  rintro i m H' ⟨rfl, B', hs', acc, x', E', ha, hi, hI⟩
  obtain ⟨g1, g2, g3⟩ := hsrc B' H' x' E'.bh
  by_cases hlt : i < its.length
  · refine .inr ⟨g1 i hlt, PvD K B1 Dl fh its.length I (i + 1), fun H2 n2 => ⟨its.length - (i + 1), by omega, rfl, n2⟩, fun v H2 hy => ?_⟩
    obtain ⟨B2, c, x2, hc, sc, E2⟩ := g3 i v H2 hlt hy
    have E3 := E2 _ E'
    have w := hstep i c acc hs' hc hI B2 H2 (wipe σ vs) v E3.bh (s1.mono (ex_trans x' x2)) sc
      (fun σ2 H2 => wipe σ2 vs = wipe σ vs → tt σ2 H2 fun b H3 =>
        if b = true then tk σ2 H3 fun y H4 => tv σ2 H4 fun z H5 => ∃ kvs k, y = kV k ∧ H5 Dl = some (.dK kvs) ∧ kvs.length < sizeLine ∧ PvD K B1 Dl fh its.length I (i + 1) (upd H5 Dl (.dK (putK kvs k z))) else PvD K B1 Dl fh its.length I (i + 1) H3)
      fun σ2 cs2 s2 hk hw => ?_
    · refine hg.mono _ _ _ _ _ ?_ (hg.keep _ _ _ _ w)
      rintro σ2 H3 ⟨hq, hl2, hi2⟩
      rw [wipe_length] at hl2
      have hw := wipe_same hj hl2 hi2
      exact ⟨hw, hq hw⟩
    · have E4 : En K B2 H2 (hs' ++ ((Dl, .dic acc) :: fh)) := E3.perm List.perm_middle
      refine hk B2 H2 σ2 _ s2 E4 _ fun b h3 B3 H3 x3 E5 hk3 => ?_
      cases b with
      | false => exact iteF ⟨B3, h3, acc, ex_trans x' (ex_trans x2 x3), E5.perm List.perm_middle.symm, by omega, by omega, hk3.2 rfl⟩
      | true =>
        refine iteT (hk3.1 rfl B3 H3 σ2 _ (s2.mono x3) E5 _ fun y c h4 B4 H4 x4 s4 E6 ⟨yd, key, ey, ek, hk4⟩ => ?_)
        subst ey
        have := s4.key ek
        subst this
        refine hk4 B4 H4 σ2 _ ((s2.mono x3).mono x4) E6 _ fun z cz h5 B5 H5 x5 s5 E7 hk5 => ?_
        have E8 : En K B5 H5 ((Dl, .dic acc) :: (h5 ++ fh)) := E7.perm List.perm_middle.symm
        obtain ⟨_, ob, hob, ps, e5, hd5⟩ := E8.head
        subst e5
        have hl5 := hd5.len
        have hpl := putC_len acc key cz
        exact ⟨ps, key, rfl, hob, Evl.sz_lt (by omega), B5, h5, putC acc key cz, ex_trans x' (ex_trans x2 (ex_trans x3 (ex_trans x4 x5))), E8.chg (mok_d (kv_put s5 hd5)), by omega, by omega, hk5⟩
  · obtain rfl : i = its.length := by omega
    exact .inl ⟨g2, hd acc hs' B' H' Dl x' E' ha hI⟩
theorem we_dcItems {vs js : List Nat} {a : Addr} {i : Nat} {kvs : List (List Key × PyData)} (hg : Tg g js) (hj : ∀ j ∈ js, j ∈ vs) (hi : hs[i]? = some (a, .dit (ditD kvs))) (ht : WE K td cs (hs.eraseIdx i) fun c h2 => c = .r a ∧ h2 = hs.eraseIdx i) (hz : kvs.length ≤ 99999)
    (I : Nat → List (Key × C) → List HC → Prop) (h0 : I 0 [] (hs.eraseIdx i))
    (hstep : ∀ j p acc hs', kvs[j]? = some p → I j acc hs' → WG K g (wipeC cs vs) (.d (itD p)) fun cs2 => WT K tt cs2 hs' fun b h3 => BB b (WE K tk cs2 h3 fun c h4 => IsK c fun key => WE K tv cs2 h4 fun cv h5 => I (j + 1) (putC acc key cv) h5) (I (j + 1) acc h3))
    (hend : ∀ acc hs', acc.length ≤ kvs.length → I kvs.length acc hs' → ∀ p, k (.r p) ((p, .dic acc) :: (a, .dit (ditD kvs)) :: hs')) : WE K (tLockE (tDc (iItemsT td) g tt tk tv vs)) cs hs k := by
  intro B H σ fh s E Q q
  obtain ⟨hb, ps, hu, kv, lk⟩ := lock_in E hi
  refine ⟨a, _, hu, trivial, fun od => ?_⟩
  have x1 : Ex B (upd B a (.frz od (.dT ps))) := Evl.Ex.new hb
  refine ht _ _ σ fh (s.mono x1) (lk od) _ fun v c h2 B2 H2 x2 s2 E2 ⟨e, e'⟩ => ?_
  subst e e'
  have ev : some v = some (V.ref a) := s2
  cases ev
  have hB2 := x2 a _ upd_same
  refine ⟨a, od, ps, rfl, E2.bh a _ hB2, ?_⟩
  show tDc (fun _ H R => R (ItiT a od ps) H) g tt tk tv vs σ H2 (fun v H' => H' a = some (.frz od (.dT ps)) ∧ Q v (upd H' a (.dT ps)))
  refine dc_run hg hj ((s.mono x1).mono x2) E2 (src_itemsT (K := K) hB2 (kv.mono (ex_trans x1 x2))) (by rw [List.length_map]; exact hz) I h0 (fun j c acc hs' hc hI => ?_) fun acc hs' B' H' p x' E' ha hI => ?_
  · rw [List.getElem?_map] at hc
    obtain ⟨p, hp, rfl⟩ := Option.map_eq_some_iff.mp hc
    exact hstep j p acc hs' hp hI
  · rw [List.length_map] at ha hI
    obtain ⟨f1, f2, f3, f4⟩ := lock_out hb kv (ex_trans x2 x') E'
    refine ⟨f1, q (.ref p) (.r p) _ (delB B' a) _ f3 rfl ?_ (hend acc hs' ha hI p)⟩
    exact f4.perm (List.Perm.swap ..)
end
end Cw
/-! Part 27: methods that want the repr guard; repr of a bool; is not True. -/
namespace Cw
open PySem PySem.Spec PyProof.Rows L2 Gu
def CalMG (P : Program) (w : World) (K : PySem.W.Frag) (mg : Str → Option Value) (base : Heap) (lvl : Nat) (Cl : Addr) (m : Str) (ps : List Str) (S : List C → List HC → KC → Prop) : Prop :=
  ∃ (a : Addr) (fd : FuncData), FnG P w K mg base CX0 lvl a fd ps (spC K S) ∧ Meth K Cl m a ∧ Binds K fd ps []
section
variable {X : Cx} {K : PySem.W.Frag} {lvl : Nat} {x m : Str} {Cl : Addr} {ps : List Str} {S : List C → List HC → KC → Prop} {p pos apos : Pos} {o e : Expr} {es : List Expr} {t : TA} {ta : TE}
theorem pe_calMG {pl : Sem Bool} (C : CalMG X.prog X.w X.K X.mg X.base lvl Cl m ps S) (c : Cls X.K Cl) (hr : Room lvl X.A) (hgd : X.A.guards = some []) (he : PE X o ta) (ha : PA X (e :: es) t) (hK : X.K = K := by rfl)
    (hst : starEach (e :: es) X.env = (false, eval e X.env) :: starEach es X.env := by rfl) (hpl : (backTo pos (starEach es X.env)).any (·.1) = false := by rfl)
    (ht : eval (.Call (.Attribute o m apos) (e :: es) [] pos) X.env = (do
      let ov ← eval o X.env
      standAt apos.atName
      let (f, first) ← holding [ov] (getMethod ov m pl)
      callWith pos f first (backTo pos (starEach (e :: es) X.env)) (backToKw pos (keywordEach [] X.env))) := by rfl) :
    PE X (.Call (.Attribute o m apos) (e :: es) [] pos) (tMeth Cl m (spC K S) [] E0 ta t) := by
  subst hK
  obtain ⟨f, fd, F, hm, hb⟩ := C
  refine ⟨fun pins s σ H Q I h => ?_⟩
  refine PySem.W.methodCall_KW (pl := pl) (thn (he.run pins s σ H _ I h) fun u s1 ⟨x, H1, I1, rx, a, dx, fs, ex, ea, l, q⟩ => ?_) ht
  subst ex
  obtain rfl : u = Value.ref a := rx
  refine getmeth_ok I1 ea c hm l ?_
  refine PySem.W.callWith_K (first := [.ref a]) (h₀ := X.base) I.ok.mod.kin hm.kp (thn (ha.run pos pins s1 σ H1 _ I1 q) fun us s2 ⟨vs, H2, I2, r, q2⟩ => ⟨I2.kIn, ?_⟩) hst hpl
  exact run_G (us := .ref a :: us) (vs := .ref a :: vs) F hr hgd hb .nil pass0 I2 (.cons rfl r) q2
def rReprB : List V → Hp → VK → Prop := fun xs H Q => ∃ b : Bool, xs = [.bl b] ∧ Q (.str (if b then "True" else "False")) H
theorem cr_reprB : CallR X (.builtin "repr") rReprB := by
  intro pn z τ G xs us Q J r h
  obtain ⟨b, rfl, q⟩ := h
  obtain ⟨u, rfl, ru⟩ := vals1' r
  cases (show u = Value.bool b from ru)
  exact PySem.P.repr_of_bool ⟨.str _, G, J.tok _, ⟨_, rfl⟩, q⟩
end
section
variable {K : PySem.W.Frag} {cs : List C} {hs : List HC} {k : KC}
def boolT (b : Bool) : Str := if b then "True" else "False"
theorem ra_reprB {b : Bool} (hk : k (.d (.str (boolT b))) hs) : RA K rReprB [.d (.bool b)] hs k := by
  intro B H fh vs sv E Q q
  match vs, sv with
  | [v], ⟨s1, _⟩ =>
    cases s1.bl
    refine ⟨b, rfl, ?_⟩
    have e : (if b then "True" else "False" : Str) = boolT b := rfl
    exact q _ (.d (.str (boolT b))) hs B H ex_refl ⟨_, rfl, by cases b <;> exact .str _⟩ E hk
theorem rd_isB {a b : Bool} (hk : k (.d (.bool (decide (a = b)))) hs) : RD K rIsB (.d (.bool a)) (.d (.bool b)) hs k := by
  intro B H fh v1 v2 s1 s2 E Q q
  cases s1.bl
  cases s2.bl
  exact ⟨a, b, rfl, rfl, q _ (.d (.bool _)) hs B H ex_refl ⟨_, rfl, .bl _⟩ E hk⟩
theorem rd_notB {a b : Bool} (hk : k (.d (.bool (!decide (a = b)))) hs) : RD K rNotB (.d (.bool a)) (.d (.bool b)) hs k := by
  intro B H fh v1 v2 s1 s2 E Q q
  cases s1.bl
  cases s2.bl
  exact ⟨a, b, rfl, rfl, q _ (.d (.bool _)) hs B H ex_refl ⟨_, rfl, .bl _⟩ E hk⟩
/-- == of numbers and None -/
theorem rd_eqO {a b : Option Int} (hk : k (.d (.bool (decide (a = b)))) hs) : RD K rEq (.d (match a with | none => .none | some i => .int i)) (.d (match b with | none => .none | some i => .int i)) hs k := by
  match a, b with
  | none, none => exact rd_eq (u1 := .non) (u2 := .non) rfl rfl rfl (by rw [decide_eq_true rfl]; rw [decide_eq_true rfl] at hk; exact hk)
  | none, some j => exact rd_eq (u1 := .non) (u2 := .int j) rfl rfl rfl (by rw [decide_eq_false (fun z => nomatch z)]; rw [decide_eq_false (fun z => nomatch z)] at hk; exact hk)
  | some i, none => exact rd_eq (u1 := .int i) (u2 := .non) rfl rfl rfl (by rw [decide_eq_false (fun z => nomatch z)]; rw [decide_eq_false (fun z => nomatch z)] at hk; exact hk)
  | some i, some j =>
    refine rd_eq (u1 := .int i) (u2 := .int j) rfl rfl rfl ?_
    by_cases e : i = j
    · subst e
      rw [decide_eq_true rfl] at hk ⊢
      exact hk
    · rw [decide_eq_false (fun z => e (Option.some.inj z))] at hk
      rw [decide_eq_false (fun z => e (V.int.inj z))]
      exact hk
end
section
variable {κ : Type} [DecidableEq κ]
theorem valC_put {kvs : List (κ × C)} {k k' : κ} {v : C} : valC (putC kvs k v) k' = if k = k' then some v else valC kvs k' := by
  unfold putC
  by_cases h : (kvs.any fun kv => decide (kv.1 = k)) = true
  · rw [if_pos h]
    induction kvs with
    | nil => cases h
    | cons p r ih =>
      unfold valC at ih ⊢
      rw [List.map_cons, List.find?_cons, List.find?_cons]
      by_cases e : p.1 = k
      · rw [if_pos e]
        by_cases e2 : k = k'
        · rw [if_pos e2]
          simp [e.trans e2]
        · rw [if_neg e2]
          have e3 : ¬ p.1 = k' := fun z => e2 (e.symm.trans z)
          simp only [e3, decide_false]
          by_cases h2 : (r.any fun kv => decide (kv.1 = k)) = true
          · have := ih h2
            rw [if_neg e2] at this
            exact this
          · have hmap : (r.map fun kv => if kv.1 = k then (kv.1, v) else kv) = r := by
              conv => rhs; rw [← List.map_id r]
              refine List.map_congr_left fun q hq => ?_
              rw [if_neg fun z => h2 (List.any_eq_true.mpr ⟨q, hq, decide_eq_true z⟩)]
              rfl
            rw [hmap]
      · rw [if_neg e]
        have h2 : (r.any fun kv => decide (kv.1 = k)) = true := by
          rw [List.any_cons, decide_eq_false e, Bool.false_or] at h
          exact h
        by_cases e3 : p.1 = k'
        · have e4 : ¬ k = k' := fun z => e (e3.trans z.symm)
          rw [if_neg e4]
          simp [e3]
        · simp only [e3, decide_false]
          exact ih h2
  · rw [if_neg h]
    unfold valC
    rw [List.find?_append]
    have hn : ∀ q ∈ kvs, ¬ q.1 = k := fun q hq z => h (List.any_eq_true.mpr ⟨q, hq, decide_eq_true z⟩)
    by_cases e2 : k = k'
    · rw [if_pos e2]
      have : (kvs.find? fun kv => decide (kv.1 = k')) = none := List.find?_eq_none.mpr fun q hq => by simpa using fun z => hn q hq (z.trans e2.symm)
      rw [this]
      simp [e2]
    · rw [if_neg e2]
      have : ([(k, v)].find? fun kv => decide (kv.1 = k')) = none := List.find?_eq_none.mpr fun q hq => by
        rw [List.mem_singleton.mp hq]
        simpa using e2
      rw [this, Option.or_none]
end
end Cw
/-! Part 28: comprehensions and loops over a list of one's own (it is put aside meanwhile: nothing within knows it). -/
namespace Cw
open PySem PySem.Spec PyProof.Rows L2 Gu
section
variable {K : PySem.W.Frag} {B0 : Hp} {cs : List C} {hs fh : List HC} {k : KC} {ta tb te tl td ty tx tv tk : TE} {tr : TA} {D : Ends} {g : TG} {tt : TT} {wi : TI} {tu : TS}
theorem itl_own {B H : Hp} {y : List HC} {a : Addr} {ds : List PyData} (E : En K B H y) (hm : (a, MO.lst ds) ∈ y) : (∀ i, i < ds.length → (Itl K a).go i H) ∧ (Itl K a).stop ds.length H ∧ ∀ i x H', i < ds.length → (Itl K a).yld i H x H' → H' = H ∧ ∃ d, ds[i]? = some d ∧ Dp K B x d := by
  obtain ⟨_, o, ho, xs, e, hd⟩ := E.ow _ hm
  subst e
  have hq : SqL K H a xs := .inl (.inl ho)
  have hl := hd.len
  refine ⟨fun i hi => ⟨xs, xs[i]'(by omega), hq, List.getElem?_eq_getElem (by omega)⟩, ⟨xs, hq, by omega⟩, ?_⟩
  rintro i x H' hi ⟨rfl, hx⟩
  refine ⟨rfl, ds[i], List.getElem?_eq_getElem hi, ?_⟩
  obtain ⟨v, hv, hdv⟩ := dpAll_at (j := i) hd (List.getElem?_eq_getElem hi)
  have := hx xs hq
  rw [hv] at this
  cases this
  exact hdv
theorem we_lcOwn {vs js : List Nat} {a : Addr} {i : Nat} {ds : List PyData} (hg : Tg g js) (hj : ∀ j ∈ js, j ∈ vs) (hi : hs[i]? = some (a, .lst ds)) (ht : WE K tl cs hs fun c h2 => c = .r a ∧ h2 = hs) (hz : ds.length ≤ 99999)
    (I : Nat → List PyData → List HC → Prop) (h0 : I 0 [] (hs.eraseIdx i))
    (hstep : ∀ j d acc hs', ds[j]? = some d → I j acc hs' → WG K g (wipeC cs vs) (.d d) fun cs2 => WT K tt cs2 hs' fun b h3 => BB b (WE K te cs2 h3 fun c h4 => IsD c fun y => I (j + 1) (acc ++ [y]) h4) (I (j + 1) acc h3))
    (hend : ∀ acc hs', acc.length ≤ ds.length → I ds.length acc hs' → ∀ p, k (.r p) ((p, .lst acc) :: (a, .lst ds) :: hs')) : WE K (tLc (iList K tl) g tt te vs) cs hs k := by
  intro B H σ fh s E Q q
  refine ht B H σ fh s E _ fun v c h2 B1 H1 x1 s1' E1 ⟨e, e'⟩ => ?_
  subst e e'
  have ev : some v = some (V.ref a) := s1'
  cases ev
  obtain ⟨_, o, ho, xs, eo, hd⟩ := E1.own hi
  subst eo
  refine ⟨a, rfl, ⟨xs, .inl (.inl ho)⟩, fun Dl hD => ?_⟩
  have s1 := sl_wipe (s.mono x1) vs
  have E2 : En K B1 H1 (h2.eraseIdx i ++ ((a, .lst ds) :: fh)) := (E1.take hi).perm List.perm_middle
  refine ⟨fun i m H' => m = ds.length - i ∧ PvL K σ vs cs B1 Dl ((a, .lst ds) :: fh) ds.length I i H', ⟨ds.length, by simp, B1, _, [], ex_refl, E2.newM hD ⟨[], rfl, .nil⟩, Nat.le_refl _, Nat.zero_le _, h0⟩, ?_⟩
  rintro j m H' ⟨rfl, B', hs', acc, x', E', ha, hjl, hI⟩
  obtain ⟨g1, g2, g3⟩ := itl_own E' (a := a) (ds := ds) (List.mem_cons_of_mem _ (List.mem_append_right _ (List.mem_cons_self ..)))
  by_cases hlt : j < ds.length
  · refine .inr ⟨g1 j hlt, PvL K σ vs cs B1 Dl ((a, .lst ds) :: fh) ds.length I (j + 1), fun H2 n2 => ⟨ds.length - (j + 1), by omega, rfl, n2⟩, fun v H2 hy => ?_⟩
    obtain ⟨rfl, d, hdj, hdv⟩ := g3 j v H2 hlt hy
    have w := hstep j d acc hs' hdj hI B' H2 (wipe σ vs) v E'.bh (s1.mono x') ⟨_, rfl, hdv⟩
      (fun σ2 H2 => wipe σ2 vs = wipe σ vs → tt σ2 H2 fun b H3 =>
        if b = true then te σ2 H3 fun y H4 => ∃ acc, H4 Dl = some (.lst acc) ∧ acc.length < sizeLine ∧ PvL K σ vs cs B1 Dl ((a, .lst ds) :: fh) ds.length I (j + 1) (upd H4 Dl (.lst (acc ++ [y]))) else PvL K σ vs cs B1 Dl ((a, .lst ds) :: fh) ds.length I (j + 1) H3)
      fun σ2 cs2 s2 hk hw => ?_
    · refine hg.mono _ _ _ _ _ ?_ (hg.keep _ _ _ _ w)
      rintro σ2 H3 ⟨hq, hl2, hi2⟩
      rw [wipe_length] at hl2
      have hw := wipe_same hj hl2 hi2
      exact ⟨hw, hq hw⟩
    · have E4 : En K B' H2 (hs' ++ ((Dl, .lst acc) :: (a, .lst ds) :: fh)) := E'.perm List.perm_middle
      refine hk B' H2 σ2 _ s2 E4 _ fun b h3 B3 H3 x3 E5 hk3 => ?_
      cases b with
      | false => exact iteF ⟨B3, h3, acc, ex_trans x' x3, E5.perm List.perm_middle.symm, by omega, by omega, hk3.2 rfl⟩
      | true =>
        refine iteT (hk3.1 rfl B3 H3 σ2 _ (s2.mono x3) E5 _ fun y c h4 B4 H4 x4 s4 E6 ⟨yd, ey, hk4⟩ => ?_)
        subst ey
        have E7 : En K B4 H4 ((Dl, .lst acc) :: (h4 ++ (a, .lst ds) :: fh)) := E6.perm List.perm_middle.symm
        obtain ⟨_, ob, hob, ys, e5, hd5⟩ := E7.head
        subst e5
        have hdy := s4.dp
        have hl5 := hd5.len
        exact ⟨ys, hob, Evl.sz_lt (by omega), B4, h4, acc ++ [yd], ex_trans x' (ex_trans x3 x4), E7.chg ⟨_, rfl, dpAll_snoc hdy hd5⟩, by rw [List.length_append, List.length_singleton]; omega, by omega, hk4⟩
  · obtain rfl : j = ds.length := by omega
    refine .inl ⟨g2, q (.ref Dl) (.r Dl) ((Dl, .lst acc) :: (a, .lst ds) :: hs') B' H' (ex_trans x1 x') rfl ?_ (hend acc hs' ha hI Dl)⟩
    exact E'.perm (List.Perm.cons _ List.perm_middle.symm)
/-- one that changes nothing -/
theorem we_lcOwnP {vs js : List Nat} {a : Addr} {i : Nat} {β : Type} (bs : List β) (enc : β → PyData) (p : β → Bool) (f : β → PyData) (hg : Tg g js) (hj : ∀ j ∈ js, j ∈ vs) (hi : hs[i]? = some (a, .lst (bs.map enc))) (ht : WE K tl cs hs fun c h2 => c = .r a ∧ h2 = hs) (hz : bs.length ≤ 99999)
    (hstep : ∀ b ∈ bs, WG K g (wipeC cs vs) (.d (enc b)) fun cs2 => WT K tt cs2 (hs.eraseIdx i) fun t h3 => BB t (WE K te cs2 h3 fun c h4 => TurnP p f (hs.eraseIdx i) b c h4) (SkipP p (hs.eraseIdx i) b h3))
    (hend : ∀ q, k (.r q) ((q, .lst ((bs.filter p).map f)) :: (a, .lst (bs.map enc)) :: hs.eraseIdx i)) : WE K (tLc (iList K tl) g tt te vs) cs hs k := by
  refine we_lcOwn hg hj hi ht (by rw [List.length_map]; exact hz) (fun i' acc hs' => acc = ((bs.take i').filter p).map f ∧ hs' = hs.eraseIdx i) ⟨by simp, rfl⟩ (fun j d acc hs' hd hI => ?_) fun acc hs' _ hI q => ?_
  · obtain ⟨rfl, rfl⟩ := hI
    rw [List.getElem?_map] at hd
    obtain ⟨b, hb, rfl⟩ := Option.map_eq_some_iff.mp hd
    intro B H σ v bh s sv Q q
    refine hstep b (List.mem_of_getElem? hb) B H σ v bh s sv Q fun σ2 cs2 s2 ht => q σ2 cs2 s2 (ht.imp fun t h3 hb2 => ⟨fun e => (hb2.1 e).imp ?_, fun e => ?_⟩)
    · rintro c h4 ⟨rfl, rfl, hp⟩
      exact ⟨f b, rfl, by rw [take_step hb, if_pos hp], rfl⟩
    · obtain ⟨rfl, hp⟩ := hb2.2 e
      exact ⟨by rw [take_step hb, if_neg (by rw [hp]; decide), List.append_nil], rfl⟩
  · obtain ⟨rfl, rfl⟩ := hI
    rw [List.length_map, List.take_length]
    exact hend q
end
end Cw
/-! sorted(rows, key=lambda x: (-x[0], x[1])). -/
namespace Cw
open PySem PySem.Spec PyProof.Rows L2 Gu
abbrev negE (x : Str) (k0 k1 k2 : Nat) (p1 p2 p3 p4 p5 p6 p7 p8 : Pos) : Expr :=
  .Tuple [.UnaryOp .USub (.Subscript (.Name x p1) (.Constant (.int 0) k1 p2) p3) p4, .Subscript (.Name x p5) (.Constant (.int 1) k2 p6) p7] k0 p8
section
variable {prog : Program} {w : World} {A : Around} {s : Shared}
theorem lam_turn {f c' p : Addr} {x qual : Str} {params : Arguments} {scope : Scope} {pm ctv : Value} {a b : Int} {t t' : Tok} {k0 k1 k2 : Nat} {p1 p2 p3 p4 p5 p6 p7 p8 : Pos} {E : Value → Shared → Prop}
    (hroom : A.depth < recursionLimit) (ho : s.heap.get? f = some (PySem.W.kla_obj "<lambda>" qual params (negE x k0 k1 k2 p1 p2 p3 p4 p5 p6 p7 p8) scope [] pm c' ctv)) (hcd : s.heap.CodeRec (.ref c') qual) (lim : s.heap.NoLimit)
    (hbind : ∀ v, bindArgs (PySem.W.kla_fn "<lambda>" qual params (negE x k0 k1 k2 p1 p2 p3 p4 p5 p6 p7 p8) scope [] pm (.ref c') ctv) ⟨[v], []⟩ = pure [(x, v)])
    (hco : scope.isCoroutine = false) (hgen : scope.isGenerator = false) (hk : scope.kind = .function) (hnm : scope.names = [(x, .local)]) (hd : (x == ("__debug__" : Str)) = false)
    (hp : IsTup s.heap p #[.int a t, .int b t']) :
    wpAny (model prog w) A (call (.ref f) [.ref p]) (fun v s' => ∃ (h' : Heap) (tk : Nat) (q : Addr) (t2 : Tok), s' = { s with heap := h', toks := tk } ∧ (∀ b o, s.heap.get? b = some o → h'.get? b = some o) ∧ v = .ref q ∧ s.heap.objs.size ≤ q ∧
      h'.get? q = some { cls := .type "tuple", data := .seq #[.int (-a) t2, .int b t'] }) E s := by
  refine wpAny_call ?_
  refine PySem.W.kla_callFunE hroom ho rfl hco hgen rfl hcd ?_
  rw [hbind]
  have lk : scope.names.lookup x = some .local := by rw [hnm]; simp [List.lookup]
  refine wpAny_pure (wpAny_newFunctionEnv (fun y hy => by rw [hnm] at hy; rcases List.mem_singleton.mp hy with rfl; simp) (fun y hy => by rcases List.mem_singleton.mp hy with rfl; exact lk) (fun h₁ hns hsb => ⟨lim.fresh _ hsb, ?_⟩) hk)
  have kp : ∀ b o, s.heap.get? b = some o → h₁.get? b = some o := fun b o e => hsb.extBut b o (Nat.ne_of_lt (Heap.lt_size e)) (Heap.get?_push_of_some _ e)
  have hsz : s.heap.objs.size < h₁.objs.size := hns.lt
  have hp1 : IsTup h₁ p #[.int a t, .int b t'] := by
    obtain ⟨o, e1, e2, n, e3⟩ := hp
    exact ⟨o, kp _ _ e1, e2, n, e3⟩
  refine PySem.W.kla_codeExpr ?_
  have nm : ∀ {s2 : Shared} {Q : Value → Shared → Prop} {E2 : Value → Shared → Prop} {A2 : Around} {pp : Pos} {env : Env}, env.scope = scope → env.locals = s.heap.objs.size → s2.heap = h₁ → Q (.ref p) s2 → wpAny (model prog w) A2 (eval (.Name x pp) env) Q E2 s2 := by
    intro s2 Q E2 A2 pp env e1 e2 e3 q
    refine wpAny_Name (wpAny_loadName_local (m := fun y => [(x, Value.ref p)].reverse.lookup y) (by rw [e1]; exact hk) (by unfold Env.kindOf; rw [e1]; exact lk) (by rw [e2, e3]; exact hns) (by simp [List.lookup]) q) hd
  refine wpAny_Tuple_spliced ?_
  refine Calls.spliced_cons (wpAny_UnaryOp (Subscript_ (nm rfl rfl rfl ?_)))
  refine wpAny_Constant_int (subscriptTail_builtin (Heap.IsTuple.typeIs hp1) slot_tuple_getitem.lookup (getItem_tuple (j := 0) hp1 (by omega) (by omega) rfl rfl ?_))
  refine P.neg_int ?_
  refine Calls.spliced_cons (Subscript_ (nm rfl rfl rfl ?_))
  refine wpAny_Constant_int (subscriptTail_builtin (Heap.IsTuple.typeIs hp1) slot_tuple_getitem.lookup (getItem_tuple (j := 1) hp1 (by omega) (by omega) rfl rfl ?_))
  refine Calls.spliced_nil ⟨by show 2 ≤ sizeLine; decide, ?_⟩
  exact ⟨_, _, _, _, rfl, fun b o e => Heap.get?_push_of_some _ (kp b o e), rfl, Nat.le_of_lt hsz, Heap.get?_push_size _ rfl⟩
end
end Cw
/-! sorted by that key, from the invariant. -/
namespace Cw
open PySem PySem.Spec PyProof.Rows L2 Gu
theorem objOk_there {P : Program} {w : World} {H : Hp} {h : Heap} {a : Addr} {o : HO} (x : ObjOk P w H h a o) : ∃ ob, h.get? a = some ob := by
  cases o with
  | lst xs => obtain ⟨_, _, _, _, e⟩ := x; exact ⟨_, e⟩
  | tup xs => obtain ⟨_, _, _, p⟩ := x; obtain ⟨_, e, _⟩ := p; exact ⟨_, e⟩
  | dK kvs => obtain ⟨_, _, _, _, o, _, _, e, _⟩ := x; exact ⟨_, e⟩
  | dT kvs => obtain ⟨_, _, _, _, o, _, _, e, _⟩ := x; exact ⟨_, e⟩
  | set S n => obtain ⟨o, _, _, _, e, _⟩ := x; exact ⟨_, e⟩
  | ins C dx fs => obtain ⟨_, _, _, e, _⟩ := x; exact ⟨_, e⟩
  | own y => exact x
  | xd fs => obtain ⟨_, ⟨_, _, _, e, _⟩, _⟩ := x; exact ⟨_, e⟩
  | rng lo hi => obtain ⟨_, _, _, e⟩ := x; exact ⟨_, e⟩
  | frz ob u => obtain ⟨e, _⟩ := x; exact ⟨_, e⟩
  | tbl ps => exact ⟨_, (show h.get? a = some _ from x)⟩
  | met f y => exact ⟨_, (show h.get? a = some _ from x)⟩
  | ext φ => obtain ⟨_, e, _⟩ := x; exact e
/-- all objects of a heap but those of the base and the one at L -/
def allO (base h : Heap) (L : Addr) : List (Addr × Obj) := (List.range h.objs.size).filterMap fun b => match h.get? b, base.get? b with
  | some o, none => if b = L then none else some (b, o)
  | _, _ => none
theorem mem_allO {base h : Heap} {L b : Addr} {o : Obj} : (b, o) ∈ allO base h L ↔ h.get? b = some o ∧ b ≠ L ∧ base.get? b = none := by
  unfold allO
  rw [List.mem_filterMap]
  constructor
  · rintro ⟨c, hc, e⟩
    split at e
    · rename_i o' e1 e2
      split at e
      · cases e
      · rename_i ne
        cases e
        exact ⟨e1, ne, e2⟩
    · cases e
  · rintro ⟨e1, ne, e2⟩
    refine ⟨b, List.mem_range.mpr (Heap.lt_size e1), ?_⟩
    rw [e1, e2]
    simp only [if_neg ne]
section
variable {X : Cx} {pins : List (Addr × Obj)} {σ : L2.St} {H : Hp} {s : Shared}
/-- all stands but the frame, whose names stay: a list is new -/
theorem inv_newL {h' : Heap} {tk : Nat} {m : Str → Option Value} {D : Addr} {xs : List V} (I : Inv X pins σ H s) (hm : s.heap.Ns X.env.locals m) (hm' : h'.Ns X.env.locals m) (k : ∀ b o, b ≠ X.env.locals → s.heap.get? b = some o → h'.get? b = some o) (hD : s.heap.get? D = none) (hDL : D ≠ X.env.locals)
    (new : ObjOk X.prog X.w (upd H D (.lst xs)) h' D (.lst xs)) : Inv X pins σ (upd H D (.lst xs)) { s with heap := h', toks := tk } := by
  have hDn : H D = none := by
    match e : H D with
    | none => rfl
    | some u =>
      obtain ⟨ob, eo⟩ := objOk_there (I.hok D u e)
      rw [hD] at eo
      cases eo
  have ne : ∀ b u, H b = some u → b ≠ D := fun b u e z => by rw [z, hDn] at e; cases e
  have neL : ∀ b u, H b = some u → b ≠ X.env.locals := fun b u e z => by rw [z, I.free] at e; cases e
  refine I.step (g' := s.gens) (d' := s.drawn) (ch := []) (fun b hb => absurd hb (by simp)) (fun b o n _ _ e _ => k b o n e) (fun b o n _ _ e _ => ⟨o.slots, k b o n e⟩) (fun b o _ e n => ?_) (fun b o _ e => ?_) (fun b xs e => by rw [upd_ne (ne b _ e)]; exact e) (fun b o u e => by rw [upd_ne (ne b _ e)]; exact e) (fun b ps e => ⟨#[], by rw [upd_ne (ne b _ e), e, Array.append_empty]⟩) (fun m2 hn => ?_) (fun b u e => ?_) I.bare
  · rw [upd_ne (fun z => by rw [z, hD] at e; cases e)]
    exact n
  · by_cases hb : b = X.env.locals
    · rw [hb]
      obtain ⟨o', _, _, e', _⟩ := hm'
      exact ⟨o', e'⟩
    · exact ⟨o, k b o hb e⟩
  · rw [show m2 = m from (Heap.Ns.eq_nsMap hn).trans (Heap.Ns.eq_nsMap hm).symm]
    exact hm'
  · by_cases hb : b = D
    · subst hb
      rw [upd_same] at e
      cases e
      exact new
    · rw [upd_ne hb] at e
      refine (I.hok b u e).stay (fun c v hc q => k c v ?_ q) (fun c q => by rw [upd_ne (ne c _ q)]; exact q) fun c xs q => by rw [upd_ne (ne c _ q)]; exact q
      rcases hc with z | z
      · rw [z]; exact neL b u e
      · exact neL c _ z
end
end Cw
/-! sorted(rows, key=..), run. -/
namespace Cw
open PySem PySem.Spec PyProof.Rows L2 Gu
def rowP (r : Int × Int) : PyData := .tuple [.int r.1, .int r.2]
def negP (r : Int × Int) : PyData := .tuple [.int (-r.1), .int r.2]
theorem alikeP (rows : List (Int × Int)) : PySem.W.AllAlike (rows.map negP) := by
  intro d hd d' hd'
  obtain ⟨r, _, rfl⟩ := List.mem_map.mp hd
  obtain ⟨r', _, rfl⟩ := List.mem_map.mp hd'
  rfl
theorem sortableP (rows : List (Int × Int)) : PySem.W.Sortable (rows.map negP) := by
  refine .inl fun d hd => ?_
  obtain ⟨r, _, rfl⟩ := List.mem_map.mp hd
  exact ⟨_, _, rfl⟩
theorem dpAll_rel {K : PySem.W.Frag} {H : Hp} : ∀ {vs : List V} {rows : List (Int × Int)}, DpAll K H vs (rows.map rowP) → ∀ b ∈ vs.zip rows, Dp K H b.1 (rowP b.2)
  | [], [], _, b, hb => by cases hb
  | v :: vs, r :: rows, .cons h1 h2, b, hb => by
    rcases List.mem_cons.mp hb with rfl | hb
    · exact h1
    · exact dpAll_rel h2 b hb
theorem each_rows {K : PySem.W.Frag} {H : Hp} : ∀ {vs : List V} {rows : List (Int × Int)} {us : List Value}, DpAll K H vs (rows.map rowP) → Vals vs us → PySem.W.EachIs (fun (u : Value) (b : V × (Int × Int)) => RelV b.1 u) us (vs.zip rows)
  | [], [], _, _, .nil => .nil
  | v :: vs, r :: rows, _, .cons h1 h2, .cons r1 r2 => .cons r1 (each_rows h2 r2)
theorem vals_eachR : ∀ {us : List Value} {bs : List (V × (Int × Int))}, PySem.W.EachIs (fun (u : Value) (b : V × (Int × Int)) => RelV b.1 u) us bs → Vals (bs.map Prod.fst) us
  | _, _, .nil => .nil
  | _, _, .cons h1 h2 => .cons h1 (vals_eachR h2)
theorem dpAll_pairsR {K : PySem.W.Frag} {H : Hp} : ∀ {bs : List (V × (Int × Int))}, (∀ b ∈ bs, Dp K H b.1 (rowP b.2)) → DpAll K H (bs.map Prod.fst) ((bs.map Prod.snd).map rowP)
  | [], _ => .nil
  | b :: bs, h => .cons (h b (List.mem_cons_self ..)) (dpAll_pairsR fun c hc => h c (List.mem_cons_of_mem _ hc))
/-- a value that is a pair of whole numbers -/
theorem dp_row {X : Cx} {pins : List (Addr × Obj)} {σ : L2.St} {H : Hp} {s : Shared} {v : V} {u : Value} {r : Int × Int} (I : Inv X pins σ H s) (h : Dp X.K H v (rowP r)) (rv : RelV v u) :
    ∃ p t t', u = .ref p ∧ IsTup s.heap p #[.int r.1 t, .int r.2 t'] := by
  obtain ⟨a, b⟩ := r
  cases h with
  | tup hs ha =>
    cases rv
    obtain ⟨its, r, pl, hz⟩ := I.tuple hs
    cases ha with
    | cons h1 h2 =>
      cases h2 with
      | cons h2 h3 =>
        cases h3
        cases h1
        cases h2
        cases r with
        | cons r1 r2 =>
          cases r2 with
          | cons r2 r3 =>
            cases r3
            obtain ⟨t, rfl⟩ := r1
            obtain ⟨t', rfl⟩ := r2
            exact ⟨_, t, t', rfl, pl⟩
section
variable {X : Cx} {pins : List (Addr × Obj)} {σ : L2.St} {H : Hp} {s : Shared}
theorem sort_neg {f c' l : Addr} {x qual : Str} {params : Arguments} {scope : Scope} {pm ctv : Value} {k0 k1 k2 : Nat} {p1 p2 p3 p4 p5 p6 p7 p8 : Pos} {vs : List V} {rows : List (Int × Int)} {Q : VK}
    (I : Inv X pins σ H s) (hr : Room 4 X.A) (ho : s.heap.get? f = some (PySem.W.kla_obj "<lambda>" qual params (negE x k0 k1 k2 p1 p2 p3 p4 p5 p6 p7 p8) scope [] pm c' ctv)) (hcd : H c' = some (LamX.CodeO c' qual))
    (hbind : ∀ v, bindArgs (PySem.W.kla_fn "<lambda>" qual params (negE x k0 k1 k2 p1 p2 p3 p4 p5 p6 p7 p8) scope [] pm (.ref c') ctv) ⟨[v], []⟩ = pure [(x, v)])
    (hco : scope.isCoroutine = false) (hgen : scope.isGenerator = false) (hk : scope.kind = .function) (hnm : scope.names = [(x, .local)]) (hdb : (x == ("__debug__" : Str)) = false)
    (hs : SqL X.K H l vs) (hd : DpAll X.K H vs (rows.map rowP))
    (q : ∀ (D : Addr) (bs : List (V × (Int × Int))), H D = none → bs.Perm (vs.zip rows) → bs.map Prod.snd = rows.mergeSort (PySem.W.dataLe false negP) → Q (.ref D) (upd H D (.lst (bs.map Prod.fst)))) :
    wpAny (model X.prog X.w) X.A (call (.builtin "sorted") [.ref l] [(Str.ofString "key", .ref f)]) (EP X pins σ Q) X.xe s := by
  obtain ⟨m, hm, hl0⟩ := id I.loc
  obtain ⟨its, rv, hl, hz⟩ := I.list hs
  have hlen : vs.length = rows.length := by rw [hd.len, List.length_map]
  have hit : its.length = vs.length := rv.length.symm
  have F : Fr X.base X.env.locals s.heap m := ⟨hm, I.bk, Nat.le_trans I.ok.bsz I.ok.above⟩
  have N : News X.base X.env.locals s.heap (allO X.base s.heap X.env.locals) := fun p hp => mem_allO.mp hp
  have ez : (vs.zip rows).map Prod.snd = rows := List.map_snd_zip (by omega)
  have ez1 : (vs.zip rows).map Prod.fst = vs := List.map_fst_zip (by omega)
  have notL : ∀ b o, s.heap.get? b = some o → (∀ es ep, o.data ≠ .dict es ep) → b ≠ X.env.locals := fun b o e n z => by
    obtain ⟨o', es, ep, e', hd', _⟩ := hm
    rw [z, e'] at e
    cases e
    exact n es ep hd'
  have kp : ∀ (h : Heap) (own : List (Addr × Obj)), Fr X.base X.env.locals h m → News X.base X.env.locals h (allO X.base s.heap X.env.locals ++ own) → ∀ b o, b ≠ X.env.locals → s.heap.get? b = some o → h.get? b = some o := fun h own F' N' b o n e => by
    match eb : X.base.get? b with
    | some o' =>
      have e1 := F.keep b o' eb
      rw [e] at e1
      cases e1
      exact F'.keep b o eb
    | none => exact (N' (b, o) (List.mem_append_left _ (mem_allO.mpr ⟨e, n, eb⟩))).1
  refine PySem.W.sorted_key_frame (kz := (vs.zip rows).map fun b => negP b.2) (vs := its) (b := false) F N hl.isList (by rw [List.length_map, List.length_zip, hit]; omega) (by rw [hit]; exact hz) ?_ ?_ (fun d hd => ?_) (PyProof.Rows.ksk_s1 _ _) (fun _ => PyProof.Rows.ksk_l1 _ _) (fun y => PyProof.Rows.ksk_t1 f y) (fun i v k hv hkz h tk own F' N' => ?_) fun D h' tk out c F' N' hDn hK => ?_
  · rw [show (vs.zip rows).map (fun b => negP b.2) = rows.map negP from by rw [← ez, List.map_map, ez]; rfl]
    exact alikeP rows
  · rw [show (vs.zip rows).map (fun b => negP b.2) = rows.map negP from by rw [← ez, List.map_map, ez]; rfl]
    exact sortableP rows
  · obtain ⟨b, _, rfl⟩ := List.mem_map.mp hd
    have := hr.units
    have e : (negP b.2).depth ≤ 10 := Nat.le_of_ble_eq_true rfl
    omega
  · obtain ⟨b, hb, rfl⟩ : ∃ b, (vs.zip rows)[i]? = some b ∧ k = negP b.2 := by
      rw [List.getElem?_map] at hkz
      obtain ⟨b, h1, h2⟩ := Option.map_eq_some_iff.mp hkz
      exact ⟨b, h1, h2.symm⟩
    have hbv : vs[i]? = some b.1 := by
      have := congrArg (fun l => l[i]?) ez1
      simp only [List.getElem?_map, hb] at this
      exact this.symm
    obtain ⟨u, eu, ru⟩ := rv.get hbv
    rw [hv] at eu
    cases eu
    obtain ⟨p, t, t', rfl, hp⟩ := dp_row I (dpAll_rel hd b (List.mem_of_getElem? hb)) ru
    have K2 := kp h own F' N'
    have hp2 : IsTup h p #[.int b.2.1 t, .int b.2.2 t'] := by
      obtain ⟨o, e1, e2, n, e3⟩ := hp
      exact ⟨o, K2 p o (notL p o e1 fun es ep z => by rw [z] at e3; cases e3) e1, e2, n, e3⟩
    have hcr : h.CodeRec (.ref c') qual := by
      obtain ⟨⟨oc, us, t, e1, e2, e3⟩, _, _⟩ := I.hok c' _ hcd
      exact ⟨c', oc, us, t, rfl, K2 c' oc (notL c' oc e1 fun es ep z => by rw [z] at e2; cases e2) e1, e2, e3⟩
    refine wpAny_mono (lam_turn (s := { s with heap := h, toks := tk }) (E := fun _ _ => False) (by
      have := hr.dp
      have e : X.A.in1.in1.depth ≤ X.A.depth + 2 := by
        simp only [Around.in1_depth]
        omega
      omega) (K2 f _ (notL f _ ho fun es ep z => by cases z) ho) hcr (I.ok.mod.nolimit.keeps F'.keep) hbind hco hgen hk hnm hdb hp2) (fun w s2 hw => ?_) fun _ _ x => x
    obtain ⟨h2, tk2, q2, t2, e1, e2, e3, e4, e5⟩ := hw
    subst e3
    have hLh : X.env.locals < h.objs.size := F'.ns.lt
    have q2L : q2 ≠ X.env.locals := fun z => by
      rw [z] at e4
      exact absurd (Nat.lt_of_lt_of_le hLh e4) (Nat.lt_irrefl _)
    refine ⟨h2, tk2, [(q2, { cls := .type "tuple", data := .seq #[.int (-b.2.1) t2, .int b.2.2 t'] })], e1, fun hh k1 k2 => ⟨_, Reads.tuple (k2 _ (List.mem_singleton.mpr rfl)) rfl rfl (.cons (.int _ _) (.cons (.int _ _) .nil))⟩, fun p hp => (by rw [List.mem_singleton.mp hp] <;> rfl), ⟨?_, fun b o e => e2 b o (F'.keep b o e), F'.above⟩, fun p hp => ?_⟩
    · exact F'.ns.keeps e2
    · rcases List.mem_append.mp hp with hp | hp
      · obtain ⟨a1, a2, a3⟩ := N' p hp
        exact ⟨e2 _ _ a1, a2, a3⟩
      · rw [List.mem_singleton.mp hp]
        refine ⟨e5, q2L, ?_⟩
        exact Heap.get?_none_of_le (Nat.le_trans F'.above (Nat.le_of_lt (Nat.lt_of_lt_of_le hLh e4)))
  · have K2 : ∀ b o, b ≠ X.env.locals → s.heap.get? b = some o → h'.get? b = some o := kp h' [] F' (fun p hp => N' p (List.mem_cons_of_mem _ (by rw [List.append_nil] at hp; exact hp)))
    obtain ⟨d1, d2, d3⟩ := N' (D, PySem.W.listOf (List.toArray out) c) (List.mem_cons_self ..)
    have hDs : s.heap.get? D = none := by
      match e : s.heap.get? D with
      | none => rfl
      | some o => exact absurd (hDn (D, o) (mem_allO.mpr ⟨e, d2, d3⟩)) (Nat.lt_irrefl _)
    have hDH : H D = none := by
      match e : H D with
      | none => rfl
      | some u =>
        obtain ⟨ob, eo⟩ := objOk_there (I.hok D u e)
        rw [hDs] at eo
        cases eo
    have eo := PySem.W.keyedOut_each (bs := vs.zip rows) (R := fun (u : Value) (b : V × (Int × Int)) => RelV b.1 u) (fun b => negP b.2) hK (each_rows hd rv)
    have pm : ((vs.zip rows).mergeSort (PySem.W.dataLe false fun b => negP b.2)).Perm (vs.zip rows) := List.mergeSort_perm _ _
    have e2 : ((vs.zip rows).mergeSort (PySem.W.dataLe false fun b => negP b.2)).map Prod.snd = rows.mergeSort (PySem.W.dataLe false negP) := by
      rw [PySem.W.sort_maps (r := PySem.W.dataLe false fun b : V × (Int × Int) => negP b.2) (s := PySem.W.dataLe false negP) Prod.snd (fun _ _ _ _ => rfl), ez]
    have hl2 : (((vs.zip rows).mergeSort (PySem.W.dataLe false fun b => negP b.2)).map Prod.fst).length ≤ sizeLine := by
      rw [List.length_map, pm.length_eq, List.length_zip, hlen, Nat.min_self, ← hlen]
      exact hz
    refine ⟨.ref D, upd H D (.lst _), inv_newL I hm F'.ns K2 hDs d2 ⟨hl2, out, c, vals_eachR eo, d1⟩, rfl, q D _ hDH pm e2⟩
end
end Cw
/-! a lambda is made (its code object is new, or found in the table); sorted by it. -/
namespace Cw
open PySem PySem.Spec PyProof.Rows L2 Gu
/-- the table at P stands in H, its code objects bear the name q -/
def TabH (H : Hp) (P : Addr) (q : Str) : Prop := ∃ ps : Array Value, H P = some (.tbl ps) ∧ TriplesOk ps.toList ∧ ∀ (pos : Pos) (cv : Value), codeAmong pos ps.toList = some cv → ∃ c, cv = .ref c ∧ H c = some (LamX.CodeO c q)
section
variable {X : Cx} {pins : List (Addr × Obj)} {σ : L2.St} {H : Hp} {s : Shared}
theorem lam_mk {c P : Addr} {q : Str} {params : Arguments} {body : Expr} {scope : Scope} {pos : Pos} {E : Value → Shared → Prop} {Q : Value → Shared → Prop} (I : Inv X pins σ H s) (TB : LamX.TabB X.base X.mg c P) (hcode : X.env.code = .ref c) (hq : X.env.qual ++ "<lambda>" = q)
    (hT : TabH H P q) (hdef : defaultsOf params X.env = ([], [])) (hfree : ∀ y ∈ scope.names, y.2 = .free → ∃ c, X.env.cells.lookup y.1 = some c)
    (h : ∀ (f c' : Addr) (pm ctv : Value) (H1 : Hp) (s' : Shared), Inv X pins σ H1 s' → (∀ b o, b ≠ P → H b = some o → H1 b = some o) → TabH H1 P q →
      s'.heap.get? f = some (PySem.W.kla_obj "<lambda>" q params body scope (cloFrom X.env.cells scope.names []) pm c' ctv) → H1 c' = some (LamX.CodeO c' q) → Q (.ref f) s') :
    wpAny (model X.prog X.w) X.A (eval (.Lambda params body scope pos) X.env) Q E s := by
  subst hq
  obtain ⟨ps, hP, ht, ha⟩ := hT
  have hP' : s.heap.get? P = some { cls := .none, data := .fields ps } := I.hok P _ hP
  have code := TB.code.keeps I.bk
  refine PySem.W.kla_eval hdef ?_
  match hc : codeAmong pos ps.toList with
  | some cv =>
    obtain ⟨c', rfl, hco⟩ := ha pos cv hc
    exact PySem.W.kla_makeFunctionHit (mg := X.mg) (c := c) (P := P) (ps := ps) (closure_ok hfree) I.ok.glob (I.mod.glob.keeps I.bk) hcode code hP' ht hc (TB.bm.keeps I.bk) fun ctv h' tk hx hsz =>
      h _ c' ((X.mg "__name__").getD .none) ctv H _ (I.kept fun b o e => Heap.get?_push_of_some _ (hx b o e)) (fun b o _ e => e) ⟨ps, hP, ht, ha⟩ (Heap.get?_push_size _ rfl) hco
  | none =>
    refine PySem.W.kla_makeFunction (mg := X.mg) (c := c) (P := P) (ps := ps) (closure_ok hfree) I.ok.glob (I.mod.glob.keeps I.bk) hcode code hP' ht hc TB.gP (TB.bm.keeps I.bk) fun c' ctv h' tk hx hge hlt hrec htb => ?_
    obtain ⟨c2, oc, vs, t, e2, hoc, hdd, hv⟩ := hrec
    cases e2
    have nC : H c' = none := I.hok.fresh hge
    have nPc : P ≠ c' := ne_of_none hP nC
    have keep : ∀ b o, b ≠ P → H b = some o → upd (upd H P (.tbl (ps ++ #[rawInt pos.line, rawInt pos.col, .ref c']))) c' (LamX.CodeO c' (X.env.qual ++ "<lambda>")) b = some o := fun b o n e => by
      rw [upd_ne (ne_of_none e nC), upd_ne n]
      exact e
    refine h h'.objs.size c' ((X.mg "__name__").getD .none) ctv _ _ (LamX.inv_table (t' := tk) (more := #[rawInt pos.line, rawInt pos.col, .ref c']) I hP (fun b o hb e => Heap.get?_push_of_some _ (hx b o hb e)) (Heap.get?_push_of_some _ htb) hge ⟨oc, vs, t, Heap.get?_push_of_some _ hoc, hdd, hv⟩) keep
      ⟨_, by rw [upd_ne nPc, upd_same], ?_, fun p' cv hcv => ?_⟩ (Heap.get?_push_size _ rfl) upd_same
    · rw [Array.toList_append]
      exact PySem.TriplesOk_snoc _ _ _ _ ht
    · rw [Array.toList_append] at hcv
      rcases LamX.among_app _ ht hcv with z | z
      · obtain ⟨c0, e1, e2⟩ := ha p' cv z
        exact ⟨c0, e1, keep _ _ (fun z => by rw [z, hP] at e2; exact LamX.codeO_ne ps (Option.some.inj e2).symm) e2⟩
      · exact ⟨c', z, upd_same⟩
def sortN (rows : List (Int × Int)) : List PyData := (rows.mergeSort (PySem.W.dataLe false negP)).map rowP
def tSortL (K : PySem.W.Frag) (P : Addr) (q : Str) (te : TE) : TE := fun σ H Q => te σ H fun v H1 => TabH H1 P q ∧ ∀ H2, (∀ b o, b ≠ P → H1 b = some o → H2 b = some o) → TabH H2 P q →
  ∃ l vs rows, v = V.ref l ∧ SqL K H2 l vs ∧ DpAll K H2 vs (rows.map rowP) ∧ ∀ (D : Addr) (bs : List (V × (Int × Int))), H2 D = none → bs.Perm (vs.zip rows) → bs.map Prod.snd = rows.mergeSort (PySem.W.dataLe false negP) → Q (.ref D) (upd H2 D (.lst (bs.map Prod.fst)))
theorem pe_sortL {te : TE} {c P : Addr} {q x fn ky : Str} {e : Expr} {params : Arguments} {scope : Scope} {k0 k1 k2 : Nat} {p1 p2 p3 p4 p5 p6 p7 p8 pp lpos kp pos : Pos} (he0 : PE X e te) (TB : LamX.TabB X.base X.mg c P) (hcode : X.env.code = .ref c) (hq : X.env.qual ++ "<lambda>" = q) (hr : Room 4 X.A)
    (hdef : defaultsOf params X.env = ([], [])) (hco : scope.isCoroutine = false) (hgen : scope.isGenerator = false) (hk : scope.kind = .function) (hnm : scope.names = [(x, .local)]) (hdb : (x == ("__debug__" : Str)) = false)
    (hbind : ∀ (q : Str) (pm cv ctv v : Value), bindArgs (PySem.W.kla_fn "<lambda>" q params (negE x k0 k1 k2 p1 p2 p3 p4 p5 p6 p7 p8) scope [] pm cv ctv) ⟨[v], []⟩ = pure [(x, v)])
    (hky : ky = Str.ofString "key") (hfn : fn = ("sorted" : Str)) (hg : Gl X fn) (hm : X.mg fn = none) (hv : bootBuiltins fn = some (.builtin "sorted"))
    (he : backTo pos (starEach [e] X.env) = (false, eval e X.env) :: backTo pos (starEach [] X.env) := by rfl) (hpl : (backTo pos (starEach [e] X.env)).any (·.1) = false := by rfl) (hn : fn ≠ "__name__" := by decide) (hdb2 : (fn == ("__debug__" : Str)) = false := by decide) :
    PE X (.Call (.Name fn pp) [e] [⟨some ky, .Lambda params (negE x k0 k1 k2 p1 p2 p3 p4 p5 p6 p7 p8) scope lpos, kp⟩] pos) (tSortL X.K P q te) := by
  subst hky
  refine ⟨fun pins s σ H Q I h => ?_⟩
  refine wpAny_Call_Name_kw (ld_blt I hg hm hv ?_ hn hdb2)
  refine PyProof.Rows.callWith_kw ?_ he hpl rfl rfl
  rw [he]
  refine Calls.spliced_cons (thn (he0.run pins s σ H _ I h) fun v s1 ⟨w, H1, I1, r1, hT, hq1⟩ => ?_)
  refine Calls.spliced_nil ?_
  refine PyProof.Rows.kws_cons (lam_mk I1 TB hcode hq hT hdef (fun y hy z => by rw [hnm] at hy; rw [List.mem_singleton.mp hy] at z; cases z) fun f c' pm ctv H2 s2 I2 k2' T2 hf hc => ?_)
  refine PyProof.Rows.kws_nil ?_
  obtain ⟨l, vs, rows, rfl, hs, hd, q2⟩ := hq1 H2 k2' T2
  cases r1
  rw [hnm] at hf
  exact sort_neg I2 hr hf hc (fun v => hbind _ _ _ _ v) hco hgen hk hnm hdb hs hd q2
end
theorem nodup_fst : ∀ {l : List HC}, (l.map Prod.fst).Nodup → ∀ {p q : HC}, p ∈ l → q ∈ l → p.1 = q.1 → p = q
  | [], _, p, _, hp, _, _ => by cases hp
  | x :: l, n, p, q, hp, hq, e => by
    rw [List.map_cons] at n
    obtain ⟨n1, n2⟩ := List.nodup_cons.mp n
    rcases List.mem_cons.mp hp with e1 | hp <;> rcases List.mem_cons.mp hq with e2 | hq
    · rw [e1, e2]
    · exact absurd (List.mem_map.mpr ⟨q, hq, by rw [← e, e1]⟩) n1
    · exact absurd (List.mem_map.mpr ⟨p, hp, by rw [e, e2]⟩) n1
    · exact nodup_fst n2 hp hq e
section
variable {K : PySem.W.Frag} {cs : List C} {hs : List HC} {k : KC} {te : TE} {P : Addr} {q : Str}
theorem we_sortL (h : WE K te cs hs fun c hs2 => ∃ l rows, c = .r l ∧ (∃ j : Nat, hs2[j]? = some (l, .lst (rows.map rowP))) ∧ (∃ i : Nat, hs2[i]? = some (P, .tab q)) ∧ ∀ D, k (.r D) ((D, .lst (sortN rows)) :: hs2)) : WE K (tSortL K P q te) cs hs k := by
  intro B H σ fh s E Q kq
  refine h B H σ fh s E _ fun v c hs2 B2 H2 x2 s2 E2 ⟨l, rows, e1, ⟨j, hj⟩, ⟨i, hi⟩, hk⟩ => ?_
  subst e1
  obtain ⟨bP, oP, hP, ps, rfl, ht, ha⟩ := E2.own hi
  refine ⟨⟨ps, hP, ht, fun pos cv z => ?_⟩, fun H3 k3 T3 => ?_⟩
  · obtain ⟨c, a1, a2⟩ := ha pos cv z
    exact ⟨c, a1, E2.bh _ _ a2⟩
  obtain ⟨ps3, hP3, ht3, ha3⟩ := T3
  have ev : v = V.ref l := Option.some.inj s2
  subst ev
  let B3 : Hp := fun b => match B2 b with
    | some o => some o
    | none => open Classical in if H3 b = some (LamX.CodeO b q) then H3 b else none
  have b3 : ∀ b o, B2 b = some o → B3 b = some o := fun b o e => by
    show (match B2 b with | some o => some o | none => _) = some o
    rw [e]
  have b3n : ∀ b, B2 b = none → B3 b = (open Classical in if H3 b = some (LamX.CodeO b q) then H3 b else none) := fun b e => by
    show (match B2 b with | some o => some o | none => _) = _
    rw [e]
  have bne : ∀ b o, B2 b = some o → b ≠ P := fun b o e z => by rw [z, bP] at e; cases e
  have bh3 : Ex B3 H3 := fun b o e => by
    match eb : B2 b with
    | some o' =>
      rw [b3 b o' eb] at e
      cases e
      exact k3 b o (bne b o eb) (E2.bh b o eb)
    | none =>
      rw [b3n b eb] at e
      split at e
      · exact e
      · cases e
  have ownN : ∀ b (mo : MO) o, B2 b = none → H3 b = some o → MOk K B2 mo o → B3 b = none := fun b mo o e1 e2 e3 => by
    rw [b3n b e1, if_neg]
    intro z
    rw [e2] at z
    have z := Option.some.inj z
    subst z
    cases mo <;> obtain ⟨_, z, _⟩ := e3 <;> · unfold LamX.CodeO at z; cases z
  have E3 : En K B3 H3 (hs2 ++ fh) := by
    refine ⟨bh3, fun p hp => ?_, E2.nd⟩
    obtain ⟨n1, o, h1, m1⟩ := E2.ow p hp
    by_cases e : p.1 = P
    · have ep : p = (P, .tab q) := by
        have hPm : (P, MO.tab q) ∈ hs2 ++ fh := List.mem_append_left _ (List.mem_of_getElem? hi)
        exact nodup_fst E2.nd hp hPm e
      subst ep
      refine ⟨?_, _, hP3, ps3, rfl, ht3, fun pos cv z => ?_⟩
      · rw [b3n P n1, if_neg]
        intro z
        rw [hP3] at z
        exact LamX.codeO_ne ps3 (Option.some.inj z).symm
      · obtain ⟨c, a1, a2⟩ := ha3 pos cv z
        refine ⟨c, a1, ?_⟩
        match eb : B2 c with
        | some o' =>
          have := k3 c o' (bne c o' eb) (E2.bh c o' eb)
          rw [a2] at this
          rw [b3 c o' eb, this]
        | none => rw [b3n c eb, if_pos a2, a2]
    · have h3 := k3 p.1 o e h1
      exact ⟨ownN p.1 p.2 o n1 h3 m1, o, h3, m1.mono b3⟩
  obtain ⟨nl, ol, hl3, xs, rfl, hd⟩ := E3.own hj
  refine ⟨l, xs, rows, rfl, .inl (.inl hl3), dpAll_mono bh3 _ _ hd, fun D bs hD pm e => ?_⟩
  have hm : DpAll K B3 (bs.map Prod.fst) (sortN rows) := by
    unfold sortN
    rw [← e]
    exact dpAll_pairsR fun b hb => dpAll_rel hd b (pm.mem_iff.mp hb)
  exact kq (.ref D) (.r D) _ B3 _ (ex_trans x2 b3) rfl (E3.newM (mo := .lst (sortN rows)) hD ⟨_, rfl, hm⟩) (hk D)
end
end Cw
/-! the law's own call where one def has a table of code objects. -/
namespace Gu
open PySem PySem.Spec PyProof.Rows L2
theorem law_callGT {P : Program} {w : World} {K : PySem.W.Frag} {mg mb : Str → Option Value} {cx : CXT} {k : Nat} {fa a c T : Addr} {fd : FuncData} {x : Str} {sp : Sp} {s : Shared} {vs : List Value} {ns : List Int}
    (KX : K.In s.heap) (hns : s.heap.Ns mainGlobals mg) (hb : s.heap.Ns builtinsNs mb) (hbb : ∀ y : Str, y ≠ "__name__" → mb y = bootBuiltins y) (hlim : s.heap.NoLimit) (hg : s.gens = #[])
    (hT : s.heap.get? T = some { cls := .none, data := .fields #[] }) (nT : K.lookup T = none) (hC : PySem.W.CodeHd s.heap c T)
    (hbm : ∃ (bm : Addr) (ob : Obj), mg "__builtins__" = some (.ref bm) ∧ bm ≠ builtinsNs ∧ s.heap.get? bm = some ob ∧ ob.cls = .type "module" ∧ ob.dict = some builtinsNs ∧ ob.data = .plain)
    (ha : s.heap.get? a = some { cls := .type "list", data := .seq vs.toArray }) (hi : IntsAre vs ns) (hl : ns.length ≤ sizeLine) (hr : Room k callerA)
    (F : ∀ base : Heap, K.In base → base.Ns mainGlobals mg → LamX.TabB base mg c T → FnG P w K mg base cx k fa fd [x] sp) (hbind : ∀ (s' : Shared) (u : Value), BindsTo s' fd ⟨[u], []⟩ [(x, u)])
    (hsp : ∀ H : Hp, H T = some (.tbl #[]) → SqL K H a (ns.map V.int) → (H a ≠ none → ∃ o, H a = some (.frz o (.lst (ns.map V.int)))) → sp [.ref a] H (fun v _ => v = .bl true) fun _ _ _ => False)
    (hcx : ∀ H e s', cx [] H s (fun _ _ _ => False) e s' → False) :
    codeAny (model P w) callerA (.call (.ref fa) ⟨[.ref a], []⟩) (fun r s' => r = .ok (.ret (.bool true)) ∧ OldK s.heap s'.heap ∧ s'.os = s.os ∧ AllBare s'.gens) s := by
  have rv := vals_ints hi
  have aT : a ≠ T := fun z => by
    rw [z, hT] at ha
    cases ha
  have main : ∀ H : Hp, H T = some (.tbl #[]) → (∀ b u, H b = some u → b ≠ T → b = a ∧ ∃ o, u = .frz o (.lst (ns.map V.int))) → SqL K H a (ns.map V.int) → HOk P w H s.heap → (H a ≠ none → K.lookup a = none) →
      codeAny (model P w) callerA (.call (.ref fa) ⟨[.ref a], []⟩) (fun r s' => r = .ok (.ret (.bool true)) ∧ OldK s.heap s'.heap ∧ s'.os = s.os ∧ AllBare s'.gens) s := by
    intro H hHT hA hS hok hK
    have noH : ∀ {b : Addr} {o : Obj}, s.heap.get? b = some o → (∀ us n, o.data ≠ .seq us n) → o.data ≠ .fields #[] → H b = none := fun {b o} e n1 n2 => by
      match q : H b with
      | none => rfl
      | some u =>
        by_cases hb : b = T
        · rw [hb, hT] at e
          cases e
          exact absurd rfl n2
        · obtain ⟨rfl, _⟩ := hA b u q hb
          rw [ha] at e
          cases e
          exact absurd rfl (n1 _ _)
    have keepB : ∀ {b : Addr} {o : Obj}, s.heap.get? b = some o → H b = none → (hidT s.heap H).get? b = some o := fun e n => hidT_get e n
    have nsB : ∀ {b : Addr} {m : Str → Option Value}, s.heap.Ns b m → (hidT s.heap H).Ns b m := fun {b m} ⟨o, es, ep, e, d, r⟩ => ⟨o, es, ep, keepB e (noH e (fun us n z => by rw [d] at z; cases z) fun z => by rw [d] at z; cases z), d, r⟩
    have kinB : K.In (hidT s.heap H) := fun b o e => keepB (KX b o e) (by
      match q : H b with
      | none => rfl
      | some u =>
        by_cases hb : b = T
        · rw [hb, nT] at e
          cases e
        · obtain ⟨rfl, _⟩ := hA b u q hb
          rw [hK (by rw [q]; intro z; cases z)] at e
          cases e)
    have md : Mod K mg (hidT s.heap H) := ⟨kinB, nsB hns, ⟨mb, nsB hb, hbb⟩, hlim.elim fun mc h => ⟨mc, nsB h.1, h.2⟩⟩
    have TB : LamX.TabB (hidT s.heap H) mg c T := by
      refine ⟨?_, ?_, fun z => ?_⟩
      · obtain ⟨o, us, file, tf, flags, tg, inF, text, tt, e1, r1, r2, r3, r⟩ := hC
        refine ⟨o, us, file, tf, flags, tg, inF, text, tt, keepB e1 (noH e1 (fun us n z => by rw [r2] at z; cases z) fun z => ?_), r1, r2, r3, r⟩
        rw [r2] at z
        cases z
        simp at r3
      · obtain ⟨bm, ob, b1, b2, b3, b4, b5, b6⟩ := hbm
        refine ⟨bm, ob, b1, b2, fun q => ?_, fun q => ?_, keepB b3 (noH b3 (fun us n z => by rw [b6] at z; cases z) fun z => by rw [b6] at z; cases z), b4, b5, b6⟩
        · obtain ⟨o, es, ep, e, hd, _⟩ := hns
          rw [q, e] at b3
          cases b3
          rw [hd] at b6
          cases b6
        · rw [q, hT] at b3
          cases b3
          cases b6
      · obtain ⟨o, es, ep, e, hd, _⟩ := hns
        rw [z, hT] at e
        cases e
        cases hd
    have ev : Env0 P w K mg (hidT s.heap H) callerA [] s H := ⟨rfl, md, fun b o e => of_hidT e, Nat.le_of_eq (hidT_size _ _), trivial, fun b hb => absurd (show b ∈ ([] : List Addr) from hb) (by simp), hok, .of_eq hg⟩
    have hsp' := hsp H hHT hS fun hn => by
      match q : H a with
      | none => exact absurd q hn
      | some u =>
        obtain ⟨_, o, rfl⟩ := hA a u q aT
        exact ⟨o, rfl⟩
    refine codeAny_mono ((F _ kinB (nsB hns) TB).run callerA [] s H ⟨[.ref a], []⟩ [.ref a] [.ref a] _ _ hr rfl ev (hbind s (.ref a)) (.cons rfl .nil) hsp') fun r s' h => ?_
    match r, h with
    | .error e, h => exact (hcx H e s' h).elim
    | .ok (.ret u), ⟨v, H', os, bare, un, hok', r', q⟩ =>
      obtain rfl : v = .bl true := q
      obtain rfl : u = Value.bool true := r'
      obtain ⟨more, hm⟩ := un.tbls T #[] hHT
      have hm2 : s'.heap.get? T = some { cls := .none, data := .fields (#[] ++ more) } := hok' T _ hm
      have key : ∀ b o, b ≠ T → s.heap.get? b = some o → s'.heap.get? b = some o := fun b o nb e => by
        match q : H b with
        | none => exact un.keep b o e q (fun z => absurd (show b ∈ ([] : List Addr) from z) (by simp)) (by simp)
        | some u =>
          obtain ⟨rfl, ob, rfl⟩ := hA b u q nb
          obtain ⟨e1, _⟩ := hok b _ q
          obtain ⟨e2, _⟩ := hok' b _ (un.frzs b ob _ q)
          rw [e] at e1
          cases e1
          exact e2
      refine ⟨rfl, ⟨fun b o e => ?_, fun b o e => ?_⟩, os, bare⟩
      · by_cases hb : b = T
        · subst hb
          rw [hT] at e
          cases e
          exact .inr (.inl ⟨(hC.tab hT).isCodeTable, rfl, #[], more, rfl, hm2⟩)
        · exact .inl (key b o hb e)
      · by_cases hb : b = T
        · rw [hb]
          exact ⟨_, hm2⟩
        · exact ⟨o, key b o hb e⟩
  match hk : K.lookup a with
  | some o =>
    have e := KX a o hk
    rw [ha] at e
    cases e
    refine main (fun b => if b = T then some (.tbl #[]) else none) (if_pos rfl) (fun b u z nb => by rw [if_neg nb] at z; cases z) (.inr ⟨_, vs.toArray, _, hk, rfl, rfl, rfl, by rw [List.size_toArray, hi.length]; exact hl, by simpa using rv⟩) (fun b u z => ?_) fun z => absurd (if_neg aT) z
    by_cases hb : b = T
    · cases (if_pos hb).symm.trans z
      rw [hb]
      exact hT
    · cases (if_neg hb).symm.trans z
  | none =>
    have hTT : (fun b => if b = a then some (HO.frz { cls := .type "list", data := .seq vs.toArray } (.lst (ns.map V.int))) else if b = T then some (.tbl #[]) else none : Hp) T = some (.tbl #[]) := by
      show (if T = a then _ else if T = T then _ else _) = _
      rw [if_neg (fun z => aT z.symm), if_pos rfl]
    refine main (fun b => if b = a then some (HO.frz { cls := .type "list", data := .seq vs.toArray } (.lst (ns.map V.int))) else if b = T then some (.tbl #[]) else none) hTT (fun b u z nb => ?_) (.inl (.inr ⟨{ cls := .type "list", data := .seq vs.toArray }, if_pos rfl⟩)) (fun b u z => ?_) fun _ => hk
    · by_cases hb : b = a
      · cases (if_pos hb).symm.trans z
        exact ⟨hb, _, rfl⟩
      · have z' := (if_neg hb).symm.trans z
        rw [if_neg nb] at z'
        cases z'
    · by_cases hb : b = a
      · cases (if_pos hb).symm.trans z
        subst hb
        exact ⟨ha, by rw [List.length_map]; exact hl, vs, _, rv, ha⟩
      · have z' := (if_neg hb).symm.trans z
        by_cases hb2 : b = T
        · cases (if_pos hb2).symm.trans z'
          rw [hb2]
          exact hT
        · cases (if_neg hb2).symm.trans z'
theorem walk_GT {l : PySem.W.OpenLaw} {n k : Nat} {q : Program} {loose : List Str} {XP : (Str → Option Value) → Heap → Prop} {YP : World → Heap → Prop} {d : DefRec} {K : Params → PySem.W.Frag} {cx : World → CXT} {c T : Addr} {sp : World → Sp} {x : Str}
    (hn : l.most = some n) (hn2 : n ≤ sizeLine) (hdf : d.params.defaults = []) (hr : Room k callerA) (hY : ∀ (w : World) (h : Heap), YP w h → (K w.params).In h)
    (hT : ∀ (w : World) (h : Heap), YP w h → h.get? T = some { cls := .none, data := .fields #[] }) (nT : ∀ w : World, (K w.params).lookup T = none) (hC : ∀ (w : World) (h : Heap), (K w.params).In h → PySem.W.CodeHd h c T)
    (F : ∀ (w : World) (mg : Str → Option Value) (fa : Addr) (h : Heap), (K w.params).In h → h.Ns mainGlobals mg → mg d.name = some (.ref fa) →
      ∃ fd : FuncData, (∀ (s : Shared) (u : Value), BindsTo s fd ⟨[u], []⟩ [(x, u)]) ∧ ∀ base : Heap, (K w.params).In base → base.Ns mainGlobals mg → LamX.TabB base mg c T → FnG l.prog w (K w.params) mg base (cx w) k fa fd [x] (sp w))
    (hsp : ∀ (w : World) (H : Hp) (a : Addr) (ns : List Int), ns.length ≤ n → H T = some (.tbl #[]) → SqL (K w.params) H a (ns.map V.int) → (H a ≠ none → ∃ o, H a = some (.frz o (.lst (ns.map V.int)))) → sp w [.ref a] H (fun v _ => v = .bl true) fun _ _ _ => False)
    (hcx : ∀ (w : World) (H : Hp) (s : Shared) (e : Value) (s' : Shared), cx w [] H s (fun _ _ _ => False) e s' → False) :
    PySem.W.WalkO q loose XP YP l.row.toRowW d [] (fun f vs => PySem.call f vs) := by
  refine Att.attach_call hn hdf fun w s₀ s₁ mg mb fa o pm cd doc a vs ns G Y ho hd hcd hmg hobj hints hlen hg => ?_
  obtain ⟨fd, hb, hF⟩ := F w mg fa _ (hY w _ Y) G.T.g hmg
  exact law_callGT (hY w _ Y) G.T.g G.T.b G.T.builtins G.T.nolimit hg (hT w _ Y) (nT w) (hC w _ (hY w _ Y)) G.T.bmain hobj hints (Nat.le_trans hlen hn2) hr hF hb (fun H hH hS hf => hsp w H a ns hlen hH hS hf) fun H e s' => hcx w H s₁ e s'
end Gu
namespace Cw
open PySem PySem.Spec PyProof.Rows L2 Gu
theorem law_startT {K : PySem.W.Frag} {S : List C → List HC → KC → Prop} {H : Hp} {a T : Addr} {q : Str} {ns : List Int} (hT : H T = some (.tbl #[])) (hS : SqL K H a (ns.map V.int)) (h : S [.d (.list (ns.map PyData.int))] [(T, .tab q)] fun c _ => c = .d (.bool true)) : spC K S [.ref a] H (fun v _ => v = .bl true) fun _ _ _ => False := by
  let B : Hp := fun b => if b = T then none else H b
  have bn : ∀ b, b ≠ T → B b = H b := fun b n => if_neg n
  have hB : SqL K B a (ns.map V.int) := by
    rcases hS with hS | hS
    · refine .inl ?_
      rcases hS with e | ⟨o, e⟩
      · exact .inl (by rw [bn a (fun z => by rw [z, hT] at e; cases e)]; exact e)
      · exact .inr ⟨o, by rw [bn a (fun z => by rw [z, hT] at e; cases e)]; exact e⟩
    · exact .inr hS
  refine ⟨B, [.d (.list (ns.map PyData.int))], [(T, .tab q)], [], _, ⟨⟨_, rfl, .lst hB ?_⟩, trivial⟩, ⟨fun b o e => ?_, fun p hp => ?_, by simp⟩, h, fun v c hs2 B2 H2 _ s2 E hk => ?_⟩
  · clear hS h hB
    induction ns with
    | nil => exact .nil
    | cons n ns ih => exact .cons (.int n) ih
  · by_cases hb : b = T
    · have e' : B b = none := if_pos hb
      rw [e'] at e
      cases e
    · rw [bn b hb] at e
      exact e
  · have hp' : p ∈ [(T, MO.tab q)] := by simpa using hp
    rw [List.mem_singleton.mp hp']
    refine ⟨if_pos rfl, _, hT, #[], rfl, trivial, fun pos cv z => ?_⟩
    have z' : codeAmong pos [] = some cv := z
    simp [codeAmong] at z'
  · subst hk
    exact Option.some.inj s2.bl
end Cw
/-! max(xs, default=d); a def with a table. -/
namespace Cw
open PySem PySem.Spec PyProof.Rows L2 Gu
def maxDef (d : Int) : List Int → Int
  | [] => d
  | n :: r => r.foldl max n
def rMaxDef (K : PySem.W.Frag) : List V → List V → Hp → VK → Prop := fun xs zs H Q => ∃ (a : Addr) (ns : List Int) (d : Int), xs = [.ref a] ∧ zs = [.int d] ∧ SqL K H a (ns.map V.int) ∧ Q (.int (maxDef d ns)) H
theorem depthAll_int : ∀ ns : List Int, PyData.depthAll (ns.map PyData.int) ≤ 2
  | [] => Nat.le_of_ble_eq_true rfl
  | n :: ns => by
    have e : PyData.depthAll ((n :: ns).map PyData.int) = max (PyData.int n).depth (PyData.depthAll (ns.map PyData.int)) := rfl
    rw [e]
    exact Nat.max_le.mpr ⟨Nat.le_of_ble_eq_true rfl, depthAll_int ns⟩
section
variable {X : Cx}
theorem reads_ints {h : Heap} : ∀ {vs : List Value} {ns : List Int}, Vals (ns.map V.int) vs → ∃ as, ReadsAll h vs (ns.map PyData.int) as
  | [], [], .nil => ⟨_, .nil⟩
  | _, n :: ns, .cons r rs => by
    obtain ⟨t, rfl⟩ := r
    obtain ⟨as, q⟩ := reads_ints rs
    exact ⟨_, .cons (.int _ _) q⟩
theorem cr_maxDef {K : PySem.W.Frag} (hc : X.calm = true) (hu : X.A.units + 64 < cLine) (hK : X.K = K := by rfl) : CallRK X (.builtin "max") [Str.ofString "default"] (rMaxDef K) := by
  subst hK
  intro pins s σ H xs zs us ws Q I r rz h
  obtain ⟨a, ns, d, rfl, rfl, hs, q⟩ := h
  obtain rfl := Vals.ref1 r
  obtain ⟨w1, rfl, e1⟩ := vals1 rz
  obtain ⟨td, rfl⟩ := e1
  obtain ⟨its, rv, hl, hz⟩ := I.list hs
  obtain ⟨as, hr⟩ := reads_ints (h := s.heap) rv
  refine PySem.W.max_list_default (xs := ns.map PyData.int) (vs := its.toArray) (I.ok.hd hc) hl.isList (by simpa using hr) ⟨fun x hx y hy => ?_, fun x hx => ?_⟩ ?_ (fun e h' tk k => ?_) (fun y ys i v h' tk bs e hi rd k => ?_)
  · obtain ⟨m, _, rfl⟩ := List.mem_map.mp hx
    obtain ⟨m', _, rfl⟩ := List.mem_map.mp hy
    rfl
  · obtain ⟨m, _, rfl⟩ := List.mem_map.mp hx
    intro z
    cases z
  · have := depthAll_int ns
    omega
  · obtain rfl : ns = [] := List.map_eq_nil_iff.mp e
    exact ⟨.int d, H, I.kept k, ⟨_, rfl⟩, q⟩
  · match ns, e with
    | n :: r, e =>
      obtain ⟨rfl, rfl⟩ := List.cons.inj e
      rw [PySem.W.maxD_ints] at rd
      cases rd
      exact ⟨.int (maxDef d (n :: r)), H, I.kept k, ⟨_, rfl⟩, q⟩
end
section
variable {K : PySem.W.Frag} {cs : List C} {hs : List HC} {k : KC} {t tk : TA}
def RAK (K : PySem.W.Frag) (r : List V → List V → Hp → VK → Prop) (cl zl : List C) (hs : List HC) (k : KC) : Prop := ∀ (B H : Hp) (fh : List HC) (vs zs : List V), VsOk K B vs cl → VsOk K B zs zl → En K B H (hs ++ fh) → ∀ Q : VK,
  (∀ v c hs2 B2 H2, Ex B B2 → Sl K B2 (some v) c → En K B2 H2 (hs2 ++ fh) → k c hs2 → Q v H2) → r vs zs H Q
theorem we_ckw {r : List V → List V → Hp → VK → Prop} (h : WA K t cs hs fun cl h1 => WA K tk cs h1 fun zl h2 => RAK K r cl zl h2 k) : WE K (tCKw r t tk) cs hs k := by
  intro B H σ fh s E Q q
  refine h B H σ fh s E _ fun vs cl h1 B1 H1 x1 s1 E1 g => ?_
  refine g B1 H1 σ fh (s.mono x1) E1 _ fun zs zl h2 B2 H2 x2 s2 E2 g2 => ?_
  exact g2 B2 H2 fh vs zs (s1.mono x2) s2 E2 Q fun v c hs2 B3 H3 x3 s3 E3 hk => q v c hs2 B3 H3 (ex_trans (ex_trans x1 x2) x3) s3 E3 hk
theorem ra_maxDef {c : C} {ns : List Int} {d : Int} (ha : As hs c (.list (ns.map PyData.int))) (hk : k (.d (.int (maxDef d ns))) hs) : RAK K (rMaxDef K) [c] [.d (.int d)] hs k := by
  intro B H fh vs zs sv sz E Q q
  match vs, sv, zs, sz with
  | [v], ⟨s1, _⟩, [z], ⟨s2, _⟩ =>
    obtain ⟨a, xs, rfl, hq, hd⟩ := ha.rl s1 E
    rw [dpAll_ints hd] at hq
    have ez := s2.int
    have ez : z = .int d := Option.some.inj ez
    subst ez
    exact ⟨a, ns, d, rfl, rfl, hq, q _ (.d (.int _)) hs B H ex_refl ⟨_, rfl, .int _⟩ E hk⟩
end
section
variable {P : Program} {w : World} {K : PySem.W.Frag} {mg : Str → Option Value} {base : Heap}
/-- a def whose code object stands at c -/
theorem okCT {x ql : Str} {st : Stmt} {f c : Addr} {fd : FuncData} {N ps : List Str} {k n : Nat} {S : List C → List HC → KC → Prop} (F : Fun K x ql st f fd) (hc : fd.code = .ref c) (Sc : FnScope N ps (defScope st)) (hN : N.length = n) (len : ∀ cl hs kk, S cl hs kk → cl.length = ps.length)
    (hb : ∀ (A : Around) (out : List PySem.Env) (s : Shared) (H : Hp) (E : XK), Room k (A.deeper (envOfC ql (defScope st) s.heap.objs.size f (.ref c))) →
      ∃ t, PSs (cxOf CX0 P w K mg base N ql (defScope st) f (.ref c) A out s H E).nox (defBody st) t ∧ ∀ cl hs kk, S cl hs kk → Body K (n - cl.length) cl hs kk t) : FnOk P w K mg base CX0 (k + 1) f fd ps (spC K S) := by
  obtain ⟨oc, od, kV, dc, pm, an, cdv, ct, osl, rfl, lk, hcd⟩ := F.ex
  have hc : cdv = .ref c := hc
  subst hc
  refine L2.fn_of lk hcd Sc (fun vs H Q E h => ?_) (fun A out s H vs Q E hr h => ?_)
  · obtain ⟨B, cl, hs, fr, kk, lv, _, hS, _⟩ := h
    rw [lv.len]
    exact len cl hs kk hS
  · obtain ⟨t, ht, hq⟩ := hb A out s H E hr
    exact ⟨t, ht.nox, sp_body hN h hq⟩
end
end Cw
/-! D.get(k, d) of a written dict of the module, its keys texts. -/
namespace Cw
open PySem PySem.Spec PyProof.Rows L2 Gu
/-- a written dict of the module, its keys texts -/
def KDic (K : PySem.W.Frag) (w : World) (p : Addr) : Prop := ∃ es n, K.lookup p = some ⟨.type "dict", none, .dict es n, #[]⟩ ∧ PySem.W.KeysLit w.params es.toList ∧ (p == sysModules) = false
def tKGet (K : PySem.W.Frag) (p : Addr) (ty tx : TE) : TE := fun σ H Q => ty σ H fun y H2 => tx σ H2 fun z H3 => ∃ s : Str, y = .str s ∧ ((∃ v u, PySem.W.nsIn K p s = some (some u) ∧ RelV v u ∧ Q v H3) ∨ (PySem.W.nsIn K p s = some none ∧ Q z H3))
section
variable {X : Cx}
theorem pe_kget {nm : Str} {p : Addr} {e f : Expr} {p1 apos cpos : Pos} {ty tx : TE} (D : KDic X.K X.w p) (hg : Gl X nm) (hm : X.mg nm = some (.ref p)) (he : PE X e ty) (hf : PE X f tx) (m : M2 X (.Name nm p1) "get" apos e f cpos) (hdb : (nm == ("__debug__" : Str)) = false := by decide) :
    PE X (.Call (.Attribute (.Name nm p1) "get" apos) [e, f] [] cpos) (tKGet X.K p ty tx) := by
  refine ⟨fun pins s σ H Q I h => ?_⟩
  obtain ⟨es, n, hl, hk, hsm⟩ := D
  refine wpAny_Call_method m.base m.few m.line PySem.F.plainAttrs_dict PySem.F.slot_dict_get PySem.F.type_dict_get (ld_glob I hg hm ?_ hdb)
  have hmp := PySem.W.mapOf_K (prog := X.prog) (w := X.w) I.kIn hl hk
  refine ⟨hmp.typeIs, fun b q => ?_, ?_⟩
  · cases q
    exact ⟨_, I.kIn p _ hl, rfl⟩
  rw [m.trees]
  refine Calls.callWith_builtin rfl (Calls.evalArgs_plain (Calls.spliced_cons (thn (he.run pins s σ H _ I h) fun iv s2 ⟨y, H2, I2, ry, q2⟩ =>
    Calls.spliced_cons (thn (hf.run pins s2 σ H2 _ I2 q2) fun fv s3 ⟨z, H3, I3, rz, s0, ey, q3⟩ => Calls.spliced_nil ?_))))
  subst ey
  obtain ⟨t, rfl⟩ := ry
  have hmp3 := PySem.W.mapOf_K (prog := X.prog) (w := X.w) I3.kIn hl hk
  refine call_meetsIn PySem.F.slot_dict_get hmp3.typeIs PySem.F.entry_dict_get (PySem.F.args_dict_get_3 _ _ _) (meets_dict_get_default (strKind X.prog X.w) p (PySem.strKind_is X.prog X.w s0 t) hsm fv) ⟨_, hmp3, ?_⟩
  rcases q3 with ⟨v, u, e1, ru, q⟩ | ⟨e1, q⟩
  · have ef := PySem.W.find_K hl e1
    rw [ef]
    exact ⟨v, H3, I3.tok _, ru, q⟩
  · have ef := PySem.W.find_K hl e1
    rw [ef]
    exact ⟨z, H3, I3.tok _, rz, q⟩
end
section
variable {K : PySem.W.Frag} {cs : List C} {hs : List HC} {k : KC} {ty tx : TE}
theorem we_kget {p : Addr} (h : WE K ty cs hs fun c1 h1 => WE K tx cs h1 fun c2 h2 => ∃ s : Str, c1 = .d (.str s) ∧ ((∃ (i : Int) (t : Tok), PySem.W.nsIn K p s = some (some (.int i t)) ∧ k (.d (.int i)) h2) ∨ (PySem.W.nsIn K p s = some none ∧ k c2 h2))) : WE K (tKGet K p ty tx) cs hs k := by
  intro B H σ fh s E Q q
  refine h B H σ fh s E _ fun v c1 h1 B1 H1 x1 s1 E1 g => ?_
  refine g B1 H1 σ fh (s.mono x1) E1 _ fun z c2 h2 B2 H2 x2 s2 E2 ⟨s0, ec, g2⟩ => ?_
  subst ec
  have ev := (s1.mono x2).dp
  cases ev
  refine ⟨s0, rfl, ?_⟩
  rcases g2 with ⟨i, t, e1, hk⟩ | ⟨e1, hk⟩
  · exact .inl ⟨.int i, _, e1, ⟨t, rfl⟩, q _ (.d (.int i)) h2 B2 H2 (ex_trans x1 x2) ⟨_, rfl, .int i⟩ E2 hk⟩
  · exact .inr ⟨e1, q z c2 h2 B2 H2 (ex_trans x1 x2) s2 E2 hk⟩
/-- the numbers a .. b - 1 -/
def rangeI (a b : Int) : List Int := (List.range (b - a).toNat).map fun i : Nat => a + (i : Int)
theorem we_tupRg2 {te tf : TE} (h : WE K te cs hs fun c1 h1 => WE K tf cs h1 fun c2 h2 => ∃ a b : Int, c1 = .d (.int a) ∧ c2 = .d (.int b) ∧ RgOk a b ∧ k (.d (.tuple ((rangeI a b).map PyData.int))) h2) : WE K (tTupRg (tRg2 te tf)) cs hs k := by
  intro B H σ fh s E Q q
  refine h B H σ fh s E _ fun v c1 h1 B1 H1 x1 s1 E1 g => ?_
  refine g B1 H1 σ fh (s.mono x1) E1 _ fun z c2 h2 B2 H2 x2 s2 E2 ⟨a, b, e1, e2, ok, hk⟩ => ?_
  subst e1
  subst e2
  cases (s1.mono x2).int
  cases s2.int
  refine ⟨a, b, rfl, rfl, ok, fun p hp => ?_⟩
  have hd := dp_rgV (K := K) (B := upd B2 p (.tup (rgV a b))) a b
  have e : ((rangeI a b).map PyData.int) = (List.range (b - a).toNat).map fun i : Nat => PyData.int (a + (i : Int)) := by
    unfold rangeI
    rw [List.map_map]
    rfl
  rw [e] at hk
  exact q (.ref p) (.d (.tuple _)) h2 _ _ (ex_trans (ex_trans x1 x2) (Evl.Ex.new (free_of E2.bh hp))) ⟨_, rfl, .tup (.inl (.inl upd_same)) hd⟩ (E2.newF hp) hk
end
end Cw
/-! y not in d, y any tuple of numbers and texts. -/
namespace Cw
open PySem PySem.Spec PyProof.Rows L2 Gu
theorem dpAll_kV {K : PySem.W.Frag} {H : Hp} : ∀ {xs : List V} {ks : List Key}, DpAll K H xs (ks.map keyD) → xs = ks.map kV
  | [], [], _ => rfl
  | x :: xs, .inl n :: ks, .cons h1 h2 => by
    cases h1
    rw [dpAll_kV h2]
    rfl
  | x :: xs, .inr s :: ks, .cons h1 h2 => by
    cases h1
    rw [dpAll_kV h2]
    rfl
def tDNotInS (K : PySem.W.Frag) (ty td : TE) : TE := fun σ H Q => ty σ H fun y H1 => td σ H1 fun x H2 => ∃ a b kvs ks, x = V.ref a ∧ y = V.ref b ∧ Rd H2 a (.dT kvs) ∧ SqT K H2 b (ks.map kV) ∧ Q (.bl (!(valV kvs ks).isSome)) H2
section
variable {X : Cx} {i o : Expr} {ty td : TE}
theorem pc_dnotinS (hu : X.A.units + 1 < cLine) (hi : PE X i ty) (ho : PE X o td) : PC X .NotIn i o (tDNotInS X.K ty td) := by
  refine ⟨fun pins s σ H Q I h => ?_⟩
  refine thn (hi.run pins s σ H _ I h) fun iv s1 ⟨y, H1, I1, ry, q1⟩ => thn (ho.run pins s1 σ H1 _ I1 q1) fun u s2 ⟨x, H2, I2, rx, a, b, kvs, ks, ex, ey, e, eb, q2⟩ => ?_
  subst ex
  subst ey
  obtain rfl : u = Value.ref a := rx
  obtain rfl : iv = Value.ref b := ry
  obtain ⟨z, hd, xs, rel, dd⟩ := dt_rd I2.hok e
  obtain ⟨its, r, ⟨ob, h1, h2, n, h3⟩, _⟩ := I2.tuple eb
  have hk : (tupleKind (mixKind X.prog X.w)).is s2.heap ks b := ⟨ob, its.toArray, n, h1, h2, h3, by simpa using items_are r⟩
  refine wpAny_notIn_heap (tupleKind_room_in1 hu) hk hd dd ?_
  have q := (rel.val ks).isSome_eq
  rw [Option.isSome_map] at q
  rw [← q]
  exact ⟨.bl _, H2, I2.tok _, rfl, q2⟩
end
section
variable {K : PySem.W.Frag} {cs : List C} {hs : List HC} {k : KC} {ty td : TE}
theorem we_dnotinS (h : WE K ty cs hs fun c h1 => ∃ ks : List Key, c = .d (.tuple (ks.map keyD)) ∧ WE K td cs h1 fun co h2 => ∃ a, co = .r a ∧ At h2 a fun _ mo => IsDt mo fun kvs => k (.d (.bool (!(valC kvs ks).isSome))) h2) : WE K (tDNotInS K ty td) cs hs k := by
  intro B H σ fh s E Q q
  refine h B H σ fh s E _ fun v c h1 B1 H1 x1 s1 E1 ⟨ks, e, g⟩ => ?_
  subst e
  refine g B1 H1 σ fh (s.mono x1) E1 _ fun x co h2 B2 H2 x2 s2 E2 ⟨a, e, i, mo, hi, kvs, em, hk⟩ => ?_
  subst e
  subst em
  have ev : x = V.ref a := Option.some.inj s2
  subst ev
  obtain ⟨nb, u, hu, ps, rfl, kv⟩ := E2.own hi
  have hd := (s1.mono x2).dp
  cases hd with
  | tup hs ha =>
    rw [dpAll_kV ha] at hs
    refine ⟨a, _, ps, ks, rfl, rfl, .inl hu, Evl.ex_t E2.bh hs, ?_⟩
    rw [kv_some kv]
    exact q _ (.d (.bool _)) h2 B2 H2 (ex_trans x1 x2) ⟨_, rfl, .bl _⟩ E2 hk
end
end Cw
/-! Calls by keywords alone of defs with the repr guard; two and three keywords, backwards. -/
namespace Cw
open PySem PySem.Spec PyProof.Rows L2 Gu
def CalGK (P : Program) (w : World) (K : PySem.W.Frag) (mg : Str → Option Value) (base : Heap) (lvl : Nat) (x : Str) (ps ks : List Str) (g : List Value → List Value → List Value) (gV : List V → List V → List V) (S : List C → List HC → KC → Prop) : Prop :=
  ∃ (a : Addr) (fd : FuncData), FnG P w K mg base CX0 lvl a fd ps (spC K S) ∧ mg x = some (.ref a) ∧ PySem.W.keepIn K (.ref a) = true ∧ KBinds K fd ps ks g gV
section
variable {X : Cx} {cx : CXT} {k : Nat} {f : Addr} {fd : FuncData} {ps ks : List Str} {sp : Sp} {E : XK} {g : List Value → List Value → List Value} {gV : List V → List V → List V}
theorem run_GK {pins : List (Addr × Obj)} {σ : L2.St} {H : Hp} {s : Shared} {Q : VK} {us ws : List Value} {vs zs : List V} (F : FnG X.prog X.w X.K X.mg X.base cx k f fd ps sp) (hr : Room k X.A) (hgd : X.A.guards = some []) (hb : KBinds X.K fd ps ks g gV) (hx : Passes cx X E)
    (I : Inv X pins σ H s) (r : Vals vs us) (rz : Vals zs ws) (h : sp (gV vs zs) H Q E) : wpAny (model X.prog X.w) X.A (call (.ref f) us (ks.zip ws)) (EP X pins σ Q) X.xe s := by
  have r2 := hb.rel r rz
  have hl : (g us ws).length = ps.length := by rw [← r2.length]; exact F.len _ _ _ _ h
  refine wpAny_call (codeAny_mono (F.run X.A X.stack s H ⟨us, ks.zip ws⟩ (g us ws) (gV vs zs) Q E hr hgd I.env0 (hb.to s us ws I.kIn hl) r2 h) fun res s' hq => ?_)
  match res, hq with
  | .error e, hq => exact hx pins σ H s e s' I hq
  | .ok (.ret u), hq => exact I.after hq
end
section
variable {X : Cx} {K : PySem.W.Frag} {lvl : Nat} {x : Str} {ps : List Str} {S : List C → List HC → KC → Prop} {p pos : Pos}
theorem pe_calGK0 {ks : List Str} {g : List Value → List Value → List Value} {gV : List V → List V → List V} {kws : List Keyword} {tk : TA} (C : CalGK X.prog X.w X.K X.mg X.base lvl x ps ks g gV S) (hr : Room lvl X.A) (hgd : X.A.guards = some []) (hg : Gl X x) (hkw : PK X kws tk) (hK : X.K = K := by rfl)
    (hall : (backToKw pos (keywordEach kws X.env)).all (·.1.isSome) = true := by rfl) (hks : (backToKw pos (keywordEach kws X.env)).filterMap (·.1) = ks := by rfl) (hdb : (x == ("__debug__" : Str)) = false := by decide)
    (hpl : ((backTo pos (starEach [] X.env)).any (·.1) || (backToKw pos (keywordEach kws X.env)).any (·.1.isNone)) = false := by rfl) :
    PE X (.Call (.Name x p) [] kws pos) (tCalK0 (spC K S) gV tk) := by
  subst hK
  obtain ⟨a, fd, F, hm, hk, hb⟩ := C
  refine ⟨fun pins s σ H Q I h => wpAny_Call_Name_kw (ld_glob I hg hm ?_ hdb)⟩
  refine PySem.W.callWith_KW0 (h₀ := X.base) I.ok.mod.kin hk hall (thn (hkw.run pos pins s σ H _ I h) fun ws s2 ⟨zs, H2, I2, rz, q2⟩ => ⟨I2.kIn, ?_⟩) hpl
  rw [hks]
  exact run_GK (us := []) (vs := []) F hr hgd hb pass0 I2 .nil rz q2
end
section
variable {K : PySem.W.Frag} {cs : List C} {hs : List HC} {k : KC}
theorem we_calK3 {S : List C → List HC → KC → Prop} {gV : List V → List V → List V} {tk : TA} (hgv : ∀ a b c, gV [] [a, b, c] = [c, b, a]) (h : WA K tk cs hs fun cl h1 => ∃ c1 c2 c3, cl = [c1, c2, c3] ∧ CallS S [c3, c2, c1] h1 k) : WE K (tCalK0 (spC K S) gV tk) cs hs k := by
  intro B H σ fh s E Q q
  refine h B H σ fh s E _ fun vs cl h1 B1 H1 x1 s1 E1 ⟨c1, c2, c3, e, hc⟩ => ?_
  subst e
  match vs, s1 with
  | [a, b, c], ⟨s1, s2, s3, _⟩ =>
    rw [hgv]
    exact hc.run (vs := [c, b, a]) ⟨s3, s2, s1, trivial⟩ E1 fun v c hs2 B2 H2 x2 s2 E2 hk => q v c hs2 B2 H2 (ex_trans x1 x2) s2 E2 hk
end
end Cw
/-! t + u of tuples that are data. -/
namespace Cw
open PySem PySem.Spec PyProof.Rows L2 Gu
section
variable {X : Cx} {K : PySem.W.Frag} {hs : List HC} {k : KC} {ds es : List PyData}
theorem op_catTK (hK : X.K = K := by rfl) : OpR X (binaryOp .Add) (rCatA K) := hK ▸ op_catA
theorem rd_catTup (hz : ds.length + es.length ≤ 100000) (hk : k (.d (.tuple (ds ++ es))) hs) : RD K (rCatA K) (.d (.tuple ds)) (.d (.tuple es)) hs k := by
  intro B H fh v1 v2 s1 s2 E Q q
  obtain ⟨a, xs, rfl, hq, ha⟩ := dp_tup s1.dp
  obtain ⟨b, ys, rfl, hq2, ha2⟩ := dp_tup s2.dp
  refine ⟨a, b, xs, ys, rfl, rfl, Evl.ex_t E.bh hq, Evl.ex_t E.bh hq2, Evl.sz_of (by rw [ha.len, ha2.len]; exact hz), fun e => ?_, fun e1 e2 => ?_, fun e1 e2 p hp => ?_⟩
  · subst e
    cases ha
    exact q _ (.d (.tuple es)) hs B H ex_refl s2 E hk
  · subst e2
    cases ha2
    rw [List.append_nil] at hk
    exact q _ (.d (.tuple ds)) hs B H ex_refl s1 E hk
  · exact q (.ref p) (.d (.tuple (ds ++ es))) _ _ _ (Evl.Ex.new (free_of E.bh hp)) ⟨_, rfl, .tup (.inl (.inl upd_same)) (dpAll_mono (Evl.Ex.new (free_of E.bh hp)) _ _ (dpAll_app ha ha2))⟩ (E.newF hp) hk
end
end Cw
/-! Texts: split, join, slices, signs, int(text), walks over signs, enumerate, chained comparisons, tuples of the module. -/
namespace Cw
open PySem PySem.Spec PyProof.Rows L2 Gu
/-- the signs of a text, each as a text -/
def sgn (c : Nat) : Str := ⟨#[c]⟩
def sgnsD (z : Str) : List PyData := z.cps.toList.map fun c => .str (sgn c)
section
variable {K : PySem.W.Frag} {B : Hp}
theorem dpAll_strs : ∀ {ys : List Str} {xs : List V}, DpAll K B xs (ys.map PyData.str) → xs = ys.map V.str
  | [], _, h => by cases h; rfl
  | y :: ys, _, h => by
    cases h with
    | cons h1 h2 =>
      cases h1
      rw [dpAll_strs h2]
      rfl
theorem strs_dpAll : ∀ ys : List Str, DpAll K B (ys.map V.str) (ys.map PyData.str)
  | [] => .nil
  | _ :: ys => .cons (.str _) (strs_dpAll ys)
end
abbrev rSplS : V → List V → Hp → VK → Prop := fun x xs H Q => ∃ a b, x = .str a ∧ xs = [.str b] ∧ (b.length == 0) = false ∧ a.length + 2 ≤ sizeLine ∧ rNewStrs (Txt.split a b) H Q
abbrev rJoinS (K : PySem.W.Frag) : V → List V → Hp → VK → Prop := fun x xs H Q => ∃ a p, ∃ ys : List Str, x = .str a ∧ xs = [.ref p] ∧ (SqL K H p (ys.map V.str) ∨ SqT K H p (ys.map V.str)) ∧ (ys.map (·.length)).sum + ys.length * a.length ≤ 16777216 ∧ Q (.str (Txt.join a ys)) H
abbrev rInSg : R2 := fun x y H Q => ∃ (c : Nat) (z : Str), x = .str ⟨#[c]⟩ ∧ y = .str z ∧ Q (.bl (decide (c ∈ z.cps.toList))) H
abbrev rLenS : List V → Hp → VK → Prop := fun xs H Q => ∃ z, xs = [.str z] ∧ z.length ≤ sizeLine ∧ Q (.int z.length) H
abbrev rIntS : List V → Hp → VK → Prop := fun xs H Q => ∃ a n, xs = [.str a] ∧ PySem.intText? a = some n ∧ a.length ≤ 640 ∧ Q (.int n) H
section
variable {X : Cx} {K : PySem.W.Frag} {o e : Expr} {to te : TE} {apos pos : Pos}
theorem pe_splitC (ho : PE X o to) (he : PE X e te) (hs : starEach [e] X.env = [(false, eval e X.env)] := by rfl) (hbase : attributeBase o "split" X.env (eval o X.env) = eval o X.env := by rfl) (hline : (apos.endLine == pos.line) = true := by rfl) :
    PE X (.Call (.Attribute o "split" apos) [e] [] pos) (tM1 rSplS to te) := pe_split ho he hs hbase hline
theorem pe_joinC (ho : PE X o to) (he : PE X e te) (hK : X.K = K := by rfl) (hs : starEach [e] X.env = [(false, eval e X.env)] := by rfl) (hbase : attributeBase o "join" X.env (eval o X.env) = eval o X.env := by rfl) (hline : (apos.endLine == pos.line) = true := by rfl) :
    PE X (.Call (.Attribute o "join" apos) [e] [] pos) (tM1 (rJoinS K) to te) := hK ▸ pe_join ho he hs hbase hline
theorem op_inSg : OpR X (compareOp .In) rInSg := op_in_sign
theorem cr_lenS : CallR X (.builtin "len") rLenS := call_len_str
theorem cr_intS : CallR X (.type "int") rIntS := call_int_str
/-- a tuple of the module -/
def KTup (K : PySem.W.Frag) (p : Addr) (ds : List PyData) : Prop := ∀ B : Hp, Dp K B (.ref p) (.tuple ds)
theorem pe_ktup {x : Str} {p : Addr} (hg : Gl X x) (hm : X.mg x = some (.ref p)) (hd : (x == ("__debug__" : Str)) = false := by decide) : PE X (.Name x pos) (tC (.ref p)) := pe_glob hg hm rfl hd
theorem pi_enumK {ta : TA} {p tpos : Pos} {elts : List Expr} {kk : Nat} (hg : Gl X "enumerate") (hm : X.mg "enumerate" = none) (ha : PA X [e] ta) (hK : X.K = K := by rfl) (hs : starEach [e] X.env = [(false, eval e X.env)] := by rfl) :
    PI X (.Tuple elts kk tpos) (.Call (.Name "enumerate" p) [e] [] pos) (iEnum K ta) := hK ▸ pi_enum hg hm ha hs
theorem pg_lstK {es : List Expr} {k : Nat} {t : TGs} {n : Nat} (hc : X.calm = true) (h : PGs X es t) (hK : X.K = K := by rfl) (hn : (assignEach es X.env).length = n := by rfl) (hst : (assignEach es X.env).findIdx? (·.1) = none := by rfl) :
    PG X (.Tuple es k pos) (gLst K n t) := hK ▸ pg_lst hc h hn hst
end
section
variable {K : PySem.W.Frag} {B0 : Hp} {cs : List C} {hs fh : List HC} {k : KC} {to te ta tb tc : TE} {to1 to2 : TO} {tr : TA}
theorem we_split (h : WE K to cs hs fun c1 h1 => ∃ a : Str, c1 = .d (.str a) ∧ WE K te cs h1 fun c2 h2 => ∃ b : Str, c2 = .d (.str b) ∧ (b.length == 0) = false ∧ a.length ≤ 1000000 ∧ k (.d (.list ((Txt.split a b).map PyData.str))) h2) : WE K (tM1 rSplS to te) cs hs k := by
  intro B H σ fh s E Q q
  refine h B H σ fh s E _ fun v c1 h1 B1 H1 x1 s1 E1 ⟨a, e1, g⟩ => ?_
  subst e1
  have ev := s1.dp
  cases ev
  refine ⟨⟨a, rfl⟩, ?_⟩
  refine g B1 H1 σ fh (s.mono x1) E1 _ fun z c2 h2 B2 H2 x2 s2 E2 ⟨b, e2, hb, ha, hk⟩ => ?_
  subst e2
  have ez := s2.dp
  cases ez
  refine ⟨a, b, rfl, rfl, hb, by have : sizeLine = 16777216 := rfl; omega, fun p hp => ?_⟩
  exact q (.ref p) (.d (.list _)) h2 _ _ (ex_trans (ex_trans x1 x2) (Evl.Ex.new (free_of E2.bh hp))) ⟨_, rfl, .lst (.inl (.inl upd_same)) (strs_dpAll _)⟩ (E2.newF hp) hk
theorem we_join (h : WE K to cs hs fun c1 h1 => ∃ a : Str, c1 = .d (.str a) ∧ WE K te cs h1 fun c2 h2 => ∃ ys : List Str, (As h2 c2 (.list (ys.map PyData.str)) ∨ c2 = .d (.tuple (ys.map PyData.str))) ∧ (ys.map (·.length)).sum + ys.length * a.length ≤ 16777216 ∧ k (.d (.str (Txt.join a ys))) h2) : WE K (tM1 (rJoinS K) to te) cs hs k := by
  intro B H σ fh s E Q q
  refine h B H σ fh s E _ fun v c1 h1 B1 H1 x1 s1 E1 ⟨a, e1, g⟩ => ?_
  subst e1
  have ev := s1.dp
  cases ev
  refine ⟨⟨a, rfl⟩, ?_⟩
  refine g B1 H1 σ fh (s.mono x1) E1 _ fun z c2 h2 B2 H2 x2 s2 E2 ⟨ys, hc, hz, hk⟩ => ?_
  have fin : Q (.str (Txt.join a ys)) H2 := q _ (.d (.str _)) h2 B2 H2 (ex_trans x1 x2) ⟨_, rfl, .str _⟩ E2 hk
  rcases hc with hc | rfl
  · obtain ⟨p, xs, rfl, hq, hd⟩ := hc.rl s2 E2
    rw [dpAll_strs hd] at hq
    exact ⟨a, p, ys, rfl, rfl, .inl hq, hz, fin⟩
  · obtain ⟨p, xs, rfl, hq, hd⟩ := dp_tup s2.dp
    rw [dpAll_strs hd] at hq
    exact ⟨a, p, ys, rfl, rfl, .inr (Evl.ex_t E2.bh hq), hz, fin⟩
theorem we_slS (h : WE K te cs hs fun c h1 => WO K to1 cs h1 fun lo h2 => WO K to2 cs h2 fun hi h3 => ∃ z : Str, c = .d (.str z) ∧ z.length ≤ 1000000 ∧ k (.d (.str (L2.cutS z lo hi))) h3) : WE K (tSl rSlS te to1 to2) cs hs k := by
  intro B H σ fh s E Q q
  refine h B H σ fh s E _ fun v c h1 B1 H1 x1 s1 E1 w1 => ?_
  refine w1 B1 H1 σ fh (s.mono x1) E1 _ fun lo h2 B2 H2 x2 E2 w2 => ?_
  refine w2 B2 H2 σ fh ((s.mono x1).mono x2) E2 _ fun hi h3 B3 H3 x3 E3 ⟨z, e, hz, hk⟩ => ?_
  subst e
  have ev := s1.dp
  cases ev
  exact ⟨z, rfl, by have : sizeLine = 16777216 := rfl; omega, q _ (.d (.str _)) h3 B3 H3 (ex_trans x1 (ex_trans x2 x3)) ⟨_, rfl, .str _⟩ E3 hk⟩
theorem rd_ixS {z : Str} {n : Int} {c : Nat} (hz : z.length ≤ 1000000) (he : atI z.cps.toList n = some c) (hk : k (.d (.str (sgn c))) hs) : RD K rIxS (.d (.str z)) (.d (.int n)) hs k := by
  intro B H fh v1 v2 s1 s2 E Q q
  cases s1.str
  cases s2.int
  exact ⟨z, n, c, rfl, rfl, by have : sizeLine = 16777216 := rfl; omega, he, q _ (.d (.str _)) hs B H ex_refl ⟨_, rfl, .str _⟩ E hk⟩
theorem rd_inSg {z : Str} {c : Nat} (hk : k (.d (.bool (decide (c ∈ z.cps.toList)))) hs) : RD K rInSg (.d (.str (sgn c))) (.d (.str z)) hs k := by
  intro B H fh v1 v2 s1 s2 E Q q
  cases s1.str
  cases s2.str
  exact ⟨c, z, rfl, rfl, q _ (.d (.bool _)) hs B H ex_refl ⟨_, rfl, .bl _⟩ E hk⟩
theorem ra_lenS {z : Str} (hz : z.length ≤ 1000000) (hk : k (.d (.int z.length)) hs) : RA K rLenS [.d (.str z)] hs k := by
  intro B H fh vs sv E Q q
  match vs, sv with
  | [v], ⟨s1, _⟩ =>
    cases s1.str
    exact ⟨z, rfl, by have : sizeLine = 16777216 := rfl; omega, q _ (.d (.int _)) hs B H ex_refl ⟨_, rfl, .int _⟩ E hk⟩
theorem ra_intS {z : Str} {n : Int} (hi : PySem.intText? z = some n) (hz : z.length ≤ 640) (hk : k (.d (.int n)) hs) : RA K rIntS [.d (.str z)] hs k := by
  intro B H fh vs sv E Q q
  match vs, sv with
  | [v], ⟨s1, _⟩ =>
    cases s1.str
    exact ⟨z, n, rfl, hi, hz, q _ (.d (.int _)) hs B H ex_refl ⟨_, rfl, .int _⟩ E hk⟩
theorem we_ktup {p : Addr} {ds : List PyData} (D : KTup K p ds) (hk : k (.d (.tuple ds)) hs) : WE K (tC (.ref p)) cs hs k := fun B H σ fh s E Q q => q _ (.d (.tuple ds)) hs B H ex_refl ⟨_, rfl, D B⟩ E hk
/-- a op1 b op2 c -/
theorem we_chain {r r' : R2} (h : WE K ta cs hs fun c1 h1 => WE K tb cs h1 fun c2 h2 => RD K r c1 c2 h2 fun c h3 => IsB c fun b => BB b (WE K tc cs h3 fun c3 h4 => RD K r' c2 c3 h4 k) (k (.d (.bool false)) h3)) : WE K (tChain r r' ta tb tc) cs hs k := by
  intro B H σ fh s E Q q
  refine h B H σ fh s E _ fun v1 c1 h1 B1 H1 x1 s1 E1 w1 => ?_
  refine w1 B1 H1 σ fh (s.mono x1) E1 _ fun v2 c2 h2 B2 H2 x2 s2 E2 w2 => ?_
  refine w2 B2 H2 fh v1 v2 (s1.mono x2) s2 E2 _ fun v c h3 B3 H3 x3 s3 E3 ⟨b, e, p1, p2⟩ => ?_
  subst e
  cases s3.bl
  refine ⟨b, rfl, ?_⟩
  cases b with
  | false => exact iteF (q _ (.d (.bool false)) h3 B3 H3 (ex_trans x1 (ex_trans x2 x3)) ⟨_, rfl, .bl _⟩ E3 (p2 rfl))
  | true =>
    refine iteT (p1 rfl B3 H3 σ fh (((s.mono x1).mono x2).mono x3) E3 _ fun v4 c4 h4 B4 H4 x4 s4 E4 w4 => ?_)
    exact w4 B4 H4 fh v2 v4 ((s2.mono x3).mono x4) s4 E4 Q fun v c h5 B5 H5 x5 s5 E5 hk => q v c h5 B5 H5 (ex_trans x1 (ex_trans x2 (ex_trans x3 (ex_trans x4 x5)))) s5 E5 hk
variable {ki : List C → List HC → Prop}
theorem src_signs {B1 : Hp} {z : Str} : Src K (Its z) ((sgnsD z).map C.d) B1 := by
  have hl : ((sgnsD z).map C.d).length = z.cps.size := by
    unfold sgnsD
    rw [List.length_map, List.length_map, Array.length_toList]
  intro B H e1 e2
  refine ⟨fun i hi => ?_, ?_, ?_⟩
  · rw [hl] at hi
    exact hi
  · rw [hl]
    exact Nat.le_refl _
  · rintro i x H' hi ⟨rfl, c, hc, rfl⟩
    refine ⟨B, .d (.str (sgn c)), ex_refl, ?_, ⟨_, rfl, .str _⟩, fun y E => E⟩
    unfold sgnsD
    rw [List.getElem?_map, List.getElem?_map, Array.getElem?_toList, hc]
    rfl
theorem wi_St (h : WE K te cs hs fun c h1 => ∃ z : Str, c = .d (.str z) ∧ ki ((sgnsD z).map C.d) h1) : WI K (iStr te) cs hs ki := by
  intro B H σ fh s E R r
  refine h B H σ fh s E _ fun v c h1 B1 H1 x1 s1 E1 ⟨z, e, hk⟩ => ?_
  subst e
  have ev := s1.dp
  cases ev
  exact ⟨z, rfl, r _ _ h1 B1 H1 x1 E1 src_signs hk⟩
/-- pairs of the turns' numbers and the items -/
def enumD (ds : List PyData) : List PyData := (List.range ds.length).map fun i => .tuple [.int (i : Nat), ds.getD i .none]
theorem src_enum {B1 : Hp} {a : Addr} {xs : List V} {ds : List PyData} (hq : SqL K B1 a xs) (ha : DpAll K B1 xs ds) : Src K (Ite K a) ((enumD ds).map C.d) B1 := by
  have hlen : ((enumD ds).map C.d).length = ds.length := by
    unfold enumD
    rw [List.length_map, List.length_map, List.length_range]
  intro B H e1 e2
  have hq2 : SqL K H a xs := Evl.ex_l (ex_trans e1 e2) hq
  have hl := ha.len
  refine ⟨fun i hi => ?_, ⟨xs, hq2, by rw [hlen]; omega⟩, ?_⟩
  · rw [hlen] at hi
    exact ⟨xs, xs[i]'(by omega), hq2, List.getElem?_eq_getElem (by omega)⟩
  · rintro i x H' hi ⟨T, y, rfl, hT, rfl, hy⟩
    rw [hlen] at hi
    obtain ⟨v, hv, hd⟩ := dpAll_at (j := i) ha (List.getElem?_eq_getElem hi)
    have := hy xs hq2
    rw [hv] at this
    cases this
    refine ⟨upd B T (.tup [.int (i : Nat), y]), .d (.tuple [.int (i : Nat), ds[i]]), Evl.Ex.new (free_of e2 hT), ?_, ⟨_, rfl, .tup (.inl (.inl upd_same)) (.cons (.int _) (.cons (dp_mono (ex_trans e1 (Evl.Ex.new (free_of e2 hT))) _ _ hd) .nil))⟩, fun y E => E.newF hT⟩
    unfold enumD
    rw [List.getElem?_map, List.getElem?_map, List.getElem?_range hi, Option.map_some, Option.map_some, List.getD_eq_getElem?_getD, List.getElem?_eq_getElem hi]
    rfl
theorem wi_enum (h : WA K tr cs hs fun cl h1 => ∃ ds, cl = [.d (.list ds)] ∧ ki ((enumD ds).map C.d) h1) : WI K (iEnum K tr) cs hs ki := by
  intro B H σ fh s E R r
  refine h B H σ fh s E _ fun vs cl h1 B1 H1 x1 s1 E1 ⟨ds, e, hk⟩ => ?_
  subst e
  match vs, s1 with
  | [v], ⟨s1, _⟩ =>
    have hd := s1.dp
    cases hd with
    | @lst a xs _ hq ha => exact ⟨a, xs, rfl, Evl.ex_l E1.bh hq, r _ _ h1 B1 H1 x1 E1 (src_enum hq ha) hk⟩
variable {kk : List C → Prop} {gs : TGs}
theorem wg_lst {n : Nat} {ds : List PyData} (hn : ds.length = n) (h : WGs K gs cs (ds.map .d) kk) : WG K (gLst K n gs) cs (.d (.list ds)) kk := fun B H σ v bh s sv Q q => by
  have hd := sv.dp
  cases hd with
  | lst hq ha => exact ⟨_, _, rfl, Evl.ex_l bh hq, by rw [ha.len]; exact hn, h B H σ _ bh s (VsOk.ofDp ha) Q q⟩
end
end Cw
/-! Part 43: a tuple of the module, told by evaluation. -/
namespace Cw
open PySem PySem.Spec PyProof.Rows L2 Gu
def datV : Value → Option PyData
  | .none => some .none
  | .bool b => some (.bool b)
  | .int i _ => some (.int i)
  | .str x _ => some (.str x)
  | _ => none
def datAll : List Value → Option (List PyData)
  | [] => some []
  | v :: r => match datV v, datAll r with
    | some d, some ds => some (d :: ds)
    | _, _ => none
def tupW (K : PySem.W.Frag) (p : Addr) : Option (List PyData) := match K.lookup p with
  | none => none
  | some o => match o.cls, o.data with
    | .type c, .seq its _ => if c = "tuple" ∧ its.size ≤ sizeLine then datAll its.toList else none
    | _, _ => none
theorem datV_ok {K : PySem.W.Frag} {B : Hp} {v : Value} {d : PyData} (h : datV v = some d) : ∃ x, RelV x v ∧ Dp K B x d := by
  cases v with
  | none => exact ⟨.non, rfl, Option.some.inj h ▸ .non⟩
  | bool b => exact ⟨.bl b, rfl, Option.some.inj h ▸ .bl b⟩
  | int i t => exact ⟨.int i, ⟨t, rfl⟩, Option.some.inj h ▸ .int i⟩
  | str x t => exact ⟨.str x, ⟨t, rfl⟩, Option.some.inj h ▸ .str x⟩
  | _ => cases h
theorem datAll_ok {K : PySem.W.Frag} {B : Hp} : ∀ {vs : List Value} {ds : List PyData}, datAll vs = some ds → ∃ xs, Vals xs vs ∧ DpAll K B xs ds
  | [], ds, h => by
    cases h
    exact ⟨[], .nil, .nil⟩
  | v :: r, ds, h => by
    unfold datAll at h
    cases h1 : datV v with
    | none =>
      rw [h1] at h
      cases h
    | some d =>
      cases h2 : datAll r with
      | none =>
        rw [h1, h2] at h
        cases h
      | some es =>
        rw [h1, h2] at h
        cases h
        obtain ⟨x, r1, p1⟩ := datV_ok (K := K) (B := B) h1
        obtain ⟨xs, r2, p2⟩ := datAll_ok (K := K) (B := B) h2
        exact ⟨x :: xs, .cons r1 r2, .cons p1 p2⟩
theorem ktup_of {K : PySem.W.Frag} {p : Addr} {ds : List PyData} (h : tupW K p = some ds) : KTup K p ds := by
  intro B
  unfold tupW at h
  cases q : K.lookup p with
  | none =>
    rw [q] at h
    cases h
  | some o =>
    rw [q] at h
    obtain ⟨oc, od, dt, osl⟩ := o
    cases oc with
    | type c =>
      cases dt with
      | seq its n =>
        dsimp only at h
        split at h
        · rename_i hh
          obtain ⟨hc, hz⟩ := hh
          obtain ⟨xs, r, dp⟩ := datAll_ok (K := K) (B := B) h
          exact .tup (.inr ⟨_, its, n, q, by rw [hc], rfl, hz, r⟩) dp
        · cases h
      | _ => cases h
    | _ => cases h
end Cw
/-! An own exception class whose __init__ begins with super().__init__(..): the promise of that def, from the rest of its body. -/
namespace Ec
open PySem PySem.Spec PyProof.Rows L2
abbrev sEnv (ql : Str) (sc : Scope) (L f cda cc : Addr) : PySem.Env := PySem.W.ksEnv ql sc L f (.ref cda) cc
/-- the context of the body: __class__ is a free name -/
def cxS (CX : CXT) (P : Program) (w : World) (K : PySem.W.Frag) (mg : Str → Option Value) (base : Heap) (N : List Str) (ql : Str) (sc : Scope) (f cda cc : Addr) (A : Around) (outer : List PySem.Env) (s : Shared) (H : Hp) (E : XK) : Cx where
  prog := P
  w := w
  K := K
  mg := mg
  base := base
  A := A.deeper (sEnv ql sc s.heap.objs.size f cda cc)
  N := N
  s_0 := s
  H_0 := H
  env := sEnv ql sc s.heap.objs.size f cda cc
  outer := outer
  stack := sEnv ql sc s.heap.objs.size f cda cc :: outer
  ex := []
  calm := true
  fn := fun y => y != "__class__"
  pn := []
  xe := fun e s' => wpAny (model P w) (A.deeper (sEnv ql sc s.heap.objs.size f cda cc)) (leaving (sEnv ql sc s.heap.objs.size f cda cc) e) (fun _ s'' => CX outer H s E e s'') (fun e' s'' => CX outer H s E e' s'') s'
/-- the scope of such a def -/
structure SScope (N P : List Str) (sc : Scope) : Prop where
  kind : sc.kind = .function
  co : sc.isCoroutine = false
  gen : sc.isGenerator = false
  nd : N.Nodup
  pre : N.take P.length = P
  par : ∀ x ∈ P, sc.names.lookup x = some .local
  nocell : ∀ y ∈ sc.names, y.2 ≠ .cell
  free : ∀ x, sc.names.lookup x = some .free → x = "__class__"
section
variable {CX : CXT} {P : Program} {w : World} {K : PySem.W.Frag} {mg : Str → Option Value} {base : Heap} {N ps : List Str} {ql : Str} {sc : Scope} {f cda cc : Addr} {A : Around} {outer : List PySem.Env} {s : Shared} {H : Hp} {E : XK} {us : List Value} {vs : List V}
theorem zip_fst_sub : ∀ (ps : List Str) (us : List Value), ((ps.zip us).map Prod.fst).Sublist ps
  | [], _ => by simp
  | _ :: _, [] => by simp
  | p :: ps, u :: us => by
    rw [List.zip_cons_cons, List.map_cons]
    exact (zip_fst_sub ps us).cons₂ _
theorem rev_lookup : ∀ {ps : List Str} {us : List Value} {i : Nat} {x : Str} {u : Value}, ps.Nodup → ps[i]? = some x → us[i]? = some u → (ps.zip us).reverse.lookup x = some u := by
  intro ps us i x u nd h1 h2
  have hmem : (x, u) ∈ (ps.zip us).reverse := List.mem_reverse.mpr (List.mem_of_getElem? (i := i) (by rw [List.getElem?_zip_eq_some]; exact ⟨h1, h2⟩))
  have nd2 : ((ps.zip us).reverse.map Prod.fst).Nodup := by
    rw [List.map_reverse]
    refine (List.reverse_perm _).nodup_iff.mpr ?_
    exact List.Nodup.sublist (zip_fst_sub _ _) nd
  generalize (ps.zip us).reverse = l at hmem nd2
  induction l with
  | nil => cases hmem
  | cons q l ih =>
    obtain ⟨y, v⟩ := q
    rw [List.map_cons, List.nodup_cons] at nd2
    rcases List.mem_cons.mp hmem with e | hm
    · cases e
      exact List.lookup_cons_self
    · have ne : ¬ x = y := fun e => nd2.1 (by rw [← e]; exact List.mem_map.mpr ⟨_, hm, rfl⟩)
      rw [List.lookup_cons, show (x == y) = false from by simpa using ne]
      exact ih hm nd2.2
theorem inv_startS (S : SScope N ps sc) (hd : A.handled = none) (e0 : Env0 P w K mg base A outer s H) (hl : vs.length = ps.length) (r : Vals vs us) {v0 : Value}
    (hcc : base.IsCell cc (some v0)) {h1 : Heap} {tk : Nat} (hns : h1.Ns s.heap.objs.size fun x => (ps.zip us).reverse.lookup x) (hk : ∀ b o, s.heap.get? b = some o → h1.get? b = some o) :
    Inv (cxS CX P w K mg base N ql sc f cda cc A outer s H E) [] (L2.start N vs) H { s with heap := h1, toks := tk } := by
  have hpl : ps.length ≤ N.length := by have := congrArg List.length S.pre; rw [List.length_take] at this; omega
  have noA : ∀ b : Addr, b ∉ (cxS CX P w K mg base N ql sc f cda cc A outer s H E).ex := fun b z => absurd (show b ∈ ([] : List Addr) from z) (by simp)
  have hcl : ∀ y c, (sEnv ql sc s.heap.objs.size f cda cc).cells.lookup y = some c → y = "__class__" ∧ c = cc := fun y c h => by
    have h' : List.lookup y [(("__class__" : Str), cc)] = some c := h
    rw [List.lookup_cons] at h'
    split at h'
    · rename_i e
      exact ⟨by simpa using e, (Option.some.inj h').symm⟩
    · cases h'
  obtain ⟨oc, hoc, hod⟩ := hcc
  have hcb := e0.bs cc oc hoc
  have hcc1 := hk _ _ hcb.1
  have hlt : cc < s.heap.objs.size := Heap.lt_size hcb.1
  refine ⟨⟨e0.mod, S.kind, rfl, rfl, Nat.le_refl _, fun y z c h1 h2 => ?_, fun y hy => ?_, fun y c hf h => ?_, fun _ => hd, Around.frames_deeper e0.frames, .inr ⟨rfl, rfl⟩, fun b z => absurd z (noA b), e0.bs, e0.bsz, fun b _ _ => noA b, fun b z => absurd z (noA b), e0.funs, e0.frf⟩,
    rfl, e0.bare, Un.kept hk, ⟨_, hns, fun i y v h1 h2 h3 => ?_⟩, fun y c h => ?_, e0.hok.fresh (Nat.le_refl _), fun y c h => ?_, fun p hp => absurd (show p ∈ ([] : List (Addr × Obj)) from hp) (by simp), e0.hok.kept hk, ?_⟩
  · rw [(hcl _ _ h1).1, (hcl _ _ h2).1]
  · have hy : sc.names.lookup y = some .cell ∨ sc.names.lookup y = some .free := hy
    rcases hy with hy | hy
    · exact absurd rfl (S.nocell _ (PySem.mem_of_lookup hy))
    · rw [S.free _ hy]
      exact ⟨cc, List.lookup_cons_self⟩
  · rw [(hcl _ _ h).1] at hf
    exact absurd (show (("__class__" : Str) != "__class__") = true from hf) (by decide)
  · have hi : i < vs.length := by
      unfold L2.start at h2
      by_cases hi : i < vs.length
      · exact hi
      · rw [List.getElem?_append_right (by simpa using hi)] at h2
        rw [List.getElem?_replicate] at h2
        split at h2 <;> cases h2
    have ha : vs[i]? = some v := by
      unfold L2.start at h2
      rw [List.getElem?_append_left (by simpa using hi), List.getElem?_map] at h2
      cases e : vs[i]? with
      | none => rw [e] at h2; cases h2
      | some a => rw [e] at h2; cases h2; rfl
    obtain ⟨u, hu, rv⟩ := r.get ha
    have hp : ps[i]? = some y := by
      rw [← S.pre, List.getElem?_take_of_lt (by omega)]; exact h1
    have ndP : ps.Nodup := by rw [← S.pre]; exact S.nd.sublist (List.take_sublist _ _)
    exact ⟨u, rv, .inl ⟨S.par y (List.mem_of_getElem? hp), rev_lookup ndP hp hu⟩⟩
  · obtain ⟨rfl, rfl⟩ := hcl _ _ h
    exact ⟨_, oc, hcc1, hod⟩
  · obtain ⟨rfl, rfl⟩ := hcl _ _ h
    exact hcb.2
  · unfold L2.start
    show _ = N.length
    rw [List.length_append, List.length_map, List.length_replicate]
    omega
end
end Ec
/-! The promise of __init__ whose first row is super().__init__(..). -/
namespace Ec
open PySem PySem.Spec PyProof.Rows L2
/-- what the written part says of the class and its __init__ -/
structure SupC (P : Program) (K : PySem.W.Frag) (C : Addr) (cda cc : Addr) : Prop where
  oex : OexC K C
  cell : ∃ cl cld csl, K.lookup cc = some ⟨cl, cld, .cell (some (.ref C)), csl⟩
  code : ∃ ccl cdd fv ccs file tf, K.lookup cda = some ⟨ccl, cdd, .fields fv, ccs⟩ ∧ fv[2]? = some (.str file tf) ∧ ((P.main.file : Str) == file) = true
  top : (P.main.scope.names.lookup ("super" : Str)).isSome = false
  next : PySem.W.ks_superIn K C C "__init__" = some (some (.builtin "ValueError.__init__"))
  sub : PySem.W.subIn K (.ref C) (.type "ValueError") = some true
  own : PySem.W.mroIn K C (.ref C) = some true
  stat : PySem.W.nsIn K cStatics "thirdparty.any" = some none
theorem initS_of {CX : CXT} {P : Program} {w : World} {K : PySem.W.Frag} {mg : Str → Option Value} {base : Heap} {k : Nat} {f cda cc C : Addr} {name ql : Str} {params : Arguments} {es : List Expr} {e : Expr} {rest : List Stmt} {sc : Scope} {kV doc pm ct oc : Value} {an od : Option Addr}
    {osl : Array (Option Value)} {N ps : List Str} {sp : Sp} {p0 p1 p2 p3 p4 : Pos} {ar : Arg}
    (lk : K.lookup f = some ⟨oc, od, .func (PySem.W.ksFn name ql params (.Expr (.Call (.Attribute (.Call (.Name "super" p0) [] [] p1) "__init__" p2) (e :: es) [] p3) p4 :: rest) sc .none kV doc pm an (.ref cda) ct cc), osl⟩) (hcd : PySem.W.codeIn K (.ref cda) ql = true) (T : SupC P K C cda cc)
    (S : SScope N ps sc) (hks : sc.names.lookup ("super" : Str) = some .globalImplicit) (hkc : sc.names.lookup ("__class__" : Str) = some .free) (hpar : (params.posonlyargs ++ params.args).head? = some ar) (har : ps[0]? = some ar.arg) (hmg : mg "super" = none)
    (len : ∀ vs H Q E, sp vs H Q E → vs.length = ps.length)
    (hbody : ∀ (A : Around) (outer : List PySem.Env) (s : Shared) (H : Hp) (vs : List V) (Q : VK) (E : XK), Room k (A.deeper (sEnv ql sc s.heap.objs.size f cda cc)) → sp vs H Q E →
      ∃ ta t a, PA (cxS CX P w K mg base N ql sc f cda cc A outer s H E) (e :: es) ta ∧ PSs (cxS CX P w K mg base N ql sc f cda cc A outer s H E) rest t ∧ vs[0]? = some (.ref a) ∧ H a = some (exo a C none) ∧
        ta (L2.start N vs) H fun ws H1 => ws.length ≤ 1000 ∧ H1 a = some (exo a C none) ∧ t { nx := fun _ H' => Q .non H', rt := Q } (L2.start N vs) H1)
    {pl : PySem.Env → Sem Bool}
    (hev : ∀ env, eval (.Call (.Attribute (.Call (.Name "super" p0) [] [] p1) "__init__" p2) (e :: es) [] p3) env = (do
      let ov ← attributeBase (.Call (.Name "super" p0) [] [] p1) "__init__" env (eval (.Call (.Name "super" p0) [] [] p1) env)
      standAt p2.atName
      let (f, first) ← holding [ov] (getMethod ov "__init__" (pl env))
      callWith p3 f first (backTo p3 (starEach (e :: es) env)) []) := by intro env; rfl)
    (hi : ∀ L, interactive (sEnv ql sc L f cda cc) = false := by intro L; rfl) (hst : ∀ env, starEach (e :: es) env = (false, eval e env) :: starEach es env := by intro env; rfl) (hpl : ∀ env, (backTo p3 (starEach es env)).any (·.1) = false := by intro env; rfl)
    (hsw : ∀ env, swapsWith (.Call (.Attribute (.Call (.Name "super" p0) [] [] p1) "__init__" p2) (e :: es) [] p3) none p4.line env = pure false := by intro env; rfl) :
    FnOk P w K mg base CX (k + 1) f (PySem.W.ksFn name ql params (.Expr (.Call (.Attribute (.Call (.Name "super" p0) [] [] p1) "__init__" p2) (e :: es) [] p3) p4 :: rest) sc .none kV doc pm an (.ref cda) ct cc) ps sp := by
  refine ⟨len, fun A outer s H args us vs Q E hr e0 hb r hsp => ?_⟩
  have hl := len _ _ _ _ hsp
  have KX : K.In s.heap := e0.mod.kin.keeps fun b o e => (e0.bs b o e).1
  have lim : s.heap.NoLimit := e0.mod.nolimit.keeps fun b o e => (e0.bs b o e).1
  obtain ⟨ta, t, a, hta, hts, hv0, ha, hq⟩ := hbody A outer s H vs Q E (hr.deeper _) hsp
  obtain ⟨cl, cld, csl, lcc⟩ := T.cell
  obtain ⟨ccl, cdd, fv, ccs, file, tf, lcd, hfv, hfile⟩ := T.code
  have hn0 : N[0]? = some ar.arg := by
    rw [← S.pre] at har
    cases N with
    | nil => simp at har
    | cons n N' =>
      cases ps with
      | nil => simp at har
      | cons p ps' => simpa using har
  have hl0 : sc.names.lookup ar.arg = some .local := S.par _ (List.mem_of_getElem? har)
  refine PySem.ks_codeAny_call_defAt hr.depth (KX _ _ lk) rfl lim (PySem.W.codeRec_of KX hcd) rfl hb S.nocell (fun x hx => S.par _ (List.of_mem_zip hx).1) (fun h0 hns hk => ?_) S.co S.gen S.kind
  have I : Inv (cxS CX P w K mg base N ql sc f cda cc A outer s H E) [] (L2.start N vs) H { s with heap := h0, toks := s.toks + (ps.zip us).length } :=
    inv_startS S hr.hd e0 hl r ⟨_, e0.mod.kin _ _ lcc, rfl⟩ hns hk
  have fin : ∀ {σ' : L2.St} {H' : Hp} {v : V} {u : Value} {s' : Shared}, Inv (cxS CX P w K mg base N ql sc f cda cc A outer s H E) [] σ' H' s' → RelV v u → Q v H' → CE outer P w H s Q u s' :=
    fun {σ' H' v u s'} J rv q => ⟨v, H', J.os, J.bare, J.base, J.hok, rv, q⟩
  show _root_.PySem.wpAt (model P w) (A.deeper (sEnv ql sc s.heap.objs.size f cda cc)) (.func _ (sEnv ql sc s.heap.objs.size f cda cc)) (execs _ (sEnv ql sc s.heap.objs.size f cda cc)) _ _ _
  refine PySem.ks_wpAt_execs_cons (PySem.ks_wpAt_Expr_any (PySem.ks_wpAt_MethodCall ?_ (hev _)) (hi _) (hsw _))
  let X := cxS CX P w K mg base N ql sc f cda cc A outer s H E
  have hks' : (sEnv ql sc s.heap.objs.size f cda cc).kindOf "super" = some .globalImplicit := hks
  have hkc' : (sEnv ql sc s.heap.objs.size f cda cc).kindOf "__class__" = some .free := hkc
  refine PySem.ks_wpAt_super_base (env := sEnv ql sc s.heap.objs.size f cda cc) hks' hkc' (by decide) rfl (hk _ _ (KX _ _ lk)) rfl hpar rfl (hk _ _ (KX _ _ lcd)) rfl hfv hfile T.top ?_
  obtain ⟨mb, hb1, hb2⟩ := I.mod.blt
  refine PySem.W.ks_loadName_global S.kind hks' (Calls.loadGlobal_builtin (env := sEnv ql sc s.heap.objs.size f cda cc) (I.mod.glob.keeps I.bk) hmg (hb1.keeps I.bk) ((hb2 _ (by decide)).trans (show bootBuiltins "super" = some (.type "super") by decide +kernel)) ⟨rfl, ?_⟩)
  refine wpAny_loadName_free S.kind hkc' rfl ⟨_, hk _ _ (KX _ _ lcc), rfl⟩ ?_
  obtain ⟨u0, hu0, ru0⟩ := r.get hv0
  cases ru0
  refine wpAny_loadName_local S.kind hl0 hns (rev_lookup (by rw [← S.pre]; exact S.nd.sublist (List.take_sublist _ _)) har hu0) ?_
  obtain ⟨nm, q, N', bs, bm, sn, sub, ab, col, dd, k0, k1, k2, k3, k5, hC, hbm⟩ := T.oex.cls
  have hC1 := hk _ _ (KX _ _ hC)
  obtain ⟨t1, hoa⟩ := exo_at I.hok ha
  refine PySem.ks_wpAny_isType_cls hC1 rfl ⟨rfl, ?_⟩
  refine PySem.ks_wpAny_call_super hC1 rfl hoa rfl (fun c e => by cases e) (PySem.W.looks_mroIn (KX.keeps hk) T.own) (fun h2 hso k2' => ?_)
  have I2 := I.kept (h' := h2) (t' := s.toks + (ps.zip us).length) k2'
  have KX2 : K.In h2 := KX.keeps fun b o z => k2' b o (hk b o z)
  have hcl : PySem.W.clsIn K C = some { name := nm, bases := bs, mro := .ref C :: bm, ns := N', qualname := q, hasDict := true, slotNames := sn, subclasses := sub, abstract := ab, collection := col, hasDel := false } := by unfold PySem.W.clsIn; rw [hC] <;> rfl
  have hnx : PySem.W.alongIn K "__init__" (((Value.ref C :: bm).dropWhile (· != .ref C)).drop 1) = some (some (.builtin "ValueError.__init__")) := by
    have z := T.next
    unfold PySem.W.ks_superIn at z
    rw [hcl] at z
    exact z
  have IA : PySem.W.InstAt h2 a { cls := .ref C, dict := none, data := .fields #[.ref t1, .none, .none, .none, .bool false, .none] } C none := ⟨k2' _ _ hoa, rfl, rfl, trivial⟩
  refine PySem.W.kxs_getMethod PySem.W.kxs_ValueError hso (PySem.W.looks_opaque KX2 T.stat) (l₀ := .ref C :: bm) (fun A Q E s k q => wpAny_bind ((PySem.W.looks_clsIn KX2 hcl) A _ E s k (wpAny_pure q))) rfl KX2 hnx (IA.type.andThen (PySem.W.looks_subIn KX2 T.sub)) (PySem.W.ks_ne KX2 IA hcl) (by decide) ?_
  have k3 : ∀ b o, h0.get? b = some o → (h2.push (PySem.W.kxs_mw "ValueError.__init__" a)).get? b = some o := fun b o z => Heap.get?_push_of_some _ (k2' b o z)
  have I3 := (I.kept (h' := h2.push (PySem.W.kxs_mw "ValueError.__init__" a)) (t' := s.toks + (ps.zip us).length + 1) k3)
  have hu3 : (h2.push (PySem.W.kxs_mw "ValueError.__init__" a)).get? h2.objs.size = some (PySem.W.kxs_mw "ValueError.__init__" a) := Heap.get?_push_size _ rfl
  have I3' := I3.pins_of (pins' := [(h2.objs.size, PySem.W.kxs_mw "ValueError.__init__" a)]) fun p hp => by
    obtain rfl := List.mem_singleton.mp hp
    refine ⟨hu3, I2.hok.fresh (Nat.le_refl _), Nat.ne_of_gt I2.lt, I2.nofs (Nat.le_refl _), fun v z => by cases z⟩
  have hst1 := hst (sEnv ql sc s.heap.objs.size f cda cc)
  rw [hst1]
  refine PySem.W.kxs_callWith (i := "ValueError.__init__") (x := a) (by show (false || (backTo p3 (starEach es _)).any (·.1)) = false; rw [hpl]; rfl) (Calls.evalArgs_plain ?_)
  show wpAny _ _ (spliced (backTo p3 ((false, eval e (sEnv ql sc s.heap.objs.size f cda cc)) :: starEach es (sEnv ql sc s.heap.objs.size f cda cc)))) _ _ _
  rw [← hst1]
  refine wpAny_mono (hta.run p3 _ _ _ H _ I3' hq) (fun us4 s4 h4 => ?_) fun e1 s1 z => z
  obtain ⟨ws, H4, I4, r4, hz, ha4, q4⟩ := h4
  have hu4 := (I4.pin _ (List.mem_append_right _ (List.mem_singleton.mpr rfl))).1
  refine ⟨hu4, ?_⟩
  obtain ⟨t4, hoa4⟩ := exo_at I4.hok ha4
  have hC4 := I4.kIn _ _ hC
  have hzz : us4.length ≤ sizeLine := by
    rw [← Paired.length r4, sizeLine_eq]
    omega
  obtain ⟨hp4, g4, d4, tk4, os4⟩ := s4
  refine wpAny_call (codeAny_of_tree ?_)
  show wpAny _ _ (callAny (.ref h2.objs.size) ⟨us4, []⟩) _ _ _
  simp only [callAny]
  refine wpAny_bind (wpAny_load hu4 ?_)
  simp only [PySem.W.kxs_mw, show (Value.type "method-wrapper" == Value.type "method" || Value.type "method-wrapper" == Value.type "builtin_function_or_method" || Value.type "method-wrapper" == Value.type "method-wrapper") = true by decide, if_true]
  refine PySem.W.KFB.if_so (by decide) ?_
  refine wpAny_bind (PySem.W.check_bound_init F.excBase_ValueError.toExcCallFacts hC4 hoa4 rfl ?_)
  refine wpAny_bind (wpAny_pure (wpAny_pure ?_))
  refine ⟨plainId_quiet F.excBase_ValueError.init.plain _, codeAny_builtin F.excBase_ValueError.initEntry ?_⟩
  refine PySem.W.exc_init_tree (cls := .ref C) (t0 := t4) (dv := none) (c2 := .none) (c3 := .none) (b4 := .bool false) hoa4 hzz fun h5 k5 e5 _ => ?_
  have J := I4.write (t' := tk4) (x := a) (e := a) (o := exo a C none) (by rw [ha4]; exact True.intro) (.inl rfl) k5 ⟨_, e5⟩ (exo_ok e5)
  have eu : upd H4 a (exo a C none) = H4 := by
    funext b
    by_cases hb : b = a
    · rw [hb, upd_same, ha4]
    · rw [upd_ne hb]
  rw [eu] at J
  refine wpAt_of_wpAny (wpAny_mono (hts.run [] _ _ H4 _ (J.pins_of (pins' := []) fun p hp => by cases hp) q4) (fun fl s' hs => ?_) fun e s' hs => hs)
  cases fl with
  | ret u =>
    obtain ⟨v, σ', H', J', rv, qv⟩ := hs
    exact fin J' rv qv
  | next =>
    obtain ⟨σ', H', J', qv⟩ := hs
    exact fin (v := V.non) (u := Value.none) J' rfl qv
  | brk =>
    obtain ⟨_, _, _, qv⟩ := hs
    exact False.elim qv
  | cont =>
    obtain ⟨_, _, _, qv⟩ := hs
    exact False.elim qv
end Ec
/-! What an own exception class's __init__ promises; C(..) as a value. -/
namespace Ec
open PySem PySem.Spec PyProof.Rows L2
/-- __init__ keeps its arguments under these names -/
def spIn (C : Addr) (ns : List Str) : Sp := fun vs H Q _ => ∃ (a : Addr) (ws : List V), vs = .ref a :: ws ∧ ws.length = ns.length ∧ H a = some (exo a C none) ∧
  ∀ dx, H dx = none → dx ≠ a → Q .non (upd (upd H dx (exd dx (ns.zip ws).reverse)) a (exo a C (some dx)))
theorem one_of {ws : List V} (h : ws.length = 1) : ∃ y, ws = [y] := List.length_eq_one_iff.mp h
theorem two_of : ∀ {ws : List V}, ws.length = 2 → ∃ y z, ws = [y, z]
  | [y, z], _ => ⟨y, z, rfl⟩
theorem upd_swap {H : Hp} {a dx : Addr} {o1 o2 p1 : HO} (h : dx ≠ a) : upd (upd (upd H dx o1) a p1) dx o2 = upd (upd H dx o2) a p1 := by
  funext b
  by_cases h1 : b = dx
  · subst h1
    rw [upd_same, upd_ne h, upd_same]
  · rw [upd_ne h1]
    by_cases h2 : b = a
    · subst h2
      rw [upd_same, upd_same]
    · rw [upd_ne h2, upd_ne h2, upd_ne h1, upd_ne h1]
theorem upd_twice {H : Hp} {a dx : Addr} {o1 o2 p1 : HO} : upd (upd (upd H a o1) dx p1) a o2 = upd (upd H dx p1) a o2 := by
  funext b
  by_cases h1 : b = a
  · subst h1
    rw [upd_same, upd_same]
  · rw [upd_ne h1, upd_ne h1]
    by_cases h2 : b = dx
    · subst h2
      rw [upd_same, upd_same]
    · rw [upd_ne h2, upd_ne h2, upd_ne h1]
section
variable {CX : CXT} {P : Program} {w : World} {K : PySem.W.Frag} {mg : Str → Option Value} {base : Heap} {k : Nat} {f cda cc C : Addr} {name ql : Str} {params : Arguments} {sc : Scope} {kV doc pm ct oc : Value} {an od : Option Addr}
    {osl : Array (Option Value)} {p0 p1 p2 p3 p4 q0 q1 q2 q3 q4 q1' r1 r2 r3 r4 : Pos} {ar : Arg} {fl gl x1 x2 : Str}
theorem okI1 (lk : K.lookup f = some ⟨oc, od, .func (PySem.W.ksFn name ql params [.Expr (.Call (.Attribute (.Call (.Name "super" p0) [] [] p1) "__init__" p2) [.Name x1 q0] [] p3) p4, .Assign [.Attribute (.Name "self" q1) fl q2] (.Name x1 q3) q4] sc .none kV doc pm an (.ref cda) ct cc), osl⟩)
    (hcd : PySem.W.codeIn K (.ref cda) ql = true) (T : SupC P K C cda cc) (S : SScope ["self", x1] ["self", x1] sc) (hks : sc.names.lookup ("super" : Str) = some .globalImplicit) (hkc : sc.names.lookup ("__class__" : Str) = some .free)
    (hpar : (params.posonlyargs ++ params.args).head? = some ar) (har : ar.arg = "self") (hmg : mg "super" = none) (hno : PySem.W.findIn K (.ref C) fl = some none)
    (hd : (x1 == ("__debug__" : Str)) = false := by decide) (hcd2 : (x1 == ("__classdict__" : Str)) = false := by decide)
    {pl : PySem.Env → Sem Bool}
    (hev : ∀ env, eval (.Call (.Attribute (.Call (.Name "super" p0) [] [] p1) "__init__" p2) [.Name x1 q0] [] p3) env = (do
      let ov ← attributeBase (.Call (.Name "super" p0) [] [] p1) "__init__" env (eval (.Call (.Name "super" p0) [] [] p1) env)
      standAt p2.atName
      let (f, first) ← holding [ov] (getMethod ov "__init__" (pl env))
      callWith p3 f first (backTo p3 (starEach [.Name x1 q0] env)) []) := by intro env; rfl)
    (hsw : ∀ env, swapsWith (.Call (.Attribute (.Call (.Name "super" p0) [] [] p1) "__init__" p2) [.Name x1 q0] [] p3) none p4.line env = pure false := by intro env; rfl)
    (hs1 : ∀ env, swapsWith (.Name x1 q3) (some (.Attribute (.Name "self" q1) fl q2)) q4.line env = pure false := by intro env; rfl) :
    FnOk P w K mg base CX (k + 1) f (PySem.W.ksFn name ql params [.Expr (.Call (.Attribute (.Call (.Name "super" p0) [] [] p1) "__init__" p2) [.Name x1 q0] [] p3) p4, .Assign [.Attribute (.Name "self" q1) fl q2] (.Name x1 q3) q4] sc .none kV doc pm an (.ref cda) ct cc) ["self", x1] (spIn C [fl]) := by
  refine initS_of lk hcd T S hks hkc hpar (by rw [har]; rfl) hmg (fun vs H Q E h => ?_) (fun A outer s H vs Q E hr h => ?_) hev (fun L => by simp [interactive, sEnv, S.kind]) (fun env => rfl) (fun env => rfl) hsw
  · obtain ⟨a, ws, rfl, hl, _⟩ := h
    rw [List.length_cons, hl]
    rfl
  · obtain ⟨a, ws, rfl, hl, ha, hk⟩ := h
    obtain ⟨y, rfl⟩ := one_of hl
    have hv : ∀ y ∈ (["self", x1] : List Str), sc.names.lookup y = some .local := S.par
    refine ⟨_, _, a, pa_cons (pe_var (i := 1) rfl (.inl (hv x1 (by simp))) hd hcd2) pa_nil, pss_one (ps_ost (pe_var (i := 0) rfl (.inl (hv "self" (by simp))) (by decide) (by decide)) (pe_var (i := 1) rfl (.inl (hv x1 (by simp))) hd hcd2) (hs1 _)), rfl, ha, ?_⟩
    refine ⟨y, rfl, by simp, ha, ?_⟩
    refine ⟨y, rfl, .ref a, rfl, a, C, rfl, T.oex, hno, .inl ⟨ha, fun dx h1 h2 => ?_⟩⟩
    exact hk dx h1 h2
theorem okI2 (lk : K.lookup f = some ⟨oc, od, .func (PySem.W.ksFn name ql params [.Expr (.Call (.Attribute (.Call (.Name "super" p0) [] [] p1) "__init__" p2) [.Name x1 q0, .Name x2 q1] [] p3) p4, .Assign [.Attribute (.Name "self" q1') fl q2] (.Name x1 q3) q4, .Assign [.Attribute (.Name "self" r1) gl r2] (.Name x2 r3) r4] sc .none kV doc pm an (.ref cda) ct cc), osl⟩)
    (hcd : PySem.W.codeIn K (.ref cda) ql = true) (T : SupC P K C cda cc) (S : SScope ["self", x1, x2] ["self", x1, x2] sc) (hks : sc.names.lookup ("super" : Str) = some .globalImplicit) (hkc : sc.names.lookup ("__class__" : Str) = some .free)
    (hpar : (params.posonlyargs ++ params.args).head? = some ar) (har : ar.arg = "self") (hmg : mg "super" = none) (hno : PySem.W.findIn K (.ref C) fl = some none) (hno2 : PySem.W.findIn K (.ref C) gl = some none)
    (hd : (x1 == ("__debug__" : Str)) = false := by decide) (hcd2 : (x1 == ("__classdict__" : Str)) = false := by decide) (hd' : (x2 == ("__debug__" : Str)) = false := by decide) (hcd2' : (x2 == ("__classdict__" : Str)) = false := by decide)
    {pl : PySem.Env → Sem Bool}
    (hev : ∀ env, eval (.Call (.Attribute (.Call (.Name "super" p0) [] [] p1) "__init__" p2) [.Name x1 q0, .Name x2 q1] [] p3) env = (do
      let ov ← attributeBase (.Call (.Name "super" p0) [] [] p1) "__init__" env (eval (.Call (.Name "super" p0) [] [] p1) env)
      standAt p2.atName
      let (f, first) ← holding [ov] (getMethod ov "__init__" (pl env))
      callWith p3 f first (backTo p3 (starEach [.Name x1 q0, .Name x2 q1] env)) []) := by intro env; rfl)
    (hsw : ∀ env, swapsWith (.Call (.Attribute (.Call (.Name "super" p0) [] [] p1) "__init__" p2) [.Name x1 q0, .Name x2 q1] [] p3) none p4.line env = pure false := by intro env; rfl)
    (hs1 : ∀ env, swapsWith (.Name x1 q3) (some (.Attribute (.Name "self" q1') fl q2)) q4.line env = pure false := by intro env; rfl)
    (hs2 : ∀ env, swapsWith (.Name x2 r3) (some (.Attribute (.Name "self" r1) gl r2)) r4.line env = pure false := by intro env; rfl) :
    FnOk P w K mg base CX (k + 1) f (PySem.W.ksFn name ql params [.Expr (.Call (.Attribute (.Call (.Name "super" p0) [] [] p1) "__init__" p2) [.Name x1 q0, .Name x2 q1] [] p3) p4, .Assign [.Attribute (.Name "self" q1') fl q2] (.Name x1 q3) q4, .Assign [.Attribute (.Name "self" r1) gl r2] (.Name x2 r3) r4] sc .none kV doc pm an (.ref cda) ct cc) ["self", x1, x2] (spIn C [fl, gl]) := by
  refine initS_of lk hcd T S hks hkc hpar (by rw [har]; rfl) hmg (fun vs H Q E h => ?_) (fun A outer s H vs Q E hr h => ?_) hev (fun L => by simp [interactive, sEnv, S.kind]) (fun env => rfl) (fun env => rfl) hsw
  · obtain ⟨a, ws, rfl, hl, _⟩ := h
    rw [List.length_cons, hl]
    rfl
  · obtain ⟨a, ws, rfl, hl, ha, hk⟩ := h
    obtain ⟨y, z, rfl⟩ := two_of hl
    have hv : ∀ y ∈ (["self", x1, x2] : List Str), sc.names.lookup y = some .local := S.par
    refine ⟨_, _, a, pa_cons (pe_var (i := 1) rfl (.inl (hv x1 (by simp))) hd hcd2) (pa_cons (pe_var (i := 2) rfl (.inl (hv x2 (by simp))) hd' hcd2') pa_nil),
      pss_cons (ps_ost (pe_var (i := 0) rfl (.inl (hv "self" (by simp))) (by decide) (by decide)) (pe_var (i := 1) rfl (.inl (hv x1 (by simp))) hd hcd2) (hs1 _)) (pss_one (ps_ost (pe_var (i := 0) rfl (.inl (hv "self" (by simp))) (by decide) (by decide)) (pe_var (i := 2) rfl (.inl (hv x2 (by simp))) hd' hcd2') (hs2 _))), rfl, ha, ?_⟩
    refine ⟨y, rfl, z, rfl, by simp, ha, ?_⟩
    refine ⟨y, rfl, .ref a, rfl, a, C, rfl, T.oex, hno, .inl ⟨ha, fun dx h1 h2 => ?_⟩⟩
    refine ⟨z, rfl, .ref a, rfl, a, C, rfl, T.oex, hno2, .inr ⟨dx, [(fl, y)], upd_same, ?_, by simp, ?_⟩⟩
    · rw [upd_ne h2, upd_same]
    · rw [upd_swap h2]
      exact hk dx h1 h2
end
/-- C(e, ..) as a value -/
def tMkV (C : Addr) (ns : List Str) (ta : TA) : TE := fun σ H Q => ta σ H fun vs H1 => vs.length = ns.length ∧ ns.length ≤ 1000 ∧
  ∀ a dx, H1 a = none → H1 dx = none → dx ≠ a → Q (.ref a) (upd (upd H1 dx (exd dx (ns.zip vs).reverse)) a (exo a C (some dx)))
section
variable {X : Cx} {e : Expr} {es : List Expr} {p pos : Pos}
theorem pe_mkV {x : Str} {C fI : Addr} {k : Nat} {fd : FuncData} {ps ns : List Str} {ta : TA} (T : OexC X.K C) (iC : PySem.W.findIn X.K (.ref C) "__init__" = some (some (.ref fI))) (tI : PySem.W.typeIn X.K (.ref fI) = some (.type "function"))
    (F1 : FnOk X.prog X.w X.K X.mg X.base CX0 k fI fd ps (spIn C ns)) (hr : Room (k + 1) X.A) (hb : Binds X.K fd ps []) (hg : Gl X x) (hm : X.mg x = some (.ref C)) (ha : PA X (e :: es) ta)
    (hdb : (x == ("__debug__" : Str)) = false := by decide) (he : starEach (e :: es) X.env = (false, eval e X.env) :: starEach es X.env := by rfl) (hpl : (backTo pos (starEach es X.env)).any (·.1) = false := by rfl) :
    PE X (.Call (.Name x p) (e :: es) [] pos) (tMkV C ns ta) := by
  refine ⟨fun pins s σ H Q I h => ?_⟩
  obtain ⟨nm, q, N, bs, bm, sn, sub, ab, col, dd, k0, k1, k2, k3, k5, hC, hbm⟩ := T.cls
  refine wpAny_Call_Name_kw (ld_glob I hg hm ?_ hdb)
  refine PySem.W.callWith_K (h₀ := X.base) I.ok.mod.kin T.kC (thn (ha.run pos pins s σ H _ I h) fun us s1 ⟨vs, H1, I1, r1, hz, hz2, q1⟩ => ⟨I1.kIn, ?_⟩) he hpl
  show wpAny _ _ (call (.ref C) us) _ _ _
  obtain ⟨hp, g, dr, tk, os⟩ := s1
  have n1 : H1 (hp.objs.size + 1) = none := I1.hok.fresh (Nat.le_succ _)
  have kk : ∀ b o, hp.get? b = some o → ((hp.push (PySem.W.kdv_tup us)).push (PySem.HandSPX.excO C hp.objs.size)).get? b = some o := fun b o z => Heap.get?_push_of_some _ (Heap.get?_push_of_some _ z)
  have at1 : ((hp.push (PySem.W.kdv_tup us)).push (PySem.HandSPX.excO C hp.objs.size)).get? (hp.objs.size + 1) = some (PySem.HandSPX.excO C hp.objs.size) := by heap_get
  have I2 : Inv X pins σ (upd H1 (hp.objs.size + 1) (exo (hp.objs.size + 1) C none)) ⟨(hp.push (PySem.W.kdv_tup us)).push (PySem.HandSPX.excO C hp.objs.size), g, dr, tk, os⟩ :=
    I1.laid (t' := tk) kk (Nat.le_succ _) (exo_ok at1)
  have r2 : Vals (V.ref (hp.objs.size + 1) :: vs) (Value.ref (hp.objs.size + 1) :: us) := .cons rfl r1
  have hq : spIn C ns (V.ref (hp.objs.size + 1) :: vs) (upd H1 (hp.objs.size + 1) (exo (hp.objs.size + 1) C none)) (fun v H2 => v = .non ∧ Q (.ref (hp.objs.size + 1)) H2) (fun _ _ _ => False) := by
    refine ⟨_, vs, rfl, hz, upd_same, fun dx h1 h2 => ⟨rfl, ?_⟩⟩
    rw [upd_twice]
    exact q1 _ dx n1 (by rw [upd_ne h2] at h1; exact h1) h2
  have hl : (Value.ref (hp.objs.size + 1) :: us).length = ps.length := by
    have z := r2.length
    rw [F1.len _ _ _ _ hq] at z
    exact z.symm
  have hus : us.length ≤ sizeLine := by
    rw [← Paired.length r1, sizeLine_eq]
    omega
  refine wpAny_call (PySem.HandSPX.call_own F.excBase_ValueError (fun Y => PySem.HandSPX.refsVE_contains Y bm hbm) (I1.kIn _ _ hC) (PySem.W.looks_findIn I1.kIn iC) (fun self => PySem.W.bind_fn I1.kIn self tI) hus
    (codeAny_mono (F1.run _ X.stack _ _ ⟨Value.ref (hp.objs.size + 1) :: us, []⟩ (Value.ref (hp.objs.size + 1) :: us) _ _ (fun _ _ _ => False) (hr.make C us []) (I2.env0.make C us []) (by have z := hb _ (Value.ref (hp.objs.size + 1) :: us) I2.kIn (by simpa using hl); simpa using z) r2 hq) fun r s' hq' => ?_))
  cases r with
  | error er => exact hq'.elim
  | ok fl =>
    cases fl with
    | ret u =>
      obtain ⟨v, H2, os2, bare2, un2, hok2, rv, ev, q2⟩ := hq'
      subst ev
      have J := I2.call' (ch := []) os2 un2 hok2 bare2 (fun b z => absurd z (by simp))
      exact ⟨rv, .ref (hp.objs.size + 1), H2, J, rfl, q2⟩
    | next => exact hq'.elim
    | brk => exact hq'.elim
    | cont => exact hq'.elim
end
end Ec
/-! C(k = e, ..) as a value, all arguments by keyword. -/
namespace Ec
open PySem PySem.Spec PyProof.Rows L2
section
variable {prog : Program} {w : World} {M : Model} {A : Around} {E : Value → Shared → Prop} {R : Result → Shared → Prop} {h : Heap} {g : Array GenState} {d : Drawn} {t : Nat} {os : OsState}
variable {nm q : Str} {C N : Addr} {bs bm bmB : List Value} {hdct : Bool} {sn : List Str} {sub : List Value} {ab : Bool} {col : Option Bool} {dd : Option Addr} {k0 k1 k2 k3 k5 : Option Value} {B newId initId : String}
theorem kw_check (F : ExcBaseFacts B newId initId bmB) (hT : ∀ X : String, bm.contains (.type X) = bmB.contains (.type X)) {kws : List (Str × Value)} {Q : Unit → Shared → Prop}
    (hC : h.get? C = some (excClassObj nm q C N bs bm hdct sn sub ab col dd k0 k1 k2 k3 k5 newId)) (hq : Q () ⟨h, g, d, t, os⟩) : wpAny M A (checkBuiltinCall newId ⟨[.ref C], kws⟩) Q E ⟨h, g, d, t, os⟩ := by
  have c1 : (Value.ref C :: bm).contains (.type B) = true := by rw [List.contains_cons, hT, F.hasB, Bool.or_true]
  have c2 := F.noStar
  simp only [checkBuiltinCall, F.newKind, F.newSplit, F.newRow]
  repeat (first | refine wpAny_loadPart_at hC ?_ | (refine wpAny_isSubtype_exc hC ?_; rw [c1]) | refine wpAny_staticBase_exc hC ?_ | refine wpAny_madeBy_exc hC ?_ | simp only [bne_self_eq_false, Bool.false_eq_true, if_false] | wp_step)
  exact hq
theorem kw_new (F : ExcBaseFacts B newId initId bmB) (hT : ∀ X : String, bm.contains (.type X) = bmB.contains (.type X)) {kws : List (Str × Value)}
    (hC : h.get? C = some (excClassObj nm q C N bs bm hdct sn sub ab col dd k0 k1 k2 k3 k5 newId))
    (hq : R (.ok (.ret (.ref (h.objs.size + 1)))) ⟨(h.push (PySem.W.kdv_tup [])).push (PySem.HandSPX.excO C h.objs.size), g, d, t, os⟩) :
    codeAny (model prog w) A (.builtin newId ⟨[.ref C], kws⟩) R ⟨h, g, d, t, os⟩ := by
  have e1 := F.ends
  have c1 : (Value.ref C :: bm).contains (.type B) = true := by rw [List.contains_cons, hT, F.hasB, Bool.or_true]
  have c2 : (Value.ref C :: bm).contains (.type "AttributeError") = false := by rw [List.contains_cons, hT, F.noAttr]; rfl
  have c3 : (Value.ref C :: bm).contains (.type "NameError") = false := by rw [List.contains_cons, hT, F.noName]; rfl
  refine codeAny_builtinAt F.entry ?_
  unfold Builtin.«BaseException.__new__»
  refine _root_.PySem.wpAt_bind ?_
  show _root_.PySem.wpAt _ _ _ (PySem.stack >>= _) _ _ _
  refine _root_.PySem.wpAt_bind (_root_.PySem.wpAt_stack fun p below => _root_.PySem.wpAt_of_wpAny ?_)
  wp_walk
  refine _root_.PySem.wpAt_of_wpAny ?_
  rw [F.owner]
  repeat (first | with_reducible refine wpAny_madeHere_exc F.canon hC ?_ | with_reducible refine wpAny_loadPart_at hC ?_ | (with_reducible refine wpAny_isSubtype_exc hC ?_; first | rw [c1] | rw [c2] | rw [c3]) | wp_step)
  show R _ _
  rw [Heap.size_push]
  exact hq
theorem kw_typeCall (F : ExcBaseFacts B newId initId bmB) (hT : ∀ X : String, bm.contains (.type X) = bmB.contains (.type X)) {kws : List (Str × Value)} {fI : Addr} {Q : Fin → Shared → Prop}
    (hC : h.get? C = some (excClassObj nm q C N bs bm hdct sn sub ab col dd k0 k1 k2 k3 k5 newId))
    (hi : PySem.W.Looks (model prog w) h (typeLookup (.ref C) "__init__") (some (.ref fI))) (hb : ∀ self, PySem.W.Looks (model prog w) h (bindSpecial (.ref fI) self) (.ref fI, [self]))
    (hq : codeAny (model prog w) A (.call (.ref fI) ⟨[.ref (h.objs.size + 1)], kws⟩)
      (fun r s' => match r with | .ok (.ret v) => v = .none ∧ Q (.done (.ret (.ref (h.objs.size + 1)))) s' | .ok _ => False | .error e => E e s')
      ⟨(h.push (PySem.W.kdv_tup [])).push (PySem.HandSPX.excO C h.objs.size), g, d, t, os⟩) :
    wpAny (model prog w) A (Builtin.«type.__call__» ⟨[.ref C], kws⟩) Q E ⟨h, g, d, t, os⟩ := by
  repeat (first | with_reducible refine wpAny_loadPart_at hC ?_ | with_reducible refine wpAny_madeBy_exc hC ?_ | wp_step)
  refine codeAny_call_builtin_code (Code.quiet_builtin _ F.quiet) (kw_check F hT hC ?_)
  refine kw_new F hT hC ?_
  show wpAny _ _ _ _ _ _
  have k : ∀ b o, h.get? b = some o → ((h.push (PySem.W.kdv_tup [])).push (PySem.HandSPX.excO C h.objs.size)).get? b = some o := fun b o z => Heap.get?_push_of_some _ (Heap.get?_push_of_some _ z)
  have a1 := k _ _ hC
  have a2 : ((h.push (PySem.W.kdv_tup [])).push (PySem.HandSPX.excO C h.objs.size)).get? (h.objs.size + 1) = some (PySem.HandSPX.excO C h.objs.size) := by heap_get
  have a3 : (Value.ref C :: bm).contains (.ref C) = true := by simp
  have i1 := hi.keeps k
  have b1 := (hb (.ref (h.objs.size + 1))).keeps k
  unfold isInstance
  repeat (first | with_reducible refine wpAny_loadPart_at a2 ?_ | (with_reducible refine wpAny_isSubtype_exc a1 ?_; rw [a3]) | wp_step)
  show wpAny _ _ (typeLookup (.ref C) _) _ _ _
  refine i1.at ?_
  refine wpAny_holding (wpAny_bind (b1.at ?_))
  refine wpAny_bind (wpAny_call (codeAny_mono hq fun r s' z => ?_))
  rcases r with e | (v | _ | _ | _) <;> first | exact z | exact z.elim | skip
  obtain ⟨rfl, z⟩ := z
  first
    | exact wpAny_pure (wpAny_pure z)
    | (wp_walk; exact z)
theorem kw_tcheck {kws : List (Str × Value)} {Q : Unit → Shared → Prop} (hC : h.get? C = some (excClassObj nm q C N bs bm hdct sn sub ab col dd k0 k1 k2 k3 k5 newId)) (hq : Q () ⟨h, g, d, t, os⟩) :
    wpAny M A (checkBuiltinCall "type.__call__" ⟨[.ref C], kws⟩) Q E ⟨h, g, d, t, os⟩ := by
  have f3 := tc_sub
  have hT : (⟨h, g, d, t, os⟩ : Shared).TypeIs (.ref C) "type" := ⟨_, hC, rfl⟩
  simp only [checkBuiltinCall, tc_kind, tc_split]
  repeat (any_goals (first | assumption | with_reducible refine wpAny_loadPart_at hC ?_ | with_reducible refine wpAny_onRaise ?_ | with_reducible refine wpAny_map ?_ | wp_step))
theorem kw_call (F : ExcBaseFacts B newId initId bmB) (hT : ∀ X : String, bm.contains (.type X) = bmB.contains (.type X)) {kws : List (Str × Value)} {fI : Addr}
    (hC : h.get? C = some (excClassObj nm q C N bs bm hdct sn sub ab col dd k0 k1 k2 k3 k5 newId))
    (hi : PySem.W.Looks (model prog w) h (typeLookup (.ref C) "__init__") (some (.ref fI))) (hb : ∀ self, PySem.W.Looks (model prog w) h (bindSpecial (.ref fI) self) (.ref fI, [self]))
    (hq : codeAny (model prog w) (A.under (.builtin "type.__call__" ⟨[.ref C], kws⟩)) (.call (.ref fI) ⟨[.ref (h.objs.size + 1)], kws⟩) (PySem.W.InitBack (h.objs.size + 1) R)
      ⟨(h.push (PySem.W.kdv_tup [])).push (PySem.HandSPX.excO C h.objs.size), g, d, t, os⟩) :
    codeAny (model prog w) A (.call (.ref C) ⟨[], kws⟩) R ⟨h, g, d, t, os⟩ := by
  have f1 := tc_lookup
  have f2 := tc_bind (.ref C)
  have hTy : (⟨h, g, d, t, os⟩ : Shared).TypeIs (.ref C) "type" := ⟨_, hC, rfl⟩
  refine codeAny_of_tree ?_
  show wpAny _ _ (callAny (.ref C) _) _ _ _
  repeat (any_goals (first | assumption | with_reducible refine wpAny_loadPart_at hC ?_ | wp_step))
  refine ⟨rfl, ?_⟩
  refine codeAny_call_builtin_at (Code.quiet_builtin _ (by decide +kernel)) entry_typeCall (kw_tcheck hC (kw_typeCall F hT hC hi hb ?_))
  refine codeAny_mono hq fun r s' z => ?_
  rcases r with e | (v | _ | _ | _) <;> exact z
end
end Ec
/-! Exceptions as values: made by keyword, isinstance, their attributes. -/
namespace Ec
open PySem PySem.Spec PyProof.Rows L2 Cw
/-- C(k = e, ..) as a value -/
def tMkVK (C : Addr) (ns : List Str) (gV : List V → List V → List V) (tk : TA) : TE := fun σ H Q => tk σ H fun zs H1 => ∃ vs, (∀ a, gV [.ref a] zs = .ref a :: vs) ∧ vs.length = ns.length ∧ ns.length ≤ 1000 ∧
  ∀ a dx, H1 a = none → H1 dx = none → dx ≠ a → Q (.ref a) (upd (upd H1 dx (exd dx (ns.zip vs).reverse)) a (exo a C (some dx)))
section
variable {X : Cx} {e : Expr} {es : List Expr} {p pos : Pos}
theorem pe_mkVK {x : Str} {C fI : Addr} {k : Nat} {fd : FuncData} {ps ns ks : List Str} {g : List Value → List Value → List Value} {gV : List V → List V → List V} {kws : List Keyword} {tk : TA} (T : OexC X.K C) (iC : PySem.W.findIn X.K (.ref C) "__init__" = some (some (.ref fI)))
    (tI : PySem.W.typeIn X.K (.ref fI) = some (.type "function")) (F1 : FnOk X.prog X.w X.K X.mg X.base CX0 k fI fd ps (spIn C ns)) (hr : Room (k + 1) X.A) (hb : KBinds X.K fd ps ks g gV) (hg : Gl X x) (hm : X.mg x = some (.ref C)) (hkw : PK X kws tk)
    (hall : (backToKw pos (keywordEach kws X.env)).all (·.1.isSome) = true := by rfl) (hks : (backToKw pos (keywordEach kws X.env)).filterMap (·.1) = ks := by rfl) (hdb : (x == ("__debug__" : Str)) = false := by decide)
    (hpl : ((backTo pos (starEach [] X.env)).any (·.1) || (backToKw pos (keywordEach kws X.env)).any (·.1.isNone)) = false := by rfl) :
    PE X (.Call (.Name x p) [] kws pos) (tMkVK C ns gV tk) := by
  refine ⟨fun pins s σ H Q I h => ?_⟩
  obtain ⟨nm, q, N, bs, bm, sn, sub, ab, col, dd, k0, k1, k2, k3, k5, hC, hbm⟩ := T.cls
  refine wpAny_Call_Name_kw (ld_glob I hg hm ?_ hdb)
  refine PySem.W.callWith_KW0 (h₀ := X.base) I.ok.mod.kin T.kC hall (thn (hkw.run pos pins s σ H _ I h) fun us s1 ⟨zs, H1, I1, r1, vs, hgv, hz, hz2, q1⟩ => ⟨I1.kIn, ?_⟩) hpl
  rw [hks]
  show wpAny _ _ (call (.ref C) [] (ks.zip us)) _ _ _
  obtain ⟨hp, g0, dr, t0, os⟩ := s1
  have n1 : H1 (hp.objs.size + 1) = none := I1.hok.fresh (Nat.le_succ _)
  have kk : ∀ b o, hp.get? b = some o → ((hp.push (PySem.W.kdv_tup [])).push (PySem.HandSPX.excO C hp.objs.size)).get? b = some o := fun b o z => Heap.get?_push_of_some _ (Heap.get?_push_of_some _ z)
  have at1 : ((hp.push (PySem.W.kdv_tup [])).push (PySem.HandSPX.excO C hp.objs.size)).get? (hp.objs.size + 1) = some (PySem.HandSPX.excO C hp.objs.size) := by heap_get
  have I2 : Inv X pins σ (upd H1 (hp.objs.size + 1) (exo (hp.objs.size + 1) C none)) ⟨(hp.push (PySem.W.kdv_tup [])).push (PySem.HandSPX.excO C hp.objs.size), g0, dr, t0, os⟩ :=
    I1.laid (t' := t0) kk (Nat.le_succ _) (exo_ok at1)
  have ra : Vals [V.ref (hp.objs.size + 1)] [Value.ref (hp.objs.size + 1)] := .cons rfl .nil
  have r2 := hb.rel ra r1
  rw [hgv] at r2
  have hq : spIn C ns (V.ref (hp.objs.size + 1) :: vs) (upd H1 (hp.objs.size + 1) (exo (hp.objs.size + 1) C none)) (fun v H2 => v = .non ∧ Q (.ref (hp.objs.size + 1)) H2) (fun _ _ _ => False) := by
    refine ⟨_, vs, rfl, hz, upd_same, fun dx h1 h2 => ⟨rfl, ?_⟩⟩
    rw [upd_twice]
    exact q1 _ dx n1 (by rw [upd_ne h2] at h1; exact h1) h2
  have hl : (g [Value.ref (hp.objs.size + 1)] us).length = ps.length := by
    have z := r2.length
    rw [F1.len _ _ _ _ hq] at z
    exact z.symm
  refine wpAny_call (kw_call F.excBase_ValueError (fun Y => PySem.HandSPX.refsVE_contains Y bm hbm) (I1.kIn _ _ hC) (PySem.W.looks_findIn I1.kIn iC) (fun self => PySem.W.bind_fn I1.kIn self tI)
    (codeAny_mono (F1.run _ X.stack _ _ ⟨[Value.ref (hp.objs.size + 1)], ks.zip us⟩ (g [Value.ref (hp.objs.size + 1)] us) _ _ (fun _ _ _ => False) (hr.make C [] (ks.zip us)) (I2.env0.make C [] (ks.zip us)) (hb.to _ _ _ I2.kIn hl) r2 hq) fun r s' hq' => ?_))
  cases r with
  | error er => exact hq'.elim
  | ok fl =>
    cases fl with
    | ret u =>
      obtain ⟨v, H2, os2, bare2, un2, hok2, rv, ev, q2⟩ := hq'
      subst ev
      have J := I2.call' (ch := []) os2 un2 hok2 bare2 (fun b z => absurd z (by simp))
      exact ⟨rv, .ref (hp.objs.size + 1), H2, J, rfl, q2⟩
    | next => exact hq'.elim
    | brk => exact hq'.elim
    | cont => exact hq'.elim
end
/-- what the written part says of an exception class -/
structure ExK (K : PySem.W.Frag) (C : Addr) : Prop where
  oex : OexC K C
  isC : (PySem.W.clsIn K C).isSome = true
  hg : PySem.W.findIn K (.ref C) "__getattribute__" = some (some (.builtin "BaseException.__getattribute__"))
  hk : PySem.W.findIn K (.ref C) "__getattr__" = some none
  hs : PySem.W.subIn K (.ref C) (.type "BaseException") = some true
  hd : PySem.W.hasDictIn K C = true
  ha : PySem.W.findIn K (.ref C) "__class__" = some (some (.builtin "object.__class__"))
  hn : PySem.W.specialIn K (.builtin "object.__class__") "__get__" = some (some (.builtin "getset_descriptor.__get__"))
  ht : PySem.W.takesIn K (.builtin "object.__class__") = some true
  hm : PySem.W.mroIn K C (.type "object") = some true
section
variable {X : Cx} {pins : List (Addr × Obj)} {σ : L2.St} {H : Hp} {s : Shared}
/-- the exception as it stands -/
theorem exAt {a Cl dx : Addr} {o p : HO} {ps : List (Str × V)} (I : Inv X pins σ H s) (ha : H a = some o) (ia : IsEx a Cl dx o) (hd : H dx = some p) (id : IsXd dx ps p) :
    ∃ oe od mA, PySem.W.InstAt s.heap a oe Cl (some od) ∧ s.heap.Ns1 dx mA ∧ (∀ f, RelO (ps.lookup f) (mA f)) ∧ (∀ name, PySem.W.lookIn name od = some (mA name)) := by
  have hx : ∃ mA, s.heap.Ns1 dx mA ∧ ∀ f, RelO (ps.lookup f) (mA f) := by
    rcases id with rfl | rfl
    · exact I.hok dx _ hd
    · exact exd_at I.hok hd
  obtain ⟨mA, hns, hrel⟩ := hx
  obtain ⟨od, ho, hlk⟩ := lookIn_ns hns
  have he : ∃ oe vs, s.heap.get? a = some oe ∧ Zc (.ref Cl) (some dx) oe ∧ oe.data = .fields vs := by
    rcases ia with rfl | rfl
    · exact (I.hok a _ ha).1
    · obtain ⟨t1, z⟩ := exo_at I.hok ha
      exact ⟨_, _, z, ⟨rfl, rfl⟩, rfl⟩
  obtain ⟨oe, vs, h1, h2, h3⟩ := he
  exact ⟨oe, od, mA, ⟨h1, h2.1, by unfold PySem.W.notCls; rw [h3] <;> rfl, by rw [h2.2]; exact ho⟩, hns, hrel, hlk⟩
end
/-- isinstance(e, c), e an exception -/
def rIsX (K : PySem.W.Frag) : List V → Hp → VK → Prop := fun xs H Q => ∃ (a Cl dx : Addr) (o p : HO) (ps : List (Str × V)) (c : V) (cv : Value) (b : Bool), xs = [.ref a, c] ∧ H a = some o ∧ IsEx a Cl dx o ∧ H dx = some p ∧ IsXd dx ps p ∧ ExK K Cl ∧
  (∀ u, RelV c u → u = cv) ∧ PySem.W.kitOne K (.ref Cl) cv = some b ∧ Q (.bl b) H
theorem call_isX {X : Cx} : CallR X (.builtin "isinstance") (rIsX X.K) := by
  intro pins s σ H xs us Q I r h
  obtain ⟨a, Cl, dx, o, p, ps, c, cv, b, rfl, h1, h2, h3, h4, C, hcv, e, q⟩ := h
  cases r with
  | cons rx rr =>
    cases rr with
    | cons rt rr =>
      cases rr
      cases rx
      obtain rfl := hcv _ rt
      obtain ⟨oe, od, mA, J, _⟩ := exAt I h1 h2 h3 h4
      exact PySem.W.kia_one (PySem.W.kitx_exc C.isC C.hg C.hk C.hs C.ha C.hn C.ht C.hm) I.kIn J e (fun z => nomatch z) fun tk => ⟨.bl b, H, I.kept (t' := tk) fun _ _ z => z, rfl, q⟩
theorem cr_isX {X : Cx} {K : PySem.W.Frag} (hK : X.K = K := by rfl) : CallR X (.builtin "isinstance") (rIsX K) := hK ▸ call_isX
/-- e.f, e an exception -/
def tXfd (K : PySem.W.Frag) (f : Str) (te : TE) : TE := fun σ H Q => te σ H fun x H1 => ∃ (a Cl dx : Addr) (o p : HO) (ps : List (Str × V)) (v : V), x = .ref a ∧ H1 a = some o ∧ IsEx a Cl dx o ∧ H1 dx = some p ∧ IsXd dx ps p ∧ ExK K Cl ∧
  PySem.W.findIn K (.ref Cl) f = some none ∧ ps.lookup f = some v ∧ Q v H1
theorem pe_xfd {X : Cx} {e : Expr} {te : TE} {pos : Pos} {n : Str} (he : PE X e te) (hb : attributeBase e n X.env (eval e X.env) = eval e X.env := by rfl) : PE X (.Attribute e n pos) (tXfd X.K n te) := by
  refine ⟨fun pins s σ H Q I h => attr_of hb (thn (he.run pins s σ H _ I h) fun u s1 hh => ?_)⟩
  obtain ⟨x, H1, I1, rx, a, Cl, dx, o, p, ps, v, ex, h1, h2, h3, h4, C, hno, hl, q⟩ := hh
  subst ex
  obtain rfl : u = Value.ref a := rx
  obtain ⟨oe, od, mA, J, hns, hrel, hlk⟩ := exAt I1 h1 h2 h3 h4
  obtain ⟨u, hu, ru⟩ := RelO.some_of (v := v) (o := mA n) (by rw [← hl]; exact hrel n)
  exact HandSPX.exc_get I1.kIn J C.hg C.hk C.hs (PySem.W.findObj_own C.hd hno rfl (by rw [hlk, hu])) (handed_of ru) ⟨v, H1, I1.tok _, ru, q⟩
theorem pe_xfdK {X : Cx} {K : PySem.W.Frag} {e : Expr} {te : TE} {pos : Pos} {n : Str} (he : PE X e te) (hK : X.K = K := by rfl) (hb : attributeBase e n X.env (eval e X.env) = eval e X.env := by rfl) : PE X (.Attribute e n pos) (tXfd K n te) := hK ▸ pe_xfd he hb
end Ec
/-! Part 50: cells of values of any kind that are never changed. -/
namespace Cw
open PySem PySem.Spec PyProof.Rows L2 Gu
/-- a list display whose place is known to be new -/
def tLstZ (t : TA) : TE := fun σ H Q => t σ H fun xs H1 => xs.length ≤ sizeLine ∧ ∀ p, H1 p = none → p ≠ sysModules → Q (.ref p) (upd H1 p (.lst xs))
section
variable {X : Cx}
theorem pe_lstZ {es : List Expr} {t : TA} {pos : Pos} (h : PA X es t) : PE X (.List es pos) (tLstZ t) := by
  refine ⟨fun pins s σ H Q I hq => ?_⟩
  refine wpAny_List_spliced (thn (h.run pos pins s σ H _ I hq) fun us s1 ⟨xs, H1, I1, r, z, q⟩ => ⟨(by rw [← r.length]; exact z), ?_⟩)
  have n1 : H1 s1.heap.objs.size = none := I1.hok.fresh (Nat.le_refl _)
  refine ⟨.ref s1.heap.objs.size, upd H1 s1.heap.objs.size (.lst xs), I1.laid (t' := s1.toks) (fun b u e => Heap.get?_push_of_some _ e) (Nat.le_refl _) ?_, rfl, q _ n1 (Nat.ne_of_gt I1.big)⟩
  exact ⟨z, us, 0, r, Heap.get?_push_size _ rfl⟩
end
def unz1 : C → Option Fz
  | .d x => some (.d x)
  | .z f => some f
  | _ => none
def unz : List C → Option (List Fz)
  | [] => some []
  | c :: cl => match unz1 c, unz cl with
    | some f, some l => some (f :: l)
    | _, _ => none
section
variable {K : PySem.W.Frag} {B H : Hp} {cs : List C} {hs fh : List HC} {k : KC} {ta tb te tl : TE} {tr : TA} {g g1 g2 g3 : TG} {D : Ends} {ki : List C → List HC → Prop} {kk : List C → Prop}
theorem unz1_ok {c : C} {z : Fz} {v : V} (h : unz1 c = some z) (s : Sl K B (some v) c) : FzOk K B v z := by
  match c, h, s with
  | .d x, h, ⟨u, e, hd⟩ =>
    cases h
    cases e
    exact .d hd
  | .z f, h, ⟨u, e, hd⟩ =>
    cases h
    cases e
    exact hd
theorem unz_ok : ∀ {cl : List C} {zs : List Fz} {vs : List V}, unz cl = some zs → VsOk K B vs cl → FzAll K B vs zs
  | [], zs, [], h, _ => by cases h; exact .nil
  | c :: cl, zs, v :: vs, h, sv => by
    unfold unz at h
    cases e1 : unz1 c with
    | none => rw [e1] at h; cases h
    | some f =>
      cases e2 : unz cl with
      | none => rw [e1, e2] at h; cases h
      | some l =>
        rw [e1, e2] at h
        cases h
        exact .cons (unz1_ok e1 sv.1) (unz_ok e2 sv.2)
  | [], _, _ :: _, _, sv => sv.elim
  | _ :: _, _, [], _, sv => sv.elim
theorem we_lstZ (h : WA K tr cs hs fun cl h2 => ∃ zs, unz cl = some zs ∧ Nat.ble zs.length 100000 = true ∧ k (.z (.lst true zs)) h2) : WE K (tLstZ tr) cs hs k := by
  intro B H σ fh s E Q q
  refine h B H σ fh s E _ fun vs cl h2 B2 H2 x2 s2 E2 ⟨zs, e, hz, hk⟩ => ?_
  have hd := unz_ok e s2
  have hz2 := Nat.le_of_ble_eq_true hz
  refine ⟨Evl.sz_of (by rw [hd.len]; omega), fun p hp hn => ?_⟩
  have x3 := Evl.Ex.new (o := .lst vs) (free_of E2.bh hp)
  exact q (.ref p) (.z (.lst true zs)) h2 _ _ (ex_trans x2 x3) ⟨_, rfl, .lst (.inl (.inl upd_same)) (fzAll_mono x3 _ _ hd) fun _ => hn⟩ (E2.newF hp) hk
theorem we_tupZ (h : WA K tr cs hs fun cl h2 => ∃ zs, unz cl = some zs ∧ Nat.ble zs.length 100000 = true ∧ k (.z (.tup zs)) h2) : WE K (tTup tr) cs hs k := by
  intro B H σ fh s E Q q
  refine h B H σ fh s E _ fun vs cl h2 B2 H2 x2 s2 E2 ⟨zs, e, hz, hk⟩ => ?_
  have hd := unz_ok e s2
  have hz2 := Nat.le_of_ble_eq_true hz
  refine ⟨Evl.sz_of (by rw [hd.len]; omega), fun p hp => ?_⟩
  have x3 := Evl.Ex.new (o := .tup vs) (free_of E2.bh hp)
  exact q (.ref p) (.z (.tup zs)) h2 _ _ (ex_trans x2 x3) ⟨_, rfl, .tup (.inl (.inl upd_same)) (fzAll_mono x3 _ _ hd)⟩ (E2.newF hp) hk
theorem we_dnewZ (hk : k (.z (.dic [])) hs) : WE K tDNewK cs hs k := fun B H σ fh s E Q q p hp =>
  q (.ref p) (.z (.dic [])) hs _ _ (Evl.Ex.new (free_of E.bh hp)) ⟨_, rfl, .dic upd_same .nil⟩ (E.newF hp) hk
theorem En.frzO {a : Addr} {mo : MO} {o : HO} {y : List HC} (E : En K B H ((a, mo) :: y)) : Ex B (L2.upd B a o) ∧ En K (L2.upd B a o) (L2.upd H a o) y := by
  obtain ⟨hb, _⟩ := E.head
  have na := E.notIn
  refine ⟨Evl.Ex.new hb, E.tail.grow (Evl.Ex.new hb) (fun b x h => ?_) fun b hb' => ?_⟩
  · by_cases e : b = a
    · subst e
      rw [upd_same] at h ⊢
      exact h
    · rw [upd_ne e] at h ⊢
      exact E.bh b x h
  · have ne : b ≠ a := fun e => na (e ▸ hb')
    exact ⟨by rw [upd_ne ne]; exact (E.tail.at hb').1, fun h hh => by rw [upd_ne ne]; exact hh⟩
/-- {"w": e} -/
theorem we_dispZ {w : Str} (h : WE K te cs hs fun c h1 => ∃ z, unz1 c = some z ∧ k (.z (.dic [(.inr w, z)])) h1) : WE K (tDisp [(tC (.str w), te)]) cs hs k := by
  intro B H σ fh s E Q q p hp
  have E1 : En K B (upd H p (.dK [])) (hs ++ ((p, .dic []) :: fh)) := (E.newM hp (mok_d (show KvOk K B ([] : List (Key × V)) [] from trivial))).perm List.perm_middle
  refine h B _ σ _ s E1 _ fun v c h1 B2 H2 x2 s2 E2 ⟨z, ez, hk⟩ => ?_
  have E3 : En K B2 H2 ((p, .dic []) :: (h1 ++ fh)) := E2.perm List.perm_middle.symm
  obtain ⟨_, o, ho, ps, eo, kv⟩ := E3.head
  subst eo
  have hps : ps = [] := List.length_eq_zero_iff.mp (kv.len)
  subst hps
  refine ⟨ho, [(.inr w, v)], rfl, by simp, ?_⟩
  obtain ⟨x3, E4⟩ := E3.frzO (o := .dK (mergeK [] [((.inr w : Key), v)]))
  exact q (.ref p) (.z (.dic [(.inr w, z)])) h1 _ _ (ex_trans x2 x3) ⟨_, rfl, .dic upd_same (.cons (fz_mono x3 _ _ (unz1_ok ez s2)) .nil)⟩ E4 hk
theorem fzAll_atI {vs : List V} {l : List Fz} {n : Int} {x : Fz} (h : FzAll K B vs l) (e : atI l n = some x) : ∃ v, atI vs n = some v ∧ FzOk K B v x := by
  unfold atI at e ⊢
  rw [h.len]
  obtain ⟨j, h1, h2⟩ := Option.bind_eq_some_iff.mp e
  obtain ⟨v, h3, h4⟩ := h.at h2
  exact ⟨v, Option.bind_eq_some_iff.mpr ⟨j, h1, h3⟩, h4⟩
theorem rd_ixZ {b : Bool} {l : List Fz} {n : Int} (h : ∃ z, atI l n = some z ∧ k (.z z) hs) : RD K (rIxL K) (.z (.lst b l)) (.d (.int n)) hs k := by
  intro B H fh v1 v2 s1 s2 E Q q
  cases s2.int
  obtain ⟨z, hz, hk⟩ := h
  obtain ⟨v, e, hv⟩ := s1
  cases e
  cases hv with
  | @lst a us _ _ hs' ha hn =>
    obtain ⟨w, hw, hdw⟩ := fzAll_atI ha hz
    exact ⟨a, us, n, w, rfl, rfl, Evl.ex_l E.bh hs', hw, q w (.z z) hs B H ex_refl ⟨w, rfl, hdw⟩ E hk⟩
theorem ra_lenZ {b : Bool} {l : List Fz} (hk : k (.d (.int l.length)) hs) : RA K (rLenSq K) [.z (.lst b l)] hs k := by
  intro B H fh vs sv E Q q
  match vs, sv with
  | [v], ⟨⟨u, e, hv⟩, _⟩ =>
    cases e
    cases hv with
    | @lst a us _ _ hs' ha hn =>
      refine ⟨a, us, rfl, .inl (Evl.ex_l E.bh hs'), ?_⟩
      rw [ha.len]
      exact q _ (.d (.int _)) hs B H ex_refl ⟨_, rfl, .int _⟩ E hk
theorem rd_catZ {b1 b2 : Bool} {l m : List Fz} (hz : l.length + m.length ≤ 100000) (hk : k (.z (.lst false (l ++ m))) hs) : RD K (rCatS K) (.z (.lst b1 l)) (.z (.lst b2 m)) hs k := by
  intro B H fh v1 v2 s1 s2 E Q q
  obtain ⟨u1, e1, h1⟩ := s1
  cases e1
  obtain ⟨u2, e2, h2⟩ := s2
  cases e2
  cases h1 with
  | @lst a xs _ _ hq ha _ =>
    cases h2 with
    | @lst b ys _ _ hq2 ha2 _ =>
      refine ⟨a, b, xs, ys, rfl, rfl, Evl.ex_l E.bh hq, Evl.ex_l E.bh hq2, Evl.sz_of (by rw [ha.len, ha2.len]; exact hz), fun p hp => ?_⟩
      have x3 := Evl.Ex.new (o := .lst (xs ++ ys)) (free_of E.bh hp)
      exact q (.ref p) (.z (.lst false (l ++ m))) _ _ _ x3 ⟨_, rfl, .lst (.inl (.inl upd_same)) (fzAll_mono x3 _ _ (ha.app ha2)) fun z => by cases z⟩ (E.newF hp) hk
/-! walks, targets -/
theorem src_listZ {B1 : Hp} {a : Addr} {xs : List V} {l : List Fz} (hq : SqL K B1 a xs) (ha : FzAll K B1 xs l) : Src K (Itl K a) (l.map C.z) B1 := by
  intro B H e1 e2
  have hq2 : SqL K H a xs := Evl.ex_l (ex_trans e1 e2) hq
  have hl := ha.len
  refine ⟨fun i hi => ⟨xs, xs[i]'(by rw [List.length_map] at hi; omega), hq2, List.getElem?_eq_getElem _⟩, ⟨xs, hq2, by rw [List.length_map]; omega⟩, ?_⟩
  rintro i x H' hi ⟨rfl, hx⟩
  rw [List.length_map] at hi
  obtain ⟨v, hv, hd⟩ := ha.at (j := i) (List.getElem?_eq_getElem hi)
  have := hx xs hq2
  rw [hv] at this
  cases this
  exact ⟨B, .z l[i], ex_refl, by rw [List.getElem?_map, List.getElem?_eq_getElem hi]; rfl, ⟨_, rfl, fz_mono e1 _ _ hd⟩, fun y E => E⟩
theorem src_tupZ {B1 : Hp} {a : Addr} {xs : List V} {l : List Fz} (hq : SqT K B1 a xs) (ha : FzAll K B1 xs l) : Src K (Itt K a) (l.map C.z) B1 := by
  intro B H e1 e2
  have hq2 : SqT K H a xs := Evl.ex_t (ex_trans e1 e2) hq
  have hl := ha.len
  refine ⟨fun i hi => ⟨xs, xs[i]'(by rw [List.length_map] at hi; omega), hq2, List.getElem?_eq_getElem _⟩, ⟨xs, hq2, by rw [List.length_map]; omega⟩, ?_⟩
  rintro i x H' hi ⟨rfl, hx⟩
  rw [List.length_map] at hi
  obtain ⟨v, hv, hd⟩ := ha.at (j := i) (List.getElem?_eq_getElem hi)
  have := hx xs hq2
  rw [hv] at this
  cases this
  exact ⟨B, .z l[i], ex_refl, by rw [List.getElem?_map, List.getElem?_eq_getElem hi]; rfl, ⟨_, rfl, fz_mono e1 _ _ hd⟩, fun y E => E⟩
theorem wi_LZ (h : WE K tl cs hs fun c h1 => ∃ b l, c = .z (.lst b l) ∧ ki (l.map C.z) h1) : WI K (iList K tl) cs hs ki := by
  intro B H σ fh s E R r
  refine h B H σ fh s E _ fun v c h1 B1 H1 x1 s1 E1 ⟨b, l, e, hk⟩ => ?_
  subst e
  obtain ⟨u, e, hv⟩ := s1
  cases e
  cases hv with
  | @lst a xs _ _ hq ha _ => exact ⟨a, rfl, ⟨xs, Evl.ex_l E1.bh hq⟩, r _ _ h1 B1 H1 x1 E1 (src_listZ hq ha) hk⟩
theorem wi_TZ (h : WE K tl cs hs fun c h1 => ∃ l, c = .z (.tup l) ∧ ki (l.map C.z) h1) : WI K (iTup K tl) cs hs ki := by
  intro B H σ fh s E R r
  refine h B H σ fh s E _ fun v c h1 B1 H1 x1 s1 E1 ⟨l, e, hk⟩ => ?_
  subst e
  obtain ⟨u, e, hv⟩ := s1
  cases e
  cases hv with
  | @tup a xs _ hq ha => exact ⟨a, rfl, ⟨xs, Evl.ex_t E1.bh hq⟩, r _ _ h1 B1 H1 x1 E1 (src_tupZ hq ha) hk⟩
theorem vs_z : ∀ {us : List V} {l : List Fz}, FzAll K B us l → VsOk K B us (l.map C.z)
  | _, _, .nil => trivial
  | _, _, .cons h t => ⟨⟨_, rfl, h⟩, vs_z t⟩
theorem wg_tupZ {n : Nat} {gs : TGs} {l : List Fz} (hn : l.length = n) (h : WGs K gs cs (l.map .z) kk) : WG K (gTup K n gs) cs (.z (.tup l)) kk := fun B H σ v bh s sv Q q => by
  obtain ⟨u, e, hv⟩ := sv
  cases e
  cases hv with
  | tup hs ha => exact ⟨_, _, rfl, Evl.ex_t bh hs, by rw [ha.len]; exact hn, h B H σ _ bh s (vs_z ha) Q q⟩
end
end Cw
/-! Part 51: repr and isinstance of values of any kind; exceptions as cells. -/
namespace Cw
open PySem PySem.Spec PyProof.Rows L2 Gu
/-- data without lists -/
def flatD : PyData → Bool
  | .none => true
  | .bool _ => true
  | .int _ => true
  | .str _ => true
  | .tuple [] => true
  | _ => false
mutual
/-- the data that a value is, where it holds no exception and no list of unknown place -/
def fzPy : Fz → Option PyData
  | .d x => if flatD x then some x else none
  | .tup l => (fzPys l).map .tuple
  | .lst b l => if b then (fzPys l).map .list else none
  | .dic l => (fzPyk l).map .dict
  | .exc _ _ => none
  | .exc0 _ => none
def fzPys : List Fz → Option (List PyData)
  | [] => some []
  | z :: l => match fzPy z, fzPys l with
    | some d, some ds => some (d :: ds)
    | _, _ => none
def fzPyk : List (Key × Fz) → Option (List (PyData × PyData))
  | [] => some []
  | (key, z) :: l => match fzPy z, fzPyk l with
    | some d, some ds => some ((keyD key, d) :: ds)
    | _, _ => none
end
section
variable {X : Cx} {pins : List (Addr × Obj)} {σ : L2.St} {H : Hp} {s : Shared}
theorem pairs_vals {P : Program} {w : World} {el : List DictEntry} {vs : List (Key × Value)} (hp : Pairs (mixKind P w) el vs) : ∀ {kvs : List (Key × V)}, KV kvs vs → Vals (kvs.map fun p => kV p.1) (el.map (·.key)) ∧ Vals (kvs.map (·.2)) (el.map (·.val)) := by
  induction hp with
  | nil =>
    intro kvs kv
    cases kv
    exact ⟨.nil, .nil⟩
  | @cons e q es' vs' h1 h2 _ ih =>
    intro kvs kv
    cases kv with
    | @cons p _ kvs' _ r1 r2 =>
      obtain ⟨i1, i2⟩ := ih r2
      obtain ⟨e1, e2⟩ := r1
      refine ⟨.cons ?_ i1, .cons (show RelV p.2 e.val by rw [h2]; exact e2) i2⟩
      show RelV (kV p.1) e.key
      rw [e1]
      rcases keyIs_shape h1 with ⟨j, t, e3, e4⟩ | ⟨x, t, e3, e4⟩
      · rw [e3]
        exact ⟨t, e4⟩
      · rw [e3]
        exact ⟨t, e4⟩
/-- a dict as it stands -/
theorem dic_at {a : Addr} {kvs : List (Key × V)} (I : Inv X pins σ H s) (h : H a = some (.dK kvs)) :
    a ≠ sysModules ∧ ∃ o es ep, s.heap.get? a = some o ∧ o.cls = .type "dict" ∧ o.data = .dict es ep ∧ Vals (kvs.map fun p => kV p.1) (es.toList.map (·.key)) ∧ Vals (kvs.map (·.2)) (es.toList.map (·.val)) := by
  obtain ⟨_, hs, vs, kv, o, es, ep, ho, hx, hdt, _, hp, _⟩ := I.hok a _ h
  exact ⟨beq_eq_false_iff_ne.mp hs, o, es, ep, ho, hx.1, hdt, pairs_vals hp kv⟩
mutual
theorem reads_fz (I : Inv X pins σ H s) : ∀ (z : Fz) (v : V) (u : Value) (d : PyData), FzOk X.K H v z → fzPy z = some d → RelV v u → ∃ as, Reads s.heap u d as ∧ sysModules ∉ as
  | .d x, v, u, d, h, e, r => by
    cases h with
    | d hd =>
      unfold fzPy at e
      split at e
      · rename_i hf
        cases e
        cases hd with
        | non => cases r; exact ⟨_, Reads.none, by simp⟩
        | bl b => cases r; exact ⟨_, Reads.bool b, by simp⟩
        | int i =>
          obtain ⟨t, rfl⟩ := r
          exact ⟨_, Reads.int i t, by simp⟩
        | str x =>
          obtain ⟨t, rfl⟩ := r
          exact ⟨_, Reads.str x t, by simp⟩
        | lst _ _ => cases hf
        | @tup a us ds hs ha =>
          cases ds with
          | cons _ _ => cases hf
          | nil =>
            cases r
            cases ha
            obtain ⟨its, rv, ⟨o, ho, hc, n, hd⟩, _⟩ := I.tuple hs
            cases rv
            exact ⟨_, Reads.tuple ho hc hd .nil, by simp⟩
      · cases e
  | .tup l, _, u, d, h, e, r => by
    cases h with
    | tup hs ha =>
      cases r
      unfold fzPy at e
      obtain ⟨ds, e1, rfl⟩ := Option.map_eq_some_iff.mp e
      obtain ⟨its, rv, ⟨o, ho, hc, n, hd⟩, _⟩ := I.tuple hs
      obtain ⟨as, h1, h2⟩ := reads_fzs I l _ its ds ha e1 rv
      exact ⟨_, Reads.tuple ho hc hd h1, h2⟩
  | .lst b l, _, u, d, h, e, r => by
    cases h with
    | lst hs ha hn =>
      cases r
      unfold fzPy at e
      split at e
      · rename_i hb
        obtain ⟨ds, e1, rfl⟩ := Option.map_eq_some_iff.mp e
        obtain ⟨its, rv, ⟨o, n, ho, hc, _, hd⟩, _⟩ := I.list hs
        obtain ⟨as, h1, h2⟩ := reads_fzs I l _ its ds ha e1 rv
        refine ⟨_, Reads.list ho hc hd h1, fun z => ?_⟩
        rcases List.mem_cons.mp z with z | z
        · exact hn hb z.symm
        · exact h2 z
      · cases e
  | .dic l, _, u, d, h, e, r => by
    cases h with
    | @dic a ps _ hs ha =>
      cases r
      unfold fzPy at e
      obtain ⟨kds, e1, rfl⟩ := Option.map_eq_some_iff.mp e
      obtain ⟨hn, o, es, ep, ho, hc, hd, k1, k2⟩ := dic_at I hs
      obtain ⟨as, bs, h1, h2, h3, h4⟩ := reads_fzk I l ps _ _ kds ha e1 k1 k2
      refine ⟨_, Reads.dict ho hc hd h1 h2, fun z => ?_⟩
      rcases List.mem_append.mp z with z | z
      · rcases List.mem_cons.mp z with z | z
        · exact hn z.symm
        · exact h3 z
      · exact h4 z
  | .exc _ _, _, _, _, _, e, _ => by
    unfold fzPy at e
    cases e
  | .exc0 _, _, _, _, _, e, _ => by
    unfold fzPy at e
    cases e
theorem reads_fzs (I : Inv X pins σ H s) : ∀ (l : List Fz) (vs : List V) (us : List Value) (ds : List PyData), FzAll X.K H vs l → fzPys l = some ds → Vals vs us → ∃ as, ReadsAll s.heap us ds as ∧ sysModules ∉ as
  | [], _, _, _, h, e, r => by
    unfold fzPys at e
    cases e
    cases h
    cases r
    exact ⟨_, .nil, by simp⟩
  | z :: l, _, _, _, h, e, r => by
    unfold fzPys at e
    cases e1 : fzPy z with
    | none => rw [e1] at e; cases e
    | some d =>
      cases e2 : fzPys l with
      | none => rw [e1, e2] at e; cases e
      | some ds =>
        rw [e1, e2] at e
        cases e
        cases h with
        | cons h1 h2 =>
          cases r with
          | cons r1 r2 =>
            obtain ⟨as, a1, a2⟩ := reads_fz I z _ _ d h1 e1 r1
            obtain ⟨bs, b1, b2⟩ := reads_fzs I l _ _ ds h2 e2 r2
            exact ⟨_, .cons a1 b1, fun q => (List.mem_append.mp q).elim a2 b2⟩
theorem reads_fzk (I : Inv X pins σ H s) : ∀ (l : List (Key × Fz)) (ps : List (Key × V)) (us ws : List Value) (ds : List (PyData × PyData)), FzKv X.K H ps l → fzPyk l = some ds → Vals (ps.map fun p => kV p.1) us → Vals (ps.map (·.2)) ws →
    ∃ as bs, ReadsAll s.heap us (ds.map (·.1)) as ∧ ReadsAll s.heap ws (ds.map (·.2)) bs ∧ sysModules ∉ as ∧ sysModules ∉ bs
  | [], _, _, _, _, h, e, r, r' => by
    unfold fzPyk at e
    cases e
    cases h
    cases r
    cases r'
    exact ⟨_, _, .nil, .nil, by simp, by simp⟩
  | (key, z) :: l, _, _, _, _, h, e, r, r' => by
    unfold fzPyk at e
    cases e1 : fzPy z with
    | none => rw [e1] at e; cases e
    | some d =>
      cases e2 : fzPyk l with
      | none => rw [e1, e2] at e; cases e
      | some ds =>
        rw [e1, e2] at e
        cases e
        cases h with
        | cons h1 h2 =>
          cases r with
          | @cons _ ku _ _ r1 r2 =>
            cases r' with
            | cons r3 r4 =>
              obtain ⟨as, a1, a2⟩ := reads_fz I z _ _ d h1 e1 r3
              obtain ⟨bs, cs, b1, b2, b3, b4⟩ := reads_fzk I l _ _ _ ds h2 e2 r2 r4
              have hk : ∃ as, Reads s.heap ku (keyD key) as ∧ sysModules ∉ as := by
                cases key with
                | inl i =>
                  obtain ⟨t, e3⟩ := r1
                  exact ⟨_, e3 ▸ Reads.int i t, by simp⟩
                | inr x =>
                  obtain ⟨t, e3⟩ := r1
                  exact ⟨_, e3 ▸ Reads.str x t, by simp⟩
              obtain ⟨ks, k1, k2⟩ := hk
              exact ⟨_, _, .cons k1 b1, .cons a1 b2, fun q => (List.mem_append.mp q).elim k2 b3, fun q => (List.mem_append.mp q).elim a2 b4⟩
end
/-- repr of any such value -/
def rReprZ (K : PySem.W.Frag) : List V → Hp → VK → Prop := fun xs H Q => ∃ v z d, xs = [v] ∧ FzOk K H v z ∧ fzPy z = some d ∧ d.showable = true ∧ d.depth ≤ 60 ∧ d.shown.length ≤ sizeLine ∧ Q (.str d.shown) H
theorem reads_ref {h : Heap} {a : Addr} {d : PyData} {as : List Addr} (r : Reads h (.ref a) d as) : True := trivial
theorem call_reprZ (hgd : X.A.guards = some []) (hu : X.A.units + 64 < cLine) : CallR X (.builtin "repr") (rReprZ X.K) := by
  intro pins s σ H xs us Q I r h
  obtain ⟨v, z, d, rfl, hf, hp, h1, h3, h4, q⟩ := h
  obtain ⟨u, rfl, ru⟩ := vals1' r
  obtain ⟨as, rd, hn⟩ := reads_fz I z v u d hf hp ru
  have go : ∀ a, u = .ref a → wpAny (model X.prog X.w) X.A (call (.builtin "repr") [u]) (EP X pins σ Q) X.xe s := fun a e => by
    subst e
    refine PySem.repr_of_reads' rd h1 (fun _ => hn) hgd (by omega) (fun _ _ z => z) (fun h' u tk hk => ?_) h4
    exact ⟨.str _, H, I.kept (t' := tk) hk, ⟨u, rfl⟩, q⟩
  cases rd with
  | none => exact PySem.P.repr_of_none ⟨.str _, H, I.tok _, ⟨_, rfl⟩, q⟩
  | bool b => exact cr_reprB pins s σ H [.bl b] _ Q I (.cons rfl .nil) ⟨b, rfl, by cases b <;> exact q⟩
  | int i t => exact SkE.call_repr_int pins s σ H [.int i] _ Q I (.cons ⟨t, rfl⟩ .nil) ⟨i, rfl, of_decide_eq_true h1, q⟩
  | str x t => exact PySem.P.repr_of_str ⟨.str _, H, I.tok _, ⟨_, rfl⟩, q⟩ h4
  | list => exact go _ rfl
  | tuple => exact go _ rfl
  | dict => exact go _ rfl
theorem cr_reprZ {K : PySem.W.Frag} (hg : X.A.guards = some []) (hu : X.A.units + 64 < cLine) (hK : X.K = K := by rfl) : CallR X (.builtin "repr") (rReprZ K) := hK ▸ call_reprZ hg hu
end
end Cw
/-! What is looked up once, by evaluation: the exception classes; C() without own __init__. -/
namespace Ec
open PySem PySem.Spec PyProof.Rows L2 Cw
/-- the class object stands as OexC wants it -/
def oexB (K : PySem.W.Frag) (C : Addr) : Bool := match K.lookup C with
  | some ⟨.type "type", _, .cls cd, sl⟩ => (match cd.mro, sl.toList with
    | .ref C' :: bm, [_, _, _, _, some (.builtin n), _] => decide (C' = C) && decide (n = "ValueError.__new__") && !cd.hasDel && cd.hasDict && PySem.HandSPX.refsVE bm
    | _, _ => false)
  | _ => false
theorem oexB_ok {K : PySem.W.Frag} {C : Addr} (h : oexB K C = true) : ∃ nm q N bs bm sn sub ab col dd k0 k1 k2 k3 k5, K.lookup C = some (excClassObj nm q C N bs bm true sn sub ab col dd k0 k1 k2 k3 k5 "ValueError.__new__") ∧ PySem.HandSPX.refsVE bm = true := by
  unfold oexB at h
  split at h
  · rename_i dd cd sl ho
    split at h
    · rename_i C' bm k0 k1 k2 k3 n k5 em es
      simp only [Bool.and_eq_true, Bool.not_eq_true', decide_eq_true_eq] at h
      obtain ⟨⟨⟨⟨rfl, rfl⟩, h1⟩, h2⟩, h3⟩ := h
      obtain ⟨nm, bs, mro, N, q, hdct, sn, sub, ab, col, del⟩ := cd
      have em' : mro = .ref C' :: bm := em
      subst em'
      have h1' : del = false := h1
      subst h1'
      have h2' : hdct = true := h2
      subst h2'
      obtain ⟨sl'⟩ := sl
      have es' : sl' = [k0, k1, k2, k3, some (.builtin "ValueError.__new__"), k5] := es
      subst es'
      exact ⟨nm, q, N, bs, bm, sn, sub, ab, col, dd, k0, k1, k2, k3, k5, ho, h3⟩
    · cases h
  · cases h
def exB (K : PySem.W.Frag) (C : Addr) : Bool := oexB K C && decide (PySem.W.findIn K (.ref C) "__setattr__" = some (some (.builtin "object.__setattr__"))) && decide (PySem.W.subIn K (.ref C) (.type "BaseException") = some true) && decide (PySem.W.typeIn K (.ref C) = some (.type "type")) && PySem.W.keepIn K (.ref C) &&
  (PySem.W.clsIn K C).isSome && decide (PySem.W.findIn K (.ref C) "__getattribute__" = some (some (.builtin "BaseException.__getattribute__"))) && decide (PySem.W.findIn K (.ref C) "__getattr__" = some none) && PySem.W.hasDictIn K C &&
  decide (PySem.W.findIn K (.ref C) "__class__" = some (some (.builtin "object.__class__"))) && decide (PySem.W.specialIn K (.builtin "object.__class__") "__get__" = some (some (.builtin "getset_descriptor.__get__"))) && decide (PySem.W.takesIn K (.builtin "object.__class__") = some true) && decide (PySem.W.mroIn K C (.type "object") = some true)
theorem exB_ok {K : PySem.W.Frag} {C : Addr} (h : exB K C = true) : ExK K C := by
  unfold exB at h
  simp only [Bool.and_eq_true, decide_eq_true_eq] at h
  obtain ⟨⟨⟨⟨⟨⟨⟨⟨⟨⟨⟨⟨h1, h2⟩, h3⟩, h4⟩, h5⟩, h6⟩, h7⟩, h8⟩, h9⟩, h10⟩, h11⟩, h12⟩, h13⟩ := h
  exact ⟨⟨oexB_ok h1, h2, h3, h4, h5⟩, h6, h7, h8, h3, h9, h10, h11, h12, h13⟩
/-- the class and its __init__ that says super() -/
def supB (file0 : Str) (K : PySem.W.Frag) (C cda cc : Addr) : Bool := (match K.lookup cc with
    | some ⟨_, _, .cell (some (.ref C')), _⟩ => decide (C' = C)
    | _ => false) && (match K.lookup cda with
    | some ⟨_, _, .fields fv, _⟩ => (match (fv[2]? : Option Value) with
      | some (.str file _) => file0 == file
      | _ => false)
    | _ => false) && decide (PySem.W.ks_superIn K C C "__init__" = some (some (.builtin "ValueError.__init__"))) && decide (PySem.W.subIn K (.ref C) (.type "ValueError") = some true) && decide (PySem.W.mroIn K C (.ref C) = some true) && decide (PySem.W.nsIn K cStatics "thirdparty.any" = some none)
theorem supB_ok {P : Program} {K : PySem.W.Frag} {C cda cc : Addr} (hx : ExK K C) (ht : (P.main.scope.names.lookup ("super" : Str)).isSome = false) (h : supB P.main.file K C cda cc = true) : SupC P K C cda cc := by
  unfold supB at h
  simp only [Bool.and_eq_true, decide_eq_true_eq] at h
  obtain ⟨⟨⟨⟨⟨h1, h2⟩, h3⟩, h4⟩, h5⟩, h6⟩ := h
  refine ⟨hx.oex, ?_, ?_, ht, h3, h4, h5, h6⟩
  · split at h1
    · rename_i a b c d e
      obtain rfl := of_decide_eq_true h1
      exact ⟨_, _, _, e⟩
    · cases h1
  · split at h2
    · rename_i a b fv d e
      split at h2
      · rename_i file tf e2
        exact ⟨_, _, _, _, _, _, e, e2, h2⟩
      · cases h2
    · cases h2
/-- which class is below which -/
def subT (K : PySem.W.Frag) (cls : List Addr) (cs : List Value) (tab : List (List Bool)) : Bool := (cls.zip tab).all fun p => (cs.zip p.2).all fun q => decide (PySem.W.kitOne K (.ref p.1) q.1 = some q.2)
theorem subT_ok {K : PySem.W.Frag} {cls : List Addr} {cs : List Value} {tab : List (List Bool)} (h : subT K cls cs tab = true) {i j : Nat} {C : Addr} {c : Value} {row : List Bool} {b : Bool} (h1 : cls[i]? = some C) (h2 : tab[i]? = some row) (h3 : cs[j]? = some c) (h4 : row[j]? = some b) :
    PySem.W.kitOne K (.ref C) c = some b := by
  have a1 := List.all_eq_true.mp h (C, row) (List.mem_of_getElem? (i := i) (List.getElem?_zip_eq_some.mpr ⟨h1, h2⟩))
  have a2 := List.all_eq_true.mp a1 (c, b) (List.mem_of_getElem? (i := j) (List.getElem?_zip_eq_some.mpr ⟨h3, h4⟩))
  exact of_decide_eq_true a2
section
variable {X : Cx} {p pos : Pos}
/-- C(), a class without own __init__ -/
theorem pe_mk0 {C : Addr} {bmB : List Value} {B newId initId : String} {x : Str} (F : ExcBaseFacts B newId initId bmB) (q : PySem.W.excIn X.K C bmB newId = true) (gC : X.mg x = some (.ref C)) (kC : PySem.W.keepIn X.K (.ref C) = true) (hg : Gl X x) (hdb : (x == ("__debug__" : Str)) = false := by decide) :
    PE X (.Call (.Name x p) [] [] pos) (fun _ H Q => ∀ a, H a = none → Q (.ref a) (upd H a (ExO (.ref C) a))) := by
  refine ⟨fun pins s σ H Q I h => ?_⟩
  refine wpAny_Call_Name_kw (ld_glob I hg gC ?_ hdb)
  refine PySem.W.callWith_K0 I.kIn kC ?_
  show wpAny _ _ (call (.ref C) []) _ _ _
  obtain ⟨bm, N, nm, qn, bs, hdct, sn, sub, ab, col, dd, k0, k1, k2, k3, k5, mN, hC, hN, hni, T⟩ := exc_obj I.kIn q
  refine wpAny_call_exc_subT F T hC hN hni (fun h' a hm => ?_) (by show 0 ≤ sizeLine; omega)
  have hn : H a = none := I.hok.gone hm.new
  obtain ⟨t, ht, _, _⟩ := hm.there
  exact ⟨.ref a, upd H a (ExO (.ref C) a), I.laidN hm.keeps hm.new hn (exO_ok ht ⟨rfl, rfl⟩ rfl rfl rfl (show 4 < 6 by decide)), rfl, h a hn⟩
end
end Ec
/-! Part 52: cells: repr, isinstance, exceptions. -/
namespace Cw
open PySem PySem.Spec PyProof.Rows L2 Gu Ec
def tyZ : Fz → String
  | .d x => tyD x
  | .tup _ => "tuple"
  | .lst _ _ => "list"
  | .dic _ => "dict"
  | _ => "object"
def isExc : Fz → Bool
  | .exc _ _ => true
  | .exc0 _ => true
  | _ => false
theorem tyx_fz {K : PySem.W.Frag} {H : Hp} {v : V} {z : Fz} (h : FzOk K H v z) (hn : isExc z = false) : TyX K H v (.type (tyZ z)) := by
  cases h with
  | d hd => exact tyx_of hd
  | tup hs _ =>
    rcases hs with (e | ⟨o, e⟩) | ⟨o, its, n, e, c, _⟩
    · exact .base (.tup e)
    · exact .fTuple e
    · exact .kTuple e c
  | lst hs _ _ =>
    rcases hs with (e | ⟨o, e⟩) | ⟨o, its, n, e, c, _⟩
    · exact .base (.lst e)
    · exact .base (.frz e)
    · exact .kList e c
  | dic hs _ => exact .base (.dK hs)
  | exc _ _ _ _ _ => cases hn
  | exc0 _ => cases hn
section
variable {X : Cx} {K : PySem.W.Frag}
def rStrB : List V → Hp → VK → Prop := fun xs H Q => ∃ b : Bool, xs = [.bl b] ∧ Q (.str (if b then "True" else "False")) H
theorem cr_strB : CallR X (.type "str") rStrB := by
  intro pn z τ G xs us Q J r h
  obtain ⟨b, rfl, q⟩ := h
  obtain ⟨u, rfl, ru⟩ := vals1' r
  cases (show u = Value.bool b from ru)
  exact PySem.P.str_of_bool ⟨.str _, G, J.tok _, ⟨_, rfl⟩, q⟩
end
section
variable {K : PySem.W.Frag} {cs : List C} {hs : List HC} {k : KC} {te : TE} {tr tk : TA}
theorem ra_strB {b : Bool} (hk : k (.d (.str (boolT b))) hs) : RA K rStrB [.d (.bool b)] hs k := by
  intro B H fh vs sv E Q q
  match vs, sv with
  | [v], ⟨s1, _⟩ =>
    cases s1.bl
    refine ⟨b, rfl, ?_⟩
    exact q _ (.d (.str (boolT b))) hs B H ex_refl ⟨_, rfl, by cases b <;> exact .str _⟩ E hk
theorem ra_reprZ {c : C} {z : Fz} {d : PyData} (e : unz1 c = some z) (hp : fzPy z = some d) (h1 : d.showable = true) (h2 : d.depth ≤ 60) (h3 : d.shown.length ≤ sizeLine) (hk : k (.d (.str d.shown)) hs) : RA K (rReprZ K) [c] hs k := by
  intro B H fh vs sv E Q q
  match vs, sv with
  | [v], ⟨s1, _⟩ => exact ⟨v, z, d, rfl, fz_mono E.bh _ _ (unz1_ok e s1), hp, h1, h2, h3, q _ (.d (.str _)) hs B H ex_refl ⟨_, rfl, .str _⟩ E hk⟩
theorem ra_isiZ {c : C} {z : Fz} {n : String} {b : Bool} (e : unz1 c = some z) (hx : isExc z = false) (hb : kitB (tyZ z) n = some b) (hk : k (.d (.bool b)) hs) : RA K (rIsi K) [c, .v (.ty n)] hs k := by
  intro B H fh vs sv E Q q
  match vs, sv with
  | [v, w], ⟨s1, s2, _⟩ =>
    have ew : some w = some (V.ty n) := s2
    cases ew
    exact ⟨v, .ty n, _, _, b, rfl, .ty n, tyx_fz (fz_mono E.bh _ _ (unz1_ok e s1)) hx, kit_ty hb, q _ (.d (.bool b)) hs B H ex_refl ⟨_, rfl, .bl _⟩ E hk⟩
/-- isinstance of an exception: rIsX for one with fields, rIsX0 for one without -/
def rIsX0 (K : PySem.W.Frag) : List V → Hp → VK → Prop := fun xs H Q => ∃ (a Cl : Addr) (c : V) (cv : Value) (b : Bool), xs = [.ref a, c] ∧ H a = some (ExO (.ref Cl) a) ∧ ExK K Cl ∧ (∀ u, RelV c u → u = cv) ∧ PySem.W.kitOne K (.ref Cl) cv = some b ∧ Q (.bl b) H
def rIsE2 (K : PySem.W.Frag) : List V → Hp → VK → Prop := fun xs H Q => rIsX K xs H Q ∨ rIsX0 K xs H Q
end
section
variable {X : Cx}
theorem call_isE2 : CallR X (.builtin "isinstance") (rIsE2 X.K) := by
  intro pins s σ H xs us Q I r h
  rcases h with h | h
  · exact call_isX pins s σ H xs us Q I r h
  · obtain ⟨a, Cl, c, cv, b, rfl, h1, C, hcv, e, q⟩ := h
    cases r with
    | cons rx rr =>
      cases rr with
      | cons rt rr =>
        cases rr
        cases rx
        obtain rfl := hcv _ rt
        obtain ⟨oe, vs, ho, hz, hd, _⟩ := (I.hok a _ h1).1
        have J : PySem.W.InstAt s.heap a oe Cl none := ⟨ho, hz.1, by unfold PySem.W.notCls; rw [hd] <;> rfl, by rw [hz.2]; exact True.intro⟩
        exact PySem.W.kia_one (PySem.W.kitx_exc C.isC C.hg C.hk C.hs C.ha C.hn C.ht C.hm) I.kIn J e (fun z => nomatch z) fun tk => ⟨.bl b, H, I.kept (t' := tk) fun _ _ z => z, rfl, q⟩
theorem cr_isE2 {K : PySem.W.Frag} (hK : X.K = K := by rfl) : CallR X (.builtin "isinstance") (rIsE2 K) := hK ▸ call_isE2
end
/-- an exception of the class at Cl -/
def ofCls (Cl : Addr) : Fz → Prop
  | .exc C _ => C = Cl
  | .exc0 C => C = Cl
  | _ => False
section
variable {K : PySem.W.Frag} {cs : List C} {hs : List HC} {k : KC} {te : TE} {tr tk : TA}
theorem relv_det {c : V} {cv : Value} (h : RelV c cv) (hc : (∃ a, c = .ref a) ∨ ∃ n, c = .ty n) : ∀ u, RelV c u → u = cv := by
  intro u hu
  rcases hc with ⟨a, rfl⟩ | ⟨n, rfl⟩
  · cases h; cases hu; rfl
  · cases h; cases hu; rfl
theorem ra_isX {z : Fz} {Cl : Addr} {c : V} {cv : Value} {b : Bool} (hz : ofCls Cl z) (hx : ExK K Cl) (hc : RelV c cv) (hc2 : (∃ a, c = .ref a) ∨ ∃ n, c = .ty n) (hb : PySem.W.kitOne K (.ref Cl) cv = some b) (hk : k (.d (.bool b)) hs) : RA K (rIsE2 K) [.z z, .v c] hs k := by
  intro B H fh vs sv E Q q
  match vs, sv with
  | [v, w], ⟨⟨u, e, hv⟩, s2, _⟩ =>
    cases e
    have ew : some w = some c := s2
    cases ew
    have hq := q _ (.d (.bool b)) hs B H ex_refl ⟨_, rfl, .bl _⟩ E hk
    cases hv with
    | d _ => exact hz.elim
    | tup _ _ => exact hz.elim
    | lst _ _ _ => exact hz.elim
    | dic _ _ => exact hz.elim
    | @exc a dx C o p ps fs h1 h2 h3 h4 _ =>
      have e : C = Cl := hz
      subst e
      exact .inl ⟨a, C, dx, o, p, ps, c, cv, b, rfl, E.bh _ _ h1, h2, E.bh _ _ h3, h4, hx, relv_det hc hc2, hb, hq⟩
    | @exc0 a C h1 =>
      have e : C = Cl := hz
      subst e
      exact .inr ⟨a, C, c, cv, b, rfl, E.bh _ _ h1, hx, relv_det hc hc2, hb, hq⟩
theorem fs_lookup {B : Hp} {f : Str} : ∀ {ps : List (Str × V)} {fs : List (Str × Fz)} {z : Fz}, FzFs K B ps fs → fs.lookup f = some z → ∃ v, ps.lookup f = some v ∧ FzOk K B v z
  | _, _, _, .nil, h => by cases h
  | _, _, _, .cons (k := g) h1 h2, h => by
    rw [List.lookup_cons] at h ⊢
    split at h
    · cases h
      exact ⟨_, rfl, h1⟩
    · exact fs_lookup h2 h
/-- e.f -/
theorem we_xfd {f : Str} (h : WE K te cs hs fun c h1 => ∃ Cl fs z, c = .z (.exc Cl fs) ∧ ExK K Cl ∧ PySem.W.findIn K (.ref Cl) f = some none ∧ fs.lookup f = some z ∧ k (.z z) h1) : WE K (tXfd K f te) cs hs k := by
  intro B H σ fh s E Q q
  refine h B H σ fh s E _ fun v c h1 B1 H1 x1 s1 E1 ⟨Cl, fs, z, e, hx, hno, hl, hk⟩ => ?_
  subst e
  obtain ⟨u, e, hv⟩ := s1
  cases e
  cases hv with
  | @exc a dx C o p ps _ h1 h2 h3 h4 h5 =>
    obtain ⟨w, hw, hfz⟩ := fs_lookup h5 hl
    exact ⟨a, Cl, dx, o, p, ps, w, rfl, E1.bh _ _ h1, h2, E1.bh _ _ h3, h4, hx, hno, hw, q w (.z z) _ B1 H1 x1 ⟨w, rfl, hfz⟩ E1 hk⟩
theorem fs_zip {B : Hp} : ∀ {ns : List Str} {vs : List V} {zs : List Fz}, FzAll K B vs zs → FzFs K B (ns.zip vs) (ns.zip zs)
  | [], _, _, _ => by simp; exact .nil
  | _ :: _, _, _, .nil => .nil
  | _ :: _, _, _, .cons h t => .cons h (fs_zip t)
theorem fs_app {B : Hp} : ∀ {ps ps' : List (Str × V)} {fs fs' : List (Str × Fz)}, FzFs K B ps fs → FzFs K B ps' fs' → FzFs K B (ps ++ ps') (fs ++ fs')
  | _, _, _, _, .nil, h => h
  | _, _, _, _, .cons h t, h' => .cons h (fs_app t h')
theorem fs_rev {B : Hp} : ∀ {ps : List (Str × V)} {fs : List (Str × Fz)}, FzFs K B ps fs → FzFs K B ps.reverse fs.reverse
  | _, _, .nil => .nil
  | _, _, .cons h t => by
    rw [List.reverse_cons, List.reverse_cons]
    exact fs_app (fs_rev t) (.cons h .nil)
/-- the new exception, never changed -/
theorem mk_cell {B H : Hp} {fh h1 : List HC} {C a dx : Addr} {ns : List Str} {vs : List V} {zs : List Fz} (E : En K B H (h1 ++ fh)) (hd : FzAll K B vs zs) (ha : H a = none) (hx : H dx = none) (ne : dx ≠ a) :
    ∃ B', Ex B B' ∧ FzOk K B' (.ref a) (.exc C (ns.zip zs).reverse) ∧ En K B' (upd (upd H dx (exd dx (ns.zip vs).reverse)) a (exo a C (some dx))) (h1 ++ fh) := by
  have E1 := E.newF (o := exd dx (ns.zip vs).reverse) hx
  have ha1 : upd H dx (exd dx (ns.zip vs).reverse) a = none := by rw [upd_ne (Ne.symm ne)]; exact ha
  have E2 := E1.newF (o := exo a C (some dx)) ha1
  have x1 := Evl.Ex.new (o := exd dx (ns.zip vs).reverse) (free_of E.bh hx)
  have x2 := Evl.Ex.new (o := exo a C (some dx)) (free_of E1.bh ha1)
  refine ⟨_, ex_trans x1 x2, .exc upd_same (.inr rfl) (x2 _ _ upd_same) (.inr rfl) (fs_rev (fs_zip (fzAll_mono (ex_trans x1 x2) _ _ hd))), E2⟩
/-- C(e, ..) -/
theorem we_mkV {C : Addr} {ns : List Str} (h : WA K tr cs hs fun cl h1 => ∃ zs, unz cl = some zs ∧ zs.length = ns.length ∧ ns.length ≤ 1000 ∧ k (.z (.exc C (ns.zip zs).reverse)) h1) : WE K (tMkV C ns tr) cs hs k := by
  intro B H σ fh s E Q q
  refine h B H σ fh s E _ fun vs cl h1 B1 H1 x1 s1 E1 ⟨zs, e, hl, hl2, hk⟩ => ?_
  have hd := unz_ok e s1
  refine ⟨by rw [hd.len, hl], hl2, fun a dx ha hx ne => ?_⟩
  obtain ⟨B', x2, ho, E2⟩ := mk_cell (C := C) (ns := ns) E1 hd ha hx ne
  exact q (.ref a) (.z _) h1 B' _ (ex_trans x1 x2) ⟨_, rfl, ho⟩ E2 hk
/-- C(k = e), one keyword -/
theorem we_mkV1 {C : Addr} {n : Str} {gV : List V → List V → List V} (hg : ∀ a z, gV [a] [z] = [a, z]) (h : WA K tk cs hs fun cl h1 => ∃ c z, cl = [c] ∧ unz1 c = some z ∧ k (.z (.exc C [(n, z)])) h1) : WE K (tMkVK C [n] gV tk) cs hs k := by
  intro B H σ fh s E Q q
  refine h B H σ fh s E _ fun vs cl h1 B1 H1 x1 s1 E1 ⟨c, z, e, ez, hk⟩ => ?_
  subst e
  match vs, s1 with
  | [v], ⟨s1, _⟩ =>
    have hd : FzAll K B1 [v] [z] := .cons (unz1_ok ez s1) .nil
    refine ⟨[v], fun a => hg _ _, rfl, by simp, fun a dx ha hx ne => ?_⟩
    obtain ⟨B', x2, ho, E2⟩ := mk_cell (C := C) (ns := [n]) E1 hd ha hx ne
    exact q (.ref a) (.z (.exc C [(n, z)])) h1 B' _ (ex_trans x1 x2) ⟨_, rfl, ho⟩ E2 hk
/-- C(k2 = e2, k1 = e1), two keywords in the other order -/
theorem we_mkV2 {C : Addr} {n1 n2 : Str} {gV : List V → List V → List V} (hg : ∀ a y z, gV [a] [y, z] = [a, z, y]) (h : WA K tk cs hs fun cl h1 => ∃ c2 c1 z2 z1, cl = [c2, c1] ∧ unz1 c2 = some z2 ∧ unz1 c1 = some z1 ∧ k (.z (.exc C [(n2, z2), (n1, z1)])) h1) : WE K (tMkVK C [n1, n2] gV tk) cs hs k := by
  intro B H σ fh s E Q q
  refine h B H σ fh s E _ fun vs cl h1 B1 H1 x1 s1 E1 ⟨c2, c1, z2, z1, e, ez2, ez1, hk⟩ => ?_
  subst e
  match vs, s1 with
  | [v2, v1], ⟨s2, s1, _⟩ =>
    have hd : FzAll K B1 [v1, v2] [z1, z2] := .cons (unz1_ok ez1 s1) (.cons (unz1_ok ez2 s2) .nil)
    refine ⟨[v1, v2], fun a => hg _ _ _, rfl, by simp, fun a dx ha hx ne => ?_⟩
    obtain ⟨B', x2, ho, E2⟩ := mk_cell (C := C) (ns := [n1, n2]) E1 hd ha hx ne
    exact q (.ref a) (.z (.exc C [(n2, z2), (n1, z1)])) h1 B' _ (ex_trans x1 x2) ⟨_, rfl, ho⟩ E2 hk
theorem we_varZ {i : Nat} {x : Fz} (h : cs[i]? = some (.z x)) (hk : k (.z x) hs) : WE K (tVar i) cs hs k := we_var h (by intro z; cases z) hk
theorem unzI {cl : List C} {zs : List Fz} {p : List Fz → Prop} (e : unz cl = some zs) (hz : Nat.ble zs.length 100000 = true) (h : p zs) : ∃ zs, unz cl = some zs ∧ Nat.ble zs.length 100000 = true ∧ p zs := ⟨zs, e, hz, h⟩
/-- C() -/
theorem we_mk0 {C : Addr} (hk : k (.z (.exc0 C)) hs) : WE K (fun _ H Q => ∀ a, H a = none → Q (.ref a) (upd H a (ExO (.ref C) a))) cs hs k := fun B H σ fh s E Q q a ha =>
  q (.ref a) (.z (.exc0 C)) hs _ _ (Evl.Ex.new (free_of E.bh ha)) ⟨_, rfl, .exc0 upd_same⟩ (E.newF ha) hk
end
end Cw
/-! Part 53: exception classes that may be made by their names. -/
namespace Ec
open PySem PySem.Spec PyProof.Rows L2 Cw
/-- the scope of such a __init__, by evaluation -/
def scB (N P : List Str) (sc : Scope) : Bool := decide (sc.kind = .function) && !sc.isCoroutine && !sc.isGenerator && decide N.Nodup && decide (N.take P.length = P) && P.all (fun x => decide (sc.names.lookup x = some .local)) && sc.names.all (fun y => decide (y.2 ≠ .cell)) &&
  sc.names.all (fun y => decide (y.2 ≠ .free) || decide (y.1 = "__class__"))
theorem scB_ok {N P : List Str} {sc : Scope} (h : scB N P sc = true) : SScope N P sc := by
  unfold scB at h
  simp only [Bool.and_eq_true, Bool.not_eq_true', decide_eq_true_eq, List.all_eq_true, Bool.or_eq_true] at h
  obtain ⟨⟨⟨⟨⟨⟨⟨h1, h2⟩, h3⟩, h4⟩, h5⟩, h6⟩, h7⟩, h8⟩ := h
  refine ⟨h1, h2, h3, h4, h5, h6, h7, fun x hx => ?_⟩
  rcases h8 _ (PySem.mem_of_lookup hx) with z | z
  · exact absurd rfl z
  · exact z
/-- C may be made by its name, positional arguments -/
def MkX (P : Program) (w : World) (K : PySem.W.Frag) (mg : Str → Option Value) (base : Heap) (lvl : Nat) (x : Str) (C : Addr) (ns : List Str) : Prop :=
  ExK K C ∧ mg x = some (.ref C) ∧ ∃ fI fd ps, PySem.W.findIn K (.ref C) "__init__" = some (some (.ref fI)) ∧ PySem.W.typeIn K (.ref fI) = some (.type "function") ∧ FnOk P w K mg base CX0 lvl fI fd ps (spIn C ns) ∧ Binds K fd ps []
/-- .. by keyword -/
def MkXK (P : Program) (w : World) (K : PySem.W.Frag) (mg : Str → Option Value) (base : Heap) (lvl : Nat) (x : Str) (C : Addr) (ns ks : List Str) (gV : List V → List V → List V) : Prop :=
  ExK K C ∧ mg x = some (.ref C) ∧ ∃ fI fd ps g, PySem.W.findIn K (.ref C) "__init__" = some (some (.ref fI)) ∧ PySem.W.typeIn K (.ref fI) = some (.type "function") ∧ FnOk P w K mg base CX0 lvl fI fd ps (spIn C ns) ∧ KBinds K fd ps ks g gV
def Mk0X (K : PySem.W.Frag) (mg : Str → Option Value) (x : Str) (C : Addr) : Prop := ExK K C ∧ mg x = some (.ref C) ∧ PySem.W.excIn K C [.type "ValueError", .type "Exception", .type "BaseException", .type "object"] "ValueError.__new__" = true
section
variable {X : Cx} {K : PySem.W.Frag} {e : Expr} {es : List Expr} {p pos : Pos} {lvl : Nat} {x : Str} {C : Addr} {ns ks : List Str} {gV : List V → List V → List V} {ta tk : TA} {kws : List Keyword}
theorem pe_mkX (c : MkX X.prog X.w X.K X.mg X.base lvl x C ns) (hr : Room (lvl + 1) X.A) (hg : Gl X x) (ha : PA X (e :: es) ta) (hdb : (x == ("__debug__" : Str)) = false := by decide)
    (he : starEach (e :: es) X.env = (false, eval e X.env) :: starEach es X.env := by rfl) (hpl : (backTo pos (starEach es X.env)).any (·.1) = false := by rfl) : PE X (.Call (.Name x p) (e :: es) [] pos) (tMkV C ns ta) := by
  obtain ⟨T, hm, fI, fd, ps, h1, h2, h3, h4⟩ := c
  exact pe_mkV T.oex h1 h2 h3 hr h4 hg hm ha hdb he hpl
theorem pe_mkXK (c : MkXK X.prog X.w X.K X.mg X.base lvl x C ns ks gV) (hr : Room (lvl + 1) X.A) (hg : Gl X x) (hkw : PK X kws tk) (hdb : (x == ("__debug__" : Str)) = false := by decide)
    (hall : (backToKw pos (keywordEach kws X.env)).all (·.1.isSome) = true := by rfl) (hks : (backToKw pos (keywordEach kws X.env)).filterMap (·.1) = ks := by rfl)
    (hpl : ((backTo pos (starEach [] X.env)).any (·.1) || (backToKw pos (keywordEach kws X.env)).any (·.1.isNone)) = false := by rfl) : PE X (.Call (.Name x p) [] kws pos) (tMkVK C ns gV tk) := by
  obtain ⟨T, hm, fI, fd, ps, g, h1, h2, h3, h4⟩ := c
  exact pe_mkVK T.oex h1 h2 h3 hr h4 hg hm hkw hall hks hdb hpl
theorem pe_mk0X (c : Mk0X X.K X.mg x C) (hg : Gl X x) (hdb : (x == ("__debug__" : Str)) = false := by decide) : PE X (.Call (.Name x p) [] [] pos) (fun _ H Q => ∀ a, H a = none → Q (.ref a) (upd H a (ExO (.ref C) a))) :=
  pe_mk0 PySem.F.excBase_ValueError c.2.2 c.2.1 c.1.oex.kC hg hdb
end
def gV1 : List V → List V → List V
  | [a], [z] => [a, z]
  | _, _ => []
def g1 : List Value → List Value → List Value
  | [a], [z] => [a, z]
  | _, _ => []
def gV2 : List V → List V → List V
  | [a], [y, z] => [a, z, y]
  | _, _ => []
def g2 : List Value → List Value → List Value
  | [a], [y, z] => [a, z, y]
  | _, _ => []
section
variable {K : PySem.W.Frag} {name ql : Str} {body : List Stmt} {sc : Scope} {kV doc pm ct : Value} {an : Option Addr} {cda cc : Addr} {x1 x2 : Str} {q0 q1 q2 : Pos}
abbrev pars1 (x1 : Str) (q0 q1 : Pos) : Arguments := { posonlyargs := [], args := [{ arg := "self", annotation := none, pos := q0 }, { arg := x1, annotation := none, pos := q1 }], vararg := none, kwonlyargs := [], kw_defaults := [], kwarg := none, defaults := [] }
abbrev pars2 (x1 x2 : Str) (q0 q1 q2 : Pos) : Arguments := { posonlyargs := [], args := [{ arg := "self", annotation := none, pos := q0 }, { arg := x1, annotation := none, pos := q1 }, { arg := x2, annotation := none, pos := q2 }], vararg := none, kwonlyargs := [], kw_defaults := [], kwarg := none, defaults := [] }
theorem kb1 {fd : FuncData} {n m : Str} (h : ∀ (s : Shared) (a z : Value), BindsTo s fd ⟨[a], [(m, z)]⟩ [(n, a), (m, z)]) : KBinds K fd [n, m] [m] g1 gV1 := by
  refine ⟨fun s us ws _ hl => ?_, fun {vs us zs ws} r1 r2 => ?_⟩
  · match us, ws, hl with
    | [a], [z], _ => exact h s a z
    | [], _, hl => exact absurd hl (fun z => by cases z)
    | [_], [], hl => exact absurd hl (fun z => by cases z)
    | [_], _ :: _ :: _, hl => exact absurd hl (fun z => by cases z)
    | _ :: _ :: _, _, hl => exact absurd hl (fun z => by cases z)
  · match vs, us, r1 with
    | [], [], _ => exact .nil
    | [_], [_], .cons h1 .nil =>
      match zs, ws, r2 with
      | [], [], _ => exact .nil
      | [_], [_], .cons h2 .nil => exact .cons h1 (.cons h2 .nil)
      | _ :: _ :: _, _ :: _ :: _, _ => exact .nil
    | _ :: _ :: _, _ :: _ :: _, _ => exact .nil
theorem kb2 {fd : FuncData} {n m l : Str} (h : ∀ (s : Shared) (a y z : Value), BindsTo s fd ⟨[a], [(l, y), (m, z)]⟩ [(n, a), (m, z), (l, y)]) : KBinds K fd [n, m, l] [l, m] g2 gV2 := by
  refine ⟨fun s us ws _ hl => ?_, fun {vs us zs ws} r1 r2 => ?_⟩
  · match us, ws, hl with
    | [a], [y, z], _ => exact h s a y z
    | [], _, hl => exact absurd hl (fun z => by cases z)
    | [_], [], hl => exact absurd hl (fun z => by cases z)
    | [_], [_], hl => exact absurd hl (fun z => by cases z)
    | [_], _ :: _ :: _ :: _, hl => exact absurd hl (fun z => by cases z)
    | _ :: _ :: _, _, hl => exact absurd hl (fun z => by cases z)
  · match vs, us, r1 with
    | [], [], _ => exact .nil
    | [_], [_], .cons h1 .nil =>
      match zs, ws, r2 with
      | [], [], _ => exact .nil
      | [_], [_], .cons _ .nil => exact .nil
      | [_, _], [_, _], .cons h2 (.cons h3 .nil) => exact .cons h1 (.cons h3 (.cons h2 .nil))
      | _ :: _ :: _ :: _, _ :: _ :: _ :: _, _ => exact .nil
    | _ :: _ :: _, _ :: _ :: _, _ => exact .nil
theorem bind_row : Binds K (PySem.W.ksFn name ql (pars1 "row" q0 q1) body sc .none kV doc pm an (.ref cda) ct cc) ["self", "row"] [] := .all fun us hl => match us, hl with
  | [_, _], _ => rfl
theorem kbind_row : KBinds K (PySem.W.ksFn name ql (pars1 "row" q0 q1) body sc .none kV doc pm an (.ref cda) ct cc) ["self", "row"] ["row"] g1 gV1 := kb1 fun s a z => .of_eq rfl
theorem bind_word : Binds K (PySem.W.ksFn name ql (pars1 "word" q0 q1) body sc .none kV doc pm an (.ref cda) ct cc) ["self", "word"] [] := .all fun us hl => match us, hl with
  | [_, _], _ => rfl
theorem kbind_word : KBinds K (PySem.W.ksFn name ql (pars1 "word" q0 q1) body sc .none kV doc pm an (.ref cda) ct cc) ["self", "word"] ["word"] g1 gV1 := kb1 fun s a z => .of_eq rfl
theorem bind_value : Binds K (PySem.W.ksFn name ql (pars1 "value" q0 q1) body sc .none kV doc pm an (.ref cda) ct cc) ["self", "value"] [] := .all fun us hl => match us, hl with
  | [_, _], _ => rfl
theorem kbind_value : KBinds K (PySem.W.ksFn name ql (pars1 "value" q0 q1) body sc .none kV doc pm an (.ref cda) ct cc) ["self", "value"] ["value"] g1 gV1 := kb1 fun s a z => .of_eq rfl
theorem bind_count : Binds K (PySem.W.ksFn name ql (pars1 "count" q0 q1) body sc .none kV doc pm an (.ref cda) ct cc) ["self", "count"] [] := .all fun us hl => match us, hl with
  | [_, _], _ => rfl
theorem kbind_count : KBinds K (PySem.W.ksFn name ql (pars1 "count" q0 q1) body sc .none kV doc pm an (.ref cda) ct cc) ["self", "count"] ["count"] g1 gV1 := kb1 fun s a z => .of_eq rfl
theorem bind_line : Binds K (PySem.W.ksFn name ql (pars1 "line" q0 q1) body sc .none kV doc pm an (.ref cda) ct cc) ["self", "line"] [] := .all fun us hl => match us, hl with
  | [_, _], _ => rfl
theorem kbind_line : KBinds K (PySem.W.ksFn name ql (pars1 "line" q0 q1) body sc .none kV doc pm an (.ref cda) ct cc) ["self", "line"] ["line"] g1 gV1 := kb1 fun s a z => .of_eq rfl
theorem bind_wr : Binds K (PySem.W.ksFn name ql (pars2 "word" "row" q0 q1 q2) body sc .none kV doc pm an (.ref cda) ct cc) ["self", "word", "row"] [] := .all fun us hl => match us, hl with
  | [_, _, _], _ => rfl
theorem kbind_wr : KBinds K (PySem.W.ksFn name ql (pars2 "word" "row" q0 q1 q2) body sc .none kV doc pm an (.ref cda) ct cc) ["self", "word", "row"] ["row", "word"] g2 gV2 := kb2 fun s a y z => .of_eq rfl
end
end Ec
namespace K79
open PySem PySem.Spec PyProof.Rows L2 Gu Cw Ec Snap
def topS (i : Nat) : Stmt := PySem.Challenge.pw_crossheaps_k79_errors_by_themselves.main.body.getD i (.Pass ⟨0, 0, 0, 0⟩)
abbrev s_BadRow_init : Stmt := inClass (topS 2) 0
abbrev s_BadBlock_init : Stmt := inClass (topS 3) 0
abbrev s_Twice_init : Stmt := inClass (topS 4) 0
abbrev s_NoProcedure_init : Stmt := inClass (topS 5) 0
abbrev s_WrongCount_init : Stmt := inClass (topS 6) 0
abbrev s_BadPolicy_init : Stmt := inClass (topS 7) 0
abbrev s_Fault_init : Stmt := inClass (topS 8) 0
abbrev s_NoObject_init : Stmt := inClass (topS 9) 0
abbrev s_NoLink_init : Stmt := inClass (topS 10) 0
abbrev s_TooMany_init : Stmt := inClass (topS 11) 0
abbrev s_BadText_init : Stmt := inClass (topS 12) 0
abbrev s_BadLine_init : Stmt := inClass (topS 14) 0
abbrev s__law_source : Stmt := topS 16
abbrev N__law_source : List Str := ["_law_script", "_law_k", "_law_cell", "_law_own"]
theorem sc__law_source : FnScope N__law_source ["_law_script", "_law_k"] (defScope s__law_source) := ⟨rfl, rfl, rfl, by decide +kernel, rfl, by decide +kernel, by decide +kernel⟩
abbrev s__law_take : Stmt := topS 17
abbrev N__law_take : List Str := ["_law_pot", "_law_many", "_law_digit", "_law_mixed"]
theorem sc__law_take : FnScope N__law_take ["_law_pot", "_law_many"] (defScope s__law_take) := ⟨rfl, rfl, rfl, by decide +kernel, rfl, by decide +kernel, by decide +kernel⟩
abbrev s__law_of : Stmt := topS 18
abbrev N__law_of : List Str := ["_law_pot", "_law_some"]
theorem sc__law_of : FnScope N__law_of ["_law_pot", "_law_some"] (defScope s__law_of) := ⟨rfl, rfl, rfl, by decide +kernel, rfl, by decide +kernel, by decide +kernel⟩
abbrev s__law_drawn : Stmt := topS 19
abbrev N__law_drawn : List Str := ["_law_pot", "_law_depth", "_law_some", "_law_inner"]
theorem sc__law_drawn : FnScope N__law_drawn ["_law_pot", "_law_depth"] (defScope s__law_drawn) := ⟨rfl, rfl, rfl, by decide +kernel, rfl, by decide +kernel, by decide +kernel⟩
abbrev s__law_shown : Stmt := topS 20
abbrev N__law_shown : List Str := ["_law_thing"]
theorem sc__law_shown : FnScope N__law_shown ["_law_thing"] (defScope s__law_shown) := ⟨rfl, rfl, rfl, by decide +kernel, rfl, by decide +kernel, by decide +kernel⟩
abbrev s__law_kinds : Stmt := topS 21
abbrev N__law_kinds : List Str := ["_law_error", "_law_kinds_here"]
theorem sc__law_kinds : FnScope N__law_kinds ["_law_error"] (defScope s__law_kinds) := ⟨rfl, rfl, rfl, by decide +kernel, rfl, by decide +kernel, by decide +kernel⟩
abbrev s__law_is_single : Stmt := topS 22
abbrev N__law_is_single : List Str := ["_law_error", "_law_spot", "_law_kinds_here", "_law_at"]
theorem sc__law_is_single : FnScope N__law_is_single ["_law_error", "_law_spot"] (defScope s__law_is_single) := ⟨rfl, rfl, rfl, by decide +kernel, rfl, by decide +kernel, by decide +kernel⟩
abbrev s__law_right : Stmt := topS 23
abbrev N__law_right : List Str := ["_law_pot", "_law_thing", "_law_other", "_law_rows", "_law_one", "_law_two", "_law_spot", "_law_error", "_law_shown_here"]
theorem sc__law_right : FnScope N__law_right ["_law_pot"] (defScope s__law_right) := ⟨rfl, rfl, rfl, by decide +kernel, rfl, by decide +kernel, by decide +kernel⟩
abbrev s_law : Stmt := topS 24
abbrev N_law : List Str := ["_law_script", "_law_k", "_law_pot", "_law_turn"]
theorem sc_law : FnScope N_law ["_law_script"] (defScope s_law) := ⟨rfl, rfl, rfl, by decide +kernel, rfl, by decide +kernel, by decide +kernel⟩
abbrev s__law_drawn_x : Stmt := s__law_drawn
abbrev N__law_drawn_x : List Str := N__law_drawn
theorem sc__law_drawn_x : FnScope N__law_drawn_x ["_law_pot", "_law_depth"] (defScope s__law_drawn_x) := sc__law_drawn
abbrev s__law_drawn_0 : Stmt := s__law_drawn
abbrev N__law_drawn_0 : List Str := N__law_drawn
theorem sc__law_drawn_0 : FnScope N__law_drawn_0 ["_law_pot", "_law_depth"] (defScope s__law_drawn_0) := sc__law_drawn
abbrev s__law_drawn_1 : Stmt := s__law_drawn
abbrev N__law_drawn_1 : List Str := N__law_drawn
theorem sc__law_drawn_1 : FnScope N__law_drawn_1 ["_law_pot", "_law_depth"] (defScope s__law_drawn_1) := sc__law_drawn
abbrev s__law_drawn_2 : Stmt := s__law_drawn
abbrev N__law_drawn_2 : List Str := N__law_drawn
theorem sc__law_drawn_2 : FnScope N__law_drawn_2 ["_law_pot", "_law_depth"] (defScope s__law_drawn_2) := sc__law_drawn
abbrev s__law_drawn_3 : Stmt := s__law_drawn
abbrev N__law_drawn_3 : List Str := N__law_drawn
theorem sc__law_drawn_3 : FnScope N__law_drawn_3 ["_law_pot", "_law_depth"] (defScope s__law_drawn_3) := sc__law_drawn
local macro_rules | `(tactic| walk_at "as") => `(tactic| with_reducible first | exact asD | exact asL0 | exact asL1 | exact asL2 | (walk_at "norm"; first | exact asL0 | exact asL1 | exact asL2 | exact asL3 | exact asL4 | exact asL5) | exact asL3 | exact asL4 | exact asL5)
local macro_rules | `(tactic| walk_at "asOld") => `(tactic| with_reducible first | exact asD | exact asL0 | exact asL1 | exact asL2 | exact asL3 | exact asL4 | exact asL5)
local macro_rules | `(tactic| walk_at "nt") => `(tactic| first
  | (refine nt_mk ?_; walk_at "norm") | (refine nt_seq ?_; walk_at "norm") | (refine nt_if ?_; walk_at "norm") | refine nt_set ?_ | refine nt_drop ?_ | refine nt_next ?_
  | refine nt_setM ?_ | refine nt_aug (by with_unfolding_all rfl) ?_ | refine nt_par ?_ | refine nt_par3 ?_ | refine nt_parT ?_ | refine nt_dputT ?_ | refine nt_dput ?_ | refine nt_fld (by assumption) (by assumption) ?_
  | refine nt_mkb ?_ | refine nt_mkc ?_ | refine nt_break ?_ | refine nt_cont ?_ | fail)
local macro_rules | `(tactic| walk_at "wx") => `(tactic| first
  | refine we_varD (by with_unfolding_all rfl) ?_ | refine we_ckw ?_ | refine we_sortL ?_ | refine we_kget ?_ | refine we_dnotinS ?_ | refine we_tupRg2 ?_ | refine we_varV (by with_unfolding_all rfl) ?_ | refine we_varZ (by with_unfolding_all rfl) ?_ | refine we_lstZ ?_ | refine we_mkV ?_ | refine we_mkV1 (fun _ _ => rfl) ?_ | refine we_mkV2 (fun _ _ _ => rfl) ?_ | refine we_mk0 ?_ | refine we_xfd ?_ | refine we_dispZ ?_ |  refine we_op ?_ | refine we_int ?_ | refine we_str ?_ | refine we_bl ?_ | refine we_non ?_
  | refine we_cb ?_ | refine we_call ?_ | refine we_tupZ ?_ | refine we_if ?_ | refine we_fld (by assumption) (by assumption) ?_ | refine we_andV ?_ | refine we_orV ?_ | refine we_notV ?_ | refine we_un ?_ | refine we_dnewZ ?_ | refine we_dget ?_ | refine we_dinTt ?_ | refine we_dnotinTt ?_ | refine we_din ?_ | refine we_dnotin ?_ | refine we_append ?_ | refine we_extend ?_ | refine we_extendT ?_ | refine we_pop ?_ | refine we_dget1 ?_ | refine we_dget2 ?_ | refine we_dpop2 ?_ | refine we_dsetd ?_ | refine we_make ?_ | refine we_meth ?_ | fail)
local macro_rules | `(tactic| walk_at "rd") => `(tactic| first
  | refine rd_I0 (fun _ => .int _) ?_ | refine rd_I0 (fun _ => .bl _) ?_ | refine rd_ixL (by walk_at "as") ?_ | refine rd_ixT ?_ | refine rd_I ?_ (fun _ => .int _) ?_ | refine rd_eq (by with_unfolding_all rfl) (by with_unfolding_all rfl) (by with_unfolding_all rfl) ?_ | refine rd_ne (by with_unfolding_all rfl) (by with_unfolding_all rfl) (by with_unfolding_all rfl) ?_ | refine rd_isN ?_ | refine rd_notN ?_ | refine rd_addS ?_ ?_ | fail)
local macro_rules | `(tactic| walk_at "ra") => `(tactic| first
  | refine ra_L (by walk_at "as") bl_len ?_ | refine ra_T bt_len ?_ | refine ra_1I (fun _ => .int _) ?_ | refine ra_2I (fun _ => .int _) ?_ | refine ra_intB ?_ | refine ra_neg ?_ | refine ra_L (by walk_at "as") bl_tuple ?_ | refine ra_lenD ?_ | fail)
local macro_rules | `(tactic| walk_at "we") => `(tactic| with_reducible first
  | (show Cw.WE _ _ _ _ _; walk_at "wx") | (show Cw.Nt _ _ _ _ _ _; walk_at "nt") | (show Cw.RD _ _ _ _ _ _; walk_at "rd") | (show Cw.RA _ _ _ _ _; walk_at "ra")
  | (show Cw.WT _ _ _ _ _; first | refine wt_test ?_ | refine wt_B ?_ | refine wt_and ?_ | refine wt_or ?_ | refine wt_not ?_ | refine wt_yes ?_)
  | (show Cw.WA _ _ _ _ _; first | refine wa_cons ?_ | refine wa_nil ?_)
  | (show Cw.WG _ _ _ _ _; first | refine wg_name ?_ | refine wg_tup2 (by with_unfolding_all rfl) ?_ | refine wg_tup3 (by with_unfolding_all rfl) ?_ | refine wg_tup4 (by with_unfolding_all rfl) ?_)
  | (show Cw.WGs _ _ _ _ _; first | refine wgs_cons ?_ | refine wgs_nil ?_)
  | (show Cw.KeyE _ _ _ _ _; first | refine keyE_tup ?_ | refine keyE_var (by with_unfolding_all rfl) ?_)
  | (show Cw.WI _ _ _ _ _; first | refine wi_itemsF ?_ | refine wi_keysF ?_ | refine wi_valuesF ?_ | refine wi_S ?_ | refine wi_L ?_ | refine wi_T ?_ | refine wi_R1 ?_ | refine wi_R2 ?_)
  | refine isB ?_ | refine isI ?_ | refine isD ?_ | refine bbT ?_ | refine bbF ?_ | refine bb (fun _ => ?_) (fun _ => ?_)
  | (show Cw.At _ _ _; walk_at "norm"; first | refine at0 ?_ | refine at1 ?_ | refine at2 ?_ | refine at3 ?_ | refine at4 ?_ | refine at5 ?_ | refine at6 ?_ | refine at7 ?_)
  | refine isL ?_ | refine isF (by with_unfolding_all rfl) ?_ | refine isFs (by with_unfolding_all rfl) ?_ | refine isMt (by with_unfolding_all rfl) ?_ | refine isLc ?_ | refine isDi ?_ | refine isDt ?_ | refine isKI ?_ | refine isKS ?_
  | refine ixJ (by with_unfolding_all rfl) ?_ | refine und (by with_unfolding_all rfl) (by with_unfolding_all rfl) ?_ | refine unk (by with_unfolding_all rfl) (by with_unfolding_all rfl) ?_ | refine lenN (by with_unfolding_all rfl) (by with_unfolding_all rfl) ?_ | refine two ?_ | refine three ?_ | refine atX (by with_unfolding_all rfl) ?_ | refine less ?_ ?_
  | refine unzI (by with_unfolding_all rfl) (by with_unfolding_all rfl) ?_ | refine ⟨_, rfl, ?_⟩ | fail)
local macro_rules | `(tactic| walk_at "side") => `(tactic| first
  | exact (show (_ : Int) ≠ 0 by omega) | exact (show CDivN _ _ from ⟨by omega, by omega⟩) | exact (show CMul _ _ from Or.inl ⟨by omega, by omega⟩) | exact (show CMul _ _ from Or.inr ⟨by omega, by omega⟩)
  | exact (show CPow _ _ from ⟨by omega, by omega, by omega⟩))
local macro_rules | `(tactic| walk_at "start") => `(tactic| try dsimp only [cxOf, Cx.nox, Cx.wish])
local macro_rules | `(tactic| walk_at "norm") => `(tactic| try dsimp only [List.set_cons_zero, List.set_cons_succ])
theorem fm_lo {a b : Int} (hb : 0 < b) : 0 ≤ a.fmod b := by
  rw [Int.fmod_eq_emod_of_nonneg _ (by omega)]
  exact Int.emod_nonneg _ (by omega)
theorem fm_hi {a b : Int} (hb : 0 < b) : a.fmod b < b := by
  rw [Int.fmod_eq_emod_of_nonneg _ (by omega)]
  exact Int.emod_lt_of_pos _ hb
theorem fd_lo {a b : Int} (ha : 0 ≤ a) (hb : 0 < b) : 0 ≤ a.fdiv b := by
  rw [Int.fdiv_eq_ediv_of_nonneg _ (by omega)]
  exact Int.ediv_nonneg ha (by omega)
theorem b01 (b : Bool) : (0 : Int) ≤ (if b then 1 else 0) ∧ (if b then (1 : Int) else 0) ≤ 1 := by cases b <;> decide
theorem atI_in {ds : List PyData} {r : Int} (h0 : 0 ≤ r) (h1 : r < (ds.length : Int)) : ∃ z, z ∈ ds ∧ atI ds r = some z := by
  obtain ⟨i, rfl⟩ : ∃ i : Nat, r = (i : Int) := ⟨r.toNat, by omega⟩
  have hi : i < ds.length := by omega
  exact ⟨ds[i], List.getElem_mem hi, atI_nat (List.getElem?_eq_getElem hi)⟩
/-! ### the draws -/
abbrev jc (a : Addr) (g x n : Int) : HC := (a, .lst [.int g, .int x, .int n])
structure JP (N : Nat) (g x n : Int) : Prop where
  g0 : 0 ≤ g
  x0 : 0 ≤ x
  x1 : x < 2305843009213693952
  n0 : 0 ≤ n
  n1 : n ≤ N
theorem JP.mono {N M : Nat} {g x n : Int} (h : JP N g x n) (e : N ≤ M) : JP M g x n := ⟨h.g0, h.x0, h.x1, h.n0, by have := h.n1; omega⟩
def S__law_take : List C → List HC → KC → Prop := fun cl hs k => ∃ (a : Addr) (N : Nat) (m g x n : Int), cl = [.r a, .d (.int m)] ∧ hs = [jc a g x n] ∧ JP N g x n ∧ 0 < m ∧ m < 100000 ∧ N ≤ 1000000 ∧
  ∀ r g' x' n', 0 ≤ r → r < m → JP (N + 1) g' x' n' → k (.d (.int r)) [jc a g' x' n']
theorem ok__law_take {P : Program} {w : World} {K : PySem.W.Frag} {mg : Str → Option Value} {base : Heap} {f0 : Addr} {fd0 : FuncData} (F : Fun K "_law_take" "_law_take" s__law_take f0 fd0) :
    FnOk P w K mg base CX0 1 f0 fd0 ["_law_pot", "_law_many"] (spC K S__law_take) := by
  refine okC F sc__law_take rfl (n := 4) (fun cl hs kk h => ?_) (fun cdv A out s H E hr => ?_)
  · obtain ⟨a, N, m, g, x, n, rfl, _⟩ := h
    rfl
  refine ⟨_, (pss_cons (ps_if (pt_cmpR op_gt (pe_ix (ix_listK (K := K)) (pv 0) pe_int (fun _ _ => rfl)) pe_int (nomark _)) (pss_cons (ps_set (i := 2) sc__law_take.nd rfl (.inl rfl) (pe_op op_modN (pe_ix (ix_listK (K := K)) (pv 0) pe_int (fun _ _ => rfl)) (pv 1)))
      (pss_cons (ps_asg (pe_op op_fdivN (pe_ix (ix_listK (K := K)) (pv 0) pe_int (fun _ _ => rfl)) (pv 1)) (pg_sub (pv 0) pe_int set_list))
      (pss_one (ps_ret (pv 2))))) pss_nil)
      (pss_cons (ps_asg (pe_op op_add (pe_ix (ix_listK (K := K)) (pv 0) pe_int (fun _ _ => rfl)) pe_int) (pg_sub (pv 0) pe_int set_list))
      (pss_cons (ps_set (i := 3) sc__law_take.nd rfl (.inl rfl) (pe_op op_modN (pe_op op_mul (pe_op op_add (pe_op op_add (pe_ix (ix_listK (K := K)) (pv 0) pe_int (fun _ _ => rfl)) (pe_op op_mul (pe_op op_mul pe_int (pe_ix (ix_listK (K := K)) (pv 0) pe_int (fun _ _ => rfl))) (pe_ix (ix_listK (K := K)) (pv 0) pe_int (fun _ _ => rfl)))) pe_int) pe_int) pe_int))
      (pss_cons (ps_set (i := 3) sc__law_take.nd rfl (.inl rfl) (pe_op op_modN (pe_op op_mul (pv 3) (pe_op op_add (pe_op op_modN (pv 3) pe_int) (pe_op op_mul pe_int (pe_ix (ix_listK (K := K)) (pv 0) pe_int (fun _ _ => rfl))))) pe_int))
      (pss_one (ps_ret (pe_op op_modN (pe_op op_add (pe_op op_fdivN (pv 3) pe_int) (pe_op op_fdivN (pv 3) pe_int)) (pv 1)))))))), fun cl hs kk h => ?_⟩
  obtain ⟨a, N, m, g, x, n, rfl, rfl, ⟨hg, hx, hx2, hn, hnN⟩, hm, hm2, hN, hk⟩ := h
  walk_at "start"
  intro B0 fh Q R
  have hn1 : 0 ≤ n + 1 ∧ n + 1 ≤ 1000001 := ⟨by omega, by omega⟩
  have hsq : 0 ≤ 65557 * (n + 1) * (n + 1) ∧ 65557 * (n + 1) * (n + 1) ≤ 65557 * 1000001 * 1000001 := by
    refine ⟨Int.mul_nonneg (by omega) hn1.1, ?_⟩
    exact Int.mul_le_mul (by omega) hn1.2 hn1.1 (by decide)
  have hm1 := fm_lo (a := (x + 65557 * (n + 1) * (n + 1) + 29) * 48311) (b := 2305843009213693921) (by decide)
  have hm3 := fm_hi (a := (x + 65557 * (n + 1) * (n + 1) + 29) * 48311) (b := 2305843009213693921) (by decide)
  refine nt_is [.r a, .d (.int m), .any, .any] [jc a g x n] rfl rfl ?_
  repeat' walk_at "we"
  · walk_at "side"
  · walk_at "side"
  · refine nt_ret R ?_
    repeat' walk_at "we"
    exact hk _ _ _ _ (fm_lo hm) (fm_hi hm) ⟨fd_lo hg hm, hx, hx2, hn, by omega⟩
  iterate 5 (· walk_at "side")
  all_goals first | walk_at "side" | skip
  refine nt_ret R ?_
  repeat' walk_at "we"
  all_goals first | walk_at "side" | skip
  exact hk _ _ _ _ (fm_lo hm) (fm_hi hm) ⟨hg, hx, hx2, by omega, by omega⟩
def S__law_source : List C → List HC → KC → Prop := fun cl hs k => ∃ (ns : List Int) (i : Int), cl = [.d (.list (ns.map .int)), .d (.int i)] ∧ hs = [] ∧ ns.length ≤ 63 ∧ 0 ≤ i ∧ i < 100 ∧
  ∀ a g x n, JP 0 g x n → k (.r a) [jc a g x n]
theorem ok__law_source {P : Program} {w : World} {K : PySem.W.Frag} {mg : Str → Option Value} {base : Heap} {f0 : Addr} {fd0 : FuncData} (F : Fun K "_law_source" "_law_source" s__law_source f0 fd0) (m_abs : mg "abs" = none) (m_int : mg "int" = none) (m_len : mg "len" = none) :
    FnOk P w K mg base CX0 1 f0 fd0 ["_law_script", "_law_k"] (spC K S__law_source) := by
  refine okC F sc__law_source rfl (n := 4) (fun cl hs kk h => ?_) (fun cdv A out s H E hr => ?_)
  · obtain ⟨ns, i, rfl, _⟩ := h
    rfl
  refine ⟨_, (pss_cons (ps_set (i := 2) sc__law_source.nd rfl (.inl rfl) (pe_ifExp (pt_cmpR op_lt (pv 1) (pe_callB (cr_len (K := K)) (by rfl) m_len PySem.boot_len (pa_cons (pv 0) pa_nil)) (nomark _)) (pe_ix (ix_listK (K := K)) (pv 0) (pv 1) (fun _ _ => rfl)) (pe_op op_add (pe_op op_mul pe_int (pv 1)) pe_int)))
      (pss_cons (ps_set (i := 3) sc__law_source.nd rfl (.inl rfl) (pe_op op_mul (pe_op op_modN (pe_callB cr_abs (by rfl) m_abs (by decide +kernel) (pa_cons (pv 2) pa_nil)) (pe_op op_powW (pe_op op_pow pe_int pe_int) pe_int)) (pe_callTy cr_int (by rfl) m_int (by decide +kernel) (pa_cons (pe_cmpR op_ge (pe_callB cr_abs (by rfl) m_abs (by decide +kernel) (pa_cons (pv 2) pa_nil)) (pe_op op_pow pe_int pe_int) (nomark _)) pa_nil))))
      (pss_one (ps_ret (pe_lst (pa_cons (pv 3) (pa_cons (pe_op op_modN (pe_op op_add (pe_op op_add (pe_op op_mul (pe_op op_modN (pv 2) pe_int) pe_int) (pe_op op_mul (pe_op op_mul pe_int (pv 1)) (pv 1))) pe_int) pe_int) (pa_cons pe_int pa_nil)))))))), fun cl hs kk h => ?_⟩
  obtain ⟨ns, i, rfl, rfl, hl, hi, hi2, hk⟩ := h
  walk_at "start"
  intro B0 fh Q R
  refine nt_is [.d (.list (ns.map .int)), .d (.int i), .any, .any] [] rfl rfl ?_
  refine nt_seq (nt_set (WE.imp (k := fun c h2 => ∃ z : Int, c = .d (.int z) ∧ h2 = []) ?_ ?_))
  · repeat' walk_at "we"
    · rename_i e
      have e2 : i < (ns.length : Int) := by
        have e3 : i < ((ns.map PyData.int).length : Int) := of_decide_eq_true e
        rw [List.length_map] at e3
        exact e3
      obtain ⟨z, hz, ez⟩ := atI_in (ds := ns.map PyData.int) (r := i) hi (by rw [List.length_map]; exact e2)
      obtain ⟨y, _, rfl⟩ := List.mem_map.mp hz
      exact atX ez ⟨_, rfl, rfl⟩
    · walk_at "side"
    · exact rfl
  · rintro c h2 ⟨z, rfl, rfl⟩
    repeat' walk_at "we"
    · exact ⟨by decide, by decide, by decide⟩
    · exact ⟨by decide, by decide +kernel⟩
    · exact (by decide +kernel : ((10 : Int) ^ Int.toNat 60) ^ Int.toNat 5 ≠ 0)
    · exact ⟨by decide, by decide, by decide⟩
    · exact .inr ⟨by have := (b01 (decide (10 ^ Int.toNat 18 ≤ if z < 0 then -z else z))).1; omega, by have := (b01 (decide (10 ^ Int.toNat 18 ≤ if z < 0 then -z else z))).2; omega⟩
    refine nt_ret R (we_lstM ?_)
    repeat' walk_at "we"
    all_goals first | walk_at "side" | skip
    refine fun a => hk _ _ _ _ ⟨?_, fm_lo (by decide), ?_, by decide, by decide⟩
    · refine Int.mul_nonneg (fm_lo (by decide +kernel)) (b01 _).1
    · have := fm_hi (a := z.fmod 2305843009213693951 * 64951 + 7121 * i * i + 71) (b := 2305843009213693921) (by decide)
      omega
theorem atZ_in {zs : List Fz} {r : Int} (h0 : 0 ≤ r) (h1 : r < (zs.length : Int)) : ∃ z, z ∈ zs ∧ atI zs r = some z := by
  obtain ⟨i, rfl⟩ : ∃ i : Nat, r = (i : Int) := ⟨r.toNat, by omega⟩
  have hi : i < zs.length := by omega
  exact ⟨zs[i], List.getElem_mem hi, atI_nat (List.getElem?_eq_getElem hi)⟩
def S__law_of : List C → List HC → KC → Prop := fun cl hs k => ∃ (a : Addr) (N : Nat) (g x n : Int) (b : Bool) (zs : List Fz), cl = [.r a, .z (.lst b zs)] ∧ hs = [jc a g x n] ∧ JP N g x n ∧ N ≤ 900000 ∧ zs ≠ [] ∧ zs.length ≤ 1000 ∧
  ∀ z g' x' n', z ∈ zs → JP (N + 1) g' x' n' → k (.z z) [jc a g' x' n']
theorem ok__law_of {P : Program} {w : World} {K : PySem.W.Frag} {mg : Str → Option Value} {base : Heap} {f0 : Addr} {fd0 : FuncData} (F : Fun K "_law_of" "_law_of" s__law_of f0 fd0) (m_len : mg "len" = none) (C__law_take : Cal P w K mg base 1 "_law_take" ["_law_pot", "_law_many"] S__law_take) :
    FnOk P w K mg base CX0 2 f0 fd0 ["_law_pot", "_law_some"] (spC K S__law_of) := by
  refine okC F sc__law_of rfl (n := 2) (fun cl hs kk h => ?_) (fun cdv A out s H E hr => ?_)
  · obtain ⟨a, N, g, x, n, b, zs, rfl, _⟩ := h
    rfl
  refine ⟨_, (pss_one (ps_ret (pe_ix (ix_listK (K := K)) (pv 1) (pe_cal (K := K) C__law_take (hr.mono (by decide)) (by rfl) (pa_cons (pv 0) (pa_cons (pe_callB (cr_len (K := K)) (by rfl) m_len PySem.boot_len (pa_cons (pv 1) pa_nil)) pa_nil))) (fun _ _ => rfl)))), fun cl hs kk h => ?_⟩
  obtain ⟨a, N, g, x, n, b, zs, rfl, rfl, hJ, hN, hd, hl, hk⟩ := h
  walk_at "start"
  intro B0 fh Q R
  refine nt_is [.r a, .z (.lst b zs)] [jc a g x n] rfl rfl ?_
  refine nt_ret R ?_
  have hpos : 0 < zs.length := List.length_pos_iff.mpr hd
  repeat' walk_at "we"
  refine ra_lenZ ?_
  repeat' walk_at "we"
  refine calls .all ⟨a, N, zs.length, g, x, n, rfl, rfl, hJ, by omega, by omega, by omega, fun r g1 x1 n1 h0 h1 J1 => ?_⟩
  repeat' walk_at "we"
  obtain ⟨z, hz, ez⟩ := atZ_in (zs := zs) (r := r) h0 h1
  exact rd_ixZ ⟨z, ez, hk z _ _ _ hz J1⟩
end K79
namespace K79
open PySem PySem.Spec PyProof.Rows L2 Gu Cw Ec Snap
local macro_rules | `(tactic| walk_at "as") => `(tactic| with_reducible first | exact asD | exact asL0 | exact asL1 | exact asL2 | (walk_at "norm"; first | exact asL0 | exact asL1 | exact asL2 | exact asL3 | exact asL4 | exact asL5) | exact asL3 | exact asL4 | exact asL5)
local macro_rules | `(tactic| walk_at "asOld") => `(tactic| with_reducible first | exact asD | exact asL0 | exact asL1 | exact asL2 | exact asL3 | exact asL4 | exact asL5)
local macro_rules | `(tactic| walk_at "nt") => `(tactic| first
  | (refine nt_mk ?_; walk_at "norm") | (refine nt_seq ?_; walk_at "norm") | (refine nt_if ?_; walk_at "norm") | refine nt_set ?_ | refine nt_drop ?_ | refine nt_next ?_
  | refine nt_setM ?_ | refine nt_aug (by with_unfolding_all rfl) ?_ | refine nt_par ?_ | refine nt_par3 ?_ | refine nt_parT ?_ | refine nt_dputT ?_ | refine nt_dput ?_ | refine nt_fld (by assumption) (by assumption) ?_
  | refine nt_mkb ?_ | refine nt_mkc ?_ | refine nt_break ?_ | refine nt_cont ?_ | fail)
local macro_rules | `(tactic| walk_at "wx") => `(tactic| first
  | refine we_varD (by with_unfolding_all rfl) ?_ | refine we_ckw ?_ | refine we_sortL ?_ | refine we_kget ?_ | refine we_dnotinS ?_ | refine we_tupRg2 ?_ | refine we_varV (by with_unfolding_all rfl) ?_ | refine we_varZ (by with_unfolding_all rfl) ?_ | refine we_lstZ ?_ | refine we_mkV ?_ | refine we_mkV1 (fun _ _ => rfl) ?_ | refine we_mkV2 (fun _ _ _ => rfl) ?_ | refine we_mk0 ?_ | refine we_xfd ?_ | refine we_dispZ ?_ |  refine we_op ?_ | refine we_int ?_ | refine we_str ?_ | refine we_bl ?_ | refine we_non ?_
  | refine we_cb ?_ | refine we_call ?_ | refine we_tupZ ?_ | refine we_if ?_ | refine we_fld (by assumption) (by assumption) ?_ | refine we_andV ?_ | refine we_orV ?_ | refine we_notV ?_ | refine we_un ?_ | refine we_dnewZ ?_ | refine we_dget ?_ | refine we_dinTt ?_ | refine we_dnotinTt ?_ | refine we_din ?_ | refine we_dnotin ?_ | refine we_append ?_ | refine we_extend ?_ | refine we_extendT ?_ | refine we_pop ?_ | refine we_dget1 ?_ | refine we_dget2 ?_ | refine we_dpop2 ?_ | refine we_dsetd ?_ | refine we_make ?_ | refine we_meth ?_ | fail)
local macro_rules | `(tactic| walk_at "rd") => `(tactic| first
  | refine rd_I0 (fun _ => .int _) ?_ | refine rd_I0 (fun _ => .bl _) ?_ | refine rd_ixL (by walk_at "as") ?_ | refine rd_ixT ?_ | refine rd_I ?_ (fun _ => .int _) ?_ | refine rd_eq (by with_unfolding_all rfl) (by with_unfolding_all rfl) (by with_unfolding_all rfl) ?_ | refine rd_ne (by with_unfolding_all rfl) (by with_unfolding_all rfl) (by with_unfolding_all rfl) ?_ | refine rd_isN ?_ | refine rd_notN ?_ | refine rd_addS ?_ ?_ | fail)
local macro_rules | `(tactic| walk_at "ra") => `(tactic| first
  | refine ra_L (by walk_at "as") bl_len ?_ | refine ra_T bt_len ?_ | refine ra_1I (fun _ => .int _) ?_ | refine ra_2I (fun _ => .int _) ?_ | refine ra_intB ?_ | refine ra_neg ?_ | refine ra_L (by walk_at "as") bl_tuple ?_ | refine ra_lenD ?_ | fail)
local macro_rules | `(tactic| walk_at "we") => `(tactic| with_reducible first
  | (show Cw.WE _ _ _ _ _; walk_at "wx") | (show Cw.Nt _ _ _ _ _ _; walk_at "nt") | (show Cw.RD _ _ _ _ _ _; walk_at "rd") | (show Cw.RA _ _ _ _ _; walk_at "ra")
  | (show Cw.WT _ _ _ _ _; first | refine wt_test ?_ | refine wt_B ?_ | refine wt_and ?_ | refine wt_or ?_ | refine wt_not ?_ | refine wt_yes ?_)
  | (show Cw.WA _ _ _ _ _; first | refine wa_cons ?_ | refine wa_nil ?_)
  | (show Cw.WG _ _ _ _ _; first | refine wg_name ?_ | refine wg_tup2 (by with_unfolding_all rfl) ?_ | refine wg_tup3 (by with_unfolding_all rfl) ?_ | refine wg_tup4 (by with_unfolding_all rfl) ?_)
  | (show Cw.WGs _ _ _ _ _; first | refine wgs_cons ?_ | refine wgs_nil ?_)
  | (show Cw.KeyE _ _ _ _ _; first | refine keyE_tup ?_ | refine keyE_var (by with_unfolding_all rfl) ?_)
  | (show Cw.WI _ _ _ _ _; first | refine wi_itemsF ?_ | refine wi_keysF ?_ | refine wi_valuesF ?_ | refine wi_S ?_ | refine wi_L ?_ | refine wi_T ?_ | refine wi_R1 ?_ | refine wi_R2 ?_)
  | refine isB ?_ | refine isI ?_ | refine isD ?_ | refine bbT ?_ | refine bbF ?_ | refine bb (fun _ => ?_) (fun _ => ?_)
  | (show Cw.At _ _ _; walk_at "norm"; first | refine at0 ?_ | refine at1 ?_ | refine at2 ?_ | refine at3 ?_ | refine at4 ?_ | refine at5 ?_ | refine at6 ?_ | refine at7 ?_)
  | refine isL ?_ | refine isF (by with_unfolding_all rfl) ?_ | refine isFs (by with_unfolding_all rfl) ?_ | refine isMt (by with_unfolding_all rfl) ?_ | refine isLc ?_ | refine isDi ?_ | refine isDt ?_ | refine isKI ?_ | refine isKS ?_
  | refine ixJ (by with_unfolding_all rfl) ?_ | refine und (by with_unfolding_all rfl) (by with_unfolding_all rfl) ?_ | refine unk (by with_unfolding_all rfl) (by with_unfolding_all rfl) ?_ | refine lenN (by with_unfolding_all rfl) (by with_unfolding_all rfl) ?_ | refine two ?_ | refine three ?_ | refine atX (by with_unfolding_all rfl) ?_ | refine less ?_ ?_
  | refine unzI (by with_unfolding_all rfl) (by with_unfolding_all rfl) ?_ | refine ⟨_, rfl, ?_⟩ | fail)
local macro_rules | `(tactic| walk_at "side") => `(tactic| first
  | exact (show (_ : Int) ≠ 0 by omega) | exact (show CDivN _ _ from ⟨by omega, by omega⟩) | exact (show CMul _ _ from Or.inl ⟨by omega, by omega⟩) | exact (show CMul _ _ from Or.inr ⟨by omega, by omega⟩)
  | exact (show CPow _ _ from ⟨by omega, by omega, by omega⟩))
local macro_rules | `(tactic| walk_at "start") => `(tactic| try dsimp only [cxOf, Cx.nox, Cx.wish])
local macro_rules | `(tactic| walk_at "norm") => `(tactic| try dsimp only [List.set_cons_zero, List.set_cons_succ])
/-- a value of any kind, n deep -/
def Wv (n : Nat) (z : Fz) : Prop := isExc z = false ∧ ∃ x, fzPy z = some x ∧ x.showable = true ∧ x.depth ≤ n ∧ x.leavesShort 32 = true ∧ x.bulk ≤ 1000 + 10 * n
theorem wv_d {n : Nat} {x : PyData} (hf : flatD x = true) (h1 : x.showable = true) (h2 : x.depth ≤ 1) (h3 : x.leavesShort 32 = true) (h4 : x.bulk ≤ 1000) : Wv (n + 1) (.d x) := by
  refine ⟨rfl, x, ?_, h1, by omega, h3, by omega⟩
  unfold fzPy
  rw [hf]
  rfl
theorem Wv.mono {n m : Nat} {z : Fz} (h : Wv n z) (e : n ≤ m) : Wv m z := by
  obtain ⟨h1, x, h2, h3, h4, h5, h6⟩ := h
  exact ⟨h1, x, h2, h3, by omega, h5, by omega⟩
theorem wv_int {n : Nat} {i : Int} (h0 : 0 ≤ i) (h : i ≤ 1000) : Wv (n + 1) (.d (.int i)) := by
  have g := gd_int (i := i) (by omega) (by omega)
  have g13 := of_decide_eq_true (show decide ((PyData.shown (.int i)).length ≤ 13) = true from g.lv)
  exact wv_d rfl g.sh (Nat.le_succ_of_le g.dp) (decide_eq_true (by omega)) (Nat.le_trans g.bk (by decide))
theorem wv_num {n : Nat} {i : Int} (h0 : 0 ≤ i) (h : i ≤ 1000) : Wv (n + 1) (.d (.str (Str.ofString (toString i)))) := by
  have g := gd_name (name_int (k := 4) h0 (by decide) (by omega))
  exact wv_d rfl g.sh (Nat.le_succ_of_le g.dp) g.lv (Nat.le_trans g.bk (by decide))
theorem wv_tup1 {n : Nat} {z : Fz} (h : Wv n z) : Wv (n + 1) (.tup [z]) := by
  obtain ⟨h1, x, h2, h3, h4, h5, h6⟩ := h
  refine ⟨rfl, .tuple [x], ?_, ?_, ?_, ?_, ?_⟩
  · simp only [fzPy, fzPys, h2]
    rfl
  · show (x.showable && true) = true
    rw [h3]
    rfl
  · show max x.depth 0 + 1 ≤ n + 1
    omega
  · show (x.leavesShort 32 && true) = true
    rw [h5]
    rfl
  · show x.bulk + 1 + 0 ≤ _
    omega
theorem wv_lst1 {n : Nat} {z : Fz} (h : Wv n z) : Wv (n + 1) (.lst true [z]) := by
  obtain ⟨h1, x, h2, h3, h4, h5, h6⟩ := h
  refine ⟨rfl, .list [x], ?_, ?_, ?_, ?_, ?_⟩
  · simp only [fzPy, fzPys, h2]
    rfl
  · show (x.showable && true) = true
    rw [h3]
    rfl
  · show max x.depth 0 + 1 ≤ n + 1
    omega
  · show (x.leavesShort 32 && true) = true
    rw [h5]
    rfl
  · show x.bulk + 1 + 0 ≤ _
    omega
theorem wv_tup2 {n : Nat} {z : Fz} (h : Wv n z) : Wv (n + 1) (.tup [z, .d (.int 1)]) := by
  obtain ⟨h1, x, h2, h3, h4, h5, h6⟩ := h
  refine ⟨rfl, .tuple [x, .int 1], ?_, ?_, ?_, ?_, ?_⟩
  · simp only [fzPy, fzPys, h2]
    rfl
  · show (x.showable && ((PyData.int 1).showable && true)) = true
    rw [h3]
    decide +kernel
  · show max x.depth (max 0 0) + 1 ≤ n + 1
    omega
  · show (x.leavesShort 32 && ((PyData.int 1).leavesShort 32 && true)) = true
    rw [h5]
    decide +kernel
  · show x.bulk + 1 + (0 + 1 + 0) ≤ _
    omega
theorem wv_dic1 {n : Nat} {z : Fz} (h : Wv n z) : Wv (n + 1) (.dic [(.inr "a", z)]) := by
  obtain ⟨h1, x, h2, h3, h4, h5, h6⟩ := h
  refine ⟨rfl, .dict [(.str "a", x)], ?_, ?_, ?_, ?_, ?_⟩
  · simp only [fzPy, fzPyk, h2]
    rfl
  · show ((PyData.str "a").showable && x.showable && true) = true
    rw [h3]
    decide +kernel
  · show max 0 (max x.depth 0) + 1 ≤ n + 1
    omega
  · show ((PyData.str "a").leavesShort 32 && x.leavesShort 32 && true) = true
    rw [h5]
    decide +kernel
  · show (1 : Nat) + x.bulk + 2 + 0 ≤ _
    omega
theorem inner_ok {n : Nat} {z y : Fz} (h : Wv n z) (hy : y ∈ [Fz.tup [z], .lst true [z], .dic [(.inr "a", z)], .tup [z, .d (.int 1)]]) : Wv (n + 1) y := by
  simp only [List.mem_cons, List.not_mem_nil, or_false] at hy
  rcases hy with rfl | rfl | rfl | rfl
  · exact wv_tup1 h
  · exact wv_lst1 h
  · exact wv_dic1 h
  · exact wv_tup2 h
def S__law_drawn (d : Nat) : List C → List HC → KC → Prop := fun cl hs k => ∃ (a : Addr) (N : Nat) (g x n : Int), cl = [.r a, .d (.int d)] ∧ hs = [jc a g x n] ∧ JP N g x n ∧ N + 10 * (d + 1) ≤ 600000 ∧
  ∀ z g' x' n', Wv (d + 1) z → JP (N + 10 * (d + 1)) g' x' n' → k (.z z) [jc a g' x' n']
abbrev S__law_drawn_x : List C → List HC → KC → Prop := fun _ _ _ => False
abbrev S__law_drawn_0 := S__law_drawn 0
abbrev S__law_drawn_1 := S__law_drawn 1
abbrev S__law_drawn_2 := S__law_drawn 2
abbrev S__law_drawn_3 := S__law_drawn 3
theorem log_small {f : Int} (h0 : 0 ≤ f) (h1 : f ≤ 1000) : f.natAbs.log2 < 1920 := by
  have h1 : f.natAbs < 2 ^ 1920 := Nat.lt_trans (show f.natAbs < 2 ^ 20 by omega) (by decide +kernel)
  by_cases h0 : f.natAbs = 0
  · rw [h0]; decide
  · exact (Nat.log2_lt h0).mpr h1
theorem leaf_ok {n : Nat} {r s : Int} (hr : 0 ≤ r ∧ r < 99) (hs : 0 ≤ s ∧ s < 999) {z : Fz} (h : z ∈ [Fz.d .none, .d (.bool true), .d (.bool false), .d (.int 0), .d (.int (-1)), .d (.int (10 ^ Int.toNat 29)), .d (.str ""), .d (.str "row"), .tup [], .lst true [], .dic [], .d (.int r), .d (.str (Str.ofString (toString s)))]) : Wv (n + 1) z := by
  simp only [List.mem_cons, List.not_mem_nil, or_false] at h
  rcases h with rfl | rfl | rfl | rfl | rfl | rfl | rfl | rfl | rfl | rfl | rfl | rfl | rfl
  · exact wv_d rfl rfl (by decide) rfl (by decide)
  · exact wv_d rfl rfl (by decide) rfl (by decide)
  · exact wv_d rfl rfl (by decide) rfl (by decide)
  · exact wv_d rfl (by decide +kernel) (by decide) (by decide +kernel) (by decide)
  · exact wv_d rfl (by decide +kernel) (by decide) (by decide +kernel) (by decide)
  · exact wv_d rfl (by decide +kernel) (by decide) (by decide +kernel) (by decide +kernel)
  · exact wv_d rfl rfl (by decide) (by decide +kernel) (by decide +kernel)
  · exact wv_d rfl rfl (by decide) (by decide +kernel) (by decide +kernel)
  · exact ⟨rfl, .tuple [], rfl, rfl, by show 1 ≤ n + 1; omega, rfl, by show 0 ≤ _; omega⟩
  · exact ⟨rfl, .list [], rfl, rfl, by show 1 ≤ n + 1; omega, rfl, by show 0 ≤ _; omega⟩
  · exact ⟨rfl, .dict [], rfl, rfl, by show 1 ≤ n + 1; omega, rfl, by show 0 ≤ _; omega⟩
  · exact wv_int hr.1 (by omega)
  · exact wv_num hs.1 (by omega)
theorem ok__law_drawn_0 {P : Program} {w : World} {K : PySem.W.Frag} {mg : Str → Option Value} {base : Heap} {f0 : Addr} {fd0 : FuncData} (F : Fun K "_law_drawn" "_law_drawn" s__law_drawn_0 f0 fd0) (m_str : mg "str" = none) (C__law_take : Cal P w K mg base 1 "_law_take" ["_law_pot", "_law_many"] S__law_take) (C__law_drawn_x : Cal P w K mg base 1 "_law_drawn" ["_law_pot", "_law_depth"] S__law_drawn_x) (C__law_of : Cal P w K mg base 2 "_law_of" ["_law_pot", "_law_some"] S__law_of) :
    FnOk P w K mg base CX0 3 f0 fd0 ["_law_pot", "_law_depth"] (spC K S__law_drawn_0) := by
  refine okC F sc__law_drawn_0 rfl (n := 4) (fun cl hs kk h => ?_) (fun cdv A out s H E hr => ?_)
  · obtain ⟨a, N, g, x, n, rfl, _⟩ := h
    rfl
  refine ⟨_, (pss_cons (ps_set (i := 2) sc__law_drawn_0.nd rfl (.inl rfl) (pe_lstZ (pa_cons pe_non (pa_cons pe_bl (pa_cons pe_bl (pa_cons pe_int (pa_cons (pe_un un_neg pe_int) (pa_cons (pe_op op_pow pe_int pe_int) (pa_cons pe_str (pa_cons pe_str (pa_cons (pe_tup pa_nil) (pa_cons (pe_lstZ pa_nil) (pa_cons pe_dnewK (pa_cons (pe_cal (K := K) C__law_take (hr.mono (by decide)) (by rfl) (pa_cons (pv 0) (pa_cons pe_int pa_nil))) (pa_cons (pe_callTy cr_strI (by rfl) m_str (by decide +kernel) (pa_cons (pe_cal (K := K) C__law_take (hr.mono (by decide)) (by rfl) (pa_cons (pv 0) (pa_cons pe_int pa_nil))) pa_nil)) pa_nil)))))))))))))))
      (pss_cons (ps_if (PW.pt (pw_and (pt_cmpR op_gt (pv 1) pe_int (nomark _)) (pw_and1 (pt_cmpR op_eq (pe_cal (K := K) C__law_take (hr.mono (by decide)) (by rfl) (pa_cons (pv 0) (pa_cons pe_int pa_nil))) pe_int (nomark _))))) (pss_cons (ps_set (i := 3) sc__law_drawn_0.nd rfl (.inl rfl) (pe_cal (K := K) C__law_drawn_x (hr.mono (by decide)) (by rfl) (pa_cons (pv 0) (pa_cons (pe_op op_sub (pv 1) pe_int) pa_nil))))
      (pss_one (ps_ret (pe_cal (K := K) C__law_of (hr.mono (by decide)) (by rfl) (pa_cons (pv 0) (pa_cons (pe_lstZ (pa_cons (pe_tup (pa_cons (pv 3) pa_nil)) (pa_cons (pe_lstZ (pa_cons (pv 3) pa_nil)) (pa_cons (pe_disp (pps_cons pe_str (pv 3) pps_nil) (by rfl) rfl (by simp) (by decide)) (pa_cons (pe_tup (pa_cons (pv 3) (pa_cons pe_int pa_nil))) pa_nil))))) pa_nil)))))) pss_nil)
      (pss_one (ps_ret (pe_cal (K := K) C__law_of (hr.mono (by decide)) (by rfl) (pa_cons (pv 0) (pa_cons (pv 2) pa_nil))))))), fun cl hs kk h => ?_⟩
  obtain ⟨a, N, g, x, n, rfl, rfl, hJ, hN, hk⟩ := h
  walk_at "start"
  intro B0 fh Q R
  refine nt_is [.r a, .d (.int 0), .any, .any] [jc a g x n] rfl rfl ?_
  repeat' walk_at "we"
  · exact ⟨by decide, by decide, by decide⟩
  refine call10 ⟨a, N, 99, g, x, n, rfl, rfl, hJ, by decide, by decide, by omega, fun r g1 x1 n1 h0 h1 J1 => ⟨_, rfl, ?_⟩⟩
  repeat' walk_at "we"
  refine call10 ⟨a, N + 1, 999, g1, x1, n1, rfl, rfl, J1, by decide, by decide, by omega, fun s g2 x2 n2 h2 h3 J2 => ⟨_, rfl, ?_⟩⟩
  repeat' walk_at "we"
  refine ra_strI (log_small h2 (by omega)) ?_
  repeat' walk_at "we"
  · rename_i e
    exact absurd e (by decide)
  · refine nt_ret R ?_
    repeat' walk_at "we"
    refine callA ⟨a, N + 1 + 1, g2, x2, n2, true, _, rfl, rfl, J2, by omega, by simp, by simp, fun z g5 x5 n5 hz J5 => hk z _ _ _ ((leaf_ok (n := 0) ⟨h0, h1⟩ ⟨h2, h3⟩ hz)) (J5.mono (by omega))⟩
theorem ok__law_drawn_1 {P : Program} {w : World} {K : PySem.W.Frag} {mg : Str → Option Value} {base : Heap} {f0 : Addr} {fd0 : FuncData} (F : Fun K "_law_drawn" "_law_drawn" s__law_drawn_1 f0 fd0) (m_str : mg "str" = none) (C__law_take : Cal P w K mg base 1 "_law_take" ["_law_pot", "_law_many"] S__law_take) (C__law_drawn_0 : Cal P w K mg base 3 "_law_drawn" ["_law_pot", "_law_depth"] S__law_drawn_0) (C__law_of : Cal P w K mg base 2 "_law_of" ["_law_pot", "_law_some"] S__law_of) :
    FnOk P w K mg base CX0 4 f0 fd0 ["_law_pot", "_law_depth"] (spC K S__law_drawn_1) := by
  refine okC F sc__law_drawn_1 rfl (n := 4) (fun cl hs kk h => ?_) (fun cdv A out s H E hr => ?_)
  · obtain ⟨a, N, g, x, n, rfl, _⟩ := h
    rfl
  refine ⟨_, (pss_cons (ps_set (i := 2) sc__law_drawn_1.nd rfl (.inl rfl) (pe_lstZ (pa_cons pe_non (pa_cons pe_bl (pa_cons pe_bl (pa_cons pe_int (pa_cons (pe_un un_neg pe_int) (pa_cons (pe_op op_pow pe_int pe_int) (pa_cons pe_str (pa_cons pe_str (pa_cons (pe_tup pa_nil) (pa_cons (pe_lstZ pa_nil) (pa_cons pe_dnewK (pa_cons (pe_cal (K := K) C__law_take (hr.mono (by decide)) (by rfl) (pa_cons (pv 0) (pa_cons pe_int pa_nil))) (pa_cons (pe_callTy cr_strI (by rfl) m_str (by decide +kernel) (pa_cons (pe_cal (K := K) C__law_take (hr.mono (by decide)) (by rfl) (pa_cons (pv 0) (pa_cons pe_int pa_nil))) pa_nil)) pa_nil)))))))))))))))
      (pss_cons (ps_if (PW.pt (pw_and (pt_cmpR op_gt (pv 1) pe_int (nomark _)) (pw_and1 (pt_cmpR op_eq (pe_cal (K := K) C__law_take (hr.mono (by decide)) (by rfl) (pa_cons (pv 0) (pa_cons pe_int pa_nil))) pe_int (nomark _))))) (pss_cons (ps_set (i := 3) sc__law_drawn_1.nd rfl (.inl rfl) (pe_cal (K := K) C__law_drawn_0 (hr.mono (by decide)) (by rfl) (pa_cons (pv 0) (pa_cons (pe_op op_sub (pv 1) pe_int) pa_nil))))
      (pss_one (ps_ret (pe_cal (K := K) C__law_of (hr.mono (by decide)) (by rfl) (pa_cons (pv 0) (pa_cons (pe_lstZ (pa_cons (pe_tup (pa_cons (pv 3) pa_nil)) (pa_cons (pe_lstZ (pa_cons (pv 3) pa_nil)) (pa_cons (pe_disp (pps_cons pe_str (pv 3) pps_nil) (by rfl) rfl (by simp) (by decide)) (pa_cons (pe_tup (pa_cons (pv 3) (pa_cons pe_int pa_nil))) pa_nil))))) pa_nil)))))) pss_nil)
      (pss_one (ps_ret (pe_cal (K := K) C__law_of (hr.mono (by decide)) (by rfl) (pa_cons (pv 0) (pa_cons (pv 2) pa_nil))))))), fun cl hs kk h => ?_⟩
  obtain ⟨a, N, g, x, n, rfl, rfl, hJ, hN, hk⟩ := h
  walk_at "start"
  intro B0 fh Q R
  refine nt_is [.r a, .d (.int 1), .any, .any] [jc a g x n] rfl rfl ?_
  repeat' walk_at "we"
  · exact ⟨by decide, by decide, by decide⟩
  refine call10 ⟨a, N, 99, g, x, n, rfl, rfl, hJ, by decide, by decide, by omega, fun r g1 x1 n1 h0 h1 J1 => ⟨_, rfl, ?_⟩⟩
  repeat' walk_at "we"
  refine call10 ⟨a, N + 1, 999, g1, x1, n1, rfl, rfl, J1, by decide, by decide, by omega, fun s g2 x2 n2 h2 h3 J2 => ⟨_, rfl, ?_⟩⟩
  repeat' walk_at "we"
  refine ra_strI (log_small h2 (by omega)) ?_
  repeat' walk_at "we"
  · refine call10 ⟨a, N + 1 + 1, 2, g2, x2, n2, rfl, rfl, J2, by decide, by decide, by omega, fun q g3 x3 n3 h4 h5 J3 => ⟨_, rfl, ?_⟩⟩
    repeat' walk_at "we"
    · refine call10 ⟨a, N + 1 + 1 + 1, g3, x3, n3, rfl, rfl, J3, by omega, fun z g4 x4 n4 hz J4 => ⟨_, rfl, ?_⟩⟩
      repeat' walk_at "we"
      refine nt_ret R ?_
      repeat' walk_at "we"
      refine callA ⟨a, _, g4, x4, n4, true, _, rfl, rfl, J4, by omega, by simp, by simp, fun y g5 x5 n5 hy J5 => hk y _ _ _ (inner_ok hz hy) (J5.mono (by omega))⟩
    · refine nt_ret R ?_
      repeat' walk_at "we"
      refine callA ⟨a, N + 1 + 1 + 1, g3, x3, n3, true, _, rfl, rfl, J3, by omega, by simp, by simp, fun z g5 x5 n5 hz J5 => hk z _ _ _ ((leaf_ok (n := 1) ⟨h0, h1⟩ ⟨h2, h3⟩ hz)) (J5.mono (by omega))⟩
  · refine nt_ret R ?_
    repeat' walk_at "we"
    refine callA ⟨a, N + 1 + 1, g2, x2, n2, true, _, rfl, rfl, J2, by omega, by simp, by simp, fun z g5 x5 n5 hz J5 => hk z _ _ _ ((leaf_ok (n := 1) ⟨h0, h1⟩ ⟨h2, h3⟩ hz)) (J5.mono (by omega))⟩
theorem ok__law_drawn_2 {P : Program} {w : World} {K : PySem.W.Frag} {mg : Str → Option Value} {base : Heap} {f0 : Addr} {fd0 : FuncData} (F : Fun K "_law_drawn" "_law_drawn" s__law_drawn_2 f0 fd0) (m_str : mg "str" = none) (C__law_take : Cal P w K mg base 1 "_law_take" ["_law_pot", "_law_many"] S__law_take) (C__law_drawn_1 : Cal P w K mg base 4 "_law_drawn" ["_law_pot", "_law_depth"] S__law_drawn_1) (C__law_of : Cal P w K mg base 2 "_law_of" ["_law_pot", "_law_some"] S__law_of) :
    FnOk P w K mg base CX0 5 f0 fd0 ["_law_pot", "_law_depth"] (spC K S__law_drawn_2) := by
  refine okC F sc__law_drawn_2 rfl (n := 4) (fun cl hs kk h => ?_) (fun cdv A out s H E hr => ?_)
  · obtain ⟨a, N, g, x, n, rfl, _⟩ := h
    rfl
  refine ⟨_, (pss_cons (ps_set (i := 2) sc__law_drawn_2.nd rfl (.inl rfl) (pe_lstZ (pa_cons pe_non (pa_cons pe_bl (pa_cons pe_bl (pa_cons pe_int (pa_cons (pe_un un_neg pe_int) (pa_cons (pe_op op_pow pe_int pe_int) (pa_cons pe_str (pa_cons pe_str (pa_cons (pe_tup pa_nil) (pa_cons (pe_lstZ pa_nil) (pa_cons pe_dnewK (pa_cons (pe_cal (K := K) C__law_take (hr.mono (by decide)) (by rfl) (pa_cons (pv 0) (pa_cons pe_int pa_nil))) (pa_cons (pe_callTy cr_strI (by rfl) m_str (by decide +kernel) (pa_cons (pe_cal (K := K) C__law_take (hr.mono (by decide)) (by rfl) (pa_cons (pv 0) (pa_cons pe_int pa_nil))) pa_nil)) pa_nil)))))))))))))))
      (pss_cons (ps_if (PW.pt (pw_and (pt_cmpR op_gt (pv 1) pe_int (nomark _)) (pw_and1 (pt_cmpR op_eq (pe_cal (K := K) C__law_take (hr.mono (by decide)) (by rfl) (pa_cons (pv 0) (pa_cons pe_int pa_nil))) pe_int (nomark _))))) (pss_cons (ps_set (i := 3) sc__law_drawn_2.nd rfl (.inl rfl) (pe_cal (K := K) C__law_drawn_1 (hr.mono (by decide)) (by rfl) (pa_cons (pv 0) (pa_cons (pe_op op_sub (pv 1) pe_int) pa_nil))))
      (pss_one (ps_ret (pe_cal (K := K) C__law_of (hr.mono (by decide)) (by rfl) (pa_cons (pv 0) (pa_cons (pe_lstZ (pa_cons (pe_tup (pa_cons (pv 3) pa_nil)) (pa_cons (pe_lstZ (pa_cons (pv 3) pa_nil)) (pa_cons (pe_disp (pps_cons pe_str (pv 3) pps_nil) (by rfl) rfl (by simp) (by decide)) (pa_cons (pe_tup (pa_cons (pv 3) (pa_cons pe_int pa_nil))) pa_nil))))) pa_nil)))))) pss_nil)
      (pss_one (ps_ret (pe_cal (K := K) C__law_of (hr.mono (by decide)) (by rfl) (pa_cons (pv 0) (pa_cons (pv 2) pa_nil))))))), fun cl hs kk h => ?_⟩
  obtain ⟨a, N, g, x, n, rfl, rfl, hJ, hN, hk⟩ := h
  walk_at "start"
  intro B0 fh Q R
  refine nt_is [.r a, .d (.int 2), .any, .any] [jc a g x n] rfl rfl ?_
  repeat' walk_at "we"
  · exact ⟨by decide, by decide, by decide⟩
  refine call10 ⟨a, N, 99, g, x, n, rfl, rfl, hJ, by decide, by decide, by omega, fun r g1 x1 n1 h0 h1 J1 => ⟨_, rfl, ?_⟩⟩
  repeat' walk_at "we"
  refine call10 ⟨a, N + 1, 999, g1, x1, n1, rfl, rfl, J1, by decide, by decide, by omega, fun s g2 x2 n2 h2 h3 J2 => ⟨_, rfl, ?_⟩⟩
  repeat' walk_at "we"
  refine ra_strI (log_small h2 (by omega)) ?_
  repeat' walk_at "we"
  · refine call10 ⟨a, N + 1 + 1, 2, g2, x2, n2, rfl, rfl, J2, by decide, by decide, by omega, fun q g3 x3 n3 h4 h5 J3 => ⟨_, rfl, ?_⟩⟩
    repeat' walk_at "we"
    · refine call10 ⟨a, N + 1 + 1 + 1, g3, x3, n3, rfl, rfl, J3, by omega, fun z g4 x4 n4 hz J4 => ⟨_, rfl, ?_⟩⟩
      repeat' walk_at "we"
      refine nt_ret R ?_
      repeat' walk_at "we"
      refine callA ⟨a, _, g4, x4, n4, true, _, rfl, rfl, J4, by omega, by simp, by simp, fun y g5 x5 n5 hy J5 => hk y _ _ _ (inner_ok hz hy) (J5.mono (by omega))⟩
    · refine nt_ret R ?_
      repeat' walk_at "we"
      refine callA ⟨a, N + 1 + 1 + 1, g3, x3, n3, true, _, rfl, rfl, J3, by omega, by simp, by simp, fun z g5 x5 n5 hz J5 => hk z _ _ _ ((leaf_ok (n := 2) ⟨h0, h1⟩ ⟨h2, h3⟩ hz)) (J5.mono (by omega))⟩
  · refine nt_ret R ?_
    repeat' walk_at "we"
    refine callA ⟨a, N + 1 + 1, g2, x2, n2, true, _, rfl, rfl, J2, by omega, by simp, by simp, fun z g5 x5 n5 hz J5 => hk z _ _ _ ((leaf_ok (n := 2) ⟨h0, h1⟩ ⟨h2, h3⟩ hz)) (J5.mono (by omega))⟩
theorem ok__law_drawn_3 {P : Program} {w : World} {K : PySem.W.Frag} {mg : Str → Option Value} {base : Heap} {f0 : Addr} {fd0 : FuncData} (F : Fun K "_law_drawn" "_law_drawn" s__law_drawn_3 f0 fd0) (m_str : mg "str" = none) (C__law_take : Cal P w K mg base 1 "_law_take" ["_law_pot", "_law_many"] S__law_take) (C__law_drawn_2 : Cal P w K mg base 5 "_law_drawn" ["_law_pot", "_law_depth"] S__law_drawn_2) (C__law_of : Cal P w K mg base 2 "_law_of" ["_law_pot", "_law_some"] S__law_of) :
    FnOk P w K mg base CX0 6 f0 fd0 ["_law_pot", "_law_depth"] (spC K S__law_drawn_3) := by
  refine okC F sc__law_drawn_3 rfl (n := 4) (fun cl hs kk h => ?_) (fun cdv A out s H E hr => ?_)
  · obtain ⟨a, N, g, x, n, rfl, _⟩ := h
    rfl
  refine ⟨_, (pss_cons (ps_set (i := 2) sc__law_drawn_3.nd rfl (.inl rfl) (pe_lstZ (pa_cons pe_non (pa_cons pe_bl (pa_cons pe_bl (pa_cons pe_int (pa_cons (pe_un un_neg pe_int) (pa_cons (pe_op op_pow pe_int pe_int) (pa_cons pe_str (pa_cons pe_str (pa_cons (pe_tup pa_nil) (pa_cons (pe_lstZ pa_nil) (pa_cons pe_dnewK (pa_cons (pe_cal (K := K) C__law_take (hr.mono (by decide)) (by rfl) (pa_cons (pv 0) (pa_cons pe_int pa_nil))) (pa_cons (pe_callTy cr_strI (by rfl) m_str (by decide +kernel) (pa_cons (pe_cal (K := K) C__law_take (hr.mono (by decide)) (by rfl) (pa_cons (pv 0) (pa_cons pe_int pa_nil))) pa_nil)) pa_nil)))))))))))))))
      (pss_cons (ps_if (PW.pt (pw_and (pt_cmpR op_gt (pv 1) pe_int (nomark _)) (pw_and1 (pt_cmpR op_eq (pe_cal (K := K) C__law_take (hr.mono (by decide)) (by rfl) (pa_cons (pv 0) (pa_cons pe_int pa_nil))) pe_int (nomark _))))) (pss_cons (ps_set (i := 3) sc__law_drawn_3.nd rfl (.inl rfl) (pe_cal (K := K) C__law_drawn_2 (hr.mono (by decide)) (by rfl) (pa_cons (pv 0) (pa_cons (pe_op op_sub (pv 1) pe_int) pa_nil))))
      (pss_one (ps_ret (pe_cal (K := K) C__law_of (hr.mono (by decide)) (by rfl) (pa_cons (pv 0) (pa_cons (pe_lstZ (pa_cons (pe_tup (pa_cons (pv 3) pa_nil)) (pa_cons (pe_lstZ (pa_cons (pv 3) pa_nil)) (pa_cons (pe_disp (pps_cons pe_str (pv 3) pps_nil) (by rfl) rfl (by simp) (by decide)) (pa_cons (pe_tup (pa_cons (pv 3) (pa_cons pe_int pa_nil))) pa_nil))))) pa_nil)))))) pss_nil)
      (pss_one (ps_ret (pe_cal (K := K) C__law_of (hr.mono (by decide)) (by rfl) (pa_cons (pv 0) (pa_cons (pv 2) pa_nil))))))), fun cl hs kk h => ?_⟩
  obtain ⟨a, N, g, x, n, rfl, rfl, hJ, hN, hk⟩ := h
  walk_at "start"
  intro B0 fh Q R
  refine nt_is [.r a, .d (.int 3), .any, .any] [jc a g x n] rfl rfl ?_
  repeat' walk_at "we"
  · exact ⟨by decide, by decide, by decide⟩
  refine call10 ⟨a, N, 99, g, x, n, rfl, rfl, hJ, by decide, by decide, by omega, fun r g1 x1 n1 h0 h1 J1 => ⟨_, rfl, ?_⟩⟩
  repeat' walk_at "we"
  refine call10 ⟨a, N + 1, 999, g1, x1, n1, rfl, rfl, J1, by decide, by decide, by omega, fun s g2 x2 n2 h2 h3 J2 => ⟨_, rfl, ?_⟩⟩
  repeat' walk_at "we"
  refine ra_strI (log_small h2 (by omega)) ?_
  repeat' walk_at "we"
  · refine call10 ⟨a, N + 1 + 1, 2, g2, x2, n2, rfl, rfl, J2, by decide, by decide, by omega, fun q g3 x3 n3 h4 h5 J3 => ⟨_, rfl, ?_⟩⟩
    repeat' walk_at "we"
    · refine call10 ⟨a, N + 1 + 1 + 1, g3, x3, n3, rfl, rfl, J3, by omega, fun z g4 x4 n4 hz J4 => ⟨_, rfl, ?_⟩⟩
      repeat' walk_at "we"
      refine nt_ret R ?_
      repeat' walk_at "we"
      refine callA ⟨a, _, g4, x4, n4, true, _, rfl, rfl, J4, by omega, by simp, by simp, fun y g5 x5 n5 hy J5 => hk y _ _ _ (inner_ok hz hy) (J5.mono (by omega))⟩
    · refine nt_ret R ?_
      repeat' walk_at "we"
      refine callA ⟨a, N + 1 + 1 + 1, g3, x3, n3, true, _, rfl, rfl, J3, by omega, by simp, by simp, fun z g5 x5 n5 hz J5 => hk z _ _ _ ((leaf_ok (n := 3) ⟨h0, h1⟩ ⟨h2, h3⟩ hz)) (J5.mono (by omega))⟩
  · refine nt_ret R ?_
    repeat' walk_at "we"
    refine callA ⟨a, N + 1 + 1, g2, x2, n2, true, _, rfl, rfl, J2, by omega, by simp, by simp, fun z g5 x5 n5 hz J5 => hk z _ _ _ ((leaf_ok (n := 3) ⟨h0, h1⟩ ⟨h2, h3⟩ hz)) (J5.mono (by omega))⟩
abbrev reprZ (z : Fz) : Str := ((fzPy z).getD .none).shown
def blZ : Fz → Bool
  | .d (.bool _) => true
  | _ => false
abbrev shownF (z : Fz) : Str := reprZ z ++ boolT (blZ z)
theorem kit_no : ∀ n ∈ ["NoneType", "int", "str", "list", "tuple", "dict"], kitB n "bool" = some false := by decide +kernel
theorem kit_bool {z : Fz} (h : isExc z = false) : kitB (tyZ z) "bool" = some (blZ z) := by
  cases z with
  | d x =>
    cases x with
    | bool b => exact (by decide +kernel : kitB "bool" "bool" = some true)
    | none => exact kit_no "NoneType" (by decide)
    | int _ => exact kit_no "int" (by decide)
    | str _ => exact kit_no "str" (by decide)
    | list _ => exact kit_no "list" (by decide)
    | tuple _ => exact kit_no "tuple" (by decide)
    | dict _ => exact kit_no "dict" (by decide)
  | tup _ => exact kit_no "tuple" (by decide)
  | lst _ _ => exact kit_no "list" (by decide)
  | dic _ => exact kit_no "dict" (by decide)
  | exc _ _ => cases h
  | exc0 _ => cases h
def S__law_shown : List C → List HC → KC → Prop := fun cl hs k => ∃ z : Fz, cl = [.z z] ∧ hs = [] ∧ Wv 4 z ∧ k (.d (.str (shownF z))) []
theorem ok__law_shown {P : Program} {w : World} {K : PySem.W.Frag} {mg : Str → Option Value} {base : Heap} {f0 : Addr} {fd0 : FuncData} (F : Fun K "_law_shown" "_law_shown" s__law_shown f0 fd0) (m_bool : mg "bool" = none) (m_isinstance : mg "isinstance" = none) (m_repr : mg "repr" = none) (m_str : mg "str" = none) :
    FnG P w K mg base CX0 1 f0 fd0 ["_law_thing"] (spC K S__law_shown) := by
  refine okCG F sc__law_shown rfl (n := 1) (fun cl hs kk h => ?_) (fun cdv A out s H E hr hg0 => ?_)
  · obtain ⟨z, rfl, _⟩ := h
    rfl
  have hgd : (A.deeper (envOfC "_law_shown" (defScope s__law_shown) s.heap.objs.size f0 cdv)).guards = some [] := hg0
  refine ⟨_, (pss_one (ps_ret (pe_op op_addS (pe_callB (cr_reprZ (K := K) hgd hr.units) (by rfl) m_repr (by decide +kernel) (pa_cons (pv 0) pa_nil)) (pe_callTy cr_strB (by rfl) m_str (by decide +kernel) (pa_cons (pe_callB (cr_isi (K := K)) (by rfl) m_isinstance (by decide +kernel) (pa_cons (pv 0) (pa_cons (pe_bltn (v := .ty "bool") (by rfl) m_bool (by decide +kernel) rfl) pa_nil))) pa_nil))))), fun cl hs kk h => ?_⟩
  obtain ⟨z, rfl, rfl, hz, hk⟩ := h
  walk_at "start"
  intro B0 fh Q R
  refine nt_is [.z z] [] rfl rfl ?_
  have hz' := hz
  obtain ⟨h1, x, h2, h3, h4, h5, h6⟩ := hz'
  have hlen := PyData.shown_le_bulk 32 (by decide) x h5
  have hle : x.shown.length ≤ 100000 := by omega
  refine nt_ret R ?_
  repeat' walk_at "we"
  refine ra_reprZ rfl h2 h3 (by omega) (Nat.le_trans hle (by rw [sizeLine_eq]; decide)) ?_
  repeat' walk_at "we"
  refine we_cv (wa_nil ?_)
  refine ra_isiZ rfl h1 (kit_bool h1) ?_
  repeat' walk_at "we"
  refine ra_strB ?_
  repeat' walk_at "we"
  · have : (boolT (blZ z)).length ≤ 5 := by cases blZ z <;> decide
    omega
  · have e : x.shown = reprZ z := by unfold reprZ; rw [h2]; rfl
    rw [e]
    exact hk
end K79
namespace K79
open PySem PySem.Spec PyProof.Rows L2 Gu Cw Ec Snap
local macro_rules | `(tactic| walk_at "as") => `(tactic| with_reducible first | exact asD | exact asL0 | exact asL1 | exact asL2 | (walk_at "norm"; first | exact asL0 | exact asL1 | exact asL2 | exact asL3 | exact asL4 | exact asL5) | exact asL3 | exact asL4 | exact asL5)
local macro_rules | `(tactic| walk_at "asOld") => `(tactic| with_reducible first | exact asD | exact asL0 | exact asL1 | exact asL2 | exact asL3 | exact asL4 | exact asL5)
local macro_rules | `(tactic| walk_at "nt") => `(tactic| first
  | (refine nt_mk ?_; walk_at "norm") | (refine nt_seq ?_; walk_at "norm") | (refine nt_if ?_; walk_at "norm") | refine nt_set ?_ | refine nt_drop ?_ | refine nt_next ?_
  | refine nt_setM ?_ | refine nt_aug (by with_unfolding_all rfl) ?_ | refine nt_par ?_ | refine nt_par3 ?_ | refine nt_parT ?_ | refine nt_dputT ?_ | refine nt_dput ?_ | refine nt_fld (by assumption) (by assumption) ?_
  | refine nt_mkb ?_ | refine nt_mkc ?_ | refine nt_break ?_ | refine nt_cont ?_ | fail)
local macro_rules | `(tactic| walk_at "wx") => `(tactic| first
  | refine we_varD (by with_unfolding_all rfl) ?_ | refine we_ckw ?_ | refine we_sortL ?_ | refine we_kget ?_ | refine we_dnotinS ?_ | refine we_tupRg2 ?_ | refine we_varV (by with_unfolding_all rfl) ?_ | refine we_varZ (by with_unfolding_all rfl) ?_ | refine we_lstZ ?_ | refine we_mkV ?_ | refine we_mkV1 (fun _ _ => rfl) ?_ | refine we_mkV2 (fun _ _ _ => rfl) ?_ | refine we_mk0 ?_ | refine we_xfd ?_ | refine we_dispZ ?_ |  refine we_op ?_ | refine we_int ?_ | refine we_str ?_ | refine we_bl ?_ | refine we_non ?_
  | refine we_cb ?_ | refine we_call ?_ | refine we_tupZ ?_ | refine we_if ?_ | refine we_fld (by assumption) (by assumption) ?_ | refine we_andV ?_ | refine we_orV ?_ | refine we_notV ?_ | refine we_un ?_ | refine we_dnewZ ?_ | refine we_dget ?_ | refine we_dinTt ?_ | refine we_dnotinTt ?_ | refine we_din ?_ | refine we_dnotin ?_ | refine we_append ?_ | refine we_extend ?_ | refine we_extendT ?_ | refine we_pop ?_ | refine we_dget1 ?_ | refine we_dget2 ?_ | refine we_dpop2 ?_ | refine we_dsetd ?_ | refine we_make ?_ | refine we_meth ?_ | fail)
local macro_rules | `(tactic| walk_at "rd") => `(tactic| first
  | refine rd_I0 (fun _ => .int _) ?_ | refine rd_I0 (fun _ => .bl _) ?_ | refine rd_ixL (by walk_at "as") ?_ | refine rd_ixT ?_ | refine rd_I ?_ (fun _ => .int _) ?_ | refine rd_eq (by with_unfolding_all rfl) (by with_unfolding_all rfl) (by with_unfolding_all rfl) ?_ | refine rd_ne (by with_unfolding_all rfl) (by with_unfolding_all rfl) (by with_unfolding_all rfl) ?_ | refine rd_isN ?_ | refine rd_notN ?_ | refine rd_addS ?_ ?_ | fail)
local macro_rules | `(tactic| walk_at "ra") => `(tactic| first
  | refine ra_L (by walk_at "as") bl_len ?_ | refine ra_T bt_len ?_ | refine ra_1I (fun _ => .int _) ?_ | refine ra_2I (fun _ => .int _) ?_ | refine ra_intB ?_ | refine ra_neg ?_ | refine ra_L (by walk_at "as") bl_tuple ?_ | refine ra_lenD ?_ | fail)
local macro_rules | `(tactic| walk_at "we") => `(tactic| with_reducible first
  | (show Cw.WE _ _ _ _ _; walk_at "wx") | (show Cw.Nt _ _ _ _ _ _; walk_at "nt") | (show Cw.RD _ _ _ _ _ _; walk_at "rd") | (show Cw.RA _ _ _ _ _; walk_at "ra")
  | (show Cw.WT _ _ _ _ _; first | refine wt_test ?_ | refine wt_B ?_ | refine wt_and ?_ | refine wt_or ?_ | refine wt_not ?_ | refine wt_yes ?_)
  | (show Cw.WA _ _ _ _ _; first | refine wa_cons ?_ | refine wa_nil ?_)
  | (show Cw.WG _ _ _ _ _; first | refine wg_name ?_ | refine wg_tup2 (by with_unfolding_all rfl) ?_ | refine wg_tup3 (by with_unfolding_all rfl) ?_ | refine wg_tup4 (by with_unfolding_all rfl) ?_)
  | (show Cw.WGs _ _ _ _ _; first | refine wgs_cons ?_ | refine wgs_nil ?_)
  | (show Cw.KeyE _ _ _ _ _; first | refine keyE_tup ?_ | refine keyE_var (by with_unfolding_all rfl) ?_)
  | (show Cw.WI _ _ _ _ _; first | refine wi_itemsF ?_ | refine wi_keysF ?_ | refine wi_valuesF ?_ | refine wi_S ?_ | refine wi_L ?_ | refine wi_T ?_ | refine wi_R1 ?_ | refine wi_R2 ?_)
  | refine isB ?_ | refine isI ?_ | refine isD ?_ | refine bbT ?_ | refine bbF ?_ | refine bb (fun _ => ?_) (fun _ => ?_)
  | (show Cw.At _ _ _; walk_at "norm"; first | refine at0 ?_ | refine at1 ?_ | refine at2 ?_ | refine at3 ?_ | refine at4 ?_ | refine at5 ?_ | refine at6 ?_ | refine at7 ?_)
  | refine isL ?_ | refine isF (by with_unfolding_all rfl) ?_ | refine isFs (by with_unfolding_all rfl) ?_ | refine isMt (by with_unfolding_all rfl) ?_ | refine isLc ?_ | refine isDi ?_ | refine isDt ?_ | refine isKI ?_ | refine isKS ?_
  | refine ixJ (by with_unfolding_all rfl) ?_ | refine und (by with_unfolding_all rfl) (by with_unfolding_all rfl) ?_ | refine unk (by with_unfolding_all rfl) (by with_unfolding_all rfl) ?_ | refine lenN (by with_unfolding_all rfl) (by with_unfolding_all rfl) ?_ | refine two ?_ | refine three ?_ | refine atX (by with_unfolding_all rfl) ?_ | refine less ?_ ?_
  | refine unzI (by with_unfolding_all rfl) (by with_unfolding_all rfl) ?_ | refine ⟨_, rfl, ?_⟩ | fail)
local macro_rules | `(tactic| walk_at "side") => `(tactic| first
  | exact (show (_ : Int) ≠ 0 by omega) | exact (show CDivN _ _ from ⟨by omega, by omega⟩) | exact (show CMul _ _ from Or.inl ⟨by omega, by omega⟩) | exact (show CMul _ _ from Or.inr ⟨by omega, by omega⟩)
  | exact (show CPow _ _ from ⟨by omega, by omega, by omega⟩))
local macro_rules | `(tactic| walk_at "start") => `(tactic| try dsimp only [cxOf, Cx.nox, Cx.wish])
local macro_rules | `(tactic| walk_at "norm") => `(tactic| try dsimp only [List.set_cons_zero, List.set_cons_succ])
def tabK : List (List Bool) := (List.range 14).map fun i => ((List.range 14).map fun j => i == j || j == 13) ++ [true]
/-- the error classes, HeapError last, and what stands below what -/
def Tb (K : PySem.W.Frag) (cl : List Addr) : Prop := cl.length = 14 ∧ (∀ C ∈ cl, ExK K C) ∧ subT K cl (cl.map Value.ref ++ [.type "ValueError"]) tabK = true
theorem tab_at {i j : Nat} (hi : i < 14) (hj : j < 14) : ∃ row, tabK[i]? = some row ∧ row[j]? = some (i == j || j == 13) ∧ row[14]? = some true := by
  refine ⟨((List.range 14).map fun j => i == j || j == 13) ++ [true], ?_, ?_, ?_⟩
  · unfold tabK
    rw [List.getElem?_map, List.getElem?_range hi]
    rfl
  · rw [List.getElem?_append_left (by simpa using hj), List.getElem?_map, List.getElem?_range hj]
    rfl
  · rw [List.getElem?_append_right (by simp)]
    simp
theorem Tb.isC {K : PySem.W.Frag} {cl : List Addr} (h : Tb K cl) {i j : Nat} {C D : Addr} (h1 : cl[i]? = some C) (h2 : cl[j]? = some D) : PySem.W.kitOne K (.ref C) (.ref D) = some (i == j || j == 13) := by
  obtain ⟨hl, _, ht⟩ := h
  have hi : i < 14 := by have := (List.getElem?_eq_some_iff.mp h1).1; omega
  have hj : j < 14 := by have := (List.getElem?_eq_some_iff.mp h2).1; omega
  obtain ⟨row, r1, r2, _⟩ := tab_at hi hj
  refine subT_ok ht h1 r1 (j := j) ?_ r2
  rw [List.getElem?_append_left (by simp; omega), List.getElem?_map, h2]
  rfl
theorem Tb.isV {K : PySem.W.Frag} {cl : List Addr} (h : Tb K cl) {i : Nat} {C : Addr} (h1 : cl[i]? = some C) : PySem.W.kitOne K (.ref C) (.type "ValueError") = some true := by
  obtain ⟨hl, _, ht⟩ := h
  have hi : i < 14 := by have := (List.getElem?_eq_some_iff.mp h1).1; omega
  obtain ⟨row, r1, _, r3⟩ := tab_at hi (j := 0) (by decide)
  refine subT_ok ht h1 r1 (j := 14) ?_ r3
  rw [List.getElem?_append_right (by simp; omega)]
  simp [hl]
theorem Tb.ex {K : PySem.W.Frag} {cl : List Addr} (h : Tb K cl) {i : Nat} {C : Addr} (h1 : cl[i]? = some C) : ExK K C := h.2.1 C (List.mem_of_getElem? h1)
/-- an error of class i -/
def OfN (cl : List Addr) (i : Nat) (z : Fz) : Prop := ∃ C, cl[i]? = some C ∧ ofCls C z
section
variable {K : PySem.W.Frag} {cl : List Addr} {hs : List HC} {k : KC}
theorem ra_err {z : Fz} {i j : Nat} {D : Addr} (T : Tb K cl) (hz : OfN cl i z) (hj : cl[j]? = some D) (hk : k (.d (.bool (i == j || j == 13))) hs) : RA K (rIsE2 K) [.z z, .v (.ref D)] hs k := by
  obtain ⟨C, h1, h2⟩ := hz
  exact ra_isX h2 (T.ex h1) rfl (.inl ⟨_, rfl⟩) (T.isC h1 hj) hk
theorem ra_errV {z : Fz} {i : Nat} (T : Tb K cl) (hz : OfN cl i z) (hk : k (.d (.bool true)) hs) : RA K (rIsE2 K) [.z z, .v (.ty "ValueError")] hs k := by
  obtain ⟨C, h1, h2⟩ := hz
  exact ra_isX h2 (T.ex h1) rfl (.inr ⟨_, rfl⟩) (T.isV h1) hk
end
abbrev kindsD (i : Nat) : List PyData := [0, 1, 2, 3, 4, 5, 6, 7, 8, 9, 10, 11, 12].map fun j : Nat => PyData.bool (i == j || j == 13)
def S__law_kinds (cl : List Addr) : List C → List HC → KC → Prop := fun cs hs k => ∃ (z : Fz) (i : Nat), cs = [.z z] ∧ hs = [] ∧ OfN cl i z ∧ k (.d (.list (kindsD i))) []
local macro_rules | `(tactic| walk_at "isx") => `(tactic| first | refine we_cv (wa_nil (ra_err (j := 0) $(Lean.mkIdent `TC) $(Lean.mkIdent `hz) rfl ?_)) | refine we_cv (wa_nil (ra_err (j := 1) $(Lean.mkIdent `TC) $(Lean.mkIdent `hz) rfl ?_)) | refine we_cv (wa_nil (ra_err (j := 2) $(Lean.mkIdent `TC) $(Lean.mkIdent `hz) rfl ?_)) | refine we_cv (wa_nil (ra_err (j := 3) $(Lean.mkIdent `TC) $(Lean.mkIdent `hz) rfl ?_)) | refine we_cv (wa_nil (ra_err (j := 4) $(Lean.mkIdent `TC) $(Lean.mkIdent `hz) rfl ?_)) | refine we_cv (wa_nil (ra_err (j := 5) $(Lean.mkIdent `TC) $(Lean.mkIdent `hz) rfl ?_)) | refine we_cv (wa_nil (ra_err (j := 6) $(Lean.mkIdent `TC) $(Lean.mkIdent `hz) rfl ?_)) | refine we_cv (wa_nil (ra_err (j := 7) $(Lean.mkIdent `TC) $(Lean.mkIdent `hz) rfl ?_)) | refine we_cv (wa_nil (ra_err (j := 8) $(Lean.mkIdent `TC) $(Lean.mkIdent `hz) rfl ?_)) | refine we_cv (wa_nil (ra_err (j := 9) $(Lean.mkIdent `TC) $(Lean.mkIdent `hz) rfl ?_)) | refine we_cv (wa_nil (ra_err (j := 10) $(Lean.mkIdent `TC) $(Lean.mkIdent `hz) rfl ?_)) | refine we_cv (wa_nil (ra_err (j := 11) $(Lean.mkIdent `TC) $(Lean.mkIdent `hz) rfl ?_)) | refine we_cv (wa_nil (ra_err (j := 12) $(Lean.mkIdent `TC) $(Lean.mkIdent `hz) rfl ?_)) | refine we_cv (wa_nil (ra_err (j := 13) $(Lean.mkIdent `TC) $(Lean.mkIdent `hz) rfl ?_)))
theorem ok__law_kinds {P : Program} {w : World} {K : PySem.W.Frag} {mg : Str → Option Value} {base : Heap} {f0 : Addr} {fd0 : FuncData} {Cl_BadBlock : Addr} {Cl_BadLine : Addr} {Cl_BadPolicy : Addr} {Cl_BadRow : Addr} {Cl_BadText : Addr} {Cl_Fault : Addr} {Cl_HeapError : Addr} {Cl_NoLink : Addr} {Cl_NoMark : Addr} {Cl_NoObject : Addr} {Cl_NoProcedure : Addr} {Cl_TooMany : Addr} {Cl_Twice : Addr} {Cl_WrongCount : Addr} (F : Fun K "_law_kinds" "_law_kinds" s__law_kinds f0 fd0) (m_isinstance : mg "isinstance" = none) (g_Twice : mg "Twice" = some (.ref Cl_Twice)) (g_BadBlock : mg "BadBlock" = some (.ref Cl_BadBlock)) (g_BadRow : mg "BadRow" = some (.ref Cl_BadRow)) (g_BadPolicy : mg "BadPolicy" = some (.ref Cl_BadPolicy)) (g_WrongCount : mg "WrongCount" = some (.ref Cl_WrongCount)) (g_NoProcedure : mg "NoProcedure" = some (.ref Cl_NoProcedure)) (g_NoLink : mg "NoLink" = some (.ref Cl_NoLink)) (g_NoObject : mg "NoObject" = some (.ref Cl_NoObject)) (g_Fault : mg "Fault" = some (.ref Cl_Fault)) (g_NoMark : mg "NoMark" = some (.ref Cl_NoMark)) (g_BadText : mg "BadText" = some (.ref Cl_BadText)) (g_TooMany : mg "TooMany" = some (.ref Cl_TooMany)) (g_BadLine : mg "BadLine" = some (.ref Cl_BadLine)) (TC : Tb K [Cl_BadRow, Cl_BadBlock, Cl_Twice, Cl_NoProcedure, Cl_WrongCount, Cl_BadPolicy, Cl_Fault, Cl_NoObject, Cl_NoLink, Cl_TooMany, Cl_BadText, Cl_NoMark, Cl_BadLine, Cl_HeapError]) :
    FnOk P w K mg base CX0 1 f0 fd0 ["_law_error"] (spC K (S__law_kinds [Cl_BadRow, Cl_BadBlock, Cl_Twice, Cl_NoProcedure, Cl_WrongCount, Cl_BadPolicy, Cl_Fault, Cl_NoObject, Cl_NoLink, Cl_TooMany, Cl_BadText, Cl_NoMark, Cl_BadLine, Cl_HeapError])) := by
  refine okC F sc__law_kinds rfl (n := 2) (fun cl hs kk h => ?_) (fun cdv A out s H E hr => ?_)
  · obtain ⟨z, i, rfl, _⟩ := h
    rfl
  refine ⟨_, (pss_cons (ps_set (i := 1) sc__law_kinds.nd rfl (.inl rfl) (pe_lst (pa_cons (pe_callB (cr_isE2 (K := K)) (by rfl) m_isinstance (by decide +kernel) (pa_cons (pv 0) (pa_cons (pe_glob (v := .ref Cl_BadRow) (by rfl) g_BadRow rfl) pa_nil))) (pa_cons (pe_callB (cr_isE2 (K := K)) (by rfl) m_isinstance (by decide +kernel) (pa_cons (pv 0) (pa_cons (pe_glob (v := .ref Cl_BadBlock) (by rfl) g_BadBlock rfl) pa_nil))) (pa_cons (pe_callB (cr_isE2 (K := K)) (by rfl) m_isinstance (by decide +kernel) (pa_cons (pv 0) (pa_cons (pe_glob (v := .ref Cl_Twice) (by rfl) g_Twice rfl) pa_nil))) pa_nil)))))
      (pss_cons (ps_set (i := 1) sc__law_kinds.nd rfl (.inl rfl) (pe_op (op_catK (K := K)) (pv 1) (pe_lst (pa_cons (pe_callB (cr_isE2 (K := K)) (by rfl) m_isinstance (by decide +kernel) (pa_cons (pv 0) (pa_cons (pe_glob (v := .ref Cl_NoProcedure) (by rfl) g_NoProcedure rfl) pa_nil))) (pa_cons (pe_callB (cr_isE2 (K := K)) (by rfl) m_isinstance (by decide +kernel) (pa_cons (pv 0) (pa_cons (pe_glob (v := .ref Cl_WrongCount) (by rfl) g_WrongCount rfl) pa_nil))) (pa_cons (pe_callB (cr_isE2 (K := K)) (by rfl) m_isinstance (by decide +kernel) (pa_cons (pv 0) (pa_cons (pe_glob (v := .ref Cl_BadPolicy) (by rfl) g_BadPolicy rfl) pa_nil))) pa_nil))))))
      (pss_cons (ps_set (i := 1) sc__law_kinds.nd rfl (.inl rfl) (pe_op (op_catK (K := K)) (pv 1) (pe_lst (pa_cons (pe_callB (cr_isE2 (K := K)) (by rfl) m_isinstance (by decide +kernel) (pa_cons (pv 0) (pa_cons (pe_glob (v := .ref Cl_Fault) (by rfl) g_Fault rfl) pa_nil))) (pa_cons (pe_callB (cr_isE2 (K := K)) (by rfl) m_isinstance (by decide +kernel) (pa_cons (pv 0) (pa_cons (pe_glob (v := .ref Cl_NoObject) (by rfl) g_NoObject rfl) pa_nil))) (pa_cons (pe_callB (cr_isE2 (K := K)) (by rfl) m_isinstance (by decide +kernel) (pa_cons (pv 0) (pa_cons (pe_glob (v := .ref Cl_NoLink) (by rfl) g_NoLink rfl) pa_nil))) pa_nil))))))
      (pss_cons (ps_set (i := 1) sc__law_kinds.nd rfl (.inl rfl) (pe_op (op_catK (K := K)) (pv 1) (pe_lst (pa_cons (pe_callB (cr_isE2 (K := K)) (by rfl) m_isinstance (by decide +kernel) (pa_cons (pv 0) (pa_cons (pe_glob (v := .ref Cl_TooMany) (by rfl) g_TooMany rfl) pa_nil))) (pa_cons (pe_callB (cr_isE2 (K := K)) (by rfl) m_isinstance (by decide +kernel) (pa_cons (pv 0) (pa_cons (pe_glob (v := .ref Cl_BadText) (by rfl) g_BadText rfl) pa_nil))) (pa_cons (pe_callB (cr_isE2 (K := K)) (by rfl) m_isinstance (by decide +kernel) (pa_cons (pv 0) (pa_cons (pe_glob (v := .ref Cl_NoMark) (by rfl) g_NoMark rfl) pa_nil))) pa_nil))))))
      (pss_one (ps_ret (pe_op (op_catK (K := K)) (pv 1) (pe_lst (pa_cons (pe_callB (cr_isE2 (K := K)) (by rfl) m_isinstance (by decide +kernel) (pa_cons (pv 0) (pa_cons (pe_glob (v := .ref Cl_BadLine) (by rfl) g_BadLine rfl) pa_nil))) pa_nil))))))))), fun cl hs kk h => ?_⟩
  obtain ⟨z, i, rfl, rfl, hz, hk⟩ := h
  walk_at "start"
  intro B0 fh Q R
  refine nt_is [.z z, .any] [] rfl rfl ?_
  repeat' walk_at "we"
  refine we_lstD ?_
  repeat' (first | walk_at "we" | walk_at "isx")
  refine we_lstD ?_
  repeat' (first | walk_at "we" | walk_at "isx")
  refine rd_catD asD asD (by simp) ?_
  repeat' (first | walk_at "we" | walk_at "isx")
  refine we_lstD ?_
  repeat' (first | walk_at "we" | walk_at "isx")
  refine rd_catD asD asD (by simp) ?_
  repeat' (first | walk_at "we" | walk_at "isx")
  refine we_lstD ?_
  repeat' (first | walk_at "we" | walk_at "isx")
  refine rd_catD asD asD (by simp) ?_
  repeat' (first | walk_at "we" | walk_at "isx")
  refine nt_ret R ?_
  repeat' walk_at "we"
  refine we_lstD ?_
  repeat' (first | walk_at "we" | walk_at "isx")
  refine rd_catD asD asD (by simp) ?_
  exact hk
theorem kinds_at {i n : Nat} (h : n < 13) : atI (kindsD i) (n : Int) = some (.bool (i == n || n == 13)) := by
  have h' : n ∈ List.range 13 := List.mem_range.mpr h
  revert n
  intro n h h'
  match n, h with
  | 0, _ => rfl
  | 1, _ => rfl
  | 2, _ => rfl
  | 3, _ => rfl
  | 4, _ => rfl
  | 5, _ => rfl
  | 6, _ => rfl
  | 7, _ => rfl
  | 8, _ => rfl
  | 9, _ => rfl
  | 10, _ => rfl
  | 11, _ => rfl
  | 12, _ => rfl
def spotD (i : Nat) : List PyData := if i < 13 then [.int i] else []
abbrev hereD (i n : Nat) : List PyData := ((List.range n).filter fun j => i == j || j == 13).map fun j : Nat => PyData.int j
theorem here_spot : ∀ i < 14, hereD i 13 = spotD i := by
  intro i hi
  match i, hi with
  | 0, _ => rfl
  | 1, _ => rfl
  | 2, _ => rfl
  | 3, _ => rfl
  | 4, _ => rfl
  | 5, _ => rfl
  | 6, _ => rfl
  | 7, _ => rfl
  | 8, _ => rfl
  | 9, _ => rfl
  | 10, _ => rfl
  | 11, _ => rfl
  | 12, _ => rfl
  | 13, _ => rfl
theorem spot_eq : ∀ i < 14, SeqAt.shaped (.list (spotD i)) = true ∧ PyData.eqv (.list (spotD i)) (.list (spotD i)) = true := by decide +kernel
theorem here_step {i n : Nat} : hereD i (n + 1) = hereD i n ++ if (i == n || n == 13) = true then [.int n] else [] := by
  unfold hereD
  rw [List.range_succ, List.filter_append, List.map_append]
  congr 1
  by_cases h : (i == n || n == 13) = true
  · rw [if_pos h, List.filter, h]; rfl
  · rw [if_neg h, List.filter, Bool.eq_false_iff.mpr h]; rfl
def S__law_is_single (cl : List Addr) : List C → List HC → KC → Prop := fun cs hs k => ∃ (z : Fz) (i : Nat), cs = [.z z, .d (.list (spotD i))] ∧ hs = [] ∧ OfN cl i z ∧ k (.d (.bool true)) []
theorem ok__law_is_single {P : Program} {w : World} {K : PySem.W.Frag} {mg : Str → Option Value} {base : Heap} {f0 : Addr} {fd0 : FuncData} {Cl_BadBlock : Addr} {Cl_BadLine : Addr} {Cl_BadPolicy : Addr} {Cl_BadRow : Addr} {Cl_BadText : Addr} {Cl_Fault : Addr} {Cl_HeapError : Addr} {Cl_NoLink : Addr} {Cl_NoMark : Addr} {Cl_NoObject : Addr} {Cl_NoProcedure : Addr} {Cl_TooMany : Addr} {Cl_Twice : Addr} {Cl_WrongCount : Addr} (F : Fun K "_law_is_single" "_law_is_single" s__law_is_single f0 fd0) (m_ValueError : mg "ValueError" = none) (m_isinstance : mg "isinstance" = none) (m_range : mg "range" = none) (g_HeapError : mg "HeapError" = some (.ref Cl_HeapError)) (TC : Tb K [Cl_BadRow, Cl_BadBlock, Cl_Twice, Cl_NoProcedure, Cl_WrongCount, Cl_BadPolicy, Cl_Fault, Cl_NoObject, Cl_NoLink, Cl_TooMany, Cl_BadText, Cl_NoMark, Cl_BadLine, Cl_HeapError]) (C__law_kinds : Cal P w K mg base 1 "_law_kinds" ["_law_error"] (S__law_kinds [Cl_BadRow, Cl_BadBlock, Cl_Twice, Cl_NoProcedure, Cl_WrongCount, Cl_BadPolicy, Cl_Fault, Cl_NoObject, Cl_NoLink, Cl_TooMany, Cl_BadText, Cl_NoMark, Cl_BadLine, Cl_HeapError])) :
    FnOk P w K mg base CX0 2 f0 fd0 ["_law_error", "_law_spot"] (spC K (S__law_is_single [Cl_BadRow, Cl_BadBlock, Cl_Twice, Cl_NoProcedure, Cl_WrongCount, Cl_BadPolicy, Cl_Fault, Cl_NoObject, Cl_NoLink, Cl_TooMany, Cl_BadText, Cl_NoMark, Cl_BadLine, Cl_HeapError])) := by
  refine okC F sc__law_is_single rfl (n := 4) (fun cl hs kk h => ?_) (fun cdv A out s H E hr => ?_)
  · obtain ⟨z, i, rfl, _⟩ := h
    rfl
  refine ⟨_, (pss_cons (ps_set (i := 2) sc__law_is_single.nd rfl (.inr rfl) (pe_cal (K := K) C__law_kinds (hr.mono (by decide)) (by rfl) (pa_cons (pv 0) pa_nil)))
      (pss_cons (ps_if (PW.pt (pw_or (pt_not (pt_val (pe_callB (cr_isE2 (K := K)) (by rfl) m_isinstance (by decide +kernel) (pa_cons (pv 0) (pa_cons (pe_glob (v := .ref Cl_HeapError) (by rfl) g_HeapError rfl) pa_nil))))) (pw_or1 (pt_not (pt_val (pe_callB (cr_isE2 (K := K)) (by rfl) m_isinstance (by decide +kernel) (pa_cons (pv 0) (pa_cons (pe_bltn (v := .ty "ValueError") (by rfl) m_ValueError (by decide +kernel) rfl) pa_nil)))))))) (pss_one (ps_ret pe_bl)) pss_nil)
      (pss_one (ps_ret (pe_cmpR (op_eqK (K := K) hr.units) (pe_lc (own := [("_law_at", 3)]) (g := gName 3) (tt := _) (by rfl) sc__law_is_single.nd (pi_range1 (by rfl) m_range (pa_cons pe_int pa_nil)) (blkOk_by (own := [("_law_at", 3)]) (N := N__law_is_single) (sc := defScope s__law_is_single) (by decide +kernel)) (fun _ _ _ _ _ => (pg_name (i := 3) sc__law_is_single.nd rfl (.inl rfl))) (fun _ _ _ _ _ => (pts_one (pt_val (pe_ix (ix_listK (K := K)) (pv 2) (pv 3) (fun _ _ => rfl))))) (fun _ _ _ _ _ => (pv 3))) (pv 1) (nomark _)))))), fun cl hs kk h => ?_⟩
  obtain ⟨z, i, rfl, rfl, hz, hk⟩ := h
  have hi : i < 14 := by
    obtain ⟨C, h1, _⟩ := hz
    have := (List.getElem?_eq_some_iff.mp h1).1
    exact this
  walk_at "start"
  intro B0 fh Q R
  refine nt_is [.z z, .d (.list (spotD i)), .any, .any] [] rfl rfl ?_
  repeat' walk_at "we"
  refine callA ⟨z, i, rfl, rfl, hz, ?_⟩
  repeat' walk_at "we"
  refine we_cv (wa_nil (ra_err (j := 13) TC hz rfl ?_))
  rw [show (i == 13 || 13 == 13) = true from Bool.or_true _]
  repeat' walk_at "we"
  · rename_i e
    cases e
  refine we_cv (wa_nil (ra_errV TC hz ?_))
  repeat' walk_at "we"
  · rename_i e
    cases e
  refine nt_ret R ?_
  repeat' walk_at "we"
  refine we_frz0 (we_lcR tg_name (by decide) ?_)
  repeat' walk_at "we"
  refine ⟨by decide, 13, rfl, by decide, fun n acc hs' => acc = hereD i n ∧ hs' = [], ⟨rfl, rfl⟩, ?_, ?_⟩
  · rintro n acc hs' hn ⟨rfl, rfl⟩
    repeat' walk_at "we"
    refine atX (kinds_at hn) ?_
    repeat' walk_at "we"
    · rename_i e
      refine ⟨?_, rfl⟩
      rw [here_step, if_pos e]
    · rename_i e
      refine ⟨?_, rfl⟩
      rw [here_step, e]
      exact (List.append_nil _).symm
  · rintro acc hs' hl ⟨rfl, rfl⟩ b
    rw [here_spot i hi]
    have hs := spot_eq i hi
    refine ⟨_, _, _, rfl, rfl, ?_⟩
    repeat' walk_at "we"
    refine rd_eqD asD asD hs.1 hs.1 ?_
    rw [hs.2]
    exact hk
  all_goals skip
end K79
namespace K79
open PySem PySem.Spec PyProof.Rows L2 Gu Cw Ec Snap
local macro_rules | `(tactic| walk_at "as") => `(tactic| with_reducible first | exact asD | exact asL0 | exact asL1 | exact asL2 | (walk_at "norm"; first | exact asL0 | exact asL1 | exact asL2 | exact asL3 | exact asL4 | exact asL5) | exact asL3 | exact asL4 | exact asL5)
local macro_rules | `(tactic| walk_at "asOld") => `(tactic| with_reducible first | exact asD | exact asL0 | exact asL1 | exact asL2 | exact asL3 | exact asL4 | exact asL5)
local macro_rules | `(tactic| walk_at "nt") => `(tactic| first
  | (refine nt_mk ?_; walk_at "norm") | (refine nt_seq ?_; walk_at "norm") | (refine nt_if ?_; walk_at "norm") | refine nt_set ?_ | refine nt_drop ?_ | refine nt_next ?_
  | refine nt_setM ?_ | refine nt_aug (by with_unfolding_all rfl) ?_ | refine nt_par ?_ | refine nt_par3 ?_ | refine nt_parT ?_ | refine nt_dputT ?_ | refine nt_dput ?_ | refine nt_fld (by assumption) (by assumption) ?_
  | refine nt_mkb ?_ | refine nt_mkc ?_ | refine nt_break ?_ | refine nt_cont ?_ | fail)
local macro_rules | `(tactic| walk_at "wx") => `(tactic| first
  | refine we_varD (by with_unfolding_all rfl) ?_ | refine we_ckw ?_ | refine we_sortL ?_ | refine we_kget ?_ | refine we_dnotinS ?_ | refine we_tupRg2 ?_ | refine we_varV (by with_unfolding_all rfl) ?_ | refine we_varZ (by with_unfolding_all rfl) ?_ | refine we_lstZ ?_ | refine we_mkV ?_ | refine we_mkV1 (fun _ _ => rfl) ?_ | refine we_mkV2 (fun _ _ _ => rfl) ?_ | refine we_mk0 ?_ | refine we_xfd ?_ | refine we_dispZ ?_ |  refine we_op ?_ | refine we_int ?_ | refine we_str ?_ | refine we_bl ?_ | refine we_non ?_
  | refine we_cb ?_ | refine we_call ?_ | refine we_tupZ ?_ | refine we_if ?_ | refine we_fld (by assumption) (by assumption) ?_ | refine we_andV ?_ | refine we_orV ?_ | refine we_notV ?_ | refine we_un ?_ | refine we_dnewZ ?_ | refine we_dget ?_ | refine we_dinTt ?_ | refine we_dnotinTt ?_ | refine we_din ?_ | refine we_dnotin ?_ | refine we_append ?_ | refine we_extend ?_ | refine we_extendT ?_ | refine we_pop ?_ | refine we_dget1 ?_ | refine we_dget2 ?_ | refine we_dpop2 ?_ | refine we_dsetd ?_ | refine we_make ?_ | refine we_meth ?_ | fail)
local macro_rules | `(tactic| walk_at "rd") => `(tactic| first
  | refine rd_I0 (fun _ => .int _) ?_ | refine rd_I0 (fun _ => .bl _) ?_ | refine rd_ixL (by walk_at "as") ?_ | refine rd_ixT ?_ | refine rd_I ?_ (fun _ => .int _) ?_ | refine rd_eq (by with_unfolding_all rfl) (by with_unfolding_all rfl) (by with_unfolding_all rfl) ?_ | refine rd_ne (by with_unfolding_all rfl) (by with_unfolding_all rfl) (by with_unfolding_all rfl) ?_ | refine rd_isN ?_ | refine rd_notN ?_ | refine rd_addS ?_ ?_ | fail)
local macro_rules | `(tactic| walk_at "ra") => `(tactic| first
  | refine ra_L (by walk_at "as") bl_len ?_ | refine ra_T bt_len ?_ | refine ra_1I (fun _ => .int _) ?_ | refine ra_2I (fun _ => .int _) ?_ | refine ra_intB ?_ | refine ra_neg ?_ | refine ra_L (by walk_at "as") bl_tuple ?_ | refine ra_lenD ?_ | fail)
local macro_rules | `(tactic| walk_at "we") => `(tactic| with_reducible first
  | (show Cw.WE _ _ _ _ _; walk_at "wx") | (show Cw.Nt _ _ _ _ _ _; walk_at "nt") | (show Cw.RD _ _ _ _ _ _; walk_at "rd") | (show Cw.RA _ _ _ _ _; walk_at "ra")
  | (show Cw.WT _ _ _ _ _; first | refine wt_test ?_ | refine wt_B ?_ | refine wt_and ?_ | refine wt_or ?_ | refine wt_not ?_ | refine wt_yes ?_)
  | (show Cw.WA _ _ _ _ _; first | refine wa_cons ?_ | refine wa_nil ?_)
  | (show Cw.WG _ _ _ _ _; first | refine wg_name ?_ | refine wg_tup2 (by with_unfolding_all rfl) ?_ | refine wg_tup3 (by with_unfolding_all rfl) ?_ | refine wg_tup4 (by with_unfolding_all rfl) ?_)
  | (show Cw.WGs _ _ _ _ _; first | refine wgs_cons ?_ | refine wgs_nil ?_)
  | (show Cw.KeyE _ _ _ _ _; first | refine keyE_tup ?_ | refine keyE_var (by with_unfolding_all rfl) ?_)
  | (show Cw.WI _ _ _ _ _; first | refine wi_itemsF ?_ | refine wi_keysF ?_ | refine wi_valuesF ?_ | refine wi_S ?_ | refine wi_L ?_ | refine wi_T ?_ | refine wi_R1 ?_ | refine wi_R2 ?_)
  | refine isB ?_ | refine isI ?_ | refine isD ?_ | refine bbT ?_ | refine bbF ?_ | refine bb (fun _ => ?_) (fun _ => ?_)
  | (show Cw.At _ _ _; walk_at "norm"; first | refine at0 ?_ | refine at1 ?_ | refine at2 ?_ | refine at3 ?_ | refine at4 ?_ | refine at5 ?_ | refine at6 ?_ | refine at7 ?_)
  | refine isL ?_ | refine isF (by with_unfolding_all rfl) ?_ | refine isFs (by with_unfolding_all rfl) ?_ | refine isMt (by with_unfolding_all rfl) ?_ | refine isLc ?_ | refine isDi ?_ | refine isDt ?_ | refine isKI ?_ | refine isKS ?_
  | refine ixJ (by with_unfolding_all rfl) ?_ | refine und (by with_unfolding_all rfl) (by with_unfolding_all rfl) ?_ | refine unk (by with_unfolding_all rfl) (by with_unfolding_all rfl) ?_ | refine lenN (by with_unfolding_all rfl) (by with_unfolding_all rfl) ?_ | refine two ?_ | refine three ?_ | refine atX (by with_unfolding_all rfl) ?_ | refine less ?_ ?_
  | refine unzI (by with_unfolding_all rfl) (by with_unfolding_all rfl) ?_ | refine ⟨_, rfl, ?_⟩ | fail)
local macro_rules | `(tactic| walk_at "side") => `(tactic| first
  | exact (show (_ : Int) ≠ 0 by omega) | exact (show CDivN _ _ from ⟨by omega, by omega⟩) | exact (show CMul _ _ from Or.inl ⟨by omega, by omega⟩) | exact (show CMul _ _ from Or.inr ⟨by omega, by omega⟩)
  | exact (show CPow _ _ from ⟨by omega, by omega, by omega⟩))
local macro_rules | `(tactic| walk_at "start") => `(tactic| try dsimp only [cxOf, Cx.nox, Cx.wish])
local macro_rules | `(tactic| walk_at "norm") => `(tactic| try dsimp only [List.set_cons_zero, List.set_cons_succ])
/-- no class in the list has a field's name -/
def NoFs (K : PySem.W.Frag) (cl : List Addr) : Prop := ∀ C ∈ cl, ∀ f ∈ (["row", "word", "value", "count", "line"] : List Str), PySem.W.findIn K (.ref C) f = some none
section
variable {K : PySem.W.Frag} {hs : List HC} {k : KC} {cs : List C} {tr : TA}
theorem wa_imp {p q : List C → List HC → Prop} (h : WA K tr cs hs p) (i : ∀ cl h1, p cl h1 → q cl h1) : WA K tr cs hs q := fun B H σ fh s E Q qq =>
  h B H σ fh s E Q fun vs cl h2 B2 H2 x2 s2 E2 hk => qq vs cl h2 B2 H2 x2 s2 E2 (i _ _ hk)
theorem we_mkVa {Cl : Addr} {n : Str} (h : WA K tr cs hs fun cl h1 => ∃ c z, cl = [c] ∧ unz1 c = some z ∧ k (.z (.exc Cl [(n, z)])) h1) : WE K (tMkV Cl [n] tr) cs hs k :=
  we_mkV (wa_imp h fun cl h1 ⟨c, z, e, ez, hk⟩ => by
    subst e
    refine ⟨[z], ?_, rfl, by simp, hk⟩
    unfold unz unz
    rw [ez])
theorem we_mkVb {Cl : Addr} {n m : Str} (h : WA K tr cs hs fun cl h1 => ∃ c d y z, cl = [c, d] ∧ unz1 c = some z ∧ unz1 d = some y ∧ k (.z (.exc Cl [(m, y), (n, z)])) h1) : WE K (tMkV Cl [n, m] tr) cs hs k :=
  we_mkV (wa_imp h fun cl h1 ⟨c, d, y, z, e, ez, ey, hk⟩ => by
    subst e
    refine ⟨[z, y], ?_, rfl, by simp, hk⟩
    unfold unz unz unz
    rw [ez, ey])
theorem wg_zd {g : TG} {x : PyData} {kk : List C → Prop} (h : WG K g cs (.d x) kk) : WG K g cs (.z (.d x)) kk := fun B H σ v bh s sv Q q => by
  obtain ⟨u, e, hv⟩ := sv
  cases hv with
  | d hd => exact h B H σ v bh s ⟨u, e, hd⟩ Q q
theorem nt_seqJ4 {B0 : Hp} {fh : List HC} {D : Ends} {tu tv tv2 tv3 tw : TS} (J : List C → List HC → Prop) (h2 : ∀ B1 cs' hs', Ex B0 B1 → J cs' hs' → Nt K B1 fh (tw D) cs' hs') (h1 : ∀ N, Goes K B0 fh J N → Nt K B0 fh (tu { D with nx := tv { D with nx := tv2 { D with nx := tv3 { D with nx := N } } } }) cs hs) : Nt K B0 fh (tSeq tu (tSeq tv (tSeq tv2 (tSeq tv3 tw))) D) cs hs := h1 (tw D) h2
end
theorem spot_one {i : Nat} (h : i < 13) : PyData.list [.int (i : Int)] = .list (spotD i) := by unfold spotD; rw [if_pos h]
theorem shown_len {z : Fz} (h : Wv 4 z) : (shownF z).length ≤ 36000 := by
  obtain ⟨h1, x, h2, h3, h4, h5, h6⟩ := h
  have hlen := PyData.shown_le_bulk 32 (by decide) x h5
  have e : reprZ z = x.shown := by unfold reprZ; rw [h2]; rfl
  have h7 : (boolT (blZ z)).length ≤ 5 := by cases blZ z <;> decide
  have h8 : (shownF z).length = x.shown.length + (boolT (blZ z)).length := by
    rw [← e]
    exact PySem.Str.length_append ..
  omega
abbrev exR (C : Addr) (z : Fz) : Fz := .exc C [("row", z)]
abbrev tupR (C : Addr) (z : Fz) (j : Int) : Fz := .tup [exR C z, exR C z, .d (.int j)]
abbrev rowsR (C0 C1 C2 C3 C4 C10 : Addr) (z : Fz) : List Fz := [tupR C0 z 0, tupR C1 z 1] ++ [tupR C2 z 2, tupR C3 z 3] ++ [tupR C4 z 4, tupR C10 z 10]
theorem rows_mem {C0 C1 C2 C3 C4 C5 C6 C7 C8 C9 C10 C11 C12 C13 : Addr} {z : Fz} {c : C} (h : c ∈ (rowsR C0 C1 C2 C3 C4 C10 z).map C.z) :
    ∃ (Cl : Addr) (j : Nat), [C0, C1, C2, C3, C4, C5, C6, C7, C8, C9, C10, C11, C12, C13][j]? = some Cl ∧ j < 13 ∧ c = .z (tupR Cl z j) := by
  simp only [rowsR, List.cons_append, List.nil_append, List.map_cons, List.map_nil, List.mem_cons, List.not_mem_nil, or_false] at h
  rcases h with rfl | rfl | rfl | rfl | rfl | rfl
  · exact ⟨C0, 0, rfl, by decide, rfl⟩
  · exact ⟨C1, 1, rfl, by decide, rfl⟩
  · exact ⟨C2, 2, rfl, by decide, rfl⟩
  · exact ⟨C3, 3, rfl, by decide, rfl⟩
  · exact ⟨C4, 4, rfl, by decide, rfl⟩
  · exact ⟨C10, 10, rfl, by decide, rfl⟩
abbrev tupV (C : Addr) (z : Fz) (j : Int) : Fz := .tup [.exc C [("value", z)], .d (.int j)]
theorem vals_mem {C0 C1 C2 C3 C4 C5 C6 C7 C8 C9 C10 C11 C12 C13 : Addr} {z : Fz} {c : C} (h : c ∈ ([tupV C7 z 7, tupV C7 z 7, tupV C8 z 8, tupV C8 z 8] : List Fz).map C.z) :
    ∃ (Cl : Addr) (j : Nat), [C0, C1, C2, C3, C4, C5, C6, C7, C8, C9, C10, C11, C12, C13][j]? = some Cl ∧ j < 13 ∧ c = .z (tupV Cl z j) := by
  simp only [List.map_cons, List.map_nil, List.mem_cons, List.not_mem_nil, or_false] at h
  rcases h with rfl | rfl | rfl | rfl
  · exact ⟨C7, 7, rfl, by decide, rfl⟩
  · exact ⟨C7, 7, rfl, by decide, rfl⟩
  · exact ⟨C8, 8, rfl, by decide, rfl⟩
  · exact ⟨C8, 8, rfl, by decide, rfl⟩
theorem both_mem {y : Fz} {c : C} (h : c ∈ ([y, y] : List Fz).map C.z) : c = .z y := by
  simp only [List.map_cons, List.map_nil, List.mem_cons, List.not_mem_nil, or_false, or_self] at h
  exact h
abbrev S__law_right : List C → List HC → KC → Prop := fun cl hs k => ∃ (a : Addr) (N : Nat) (g x n : Int), cl = [.r a] ∧ hs = [jc a g x n] ∧ JP N g x n ∧ N + 80 ≤ 600000 ∧
  ∀ g' x' n', JP (N + 80) g' x' n' → k (.d (.bool true)) [jc a g' x' n']
local macro_rules | `(tactic| walk_at "wz") => `(tactic| first | (with_reducible first | refine we_mkVa ?_ | refine we_mkVb ?_) | walk_at "we" | refine ⟨_, _, rfl, rfl, ?_⟩ | refine ⟨_, _, _, _, rfl, rfl, rfl, ?_⟩ | fail)
theorem ok__law_right {P : Program} {w : World} {K : PySem.W.Frag} {mg : Str → Option Value} {base : Heap} {f0 : Addr} {fd0 : FuncData} {Cl_BadBlock : Addr} {Cl_BadLine : Addr} {Cl_BadPolicy : Addr} {Cl_BadRow : Addr} {Cl_BadText : Addr} {Cl_Fault : Addr} {Cl_HeapError : Addr} {Cl_NoLink : Addr} {Cl_NoMark : Addr} {Cl_NoObject : Addr} {Cl_NoProcedure : Addr} {Cl_TooMany : Addr} {Cl_Twice : Addr} {Cl_WrongCount : Addr} (F : Fun K "_law_right" "_law_right" s__law_right f0 fd0) (XK_BadBlock : MkXK P w K mg base 1 "BadBlock" Cl_BadBlock ["row"] ["row"] gV1) (XV_BadBlock : MkX P w K mg base 1 "BadBlock" Cl_BadBlock ["row"]) (XK_BadRow : MkXK P w K mg base 1 "BadRow" Cl_BadRow ["row"] ["row"] gV1) (XV_BadRow : MkX P w K mg base 1 "BadRow" Cl_BadRow ["row"]) (XK_NoProcedure : MkXK P w K mg base 1 "NoProcedure" Cl_NoProcedure ["row"] ["row"] gV1) (XV_NoProcedure : MkX P w K mg base 1 "NoProcedure" Cl_NoProcedure ["row"]) (XK_Twice : MkXK P w K mg base 1 "Twice" Cl_Twice ["row"] ["row"] gV1) (XV_Twice : MkX P w K mg base 1 "Twice" Cl_Twice ["row"]) (XK_BadText : MkXK P w K mg base 1 "BadText" Cl_BadText ["row"] ["row"] gV1) (XV_BadText : MkX P w K mg base 1 "BadText" Cl_BadText ["row"]) (XK_WrongCount : MkXK P w K mg base 1 "WrongCount" Cl_WrongCount ["row"] ["row"] gV1) (XV_WrongCount : MkX P w K mg base 1 "WrongCount" Cl_WrongCount ["row"]) (XK_BadPolicy : MkXK P w K mg base 1 "BadPolicy" Cl_BadPolicy ["word"] ["word"] gV1) (XV_BadPolicy : MkX P w K mg base 1 "BadPolicy" Cl_BadPolicy ["word"]) (XK_Fault : MkXK P w K mg base 1 "Fault" Cl_Fault ["word", "row"] ["row", "word"] gV2) (XV_Fault : MkX P w K mg base 1 "Fault" Cl_Fault ["word", "row"]) (XK_NoLink : MkXK P w K mg base 1 "NoLink" Cl_NoLink ["value"] ["value"] gV1) (XV_NoLink : MkX P w K mg base 1 "NoLink" Cl_NoLink ["value"]) (XK_NoObject : MkXK P w K mg base 1 "NoObject" Cl_NoObject ["value"] ["value"] gV1) (XV_NoObject : MkX P w K mg base 1 "NoObject" Cl_NoObject ["value"]) (XK_TooMany : MkXK P w K mg base 1 "TooMany" Cl_TooMany ["count"] ["count"] gV1) (XV_TooMany : MkX P w K mg base 1 "TooMany" Cl_TooMany ["count"]) (XK_BadLine : MkXK P w K mg base 1 "BadLine" Cl_BadLine ["line"] ["line"] gV1) (XV_BadLine : MkX P w K mg base 1 "BadLine" Cl_BadLine ["line"]) (X0_HeapError : Mk0X K mg "HeapError" Cl_HeapError) (X0_NoMark : Mk0X K mg "NoMark" Cl_NoMark) (TC : Tb K [Cl_BadRow, Cl_BadBlock, Cl_Twice, Cl_NoProcedure, Cl_WrongCount, Cl_BadPolicy, Cl_Fault, Cl_NoObject, Cl_NoLink, Cl_TooMany, Cl_BadText, Cl_NoMark, Cl_BadLine, Cl_HeapError]) (NF : NoFs K [Cl_BadRow, Cl_BadBlock, Cl_Twice, Cl_NoProcedure, Cl_WrongCount, Cl_BadPolicy, Cl_Fault, Cl_NoObject, Cl_NoLink, Cl_TooMany, Cl_BadText, Cl_NoMark, Cl_BadLine, Cl_HeapError]) (C__law_drawn_2 : Cal P w K mg base 5 "_law_drawn" ["_law_pot", "_law_depth"] S__law_drawn_2) (C__law_drawn_3 : Cal P w K mg base 6 "_law_drawn" ["_law_pot", "_law_depth"] S__law_drawn_3) (C__law_is_single : Cal P w K mg base 2 "_law_is_single" ["_law_error", "_law_spot"] (S__law_is_single [Cl_BadRow, Cl_BadBlock, Cl_Twice, Cl_NoProcedure, Cl_WrongCount, Cl_BadPolicy, Cl_Fault, Cl_NoObject, Cl_NoLink, Cl_TooMany, Cl_BadText, Cl_NoMark, Cl_BadLine, Cl_HeapError])) (C__law_shown : CalG P w K mg base 1 "_law_shown" ["_law_thing"] S__law_shown) :
    FnG P w K mg base CX0 7 f0 fd0 ["_law_pot"] (spC K S__law_right) := by
  refine okCG F sc__law_right rfl (n := 9) (fun cl hs kk h => ?_) (fun cdv A out s H E hr hg0 => ?_)
  · obtain ⟨a, N, g, x, n, rfl, _⟩ := h
    rfl
  have hgd : (A.deeper (envOfC "_law_right" (defScope s__law_right) s.heap.objs.size f0 cdv)).guards = some [] := hg0
  refine ⟨_, (pss_cons (ps_par (i := 1) (j := 2) (by rfl) sc__law_right.nd rfl rfl (by decide) rfl rfl (pa_cons (pe_cal (K := K) C__law_drawn_3 (hr.mono (by decide)) (by rfl) (pa_cons (pv 0) (pa_cons pe_int pa_nil))) (pa_cons (pe_cal (K := K) C__law_drawn_2 (hr.mono (by decide)) (by rfl) (pa_cons (pv 0) (pa_cons pe_int pa_nil))) pa_nil)) (by rfl))
      (pss_cons (ps_set (i := 3) sc__law_right.nd rfl (.inl rfl) (pe_lstZ (pa_cons (pe_tup (pa_cons (pe_mkX XV_BadRow (hr.mono (by decide)) (by rfl) (pa_cons (pv 1) pa_nil)) (pa_cons (pe_mkXK XK_BadRow (hr.mono (by decide)) (by rfl) (pk_cons (pv 1) pk_nil)) (pa_cons pe_int pa_nil)))) (pa_cons (pe_tup (pa_cons (pe_mkX XV_BadBlock (hr.mono (by decide)) (by rfl) (pa_cons (pv 1) pa_nil)) (pa_cons (pe_mkXK XK_BadBlock (hr.mono (by decide)) (by rfl) (pk_cons (pv 1) pk_nil)) (pa_cons pe_int pa_nil)))) pa_nil))))
      (pss_cons (ps_set (i := 3) sc__law_right.nd rfl (.inl rfl) (pe_op (op_catK (K := K)) (pv 3) (pe_lstZ (pa_cons (pe_tup (pa_cons (pe_mkX XV_Twice (hr.mono (by decide)) (by rfl) (pa_cons (pv 1) pa_nil)) (pa_cons (pe_mkXK XK_Twice (hr.mono (by decide)) (by rfl) (pk_cons (pv 1) pk_nil)) (pa_cons pe_int pa_nil)))) (pa_cons (pe_tup (pa_cons (pe_mkX XV_NoProcedure (hr.mono (by decide)) (by rfl) (pa_cons (pv 1) pa_nil)) (pa_cons (pe_mkXK XK_NoProcedure (hr.mono (by decide)) (by rfl) (pk_cons (pv 1) pk_nil)) (pa_cons pe_int pa_nil)))) pa_nil)))))
      (pss_cons (ps_set (i := 3) sc__law_right.nd rfl (.inl rfl) (pe_op (op_catK (K := K)) (pv 3) (pe_lstZ (pa_cons (pe_tup (pa_cons (pe_mkX XV_WrongCount (hr.mono (by decide)) (by rfl) (pa_cons (pv 1) pa_nil)) (pa_cons (pe_mkXK XK_WrongCount (hr.mono (by decide)) (by rfl) (pk_cons (pv 1) pk_nil)) (pa_cons pe_int pa_nil)))) (pa_cons (pe_tup (pa_cons (pe_mkX XV_BadText (hr.mono (by decide)) (by rfl) (pa_cons (pv 1) pa_nil)) (pa_cons (pe_mkXK XK_BadText (hr.mono (by decide)) (by rfl) (pk_cons (pv 1) pk_nil)) (pa_cons pe_int pa_nil)))) pa_nil)))))
      (pss_cons (ps_for PassesOwn.never (by rfl) (pi_listK (K := K) (pv 3)) (pg_tup (by rfl) (pgs_cons (pg_name (i := 4) sc__law_right.nd rfl (.inl rfl)) (pgs_cons (pg_name (i := 5) sc__law_right.nd rfl (.inl rfl)) (pgs_cons (pg_name (i := 6) sc__law_right.nd rfl (.inl rfl)) pgs_nil)))) (pss_cons (ps_if (PW.pt (pw_or (pt_not (pt_val (pe_cal (K := K) C__law_is_single (hr.mono (by decide)) (by rfl) (pa_cons (pv 4) (pa_cons (pe_lst (pa_cons (pv 6) pa_nil)) pa_nil))))) (pw_or1 (pt_not (pt_val (pe_cal (K := K) C__law_is_single (hr.mono (by decide)) (by rfl) (pa_cons (pv 5) (pa_cons (pe_lst (pa_cons (pv 6) pa_nil)) pa_nil)))))))) (pss_one (ps_ret pe_bl)) pss_nil)
      (pss_one (ps_if (PW.pt (pw_or (pt_cmpR op_ne (pe_calG (K := K) C__law_shown (hr.mono (by decide)) hgd (by rfl) (pa_cons (pe_xfdK (K := K) (pv 4)) pa_nil)) (pe_calG (K := K) C__law_shown (hr.mono (by decide)) hgd (by rfl) (pa_cons (pv 1) pa_nil)) (nomark _)) (pw_or1 (pt_cmpR op_ne (pe_calG (K := K) C__law_shown (hr.mono (by decide)) hgd (by rfl) (pa_cons (pe_xfdK (K := K) (pv 5)) pa_nil)) (pe_calG (K := K) C__law_shown (hr.mono (by decide)) hgd (by rfl) (pa_cons (pv 1) pa_nil)) (nomark _))))) (pss_one (ps_ret pe_bl)) pss_nil))))
      (pss_cons (ps_for PassesOwn.never (by rfl) (pi_tupK (K := K) (pe_tup (pa_cons (pe_mkX XV_BadPolicy (hr.mono (by decide)) (by rfl) (pa_cons (pv 1) pa_nil)) (pa_cons (pe_mkXK XK_BadPolicy (hr.mono (by decide)) (by rfl) (pk_cons (pv 1) pk_nil)) pa_nil)))) (pg_name (i := 7) sc__law_right.nd rfl (.inl rfl)) (pss_one (ps_if (PW.pt (pw_or (pt_not (pt_val (pe_cal (K := K) C__law_is_single (hr.mono (by decide)) (by rfl) (pa_cons (pv 7) (pa_cons (pe_lst (pa_cons pe_int pa_nil)) pa_nil))))) (pw_or1 (pt_cmpR op_ne (pe_calG (K := K) C__law_shown (hr.mono (by decide)) hgd (by rfl) (pa_cons (pe_xfdK (K := K) (pv 7)) pa_nil)) (pe_calG (K := K) C__law_shown (hr.mono (by decide)) hgd (by rfl) (pa_cons (pv 1) pa_nil)) (nomark _))))) (pss_one (ps_ret pe_bl)) pss_nil)))
      (pss_cons (ps_for PassesOwn.never (by rfl) (pi_tupK (K := K) (pe_tup (pa_cons (pe_mkX XV_Fault (hr.mono (by decide)) (by rfl) (pa_cons (pv 1) (pa_cons (pv 2) pa_nil))) (pa_cons (pe_mkXK XK_Fault (hr.mono (by decide)) (by rfl) (pk_cons (pv 2) (pk_cons (pv 1) pk_nil))) pa_nil)))) (pg_name (i := 7) sc__law_right.nd rfl (.inl rfl)) (pss_cons (ps_set (i := 8) sc__law_right.nd rfl (.inl rfl) (pe_op op_addS (pe_calG (K := K) C__law_shown (hr.mono (by decide)) hgd (by rfl) (pa_cons (pe_xfdK (K := K) (pv 7)) pa_nil)) (pe_calG (K := K) C__law_shown (hr.mono (by decide)) hgd (by rfl) (pa_cons (pe_xfdK (K := K) (pv 7)) pa_nil))))
      (pss_one (ps_if (PW.pt (pw_or (pt_not (pt_val (pe_cal (K := K) C__law_is_single (hr.mono (by decide)) (by rfl) (pa_cons (pv 7) (pa_cons (pe_lst (pa_cons pe_int pa_nil)) pa_nil))))) (pw_or1 (pt_cmpR op_ne (pv 8) (pe_op op_addS (pe_calG (K := K) C__law_shown (hr.mono (by decide)) hgd (by rfl) (pa_cons (pv 1) pa_nil)) (pe_calG (K := K) C__law_shown (hr.mono (by decide)) hgd (by rfl) (pa_cons (pv 2) pa_nil))) (nomark _))))) (pss_one (ps_ret pe_bl)) pss_nil))))
      (pss_cons (ps_for PassesOwn.never (by rfl) (pi_tupK (K := K) (pe_tup (pa_cons (pe_tup (pa_cons (pe_mkX XV_NoObject (hr.mono (by decide)) (by rfl) (pa_cons (pv 1) pa_nil)) (pa_cons pe_int pa_nil))) (pa_cons (pe_tup (pa_cons (pe_mkXK XK_NoObject (hr.mono (by decide)) (by rfl) (pk_cons (pv 1) pk_nil)) (pa_cons pe_int pa_nil))) (pa_cons (pe_tup (pa_cons (pe_mkX XV_NoLink (hr.mono (by decide)) (by rfl) (pa_cons (pv 1) pa_nil)) (pa_cons pe_int pa_nil))) (pa_cons (pe_tup (pa_cons (pe_mkXK XK_NoLink (hr.mono (by decide)) (by rfl) (pk_cons (pv 1) pk_nil)) (pa_cons pe_int pa_nil))) pa_nil)))))) (pg_tup (by rfl) (pgs_cons (pg_name (i := 7) sc__law_right.nd rfl (.inl rfl)) (pgs_cons (pg_name (i := 6) sc__law_right.nd rfl (.inl rfl)) pgs_nil))) (pss_one (ps_if (PW.pt (pw_or (pt_not (pt_val (pe_cal (K := K) C__law_is_single (hr.mono (by decide)) (by rfl) (pa_cons (pv 7) (pa_cons (pe_lst (pa_cons (pv 6) pa_nil)) pa_nil))))) (pw_or1 (pt_cmpR op_ne (pe_calG (K := K) C__law_shown (hr.mono (by decide)) hgd (by rfl) (pa_cons (pe_xfdK (K := K) (pv 7)) pa_nil)) (pe_calG (K := K) C__law_shown (hr.mono (by decide)) hgd (by rfl) (pa_cons (pv 1) pa_nil)) (nomark _))))) (pss_one (ps_ret pe_bl)) pss_nil)))
      (pss_cons (ps_for PassesOwn.never (by rfl) (pi_tupK (K := K) (pe_tup (pa_cons (pe_mkX XV_TooMany (hr.mono (by decide)) (by rfl) (pa_cons (pv 1) pa_nil)) (pa_cons (pe_mkXK XK_TooMany (hr.mono (by decide)) (by rfl) (pk_cons (pv 1) pk_nil)) pa_nil)))) (pg_name (i := 7) sc__law_right.nd rfl (.inl rfl)) (pss_one (ps_if (PW.pt (pw_or (pt_not (pt_val (pe_cal (K := K) C__law_is_single (hr.mono (by decide)) (by rfl) (pa_cons (pv 7) (pa_cons (pe_lst (pa_cons pe_int pa_nil)) pa_nil))))) (pw_or1 (pt_cmpR op_ne (pe_calG (K := K) C__law_shown (hr.mono (by decide)) hgd (by rfl) (pa_cons (pe_xfdK (K := K) (pv 7)) pa_nil)) (pe_calG (K := K) C__law_shown (hr.mono (by decide)) hgd (by rfl) (pa_cons (pv 1) pa_nil)) (nomark _))))) (pss_one (ps_ret pe_bl)) pss_nil)))
      (pss_cons (ps_for PassesOwn.never (by rfl) (pi_tupK (K := K) (pe_tup (pa_cons (pe_mkX XV_BadLine (hr.mono (by decide)) (by rfl) (pa_cons (pv 1) pa_nil)) (pa_cons (pe_mkXK XK_BadLine (hr.mono (by decide)) (by rfl) (pk_cons (pv 1) pk_nil)) pa_nil)))) (pg_name (i := 7) sc__law_right.nd rfl (.inl rfl)) (pss_one (ps_if (PW.pt (pw_or (pt_not (pt_val (pe_cal (K := K) C__law_is_single (hr.mono (by decide)) (by rfl) (pa_cons (pv 7) (pa_cons (pe_lst (pa_cons pe_int pa_nil)) pa_nil))))) (pw_or1 (pt_cmpR op_ne (pe_calG (K := K) C__law_shown (hr.mono (by decide)) hgd (by rfl) (pa_cons (pe_xfdK (K := K) (pv 7)) pa_nil)) (pe_calG (K := K) C__law_shown (hr.mono (by decide)) hgd (by rfl) (pa_cons (pv 1) pa_nil)) (nomark _))))) (pss_one (ps_ret pe_bl)) pss_nil)))
      (pss_one (ps_ret (pe_and (pe_cal (K := K) C__law_is_single (hr.mono (by decide)) (by rfl) (pa_cons (pe_mk0X X0_NoMark (by rfl)) (pa_cons (pe_lst (pa_cons pe_int pa_nil)) pa_nil))) (pe_one (pe_cal (K := K) C__law_is_single (hr.mono (by decide)) (by rfl) (pa_cons (pe_mk0X X0_HeapError (by rfl)) (pa_cons (pe_lst pa_nil) pa_nil))))))))))))))))), fun cl hs kk h => ?_⟩
  obtain ⟨a, N, g, x, n, rfl, rfl, hJ, hN, hk⟩ := h
  walk_at "start"
  intro B0 fh Q R
  refine nt_is [.r a, .any, .any, .any, .any, .any, .any, .any, .any] [jc a g x n] rfl rfl ?_
  refine nt_seqJ4 (fun cs' hs' => ∃ (z1 z2 : Fz) (g' x' n' : Int), cs' = [.r a, .z z1, .z z2, .z (.lst false (rowsR Cl_BadRow Cl_BadBlock Cl_Twice Cl_NoProcedure Cl_WrongCount Cl_BadText z1)), .any, .any, .any, .any, .any] ∧ hs' = [jc a g' x' n'] ∧ Wv 4 z1 ∧ Wv 4 z2 ∧ JP (N + 80) g' x' n') ?_ ?_
  rotate_left
  · intro N0 hN0
    repeat' walk_at "we"
    refine call10 ⟨a, N, g, x, n, rfl, rfl, hJ, by omega, fun z1 g1 x1 n1 hz1 J1 => ⟨_, rfl, ?_⟩⟩
    repeat' walk_at "we"
    refine call10 ⟨a, N + 10 * (3 + 1), g1, x1, n1, rfl, rfl, J1, by omega, fun z2 g2 x2 n2 hz2 J2 => ⟨_, rfl, ?_⟩⟩
    repeat' walk_at "wz"
    refine rd_catZ (by simp) ?_
    repeat' walk_at "wz"
    refine rd_catZ (by simp) ?_
    repeat' walk_at "wz"
    exact hN0.at ⟨z1, z2, _, _, _, rfl, rfl, hz1, hz2.mono (by decide), J2.mono (by omega)⟩
  rintro B1 cs' hs' xB1 ⟨z1, z2, g2, x2, n2, rfl, rfl, hz1, hz2, J2⟩
  have hs1 := shown_len hz1
  have hs2 := shown_len hz2
  refine nt_seqJ (fun cs' hs' => ∃ (c3 c4 c5 c6 c7 c8 : C), cs' = [.r a, .z z1, .z z2, c3, c4, c5, c6, c7, c8] ∧ hs' = [jc a g2 x2 n2]) ?_ ?_
  rotate_left
  · intro N0 hN0
    refine nt_for (wi_LZ ?_)
    repeat' walk_at "wz"
    refine ⟨_, _, rfl, fun i cs' hs' => ∃ (c3 c4 c5 c6 c7 c8 : C), cs' = [.r a, .z z1, .z z2, c3, c4, c5, c6, c7, c8] ∧ hs' = [jc a g2 x2 n2], ⟨_, _, _, _, _, _, rfl, rfl⟩, ?_, ?_⟩
    rotate_left
    · rintro cs' hs' ⟨c3, c4, c5, c6, c7, c8, rfl, rfl⟩
      dsimp only
      exact hN0.at ⟨_, _, _, _, _, _, rfl, rfl⟩
    rintro B2 xB2 i c cs' hs' hc ⟨c3, c4, c5, c6, c7, c8, rfl, rfl⟩
    obtain ⟨Cl, j, hcl, hj, rfl⟩ := rows_mem (C5 := Cl_BadPolicy) (C6 := Cl_Fault) (C7 := Cl_NoObject) (C8 := Cl_NoLink) (C9 := Cl_TooMany) (C11 := Cl_NoMark) (C12 := Cl_BadLine) (C13 := Cl_HeapError) (List.mem_of_getElem? hc)
    have hx := TC.ex hcl
    have hno := NF Cl (List.mem_of_getElem? hcl) "row" (by decide)
    have hof : OfN [Cl_BadRow, Cl_BadBlock, Cl_Twice, Cl_NoProcedure, Cl_WrongCount, Cl_BadPolicy, Cl_Fault, Cl_NoObject, Cl_NoLink, Cl_TooMany, Cl_BadText, Cl_NoMark, Cl_BadLine, Cl_HeapError] j (exR Cl z1) := ⟨Cl, hcl, rfl⟩
    refine wg_tupZ rfl (wgs_cons (wg_name (wgs_cons (wg_name (wgs_cons (wg_zd (wg_name (wgs_nil ?_))))))))
    repeat' walk_at "wz"
    refine we_lstD ?_
    repeat' walk_at "wz"
    rw [spot_one hj]
    refine call0 ⟨_, j, rfl, rfl, hof, ⟨rfl, ?_⟩⟩
    repeat' walk_at "wz"
    · rename_i e
      cases e
    refine we_lstD ?_
    repeat' walk_at "wz"
    rw [spot_one hj]
    refine call0 ⟨_, j, rfl, rfl, hof, ⟨rfl, ?_⟩⟩
    repeat' walk_at "wz"
    · rename_i e
      cases e
    refine ⟨_, _, _, rfl, hx, hno, rfl, ?_⟩
    repeat' walk_at "wz"
    refine call0 ⟨z1, rfl, rfl, hz1, ⟨rfl, ?_⟩⟩
    repeat' walk_at "wz"
    refine call0 ⟨z1, rfl, rfl, hz1, ⟨rfl, ?_⟩⟩
    repeat' walk_at "wz"
    · rename_i e
      simp at e
    refine ⟨_, _, _, rfl, hx, hno, rfl, ?_⟩
    repeat' walk_at "wz"
    refine call0 ⟨z1, rfl, rfl, hz1, ⟨rfl, ?_⟩⟩
    repeat' walk_at "wz"
    refine call0 ⟨z1, rfl, rfl, hz1, ⟨rfl, ?_⟩⟩
    repeat' walk_at "wz"
    · rename_i e
      simp at e
    exact nt_nx ⟨_, _, _, _, _, _, rfl, rfl⟩
  rintro B3 cs' hs' xB3 ⟨c3, c4, c5, c6, c7, c8, rfl, rfl⟩
  replace xB1 := ex_trans xB1 xB3
  clear xB3
  refine nt_seqJ (fun cs' hs' => ∃ (c3 c4 c5 c6 c7 c8 : C), cs' = [.r a, .z z1, .z z2, c3, c4, c5, c6, c7, c8] ∧ hs' = [jc a g2 x2 n2]) ?_ ?_
  rotate_left
  · intro N0 hN0
    refine nt_for (wi_TZ ?_)
    repeat' walk_at "wz"
    refine ⟨fun i cs' hs' => ∃ (c3 c4 c5 c6 c7 c8 : C), cs' = [.r a, .z z1, .z z2, c3, c4, c5, c6, c7, c8] ∧ hs' = [jc a g2 x2 n2], ⟨_, _, _, _, _, _, rfl, rfl⟩, ?_, ?_⟩
    rotate_left
    · rintro cs' hs' ⟨c3, c4, c5, c6, c7, c8, rfl, rfl⟩
      dsimp only
      exact hN0.at ⟨_, _, _, _, _, _, rfl, rfl⟩
    rintro B2 xB2 i c cs' hs' hc ⟨c3, c4, c5, c6, c7, c8, rfl, rfl⟩
    obtain rfl := both_mem (y := .exc Cl_BadPolicy [("word", z1)]) (List.mem_of_getElem? hc)
    have hcl : [Cl_BadRow, Cl_BadBlock, Cl_Twice, Cl_NoProcedure, Cl_WrongCount, Cl_BadPolicy, Cl_Fault, Cl_NoObject, Cl_NoLink, Cl_TooMany, Cl_BadText, Cl_NoMark, Cl_BadLine, Cl_HeapError][5]? = some Cl_BadPolicy := rfl
    have hx := TC.ex hcl
    have hno := NF Cl_BadPolicy (List.mem_of_getElem? hcl) "word" (by decide)
    have hof : OfN [Cl_BadRow, Cl_BadBlock, Cl_Twice, Cl_NoProcedure, Cl_WrongCount, Cl_BadPolicy, Cl_Fault, Cl_NoObject, Cl_NoLink, Cl_TooMany, Cl_BadText, Cl_NoMark, Cl_BadLine, Cl_HeapError] 5 (.exc Cl_BadPolicy [("word", z1)]) := ⟨_, hcl, rfl⟩
    refine wg_name ?_
    repeat' walk_at "wz"
    refine we_lstD ?_
    repeat' walk_at "wz"
    refine call0 ⟨_, 5, rfl, rfl, hof, ⟨rfl, ?_⟩⟩
    repeat' walk_at "wz"
    · rename_i e
      cases e
    refine ⟨_, _, _, rfl, hx, hno, rfl, ?_⟩
    repeat' walk_at "wz"
    refine call0 ⟨z1, rfl, rfl, hz1, ⟨rfl, ?_⟩⟩
    repeat' walk_at "wz"
    refine call0 ⟨z1, rfl, rfl, hz1, ⟨rfl, ?_⟩⟩
    repeat' walk_at "wz"
    · rename_i e
      simp at e
    exact nt_nx ⟨_, _, _, _, _, _, rfl, rfl⟩
  rintro B3 cs' hs' xB3 ⟨c3, c4, c5, c6, c7, c8, rfl, rfl⟩
  replace xB1 := ex_trans xB1 xB3
  clear xB3
  refine nt_seqJ (fun cs' hs' => ∃ (c3 c4 c5 c6 c7 c8 : C), cs' = [.r a, .z z1, .z z2, c3, c4, c5, c6, c7, c8] ∧ hs' = [jc a g2 x2 n2]) ?_ ?_
  rotate_left
  · intro N0 hN0
    refine nt_for (wi_TZ ?_)
    repeat' walk_at "wz"
    refine ⟨fun i cs' hs' => ∃ (c3 c4 c5 c6 c7 c8 : C), cs' = [.r a, .z z1, .z z2, c3, c4, c5, c6, c7, c8] ∧ hs' = [jc a g2 x2 n2], ⟨_, _, _, _, _, _, rfl, rfl⟩, ?_, ?_⟩
    rotate_left
    · rintro cs' hs' ⟨c3, c4, c5, c6, c7, c8, rfl, rfl⟩
      dsimp only
      exact hN0.at ⟨_, _, _, _, _, _, rfl, rfl⟩
    rintro B2 xB2 i c cs' hs' hc ⟨c3, c4, c5, c6, c7, c8, rfl, rfl⟩
    obtain rfl := both_mem (y := .exc Cl_Fault [("row", z2), ("word", z1)]) (List.mem_of_getElem? hc)
    have hcl : [Cl_BadRow, Cl_BadBlock, Cl_Twice, Cl_NoProcedure, Cl_WrongCount, Cl_BadPolicy, Cl_Fault, Cl_NoObject, Cl_NoLink, Cl_TooMany, Cl_BadText, Cl_NoMark, Cl_BadLine, Cl_HeapError][6]? = some Cl_Fault := rfl
    have hx := TC.ex hcl
    have hno := NF Cl_Fault (List.mem_of_getElem? hcl) "word" (by decide)
    have hnor := NF Cl_Fault (List.mem_of_getElem? hcl) "row" (by decide)
    have hof : OfN [Cl_BadRow, Cl_BadBlock, Cl_Twice, Cl_NoProcedure, Cl_WrongCount, Cl_BadPolicy, Cl_Fault, Cl_NoObject, Cl_NoLink, Cl_TooMany, Cl_BadText, Cl_NoMark, Cl_BadLine, Cl_HeapError] 6 (.exc Cl_Fault [("row", z2), ("word", z1)]) := ⟨_, hcl, rfl⟩
    refine wg_name ?_
    repeat' walk_at "wz"
    refine ⟨_, _, _, rfl, hx, hno, rfl, ?_⟩
    repeat' walk_at "wz"
    refine call0 ⟨z1, rfl, rfl, hz1, ⟨rfl, ?_⟩⟩
    repeat' walk_at "wz"
    refine ⟨_, _, _, rfl, hx, hnor, rfl, ?_⟩
    repeat' walk_at "wz"
    refine call0 ⟨z2, rfl, rfl, hz2, ⟨rfl, ?_⟩⟩
    repeat' walk_at "wz"
    · exact Nat.le_trans (Nat.add_le_add hs1 hs2) (by decide)
    refine we_lstD ?_
    repeat' walk_at "wz"
    refine call0 ⟨_, 6, rfl, rfl, hof, ⟨rfl, ?_⟩⟩
    repeat' walk_at "wz"
    · rename_i e
      cases e
    refine call0 ⟨z1, rfl, rfl, hz1, ⟨rfl, ?_⟩⟩
    repeat' walk_at "wz"
    refine call0 ⟨z2, rfl, rfl, hz2, ⟨rfl, ?_⟩⟩
    repeat' walk_at "wz"
    · exact Nat.le_trans (Nat.add_le_add hs1 hs2) (by decide)
    · rename_i e
      simp at e
    exact nt_nx ⟨_, _, _, _, _, _, rfl, rfl⟩
  rintro B3 cs' hs' xB3 ⟨c3, c4, c5, c6, c7, c8, rfl, rfl⟩
  replace xB1 := ex_trans xB1 xB3
  clear xB3
  refine nt_seqJ (fun cs' hs' => ∃ (c3 c4 c5 c6 c7 c8 : C), cs' = [.r a, .z z1, .z z2, c3, c4, c5, c6, c7, c8] ∧ hs' = [jc a g2 x2 n2]) ?_ ?_
  rotate_left
  · intro N0 hN0
    refine nt_for (wi_TZ ?_)
    repeat' walk_at "wz"
    refine ⟨fun i cs' hs' => ∃ (c3 c4 c5 c6 c7 c8 : C), cs' = [.r a, .z z1, .z z2, c3, c4, c5, c6, c7, c8] ∧ hs' = [jc a g2 x2 n2], ⟨_, _, _, _, _, _, rfl, rfl⟩, ?_, ?_⟩
    rotate_left
    · rintro cs' hs' ⟨c3, c4, c5, c6, c7, c8, rfl, rfl⟩
      dsimp only
      exact hN0.at ⟨_, _, _, _, _, _, rfl, rfl⟩
    rintro B2 xB2 i c cs' hs' hc ⟨c3, c4, c5, c6, c7, c8, rfl, rfl⟩
    obtain ⟨Cl, j, hcl, hj, rfl⟩ := vals_mem (C0 := Cl_BadRow) (C1 := Cl_BadBlock) (C2 := Cl_Twice) (C3 := Cl_NoProcedure) (C4 := Cl_WrongCount) (C5 := Cl_BadPolicy) (C6 := Cl_Fault) (C9 := Cl_TooMany) (C10 := Cl_BadText) (C11 := Cl_NoMark) (C12 := Cl_BadLine) (C13 := Cl_HeapError) (List.mem_of_getElem? hc)
    have hx := TC.ex hcl
    have hno := NF Cl (List.mem_of_getElem? hcl) "value" (by decide)
    have hof : OfN [Cl_BadRow, Cl_BadBlock, Cl_Twice, Cl_NoProcedure, Cl_WrongCount, Cl_BadPolicy, Cl_Fault, Cl_NoObject, Cl_NoLink, Cl_TooMany, Cl_BadText, Cl_NoMark, Cl_BadLine, Cl_HeapError] j (.exc Cl [("value", z1)]) := ⟨Cl, hcl, rfl⟩
    refine wg_tupZ rfl (wgs_cons (wg_name (wgs_cons (wg_zd (wg_name (wgs_nil ?_))))))
    repeat' walk_at "wz"
    refine we_lstD ?_
    repeat' walk_at "wz"
    rw [spot_one hj]
    refine call0 ⟨_, j, rfl, rfl, hof, ⟨rfl, ?_⟩⟩
    repeat' walk_at "wz"
    · rename_i e
      cases e
    refine ⟨_, _, _, rfl, hx, hno, rfl, ?_⟩
    repeat' walk_at "wz"
    refine call0 ⟨z1, rfl, rfl, hz1, ⟨rfl, ?_⟩⟩
    repeat' walk_at "wz"
    refine call0 ⟨z1, rfl, rfl, hz1, ⟨rfl, ?_⟩⟩
    repeat' walk_at "wz"
    · rename_i e
      simp at e
    exact nt_nx ⟨_, _, _, _, _, _, rfl, rfl⟩
  rintro B3 cs' hs' xB3 ⟨c3, c4, c5, c6, c7, c8, rfl, rfl⟩
  replace xB1 := ex_trans xB1 xB3
  clear xB3
  refine nt_seqJ (fun cs' hs' => ∃ (c3 c4 c5 c6 c7 c8 : C), cs' = [.r a, .z z1, .z z2, c3, c4, c5, c6, c7, c8] ∧ hs' = [jc a g2 x2 n2]) ?_ ?_
  rotate_left
  · intro N0 hN0
    refine nt_for (wi_TZ ?_)
    repeat' walk_at "wz"
    refine ⟨fun i cs' hs' => ∃ (c3 c4 c5 c6 c7 c8 : C), cs' = [.r a, .z z1, .z z2, c3, c4, c5, c6, c7, c8] ∧ hs' = [jc a g2 x2 n2], ⟨_, _, _, _, _, _, rfl, rfl⟩, ?_, ?_⟩
    rotate_left
    · rintro cs' hs' ⟨c3, c4, c5, c6, c7, c8, rfl, rfl⟩
      dsimp only
      exact hN0.at ⟨_, _, _, _, _, _, rfl, rfl⟩
    rintro B2 xB2 i c cs' hs' hc ⟨c3, c4, c5, c6, c7, c8, rfl, rfl⟩
    obtain rfl := both_mem (y := .exc Cl_TooMany [("count", z1)]) (List.mem_of_getElem? hc)
    have hcl : [Cl_BadRow, Cl_BadBlock, Cl_Twice, Cl_NoProcedure, Cl_WrongCount, Cl_BadPolicy, Cl_Fault, Cl_NoObject, Cl_NoLink, Cl_TooMany, Cl_BadText, Cl_NoMark, Cl_BadLine, Cl_HeapError][9]? = some Cl_TooMany := rfl
    have hx := TC.ex hcl
    have hno := NF Cl_TooMany (List.mem_of_getElem? hcl) "count" (by decide)
    have hof : OfN [Cl_BadRow, Cl_BadBlock, Cl_Twice, Cl_NoProcedure, Cl_WrongCount, Cl_BadPolicy, Cl_Fault, Cl_NoObject, Cl_NoLink, Cl_TooMany, Cl_BadText, Cl_NoMark, Cl_BadLine, Cl_HeapError] 9 (.exc Cl_TooMany [("count", z1)]) := ⟨_, hcl, rfl⟩
    refine wg_name ?_
    repeat' walk_at "wz"
    refine we_lstD ?_
    repeat' walk_at "wz"
    refine call0 ⟨_, 9, rfl, rfl, hof, ⟨rfl, ?_⟩⟩
    repeat' walk_at "wz"
    · rename_i e
      cases e
    refine ⟨_, _, _, rfl, hx, hno, rfl, ?_⟩
    repeat' walk_at "wz"
    refine call0 ⟨z1, rfl, rfl, hz1, ⟨rfl, ?_⟩⟩
    repeat' walk_at "wz"
    refine call0 ⟨z1, rfl, rfl, hz1, ⟨rfl, ?_⟩⟩
    repeat' walk_at "wz"
    · rename_i e
      simp at e
    exact nt_nx ⟨_, _, _, _, _, _, rfl, rfl⟩
  rintro B3 cs' hs' xB3 ⟨c3, c4, c5, c6, c7, c8, rfl, rfl⟩
  replace xB1 := ex_trans xB1 xB3
  clear xB3
  refine nt_seqJ (fun cs' hs' => ∃ (c3 c4 c5 c6 c7 c8 : C), cs' = [.r a, .z z1, .z z2, c3, c4, c5, c6, c7, c8] ∧ hs' = [jc a g2 x2 n2]) ?_ ?_
  rotate_left
  · intro N0 hN0
    refine nt_for (wi_TZ ?_)
    repeat' walk_at "wz"
    refine ⟨fun i cs' hs' => ∃ (c3 c4 c5 c6 c7 c8 : C), cs' = [.r a, .z z1, .z z2, c3, c4, c5, c6, c7, c8] ∧ hs' = [jc a g2 x2 n2], ⟨_, _, _, _, _, _, rfl, rfl⟩, ?_, ?_⟩
    rotate_left
    · rintro cs' hs' ⟨c3, c4, c5, c6, c7, c8, rfl, rfl⟩
      dsimp only
      exact hN0.at ⟨_, _, _, _, _, _, rfl, rfl⟩
    rintro B2 xB2 i c cs' hs' hc ⟨c3, c4, c5, c6, c7, c8, rfl, rfl⟩
    obtain rfl := both_mem (y := .exc Cl_BadLine [("line", z1)]) (List.mem_of_getElem? hc)
    have hcl : [Cl_BadRow, Cl_BadBlock, Cl_Twice, Cl_NoProcedure, Cl_WrongCount, Cl_BadPolicy, Cl_Fault, Cl_NoObject, Cl_NoLink, Cl_TooMany, Cl_BadText, Cl_NoMark, Cl_BadLine, Cl_HeapError][12]? = some Cl_BadLine := rfl
    have hx := TC.ex hcl
    have hno := NF Cl_BadLine (List.mem_of_getElem? hcl) "line" (by decide)
    have hof : OfN [Cl_BadRow, Cl_BadBlock, Cl_Twice, Cl_NoProcedure, Cl_WrongCount, Cl_BadPolicy, Cl_Fault, Cl_NoObject, Cl_NoLink, Cl_TooMany, Cl_BadText, Cl_NoMark, Cl_BadLine, Cl_HeapError] 12 (.exc Cl_BadLine [("line", z1)]) := ⟨_, hcl, rfl⟩
    refine wg_name ?_
    repeat' walk_at "wz"
    refine we_lstD ?_
    repeat' walk_at "wz"
    refine call0 ⟨_, 12, rfl, rfl, hof, ⟨rfl, ?_⟩⟩
    repeat' walk_at "wz"
    · rename_i e
      cases e
    refine ⟨_, _, _, rfl, hx, hno, rfl, ?_⟩
    repeat' walk_at "wz"
    refine call0 ⟨z1, rfl, rfl, hz1, ⟨rfl, ?_⟩⟩
    repeat' walk_at "wz"
    refine call0 ⟨z1, rfl, rfl, hz1, ⟨rfl, ?_⟩⟩
    repeat' walk_at "wz"
    · rename_i e
      simp at e
    exact nt_nx ⟨_, _, _, _, _, _, rfl, rfl⟩
  rintro B3 cs' hs' xB3 ⟨c3, c4, c5, c6, c7, c8, rfl, rfl⟩
  replace xB1 := ex_trans xB1 xB3
  clear xB3
  have h11 : OfN [Cl_BadRow, Cl_BadBlock, Cl_Twice, Cl_NoProcedure, Cl_WrongCount, Cl_BadPolicy, Cl_Fault, Cl_NoObject, Cl_NoLink, Cl_TooMany, Cl_BadText, Cl_NoMark, Cl_BadLine, Cl_HeapError] 11 (.exc0 Cl_NoMark) := ⟨Cl_NoMark, rfl, rfl⟩
  have h13 : OfN [Cl_BadRow, Cl_BadBlock, Cl_Twice, Cl_NoProcedure, Cl_WrongCount, Cl_BadPolicy, Cl_Fault, Cl_NoObject, Cl_NoLink, Cl_TooMany, Cl_BadText, Cl_NoMark, Cl_BadLine, Cl_HeapError] 13 (.exc0 Cl_HeapError) := ⟨Cl_HeapError, rfl, rfl⟩
  refine nt_ret (R.mono xB1) ?_
  repeat' walk_at "wz"
  refine we_lstD ?_
  repeat' walk_at "wz"
  refine call0 ⟨_, 11, rfl, rfl, h11, ⟨rfl, ?_⟩⟩
  repeat' walk_at "wz"
  refine we_lstD ?_
  repeat' walk_at "wz"
  refine call0 ⟨_, 13, rfl, rfl, h13, ⟨rfl, ?_⟩⟩
  repeat' walk_at "wz"
  exact hk _ _ _ J2
end K79
namespace K79
open PySem PySem.Spec PyProof.Rows L2 Gu Cw Ec Snap
local macro_rules | `(tactic| walk_at "as") => `(tactic| with_reducible first | exact asD | exact asL0 | exact asL1 | exact asL2 | (walk_at "norm"; first | exact asL0 | exact asL1 | exact asL2 | exact asL3 | exact asL4 | exact asL5) | exact asL3 | exact asL4 | exact asL5)
local macro_rules | `(tactic| walk_at "asOld") => `(tactic| with_reducible first | exact asD | exact asL0 | exact asL1 | exact asL2 | exact asL3 | exact asL4 | exact asL5)
local macro_rules | `(tactic| walk_at "nt") => `(tactic| first
  | (refine nt_mk ?_; walk_at "norm") | (refine nt_seq ?_; walk_at "norm") | (refine nt_if ?_; walk_at "norm") | refine nt_set ?_ | refine nt_drop ?_ | refine nt_next ?_
  | refine nt_setM ?_ | refine nt_aug (by with_unfolding_all rfl) ?_ | refine nt_par ?_ | refine nt_par3 ?_ | refine nt_parT ?_ | refine nt_dputT ?_ | refine nt_dput ?_ | refine nt_fld (by assumption) (by assumption) ?_
  | refine nt_mkb ?_ | refine nt_mkc ?_ | refine nt_break ?_ | refine nt_cont ?_ | fail)
local macro_rules | `(tactic| walk_at "wx") => `(tactic| first
  | refine we_varD (by with_unfolding_all rfl) ?_ | refine we_ckw ?_ | refine we_sortL ?_ | refine we_kget ?_ | refine we_dnotinS ?_ | refine we_tupRg2 ?_ | refine we_varV (by with_unfolding_all rfl) ?_ | refine we_varZ (by with_unfolding_all rfl) ?_ | refine we_lstZ ?_ | refine we_mkV ?_ | refine we_mkV1 (fun _ _ => rfl) ?_ | refine we_mkV2 (fun _ _ _ => rfl) ?_ | refine we_mk0 ?_ | refine we_xfd ?_ | refine we_dispZ ?_ |  refine we_op ?_ | refine we_int ?_ | refine we_str ?_ | refine we_bl ?_ | refine we_non ?_
  | refine we_cb ?_ | refine we_call ?_ | refine we_tupZ ?_ | refine we_if ?_ | refine we_fld (by assumption) (by assumption) ?_ | refine we_andV ?_ | refine we_orV ?_ | refine we_notV ?_ | refine we_un ?_ | refine we_dnewZ ?_ | refine we_dget ?_ | refine we_dinTt ?_ | refine we_dnotinTt ?_ | refine we_din ?_ | refine we_dnotin ?_ | refine we_append ?_ | refine we_extend ?_ | refine we_extendT ?_ | refine we_pop ?_ | refine we_dget1 ?_ | refine we_dget2 ?_ | refine we_dpop2 ?_ | refine we_dsetd ?_ | refine we_make ?_ | refine we_meth ?_ | fail)
local macro_rules | `(tactic| walk_at "rd") => `(tactic| first
  | refine rd_I0 (fun _ => .int _) ?_ | refine rd_I0 (fun _ => .bl _) ?_ | refine rd_ixL (by walk_at "as") ?_ | refine rd_ixT ?_ | refine rd_I ?_ (fun _ => .int _) ?_ | refine rd_eq (by with_unfolding_all rfl) (by with_unfolding_all rfl) (by with_unfolding_all rfl) ?_ | refine rd_ne (by with_unfolding_all rfl) (by with_unfolding_all rfl) (by with_unfolding_all rfl) ?_ | refine rd_isN ?_ | refine rd_notN ?_ | refine rd_addS ?_ ?_ | fail)
local macro_rules | `(tactic| walk_at "ra") => `(tactic| first
  | refine ra_L (by walk_at "as") bl_len ?_ | refine ra_T bt_len ?_ | refine ra_1I (fun _ => .int _) ?_ | refine ra_2I (fun _ => .int _) ?_ | refine ra_intB ?_ | refine ra_neg ?_ | refine ra_L (by walk_at "as") bl_tuple ?_ | refine ra_lenD ?_ | fail)
local macro_rules | `(tactic| walk_at "we") => `(tactic| with_reducible first
  | (show Cw.WE _ _ _ _ _; walk_at "wx") | (show Cw.Nt _ _ _ _ _ _; walk_at "nt") | (show Cw.RD _ _ _ _ _ _; walk_at "rd") | (show Cw.RA _ _ _ _ _; walk_at "ra")
  | (show Cw.WT _ _ _ _ _; first | refine wt_test ?_ | refine wt_B ?_ | refine wt_and ?_ | refine wt_or ?_ | refine wt_not ?_ | refine wt_yes ?_)
  | (show Cw.WA _ _ _ _ _; first | refine wa_cons ?_ | refine wa_nil ?_)
  | (show Cw.WG _ _ _ _ _; first | refine wg_name ?_ | refine wg_tup2 (by with_unfolding_all rfl) ?_ | refine wg_tup3 (by with_unfolding_all rfl) ?_ | refine wg_tup4 (by with_unfolding_all rfl) ?_)
  | (show Cw.WGs _ _ _ _ _; first | refine wgs_cons ?_ | refine wgs_nil ?_)
  | (show Cw.KeyE _ _ _ _ _; first | refine keyE_tup ?_ | refine keyE_var (by with_unfolding_all rfl) ?_)
  | (show Cw.WI _ _ _ _ _; first | refine wi_itemsF ?_ | refine wi_keysF ?_ | refine wi_valuesF ?_ | refine wi_S ?_ | refine wi_L ?_ | refine wi_T ?_ | refine wi_R1 ?_ | refine wi_R2 ?_)
  | refine isB ?_ | refine isI ?_ | refine isD ?_ | refine bbT ?_ | refine bbF ?_ | refine bb (fun _ => ?_) (fun _ => ?_)
  | (show Cw.At _ _ _; walk_at "norm"; first | refine at0 ?_ | refine at1 ?_ | refine at2 ?_ | refine at3 ?_ | refine at4 ?_ | refine at5 ?_ | refine at6 ?_ | refine at7 ?_)
  | refine isL ?_ | refine isF (by with_unfolding_all rfl) ?_ | refine isFs (by with_unfolding_all rfl) ?_ | refine isMt (by with_unfolding_all rfl) ?_ | refine isLc ?_ | refine isDi ?_ | refine isDt ?_ | refine isKI ?_ | refine isKS ?_
  | refine ixJ (by with_unfolding_all rfl) ?_ | refine und (by with_unfolding_all rfl) (by with_unfolding_all rfl) ?_ | refine unk (by with_unfolding_all rfl) (by with_unfolding_all rfl) ?_ | refine lenN (by with_unfolding_all rfl) (by with_unfolding_all rfl) ?_ | refine two ?_ | refine three ?_ | refine atX (by with_unfolding_all rfl) ?_ | refine less ?_ ?_
  | refine unzI (by with_unfolding_all rfl) (by with_unfolding_all rfl) ?_ | refine ⟨_, rfl, ?_⟩ | fail)
local macro_rules | `(tactic| walk_at "side") => `(tactic| first
  | exact (show (_ : Int) ≠ 0 by omega) | exact (show CDivN _ _ from ⟨by omega, by omega⟩) | exact (show CMul _ _ from Or.inl ⟨by omega, by omega⟩) | exact (show CMul _ _ from Or.inr ⟨by omega, by omega⟩)
  | exact (show CPow _ _ from ⟨by omega, by omega, by omega⟩))
local macro_rules | `(tactic| walk_at "start") => `(tactic| try dsimp only [cxOf, Cx.nox, Cx.wish])
local macro_rules | `(tactic| walk_at "norm") => `(tactic| try dsimp only [List.set_cons_zero, List.set_cons_succ])
def S_law : List C → List HC → KC → Prop := fun cl hs k => ∃ ns : List Int, cl = [.d (.list (ns.map PyData.int))] ∧ hs = [] ∧ ns.length ≤ 63 ∧ k (.d (.bool true)) []
theorem ok_law {P : Program} {w : World} {K : PySem.W.Frag} {mg : Str → Option Value} {base : Heap} {f0 : Addr} {fd0 : FuncData} (F : Fun K "law" "law" s_law f0 fd0) (m_all : mg "all" = none) (m_len : mg "len" = none) (m_max : mg "max" = none) (m_min : mg "min" = none) (m_range : mg "range" = none) (C__law_source : Cal P w K mg base 1 "_law_source" ["_law_script", "_law_k"] S__law_source) (C__law_right : CalG P w K mg base 7 "_law_right" ["_law_pot"] S__law_right) :
    FnG P w K mg base CX0 8 f0 fd0 ["_law_script"] (spC K S_law) := by
  refine okCG F sc_law rfl (n := 4) (fun cl hs kk h => ?_) (fun cdv A out s H E hr hg0 => ?_)
  · obtain ⟨ns, rfl, _⟩ := h
    rfl
  have hgd : (A.deeper (envOfC "law" (defScope s_law) s.heap.objs.size f0 cdv)).guards = some [] := hg0
  refine ⟨_, (pss_cons (ps_for PassesOwn.never (by rfl) (pi_range1 (by rfl) m_range (pa_cons (pe_callB (cr_max2 rfl) (by rfl) m_max (by decide +kernel) (pa_cons pe_int (pa_cons (pe_callB (cr_min2 rfl) (by rfl) m_min (by decide +kernel) (pa_cons pe_int (pa_cons (pe_callB (cr_len (K := K)) (by rfl) m_len PySem.boot_len (pa_cons (pv 0) pa_nil)) pa_nil))) pa_nil))) pa_nil)) (pg_name (i := 1) sc_law.nd rfl (.inl rfl)) (pss_cons (ps_set (i := 2) sc_law.nd rfl (.inr rfl) (pe_cal (K := K) C__law_source (hr.mono (by decide)) (by rfl) (pa_cons (pv 0) (pa_cons (pv 1) pa_nil))))
      (pss_one (ps_if (pt_not (pt_val (pe_callB (cr_allK (K := K) rfl) (by rfl) m_all (by decide +kernel) (pa_cons (pe_lc (own := [("_law_turn", 3)]) (g := gName 3) (tt := tYes) (by rfl) sc_law.nd (pi_range1 (by rfl) m_range (pa_cons pe_int pa_nil)) (blkOk_by (own := [("_law_turn", 3)]) (N := N_law) (sc := defScope s_law) (by decide +kernel)) (fun _ _ _ _ _ => (pg_name (i := 3) sc_law.nd rfl (.inl rfl))) (fun _ _ _ _ _ => pts_nil) (fun _ _ _ _ _ => (pe_calG (K := K) C__law_right (hr.mono (by decide)) hgd (by rfl) (pa_cons (pv 2) pa_nil)))) pa_nil)))) (pss_one (ps_ret pe_bl)) pss_nil))))
      (pss_one (ps_ret pe_bl))), fun cl hs kk h => ?_⟩
  obtain ⟨ns, rfl, rfl, hns, hk⟩ := h
  walk_at "start"
  intro B0 fh Q R
  refine nt_is [.d (.list (ns.map PyData.int)), .any, .any, .any] [] rfl rfl ?_
  refine nt_seq (nt_forR ?_)
  repeat' walk_at "we"
  rw [List.length_map]
  have hn : ∃ n : Nat, (if (if (ns.length : Int) < 3 then (ns.length : Int) else 3) > 1 then (if (ns.length : Int) < 3 then (ns.length : Int) else 3) else 1) = (n : Int) ∧ n ≤ 3 := by
    refine ⟨(if (if (ns.length : Int) < 3 then (ns.length : Int) else 3) > 1 then (if (ns.length : Int) < 3 then (ns.length : Int) else 3) else 1).toNat, ?_, ?_⟩
    all_goals
      split <;> split <;> omega
  obtain ⟨n, en, hn3⟩ := hn
  rw [en]
  refine ⟨n, rfl, by omega, n, rfl, fun i cs' hs' => ∃ c1 c2 c3, cs' = [.d (.list (ns.map PyData.int)), c1, c2, c3] ∧ hs' = [], ⟨_, _, _, rfl, rfl⟩, ?_, ?_⟩
  · rintro B1 xB i cs' hs' hi ⟨c1, c2, c3, rfl, rfl⟩
    repeat' walk_at "we"
    refine call0n ⟨ns, _, rfl, rfl, hns, by omega, by omega, fun a g x n0 hJ => ⟨_, rfl, ?_⟩⟩
    repeat' walk_at "we"
    refine we_lcR tg_name (by decide) ?_
    repeat' walk_at "we"
    refine ⟨by decide, 8, rfl, by decide, fun j acc hs' => acc = ((List.range j).map fun _ => true).map PyData.bool ∧ ∃ g x n0, hs' = [jc a g x n0] ∧ JP (80 * j) g x n0, ⟨rfl, _, _, _, rfl, hJ⟩, ?_, ?_⟩
    · rintro j acc hs' hj ⟨rfl, g1, x1, n1, rfl, hJ1⟩
      repeat' walk_at "we"
      refine call10 ⟨a, 80 * j, g1, x1, n1, rfl, rfl, hJ1, by omega, fun g2 x2 n2 hJ2 => ⟨_, rfl, ?_⟩⟩
      repeat' walk_at "we"
      refine ⟨?_, _, _, _, rfl, hJ2⟩
      rw [List.range_succ, List.map_append, List.map_append]
      rfl
    · rintro acc hs' hl ⟨rfl, g1, x1, n1, rfl, hJ1⟩ b
      repeat' walk_at "we"
      refine ra_L asL0 bl_all ?_
      rw [show (((List.range 8).map fun _ => true).all id) = true from rfl]
      repeat' walk_at "we"
      · rename_i e
        cases e
      refine nt_drop0 (nt_drop0 ?_)
      exact nt_nx ⟨_, _, _, rfl, rfl⟩
  · rintro cs' hs' ⟨c1, c2, c3, rfl, rfl⟩
    dsimp only
    refine nt_ret R ?_
    repeat' walk_at "we"
    exact hk
end K79
namespace K79
open PySem PySem.Spec PyProof.Rows L2 Gu Cw Ec Snap
def nofB (K : PySem.W.Frag) (cl : List Addr) : Bool := cl.all fun C => (["row", "word", "value", "count", "line"] : List Str).all fun f => decide (PySem.W.findIn K (.ref C) f = some none)
theorem nofB_ok {K : PySem.W.Frag} {cl : List Addr} (h : nofB K cl = true) : NoFs K cl := fun C hC f hf => of_decide_eq_true (List.all_eq_true.mp (List.all_eq_true.mp h C hC) f hf)
theorem fn_false {P : Program} {w : World} {K : PySem.W.Frag} {mg : Str → Option Value} {base : Heap} {k : Nat} {f : Addr} {fd : FuncData} {ps : List Str} : FnOk P w K mg base CX0 k f fd ps (spC K fun _ _ _ => False) := by
  have no : ∀ vs H Q E, ¬ (spC K fun _ _ _ => False) vs H Q E := fun vs H Q E h => by
    obtain ⟨_, _, _, _, _, _, _, h, _⟩ := h
    exact h
  exact ⟨fun vs H Q E h => absurd h (no vs H Q E), fun A outer s H args us vs Q E _ _ _ _ h => absurd h (no vs H Q E)⟩
theorem fi_BadRow {P : Program} {w : World} {K : PySem.W.Frag} {mg : Str → Option Value} {f C cda cc : Addr} {od an : Option Addr} {sl : Array (Option Value)} {oc kV dc pm ct : Value} (lk : K.lookup f = some ⟨oc, od, .func (PySem.W.ksFn "__init__" "BadRow.__init__" (defArgs s_BadRow_init) (defBody s_BadRow_init) (defScope s_BadRow_init) .none kV dc pm an (.ref cda) ct cc), sl⟩) (hcd : PySem.W.codeIn K (.ref cda) "BadRow.__init__" = true) (T : SupC P K C cda cc) (hmg : mg "super" = none) (n0 : PySem.W.findIn K (.ref C) "row" = some none) (base : Heap) :
    FnOk P w K mg base CX0 1 f (PySem.W.ksFn "__init__" "BadRow.__init__" (defArgs s_BadRow_init) (defBody s_BadRow_init) (defScope s_BadRow_init) .none kV dc pm an (.ref cda) ct cc) ["self", "row"] (spIn C ["row"]) :=
  okI1 lk hcd T (scB_ok (by decide +kernel)) rfl rfl rfl rfl hmg n0
theorem fi_BadBlock {P : Program} {w : World} {K : PySem.W.Frag} {mg : Str → Option Value} {f C cda cc : Addr} {od an : Option Addr} {sl : Array (Option Value)} {oc kV dc pm ct : Value} (lk : K.lookup f = some ⟨oc, od, .func (PySem.W.ksFn "__init__" "BadBlock.__init__" (defArgs s_BadBlock_init) (defBody s_BadBlock_init) (defScope s_BadBlock_init) .none kV dc pm an (.ref cda) ct cc), sl⟩) (hcd : PySem.W.codeIn K (.ref cda) "BadBlock.__init__" = true) (T : SupC P K C cda cc) (hmg : mg "super" = none) (n0 : PySem.W.findIn K (.ref C) "row" = some none) (base : Heap) :
    FnOk P w K mg base CX0 1 f (PySem.W.ksFn "__init__" "BadBlock.__init__" (defArgs s_BadBlock_init) (defBody s_BadBlock_init) (defScope s_BadBlock_init) .none kV dc pm an (.ref cda) ct cc) ["self", "row"] (spIn C ["row"]) :=
  okI1 lk hcd T (scB_ok (by decide +kernel)) rfl rfl rfl rfl hmg n0
theorem fi_Twice {P : Program} {w : World} {K : PySem.W.Frag} {mg : Str → Option Value} {f C cda cc : Addr} {od an : Option Addr} {sl : Array (Option Value)} {oc kV dc pm ct : Value} (lk : K.lookup f = some ⟨oc, od, .func (PySem.W.ksFn "__init__" "Twice.__init__" (defArgs s_Twice_init) (defBody s_Twice_init) (defScope s_Twice_init) .none kV dc pm an (.ref cda) ct cc), sl⟩) (hcd : PySem.W.codeIn K (.ref cda) "Twice.__init__" = true) (T : SupC P K C cda cc) (hmg : mg "super" = none) (n0 : PySem.W.findIn K (.ref C) "row" = some none) (base : Heap) :
    FnOk P w K mg base CX0 1 f (PySem.W.ksFn "__init__" "Twice.__init__" (defArgs s_Twice_init) (defBody s_Twice_init) (defScope s_Twice_init) .none kV dc pm an (.ref cda) ct cc) ["self", "row"] (spIn C ["row"]) :=
  okI1 lk hcd T (scB_ok (by decide +kernel)) rfl rfl rfl rfl hmg n0
theorem fi_NoProcedure {P : Program} {w : World} {K : PySem.W.Frag} {mg : Str → Option Value} {f C cda cc : Addr} {od an : Option Addr} {sl : Array (Option Value)} {oc kV dc pm ct : Value} (lk : K.lookup f = some ⟨oc, od, .func (PySem.W.ksFn "__init__" "NoProcedure.__init__" (defArgs s_NoProcedure_init) (defBody s_NoProcedure_init) (defScope s_NoProcedure_init) .none kV dc pm an (.ref cda) ct cc), sl⟩) (hcd : PySem.W.codeIn K (.ref cda) "NoProcedure.__init__" = true) (T : SupC P K C cda cc) (hmg : mg "super" = none) (n0 : PySem.W.findIn K (.ref C) "row" = some none) (base : Heap) :
    FnOk P w K mg base CX0 1 f (PySem.W.ksFn "__init__" "NoProcedure.__init__" (defArgs s_NoProcedure_init) (defBody s_NoProcedure_init) (defScope s_NoProcedure_init) .none kV dc pm an (.ref cda) ct cc) ["self", "row"] (spIn C ["row"]) :=
  okI1 lk hcd T (scB_ok (by decide +kernel)) rfl rfl rfl rfl hmg n0
theorem fi_WrongCount {P : Program} {w : World} {K : PySem.W.Frag} {mg : Str → Option Value} {f C cda cc : Addr} {od an : Option Addr} {sl : Array (Option Value)} {oc kV dc pm ct : Value} (lk : K.lookup f = some ⟨oc, od, .func (PySem.W.ksFn "__init__" "WrongCount.__init__" (defArgs s_WrongCount_init) (defBody s_WrongCount_init) (defScope s_WrongCount_init) .none kV dc pm an (.ref cda) ct cc), sl⟩) (hcd : PySem.W.codeIn K (.ref cda) "WrongCount.__init__" = true) (T : SupC P K C cda cc) (hmg : mg "super" = none) (n0 : PySem.W.findIn K (.ref C) "row" = some none) (base : Heap) :
    FnOk P w K mg base CX0 1 f (PySem.W.ksFn "__init__" "WrongCount.__init__" (defArgs s_WrongCount_init) (defBody s_WrongCount_init) (defScope s_WrongCount_init) .none kV dc pm an (.ref cda) ct cc) ["self", "row"] (spIn C ["row"]) :=
  okI1 lk hcd T (scB_ok (by decide +kernel)) rfl rfl rfl rfl hmg n0
theorem fi_BadPolicy {P : Program} {w : World} {K : PySem.W.Frag} {mg : Str → Option Value} {f C cda cc : Addr} {od an : Option Addr} {sl : Array (Option Value)} {oc kV dc pm ct : Value} (lk : K.lookup f = some ⟨oc, od, .func (PySem.W.ksFn "__init__" "BadPolicy.__init__" (defArgs s_BadPolicy_init) (defBody s_BadPolicy_init) (defScope s_BadPolicy_init) .none kV dc pm an (.ref cda) ct cc), sl⟩) (hcd : PySem.W.codeIn K (.ref cda) "BadPolicy.__init__" = true) (T : SupC P K C cda cc) (hmg : mg "super" = none) (n0 : PySem.W.findIn K (.ref C) "word" = some none) (base : Heap) :
    FnOk P w K mg base CX0 1 f (PySem.W.ksFn "__init__" "BadPolicy.__init__" (defArgs s_BadPolicy_init) (defBody s_BadPolicy_init) (defScope s_BadPolicy_init) .none kV dc pm an (.ref cda) ct cc) ["self", "word"] (spIn C ["word"]) :=
  okI1 lk hcd T (scB_ok (by decide +kernel)) rfl rfl rfl rfl hmg n0
theorem fi_Fault {P : Program} {w : World} {K : PySem.W.Frag} {mg : Str → Option Value} {f C cda cc : Addr} {od an : Option Addr} {sl : Array (Option Value)} {oc kV dc pm ct : Value} (lk : K.lookup f = some ⟨oc, od, .func (PySem.W.ksFn "__init__" "Fault.__init__" (defArgs s_Fault_init) (defBody s_Fault_init) (defScope s_Fault_init) .none kV dc pm an (.ref cda) ct cc), sl⟩) (hcd : PySem.W.codeIn K (.ref cda) "Fault.__init__" = true) (T : SupC P K C cda cc) (hmg : mg "super" = none) (n0 : PySem.W.findIn K (.ref C) "word" = some none) (n1 : PySem.W.findIn K (.ref C) "row" = some none) (base : Heap) :
    FnOk P w K mg base CX0 1 f (PySem.W.ksFn "__init__" "Fault.__init__" (defArgs s_Fault_init) (defBody s_Fault_init) (defScope s_Fault_init) .none kV dc pm an (.ref cda) ct cc) ["self", "word", "row"] (spIn C ["word", "row"]) :=
  okI2 lk hcd T (scB_ok (by decide +kernel)) rfl rfl rfl rfl hmg n0 n1
theorem fi_NoObject {P : Program} {w : World} {K : PySem.W.Frag} {mg : Str → Option Value} {f C cda cc : Addr} {od an : Option Addr} {sl : Array (Option Value)} {oc kV dc pm ct : Value} (lk : K.lookup f = some ⟨oc, od, .func (PySem.W.ksFn "__init__" "NoObject.__init__" (defArgs s_NoObject_init) (defBody s_NoObject_init) (defScope s_NoObject_init) .none kV dc pm an (.ref cda) ct cc), sl⟩) (hcd : PySem.W.codeIn K (.ref cda) "NoObject.__init__" = true) (T : SupC P K C cda cc) (hmg : mg "super" = none) (n0 : PySem.W.findIn K (.ref C) "value" = some none) (base : Heap) :
    FnOk P w K mg base CX0 1 f (PySem.W.ksFn "__init__" "NoObject.__init__" (defArgs s_NoObject_init) (defBody s_NoObject_init) (defScope s_NoObject_init) .none kV dc pm an (.ref cda) ct cc) ["self", "value"] (spIn C ["value"]) :=
  okI1 lk hcd T (scB_ok (by decide +kernel)) rfl rfl rfl rfl hmg n0
theorem fi_NoLink {P : Program} {w : World} {K : PySem.W.Frag} {mg : Str → Option Value} {f C cda cc : Addr} {od an : Option Addr} {sl : Array (Option Value)} {oc kV dc pm ct : Value} (lk : K.lookup f = some ⟨oc, od, .func (PySem.W.ksFn "__init__" "NoLink.__init__" (defArgs s_NoLink_init) (defBody s_NoLink_init) (defScope s_NoLink_init) .none kV dc pm an (.ref cda) ct cc), sl⟩) (hcd : PySem.W.codeIn K (.ref cda) "NoLink.__init__" = true) (T : SupC P K C cda cc) (hmg : mg "super" = none) (n0 : PySem.W.findIn K (.ref C) "value" = some none) (base : Heap) :
    FnOk P w K mg base CX0 1 f (PySem.W.ksFn "__init__" "NoLink.__init__" (defArgs s_NoLink_init) (defBody s_NoLink_init) (defScope s_NoLink_init) .none kV dc pm an (.ref cda) ct cc) ["self", "value"] (spIn C ["value"]) :=
  okI1 lk hcd T (scB_ok (by decide +kernel)) rfl rfl rfl rfl hmg n0
theorem fi_TooMany {P : Program} {w : World} {K : PySem.W.Frag} {mg : Str → Option Value} {f C cda cc : Addr} {od an : Option Addr} {sl : Array (Option Value)} {oc kV dc pm ct : Value} (lk : K.lookup f = some ⟨oc, od, .func (PySem.W.ksFn "__init__" "TooMany.__init__" (defArgs s_TooMany_init) (defBody s_TooMany_init) (defScope s_TooMany_init) .none kV dc pm an (.ref cda) ct cc), sl⟩) (hcd : PySem.W.codeIn K (.ref cda) "TooMany.__init__" = true) (T : SupC P K C cda cc) (hmg : mg "super" = none) (n0 : PySem.W.findIn K (.ref C) "count" = some none) (base : Heap) :
    FnOk P w K mg base CX0 1 f (PySem.W.ksFn "__init__" "TooMany.__init__" (defArgs s_TooMany_init) (defBody s_TooMany_init) (defScope s_TooMany_init) .none kV dc pm an (.ref cda) ct cc) ["self", "count"] (spIn C ["count"]) :=
  okI1 lk hcd T (scB_ok (by decide +kernel)) rfl rfl rfl rfl hmg n0
theorem fi_BadText {P : Program} {w : World} {K : PySem.W.Frag} {mg : Str → Option Value} {f C cda cc : Addr} {od an : Option Addr} {sl : Array (Option Value)} {oc kV dc pm ct : Value} (lk : K.lookup f = some ⟨oc, od, .func (PySem.W.ksFn "__init__" "BadText.__init__" (defArgs s_BadText_init) (defBody s_BadText_init) (defScope s_BadText_init) .none kV dc pm an (.ref cda) ct cc), sl⟩) (hcd : PySem.W.codeIn K (.ref cda) "BadText.__init__" = true) (T : SupC P K C cda cc) (hmg : mg "super" = none) (n0 : PySem.W.findIn K (.ref C) "row" = some none) (base : Heap) :
    FnOk P w K mg base CX0 1 f (PySem.W.ksFn "__init__" "BadText.__init__" (defArgs s_BadText_init) (defBody s_BadText_init) (defScope s_BadText_init) .none kV dc pm an (.ref cda) ct cc) ["self", "row"] (spIn C ["row"]) :=
  okI1 lk hcd T (scB_ok (by decide +kernel)) rfl rfl rfl rfl hmg n0
theorem fi_BadLine {P : Program} {w : World} {K : PySem.W.Frag} {mg : Str → Option Value} {f C cda cc : Addr} {od an : Option Addr} {sl : Array (Option Value)} {oc kV dc pm ct : Value} (lk : K.lookup f = some ⟨oc, od, .func (PySem.W.ksFn "__init__" "BadLine.__init__" (defArgs s_BadLine_init) (defBody s_BadLine_init) (defScope s_BadLine_init) .none kV dc pm an (.ref cda) ct cc), sl⟩) (hcd : PySem.W.codeIn K (.ref cda) "BadLine.__init__" = true) (T : SupC P K C cda cc) (hmg : mg "super" = none) (n0 : PySem.W.findIn K (.ref C) "line" = some none) (base : Heap) :
    FnOk P w K mg base CX0 1 f (PySem.W.ksFn "__init__" "BadLine.__init__" (defArgs s_BadLine_init) (defBody s_BadLine_init) (defScope s_BadLine_init) .none kV dc pm an (.ref cda) ct cc) ["self", "line"] (spIn C ["line"]) :=
  okI1 lk hcd T (scB_ok (by decide +kernel)) rfl rfl rfl rfl hmg n0
theorem law_pre {ns : List Int} (hl : ns.length ≤ 63) : S_law [.d (.list (ns.map PyData.int))] [] fun c _ => c = .d (.bool true) := ⟨ns, rfl, rfl, hl, rfl⟩
theorem all_mk {l : PySem.W.OpenLaw} {w : World} {K : PySem.W.Frag} {h : Heap} {mg : Str → Option Value} {fa : Addr} (X : K.In h) (G : h.Ns mainGlobals mg) (hfa : mg "law" = some (.ref fa))
    {od0 an0 : Option Addr} {sl0 : Array (Option Value)} {oc0 kV0 dc0 pm0 cd0 ct0 : Value} {f0 : Addr}
    {od1 an1 : Option Addr} {sl1 : Array (Option Value)} {oc1 kV1 dc1 pm1 cd1 ct1 : Value} {f1 : Addr}
    {od2 an2 : Option Addr} {sl2 : Array (Option Value)} {oc2 kV2 dc2 pm2 cd2 ct2 : Value} {f2 : Addr}
    {od3 an3 : Option Addr} {sl3 : Array (Option Value)} {oc3 kV3 dc3 pm3 cd3 ct3 : Value} {f3 : Addr}
    {od8 an8 : Option Addr} {sl8 : Array (Option Value)} {oc8 kV8 dc8 pm8 cd8 ct8 : Value} {f8 : Addr}
    {od9 an9 : Option Addr} {sl9 : Array (Option Value)} {oc9 kV9 dc9 pm9 cd9 ct9 : Value} {f9 : Addr}
    {od10 an10 : Option Addr} {sl10 : Array (Option Value)} {oc10 kV10 dc10 pm10 cd10 ct10 : Value} {f10 : Addr}
    {od11 an11 : Option Addr} {sl11 : Array (Option Value)} {oc11 kV11 dc11 pm11 cd11 ct11 : Value} {f11 : Addr}
    {od12 an12 : Option Addr} {sl12 : Array (Option Value)} {oc12 kV12 dc12 pm12 cd12 ct12 : Value} {f12 : Addr}
    {Cl_BadBlock : Addr} (aC_BadBlock : PySem.W.nsIn K mainGlobals "BadBlock" = some (some (.ref Cl_BadBlock))) (eB_BadBlock : exB K Cl_BadBlock = true)
    {xd_BadBlock xan_BadBlock : Option Addr} {xsl_BadBlock : Array (Option Value)} {xoc_BadBlock xkV_BadBlock xdc_BadBlock xpm_BadBlock xct_BadBlock : Value} {cda_BadBlock cc_BadBlock fI_BadBlock : Addr} (xi_BadBlock : PySem.W.findIn K (.ref Cl_BadBlock) "__init__" = some (some (.ref fI_BadBlock))) (xt_BadBlock : PySem.W.typeIn K (.ref fI_BadBlock) = some (.type "function")) (xl_BadBlock : K.lookup fI_BadBlock = some ⟨xoc_BadBlock, xd_BadBlock, .func (PySem.W.ksFn "__init__" "BadBlock.__init__" (defArgs s_BadBlock_init) (defBody s_BadBlock_init) (defScope s_BadBlock_init) .none xkV_BadBlock xdc_BadBlock xpm_BadBlock xan_BadBlock (.ref cda_BadBlock) xct_BadBlock cc_BadBlock), xsl_BadBlock⟩) (xc_BadBlock : PySem.W.codeIn K (.ref cda_BadBlock) "BadBlock.__init__" = true) (xs_BadBlock : supB l.prog.main.file K Cl_BadBlock cda_BadBlock cc_BadBlock = true)
    (xn_BadBlock_row : PySem.W.findIn K (.ref Cl_BadBlock) "row" = some none)
    {Cl_BadLine : Addr} (aC_BadLine : PySem.W.nsIn K mainGlobals "BadLine" = some (some (.ref Cl_BadLine))) (eB_BadLine : exB K Cl_BadLine = true)
    {xd_BadLine xan_BadLine : Option Addr} {xsl_BadLine : Array (Option Value)} {xoc_BadLine xkV_BadLine xdc_BadLine xpm_BadLine xct_BadLine : Value} {cda_BadLine cc_BadLine fI_BadLine : Addr} (xi_BadLine : PySem.W.findIn K (.ref Cl_BadLine) "__init__" = some (some (.ref fI_BadLine))) (xt_BadLine : PySem.W.typeIn K (.ref fI_BadLine) = some (.type "function")) (xl_BadLine : K.lookup fI_BadLine = some ⟨xoc_BadLine, xd_BadLine, .func (PySem.W.ksFn "__init__" "BadLine.__init__" (defArgs s_BadLine_init) (defBody s_BadLine_init) (defScope s_BadLine_init) .none xkV_BadLine xdc_BadLine xpm_BadLine xan_BadLine (.ref cda_BadLine) xct_BadLine cc_BadLine), xsl_BadLine⟩) (xc_BadLine : PySem.W.codeIn K (.ref cda_BadLine) "BadLine.__init__" = true) (xs_BadLine : supB l.prog.main.file K Cl_BadLine cda_BadLine cc_BadLine = true)
    (xn_BadLine_line : PySem.W.findIn K (.ref Cl_BadLine) "line" = some none)
    {Cl_BadPolicy : Addr} (aC_BadPolicy : PySem.W.nsIn K mainGlobals "BadPolicy" = some (some (.ref Cl_BadPolicy))) (eB_BadPolicy : exB K Cl_BadPolicy = true)
    {xd_BadPolicy xan_BadPolicy : Option Addr} {xsl_BadPolicy : Array (Option Value)} {xoc_BadPolicy xkV_BadPolicy xdc_BadPolicy xpm_BadPolicy xct_BadPolicy : Value} {cda_BadPolicy cc_BadPolicy fI_BadPolicy : Addr} (xi_BadPolicy : PySem.W.findIn K (.ref Cl_BadPolicy) "__init__" = some (some (.ref fI_BadPolicy))) (xt_BadPolicy : PySem.W.typeIn K (.ref fI_BadPolicy) = some (.type "function")) (xl_BadPolicy : K.lookup fI_BadPolicy = some ⟨xoc_BadPolicy, xd_BadPolicy, .func (PySem.W.ksFn "__init__" "BadPolicy.__init__" (defArgs s_BadPolicy_init) (defBody s_BadPolicy_init) (defScope s_BadPolicy_init) .none xkV_BadPolicy xdc_BadPolicy xpm_BadPolicy xan_BadPolicy (.ref cda_BadPolicy) xct_BadPolicy cc_BadPolicy), xsl_BadPolicy⟩) (xc_BadPolicy : PySem.W.codeIn K (.ref cda_BadPolicy) "BadPolicy.__init__" = true) (xs_BadPolicy : supB l.prog.main.file K Cl_BadPolicy cda_BadPolicy cc_BadPolicy = true)
    (xn_BadPolicy_word : PySem.W.findIn K (.ref Cl_BadPolicy) "word" = some none)
    {Cl_BadRow : Addr} (aC_BadRow : PySem.W.nsIn K mainGlobals "BadRow" = some (some (.ref Cl_BadRow))) (eB_BadRow : exB K Cl_BadRow = true)
    {xd_BadRow xan_BadRow : Option Addr} {xsl_BadRow : Array (Option Value)} {xoc_BadRow xkV_BadRow xdc_BadRow xpm_BadRow xct_BadRow : Value} {cda_BadRow cc_BadRow fI_BadRow : Addr} (xi_BadRow : PySem.W.findIn K (.ref Cl_BadRow) "__init__" = some (some (.ref fI_BadRow))) (xt_BadRow : PySem.W.typeIn K (.ref fI_BadRow) = some (.type "function")) (xl_BadRow : K.lookup fI_BadRow = some ⟨xoc_BadRow, xd_BadRow, .func (PySem.W.ksFn "__init__" "BadRow.__init__" (defArgs s_BadRow_init) (defBody s_BadRow_init) (defScope s_BadRow_init) .none xkV_BadRow xdc_BadRow xpm_BadRow xan_BadRow (.ref cda_BadRow) xct_BadRow cc_BadRow), xsl_BadRow⟩) (xc_BadRow : PySem.W.codeIn K (.ref cda_BadRow) "BadRow.__init__" = true) (xs_BadRow : supB l.prog.main.file K Cl_BadRow cda_BadRow cc_BadRow = true)
    (xn_BadRow_row : PySem.W.findIn K (.ref Cl_BadRow) "row" = some none)
    {Cl_BadText : Addr} (aC_BadText : PySem.W.nsIn K mainGlobals "BadText" = some (some (.ref Cl_BadText))) (eB_BadText : exB K Cl_BadText = true)
    {xd_BadText xan_BadText : Option Addr} {xsl_BadText : Array (Option Value)} {xoc_BadText xkV_BadText xdc_BadText xpm_BadText xct_BadText : Value} {cda_BadText cc_BadText fI_BadText : Addr} (xi_BadText : PySem.W.findIn K (.ref Cl_BadText) "__init__" = some (some (.ref fI_BadText))) (xt_BadText : PySem.W.typeIn K (.ref fI_BadText) = some (.type "function")) (xl_BadText : K.lookup fI_BadText = some ⟨xoc_BadText, xd_BadText, .func (PySem.W.ksFn "__init__" "BadText.__init__" (defArgs s_BadText_init) (defBody s_BadText_init) (defScope s_BadText_init) .none xkV_BadText xdc_BadText xpm_BadText xan_BadText (.ref cda_BadText) xct_BadText cc_BadText), xsl_BadText⟩) (xc_BadText : PySem.W.codeIn K (.ref cda_BadText) "BadText.__init__" = true) (xs_BadText : supB l.prog.main.file K Cl_BadText cda_BadText cc_BadText = true)
    (xn_BadText_row : PySem.W.findIn K (.ref Cl_BadText) "row" = some none)
    {Cl_Fault : Addr} (aC_Fault : PySem.W.nsIn K mainGlobals "Fault" = some (some (.ref Cl_Fault))) (eB_Fault : exB K Cl_Fault = true)
    {xd_Fault xan_Fault : Option Addr} {xsl_Fault : Array (Option Value)} {xoc_Fault xkV_Fault xdc_Fault xpm_Fault xct_Fault : Value} {cda_Fault cc_Fault fI_Fault : Addr} (xi_Fault : PySem.W.findIn K (.ref Cl_Fault) "__init__" = some (some (.ref fI_Fault))) (xt_Fault : PySem.W.typeIn K (.ref fI_Fault) = some (.type "function")) (xl_Fault : K.lookup fI_Fault = some ⟨xoc_Fault, xd_Fault, .func (PySem.W.ksFn "__init__" "Fault.__init__" (defArgs s_Fault_init) (defBody s_Fault_init) (defScope s_Fault_init) .none xkV_Fault xdc_Fault xpm_Fault xan_Fault (.ref cda_Fault) xct_Fault cc_Fault), xsl_Fault⟩) (xc_Fault : PySem.W.codeIn K (.ref cda_Fault) "Fault.__init__" = true) (xs_Fault : supB l.prog.main.file K Cl_Fault cda_Fault cc_Fault = true)
    (xn_Fault_word : PySem.W.findIn K (.ref Cl_Fault) "word" = some none)
    (xn_Fault_row : PySem.W.findIn K (.ref Cl_Fault) "row" = some none)
    {Cl_HeapError : Addr} (aC_HeapError : PySem.W.nsIn K mainGlobals "HeapError" = some (some (.ref Cl_HeapError))) (eB_HeapError : exB K Cl_HeapError = true)
    (x0_HeapError : PySem.W.excIn K Cl_HeapError [.type "ValueError", .type "Exception", .type "BaseException", .type "object"] "ValueError.__new__" = true)
    {Cl_NoLink : Addr} (aC_NoLink : PySem.W.nsIn K mainGlobals "NoLink" = some (some (.ref Cl_NoLink))) (eB_NoLink : exB K Cl_NoLink = true)
    {xd_NoLink xan_NoLink : Option Addr} {xsl_NoLink : Array (Option Value)} {xoc_NoLink xkV_NoLink xdc_NoLink xpm_NoLink xct_NoLink : Value} {cda_NoLink cc_NoLink fI_NoLink : Addr} (xi_NoLink : PySem.W.findIn K (.ref Cl_NoLink) "__init__" = some (some (.ref fI_NoLink))) (xt_NoLink : PySem.W.typeIn K (.ref fI_NoLink) = some (.type "function")) (xl_NoLink : K.lookup fI_NoLink = some ⟨xoc_NoLink, xd_NoLink, .func (PySem.W.ksFn "__init__" "NoLink.__init__" (defArgs s_NoLink_init) (defBody s_NoLink_init) (defScope s_NoLink_init) .none xkV_NoLink xdc_NoLink xpm_NoLink xan_NoLink (.ref cda_NoLink) xct_NoLink cc_NoLink), xsl_NoLink⟩) (xc_NoLink : PySem.W.codeIn K (.ref cda_NoLink) "NoLink.__init__" = true) (xs_NoLink : supB l.prog.main.file K Cl_NoLink cda_NoLink cc_NoLink = true)
    (xn_NoLink_value : PySem.W.findIn K (.ref Cl_NoLink) "value" = some none)
    {Cl_NoMark : Addr} (aC_NoMark : PySem.W.nsIn K mainGlobals "NoMark" = some (some (.ref Cl_NoMark))) (eB_NoMark : exB K Cl_NoMark = true)
    (x0_NoMark : PySem.W.excIn K Cl_NoMark [.type "ValueError", .type "Exception", .type "BaseException", .type "object"] "ValueError.__new__" = true)
    {Cl_NoObject : Addr} (aC_NoObject : PySem.W.nsIn K mainGlobals "NoObject" = some (some (.ref Cl_NoObject))) (eB_NoObject : exB K Cl_NoObject = true)
    {xd_NoObject xan_NoObject : Option Addr} {xsl_NoObject : Array (Option Value)} {xoc_NoObject xkV_NoObject xdc_NoObject xpm_NoObject xct_NoObject : Value} {cda_NoObject cc_NoObject fI_NoObject : Addr} (xi_NoObject : PySem.W.findIn K (.ref Cl_NoObject) "__init__" = some (some (.ref fI_NoObject))) (xt_NoObject : PySem.W.typeIn K (.ref fI_NoObject) = some (.type "function")) (xl_NoObject : K.lookup fI_NoObject = some ⟨xoc_NoObject, xd_NoObject, .func (PySem.W.ksFn "__init__" "NoObject.__init__" (defArgs s_NoObject_init) (defBody s_NoObject_init) (defScope s_NoObject_init) .none xkV_NoObject xdc_NoObject xpm_NoObject xan_NoObject (.ref cda_NoObject) xct_NoObject cc_NoObject), xsl_NoObject⟩) (xc_NoObject : PySem.W.codeIn K (.ref cda_NoObject) "NoObject.__init__" = true) (xs_NoObject : supB l.prog.main.file K Cl_NoObject cda_NoObject cc_NoObject = true)
    (xn_NoObject_value : PySem.W.findIn K (.ref Cl_NoObject) "value" = some none)
    {Cl_NoProcedure : Addr} (aC_NoProcedure : PySem.W.nsIn K mainGlobals "NoProcedure" = some (some (.ref Cl_NoProcedure))) (eB_NoProcedure : exB K Cl_NoProcedure = true)
    {xd_NoProcedure xan_NoProcedure : Option Addr} {xsl_NoProcedure : Array (Option Value)} {xoc_NoProcedure xkV_NoProcedure xdc_NoProcedure xpm_NoProcedure xct_NoProcedure : Value} {cda_NoProcedure cc_NoProcedure fI_NoProcedure : Addr} (xi_NoProcedure : PySem.W.findIn K (.ref Cl_NoProcedure) "__init__" = some (some (.ref fI_NoProcedure))) (xt_NoProcedure : PySem.W.typeIn K (.ref fI_NoProcedure) = some (.type "function")) (xl_NoProcedure : K.lookup fI_NoProcedure = some ⟨xoc_NoProcedure, xd_NoProcedure, .func (PySem.W.ksFn "__init__" "NoProcedure.__init__" (defArgs s_NoProcedure_init) (defBody s_NoProcedure_init) (defScope s_NoProcedure_init) .none xkV_NoProcedure xdc_NoProcedure xpm_NoProcedure xan_NoProcedure (.ref cda_NoProcedure) xct_NoProcedure cc_NoProcedure), xsl_NoProcedure⟩) (xc_NoProcedure : PySem.W.codeIn K (.ref cda_NoProcedure) "NoProcedure.__init__" = true) (xs_NoProcedure : supB l.prog.main.file K Cl_NoProcedure cda_NoProcedure cc_NoProcedure = true)
    (xn_NoProcedure_row : PySem.W.findIn K (.ref Cl_NoProcedure) "row" = some none)
    {Cl_TooMany : Addr} (aC_TooMany : PySem.W.nsIn K mainGlobals "TooMany" = some (some (.ref Cl_TooMany))) (eB_TooMany : exB K Cl_TooMany = true)
    {xd_TooMany xan_TooMany : Option Addr} {xsl_TooMany : Array (Option Value)} {xoc_TooMany xkV_TooMany xdc_TooMany xpm_TooMany xct_TooMany : Value} {cda_TooMany cc_TooMany fI_TooMany : Addr} (xi_TooMany : PySem.W.findIn K (.ref Cl_TooMany) "__init__" = some (some (.ref fI_TooMany))) (xt_TooMany : PySem.W.typeIn K (.ref fI_TooMany) = some (.type "function")) (xl_TooMany : K.lookup fI_TooMany = some ⟨xoc_TooMany, xd_TooMany, .func (PySem.W.ksFn "__init__" "TooMany.__init__" (defArgs s_TooMany_init) (defBody s_TooMany_init) (defScope s_TooMany_init) .none xkV_TooMany xdc_TooMany xpm_TooMany xan_TooMany (.ref cda_TooMany) xct_TooMany cc_TooMany), xsl_TooMany⟩) (xc_TooMany : PySem.W.codeIn K (.ref cda_TooMany) "TooMany.__init__" = true) (xs_TooMany : supB l.prog.main.file K Cl_TooMany cda_TooMany cc_TooMany = true)
    (xn_TooMany_count : PySem.W.findIn K (.ref Cl_TooMany) "count" = some none)
    {Cl_Twice : Addr} (aC_Twice : PySem.W.nsIn K mainGlobals "Twice" = some (some (.ref Cl_Twice))) (eB_Twice : exB K Cl_Twice = true)
    {xd_Twice xan_Twice : Option Addr} {xsl_Twice : Array (Option Value)} {xoc_Twice xkV_Twice xdc_Twice xpm_Twice xct_Twice : Value} {cda_Twice cc_Twice fI_Twice : Addr} (xi_Twice : PySem.W.findIn K (.ref Cl_Twice) "__init__" = some (some (.ref fI_Twice))) (xt_Twice : PySem.W.typeIn K (.ref fI_Twice) = some (.type "function")) (xl_Twice : K.lookup fI_Twice = some ⟨xoc_Twice, xd_Twice, .func (PySem.W.ksFn "__init__" "Twice.__init__" (defArgs s_Twice_init) (defBody s_Twice_init) (defScope s_Twice_init) .none xkV_Twice xdc_Twice xpm_Twice xan_Twice (.ref cda_Twice) xct_Twice cc_Twice), xsl_Twice⟩) (xc_Twice : PySem.W.codeIn K (.ref cda_Twice) "Twice.__init__" = true) (xs_Twice : supB l.prog.main.file K Cl_Twice cda_Twice cc_Twice = true)
    (xn_Twice_row : PySem.W.findIn K (.ref Cl_Twice) "row" = some none)
    {Cl_WrongCount : Addr} (aC_WrongCount : PySem.W.nsIn K mainGlobals "WrongCount" = some (some (.ref Cl_WrongCount))) (eB_WrongCount : exB K Cl_WrongCount = true)
    {xd_WrongCount xan_WrongCount : Option Addr} {xsl_WrongCount : Array (Option Value)} {xoc_WrongCount xkV_WrongCount xdc_WrongCount xpm_WrongCount xct_WrongCount : Value} {cda_WrongCount cc_WrongCount fI_WrongCount : Addr} (xi_WrongCount : PySem.W.findIn K (.ref Cl_WrongCount) "__init__" = some (some (.ref fI_WrongCount))) (xt_WrongCount : PySem.W.typeIn K (.ref fI_WrongCount) = some (.type "function")) (xl_WrongCount : K.lookup fI_WrongCount = some ⟨xoc_WrongCount, xd_WrongCount, .func (PySem.W.ksFn "__init__" "WrongCount.__init__" (defArgs s_WrongCount_init) (defBody s_WrongCount_init) (defScope s_WrongCount_init) .none xkV_WrongCount xdc_WrongCount xpm_WrongCount xan_WrongCount (.ref cda_WrongCount) xct_WrongCount cc_WrongCount), xsl_WrongCount⟩) (xc_WrongCount : PySem.W.codeIn K (.ref cda_WrongCount) "WrongCount.__init__" = true) (xs_WrongCount : supB l.prog.main.file K Cl_WrongCount cda_WrongCount cc_WrongCount = true)
    (xn_WrongCount_row : PySem.W.findIn K (.ref Cl_WrongCount) "row" = some none)
    (hts : (l.prog.main.scope.names.lookup ("super" : Str)).isSome = false)
    (tT : subT K [Cl_BadRow, Cl_BadBlock, Cl_Twice, Cl_NoProcedure, Cl_WrongCount, Cl_BadPolicy, Cl_Fault, Cl_NoObject, Cl_NoLink, Cl_TooMany, Cl_BadText, Cl_NoMark, Cl_BadLine, Cl_HeapError] (([Cl_BadRow, Cl_BadBlock, Cl_Twice, Cl_NoProcedure, Cl_WrongCount, Cl_BadPolicy, Cl_Fault, Cl_NoObject, Cl_NoLink, Cl_TooMany, Cl_BadText, Cl_NoMark, Cl_BadLine, Cl_HeapError] : List Addr).map Value.ref ++ [.type "ValueError"]) tabK = true)
    (tN : nofB K [Cl_BadRow, Cl_BadBlock, Cl_Twice, Cl_NoProcedure, Cl_WrongCount, Cl_BadPolicy, Cl_Fault, Cl_NoObject, Cl_NoLink, Cl_TooMany, Cl_BadText, Cl_NoMark, Cl_BadLine, Cl_HeapError] = true)
    (a0 : PySem.W.nsIn K mainGlobals "_law_source" = some (some (.ref f0))) (l0 : K.lookup f0 = some ⟨oc0, od0, .func (PySem.W.fnOf "_law_source" "_law_source" (defArgs s__law_source) (defBody s__law_source) (defScope s__law_source) .none kV0 dc0 pm0 an0 cd0 ct0), sl0⟩) (c0 : PySem.W.codeIn K cd0 "_law_source" = true) (k0 : PySem.W.keepIn K (.ref f0) = true)
    (a1 : PySem.W.nsIn K mainGlobals "_law_take" = some (some (.ref f1))) (l1 : K.lookup f1 = some ⟨oc1, od1, .func (PySem.W.fnOf "_law_take" "_law_take" (defArgs s__law_take) (defBody s__law_take) (defScope s__law_take) .none kV1 dc1 pm1 an1 cd1 ct1), sl1⟩) (c1 : PySem.W.codeIn K cd1 "_law_take" = true) (k1 : PySem.W.keepIn K (.ref f1) = true)
    (a2 : PySem.W.nsIn K mainGlobals "_law_of" = some (some (.ref f2))) (l2 : K.lookup f2 = some ⟨oc2, od2, .func (PySem.W.fnOf "_law_of" "_law_of" (defArgs s__law_of) (defBody s__law_of) (defScope s__law_of) .none kV2 dc2 pm2 an2 cd2 ct2), sl2⟩) (c2 : PySem.W.codeIn K cd2 "_law_of" = true) (k2 : PySem.W.keepIn K (.ref f2) = true)
    (a3 : PySem.W.nsIn K mainGlobals "_law_drawn" = some (some (.ref f3))) (l3 : K.lookup f3 = some ⟨oc3, od3, .func (PySem.W.fnOf "_law_drawn" "_law_drawn" (defArgs s__law_drawn_x) (defBody s__law_drawn_x) (defScope s__law_drawn_x) .none kV3 dc3 pm3 an3 cd3 ct3), sl3⟩) (c3 : PySem.W.codeIn K cd3 "_law_drawn" = true) (k3 : PySem.W.keepIn K (.ref f3) = true)
    (a8 : PySem.W.nsIn K mainGlobals "_law_shown" = some (some (.ref f8))) (l8 : K.lookup f8 = some ⟨oc8, od8, .func (PySem.W.fnOf "_law_shown" "_law_shown" (defArgs s__law_shown) (defBody s__law_shown) (defScope s__law_shown) .none kV8 dc8 pm8 an8 cd8 ct8), sl8⟩) (c8 : PySem.W.codeIn K cd8 "_law_shown" = true) (k8 : PySem.W.keepIn K (.ref f8) = true)
    (a9 : PySem.W.nsIn K mainGlobals "_law_kinds" = some (some (.ref f9))) (l9 : K.lookup f9 = some ⟨oc9, od9, .func (PySem.W.fnOf "_law_kinds" "_law_kinds" (defArgs s__law_kinds) (defBody s__law_kinds) (defScope s__law_kinds) .none kV9 dc9 pm9 an9 cd9 ct9), sl9⟩) (c9 : PySem.W.codeIn K cd9 "_law_kinds" = true) (k9 : PySem.W.keepIn K (.ref f9) = true)
    (a10 : PySem.W.nsIn K mainGlobals "_law_is_single" = some (some (.ref f10))) (l10 : K.lookup f10 = some ⟨oc10, od10, .func (PySem.W.fnOf "_law_is_single" "_law_is_single" (defArgs s__law_is_single) (defBody s__law_is_single) (defScope s__law_is_single) .none kV10 dc10 pm10 an10 cd10 ct10), sl10⟩) (c10 : PySem.W.codeIn K cd10 "_law_is_single" = true) (k10 : PySem.W.keepIn K (.ref f10) = true)
    (a11 : PySem.W.nsIn K mainGlobals "_law_right" = some (some (.ref f11))) (l11 : K.lookup f11 = some ⟨oc11, od11, .func (PySem.W.fnOf "_law_right" "_law_right" (defArgs s__law_right) (defBody s__law_right) (defScope s__law_right) .none kV11 dc11 pm11 an11 cd11 ct11), sl11⟩) (c11 : PySem.W.codeIn K cd11 "_law_right" = true) (k11 : PySem.W.keepIn K (.ref f11) = true)
    (a12 : PySem.W.nsIn K mainGlobals "law" = some (some (.ref f12))) (l12 : K.lookup f12 = some ⟨oc12, od12, .func (PySem.W.fnOf "law" "law" (defArgs s_law) (defBody s_law) (defScope s_law) .none kV12 dc12 pm12 an12 cd12 ct12), sl12⟩) (c12 : PySem.W.codeIn K cd12 "law" = true) (k12 : PySem.W.keepIn K (.ref f12) = true)
    (z_ValueError : PySem.W.nsIn K mainGlobals "ValueError" = some none)
    (z_abs : PySem.W.nsIn K mainGlobals "abs" = some none)
    (z_all : PySem.W.nsIn K mainGlobals "all" = some none)
    (z_bool : PySem.W.nsIn K mainGlobals "bool" = some none)
    (z_int : PySem.W.nsIn K mainGlobals "int" = some none)
    (z_isinstance : PySem.W.nsIn K mainGlobals "isinstance" = some none)
    (z_len : PySem.W.nsIn K mainGlobals "len" = some none)
    (z_max : PySem.W.nsIn K mainGlobals "max" = some none)
    (z_min : PySem.W.nsIn K mainGlobals "min" = some none)
    (z_range : PySem.W.nsIn K mainGlobals "range" = some none)
    (z_repr : PySem.W.nsIn K mainGlobals "repr" = some none)
    (z_str : PySem.W.nsIn K mainGlobals "str" = some none)
    (z_super : PySem.W.nsIn K mainGlobals "super" = some none) :
    ∃ fd : FuncData, (∀ (s : Shared) (v : Value), BindsTo s fd ⟨[v], []⟩ [("_law_script", v)]) ∧ ∀ base : Heap, K.In base → base.Ns mainGlobals mg → FnG l.prog w K mg base CX0 8 fa fd ["_law_script"] (spC K S_law) := by
  have e := hfa.symm.trans (PySem.W.mg_of X G a12)
  cases e
  have F0 := fun_mk (st := s__law_source) l0 c0 k0
  have F1 := fun_mk (st := s__law_take) l1 c1 k1
  have F2 := fun_mk (st := s__law_of) l2 c2 k2
  have F3 := fun_mk (st := s__law_drawn_x) l3 c3 k3
  have F8 := fun_mk (st := s__law_shown) l8 c8 k8
  have F9 := fun_mk (st := s__law_kinds) l9 c9 k9
  have F10 := fun_mk (st := s__law_is_single) l10 c10 k10
  have F11 := fun_mk (st := s__law_right) l11 c11 k11
  have F12 := fun_mk (st := s_law) l12 c12 k12
  have I_BadBlock := fi_BadBlock (P := l.prog) (w := w) (mg := mg) xl_BadBlock xc_BadBlock (supB_ok (exB_ok eB_BadBlock) hts xs_BadBlock) (PySem.W.mg_none_of X G z_super) xn_BadBlock_row
  have I_BadLine := fi_BadLine (P := l.prog) (w := w) (mg := mg) xl_BadLine xc_BadLine (supB_ok (exB_ok eB_BadLine) hts xs_BadLine) (PySem.W.mg_none_of X G z_super) xn_BadLine_line
  have I_BadPolicy := fi_BadPolicy (P := l.prog) (w := w) (mg := mg) xl_BadPolicy xc_BadPolicy (supB_ok (exB_ok eB_BadPolicy) hts xs_BadPolicy) (PySem.W.mg_none_of X G z_super) xn_BadPolicy_word
  have I_BadRow := fi_BadRow (P := l.prog) (w := w) (mg := mg) xl_BadRow xc_BadRow (supB_ok (exB_ok eB_BadRow) hts xs_BadRow) (PySem.W.mg_none_of X G z_super) xn_BadRow_row
  have I_BadText := fi_BadText (P := l.prog) (w := w) (mg := mg) xl_BadText xc_BadText (supB_ok (exB_ok eB_BadText) hts xs_BadText) (PySem.W.mg_none_of X G z_super) xn_BadText_row
  have I_Fault := fi_Fault (P := l.prog) (w := w) (mg := mg) xl_Fault xc_Fault (supB_ok (exB_ok eB_Fault) hts xs_Fault) (PySem.W.mg_none_of X G z_super) xn_Fault_word xn_Fault_row
  have I_NoLink := fi_NoLink (P := l.prog) (w := w) (mg := mg) xl_NoLink xc_NoLink (supB_ok (exB_ok eB_NoLink) hts xs_NoLink) (PySem.W.mg_none_of X G z_super) xn_NoLink_value
  have I_NoObject := fi_NoObject (P := l.prog) (w := w) (mg := mg) xl_NoObject xc_NoObject (supB_ok (exB_ok eB_NoObject) hts xs_NoObject) (PySem.W.mg_none_of X G z_super) xn_NoObject_value
  have I_NoProcedure := fi_NoProcedure (P := l.prog) (w := w) (mg := mg) xl_NoProcedure xc_NoProcedure (supB_ok (exB_ok eB_NoProcedure) hts xs_NoProcedure) (PySem.W.mg_none_of X G z_super) xn_NoProcedure_row
  have I_TooMany := fi_TooMany (P := l.prog) (w := w) (mg := mg) xl_TooMany xc_TooMany (supB_ok (exB_ok eB_TooMany) hts xs_TooMany) (PySem.W.mg_none_of X G z_super) xn_TooMany_count
  have I_Twice := fi_Twice (P := l.prog) (w := w) (mg := mg) xl_Twice xc_Twice (supB_ok (exB_ok eB_Twice) hts xs_Twice) (PySem.W.mg_none_of X G z_super) xn_Twice_row
  have I_WrongCount := fi_WrongCount (P := l.prog) (w := w) (mg := mg) xl_WrongCount xc_WrongCount (supB_ok (exB_ok eB_WrongCount) hts xs_WrongCount) (PySem.W.mg_none_of X G z_super) xn_WrongCount_row
  have TC : Tb K [Cl_BadRow, Cl_BadBlock, Cl_Twice, Cl_NoProcedure, Cl_WrongCount, Cl_BadPolicy, Cl_Fault, Cl_NoObject, Cl_NoLink, Cl_TooMany, Cl_BadText, Cl_NoMark, Cl_BadLine, Cl_HeapError] := ⟨rfl, fun C h => by (simp only [List.mem_cons, List.not_mem_nil, or_false] at h; rcases h with rfl | rfl | rfl | rfl | rfl | rfl | rfl | rfl | rfl | rfl | rfl | rfl | rfl | rfl <;> exact exB_ok (by assumption)), tT⟩
  have NF : NoFs K [Cl_BadRow, Cl_BadBlock, Cl_Twice, Cl_NoProcedure, Cl_WrongCount, Cl_BadPolicy, Cl_Fault, Cl_NoObject, Cl_NoLink, Cl_TooMany, Cl_BadText, Cl_NoMark, Cl_BadLine, Cl_HeapError] := nofB_ok tN
  refine ⟨PySem.W.fnOf "law" "law" (defArgs s_law) (defBody s_law) (defScope s_law) .none kV12 dc12 pm12 an12 cd12 ct12, fun s v => .of_eq rfl, fun base _ _ => ?_⟩
  have XK_BadBlock : MkXK l.prog w K mg base 1 "BadBlock" Cl_BadBlock ["row"] ["row"] gV1 := ⟨exB_ok eB_BadBlock, PySem.W.mg_of X G aC_BadBlock, fI_BadBlock, _, _, _, xi_BadBlock, xt_BadBlock, I_BadBlock base, kbind_row⟩
  have XV_BadBlock : MkX l.prog w K mg base 1 "BadBlock" Cl_BadBlock ["row"] := ⟨exB_ok eB_BadBlock, PySem.W.mg_of X G aC_BadBlock, fI_BadBlock, _, _, xi_BadBlock, xt_BadBlock, I_BadBlock base, bind_row⟩
  have XK_BadRow : MkXK l.prog w K mg base 1 "BadRow" Cl_BadRow ["row"] ["row"] gV1 := ⟨exB_ok eB_BadRow, PySem.W.mg_of X G aC_BadRow, fI_BadRow, _, _, _, xi_BadRow, xt_BadRow, I_BadRow base, kbind_row⟩
  have XV_BadRow : MkX l.prog w K mg base 1 "BadRow" Cl_BadRow ["row"] := ⟨exB_ok eB_BadRow, PySem.W.mg_of X G aC_BadRow, fI_BadRow, _, _, xi_BadRow, xt_BadRow, I_BadRow base, bind_row⟩
  have XK_NoProcedure : MkXK l.prog w K mg base 1 "NoProcedure" Cl_NoProcedure ["row"] ["row"] gV1 := ⟨exB_ok eB_NoProcedure, PySem.W.mg_of X G aC_NoProcedure, fI_NoProcedure, _, _, _, xi_NoProcedure, xt_NoProcedure, I_NoProcedure base, kbind_row⟩
  have XV_NoProcedure : MkX l.prog w K mg base 1 "NoProcedure" Cl_NoProcedure ["row"] := ⟨exB_ok eB_NoProcedure, PySem.W.mg_of X G aC_NoProcedure, fI_NoProcedure, _, _, xi_NoProcedure, xt_NoProcedure, I_NoProcedure base, bind_row⟩
  have XK_Twice : MkXK l.prog w K mg base 1 "Twice" Cl_Twice ["row"] ["row"] gV1 := ⟨exB_ok eB_Twice, PySem.W.mg_of X G aC_Twice, fI_Twice, _, _, _, xi_Twice, xt_Twice, I_Twice base, kbind_row⟩
  have XV_Twice : MkX l.prog w K mg base 1 "Twice" Cl_Twice ["row"] := ⟨exB_ok eB_Twice, PySem.W.mg_of X G aC_Twice, fI_Twice, _, _, xi_Twice, xt_Twice, I_Twice base, bind_row⟩
  have XK_BadText : MkXK l.prog w K mg base 1 "BadText" Cl_BadText ["row"] ["row"] gV1 := ⟨exB_ok eB_BadText, PySem.W.mg_of X G aC_BadText, fI_BadText, _, _, _, xi_BadText, xt_BadText, I_BadText base, kbind_row⟩
  have XV_BadText : MkX l.prog w K mg base 1 "BadText" Cl_BadText ["row"] := ⟨exB_ok eB_BadText, PySem.W.mg_of X G aC_BadText, fI_BadText, _, _, xi_BadText, xt_BadText, I_BadText base, bind_row⟩
  have XK_WrongCount : MkXK l.prog w K mg base 1 "WrongCount" Cl_WrongCount ["row"] ["row"] gV1 := ⟨exB_ok eB_WrongCount, PySem.W.mg_of X G aC_WrongCount, fI_WrongCount, _, _, _, xi_WrongCount, xt_WrongCount, I_WrongCount base, kbind_row⟩
  have XV_WrongCount : MkX l.prog w K mg base 1 "WrongCount" Cl_WrongCount ["row"] := ⟨exB_ok eB_WrongCount, PySem.W.mg_of X G aC_WrongCount, fI_WrongCount, _, _, xi_WrongCount, xt_WrongCount, I_WrongCount base, bind_row⟩
  have XK_BadPolicy : MkXK l.prog w K mg base 1 "BadPolicy" Cl_BadPolicy ["word"] ["word"] gV1 := ⟨exB_ok eB_BadPolicy, PySem.W.mg_of X G aC_BadPolicy, fI_BadPolicy, _, _, _, xi_BadPolicy, xt_BadPolicy, I_BadPolicy base, kbind_word⟩
  have XV_BadPolicy : MkX l.prog w K mg base 1 "BadPolicy" Cl_BadPolicy ["word"] := ⟨exB_ok eB_BadPolicy, PySem.W.mg_of X G aC_BadPolicy, fI_BadPolicy, _, _, xi_BadPolicy, xt_BadPolicy, I_BadPolicy base, bind_word⟩
  have XK_Fault : MkXK l.prog w K mg base 1 "Fault" Cl_Fault ["word", "row"] ["row", "word"] gV2 := ⟨exB_ok eB_Fault, PySem.W.mg_of X G aC_Fault, fI_Fault, _, _, _, xi_Fault, xt_Fault, I_Fault base, kbind_wr⟩
  have XV_Fault : MkX l.prog w K mg base 1 "Fault" Cl_Fault ["word", "row"] := ⟨exB_ok eB_Fault, PySem.W.mg_of X G aC_Fault, fI_Fault, _, _, xi_Fault, xt_Fault, I_Fault base, bind_wr⟩
  have XK_NoLink : MkXK l.prog w K mg base 1 "NoLink" Cl_NoLink ["value"] ["value"] gV1 := ⟨exB_ok eB_NoLink, PySem.W.mg_of X G aC_NoLink, fI_NoLink, _, _, _, xi_NoLink, xt_NoLink, I_NoLink base, kbind_value⟩
  have XV_NoLink : MkX l.prog w K mg base 1 "NoLink" Cl_NoLink ["value"] := ⟨exB_ok eB_NoLink, PySem.W.mg_of X G aC_NoLink, fI_NoLink, _, _, xi_NoLink, xt_NoLink, I_NoLink base, bind_value⟩
  have XK_NoObject : MkXK l.prog w K mg base 1 "NoObject" Cl_NoObject ["value"] ["value"] gV1 := ⟨exB_ok eB_NoObject, PySem.W.mg_of X G aC_NoObject, fI_NoObject, _, _, _, xi_NoObject, xt_NoObject, I_NoObject base, kbind_value⟩
  have XV_NoObject : MkX l.prog w K mg base 1 "NoObject" Cl_NoObject ["value"] := ⟨exB_ok eB_NoObject, PySem.W.mg_of X G aC_NoObject, fI_NoObject, _, _, xi_NoObject, xt_NoObject, I_NoObject base, bind_value⟩
  have XK_TooMany : MkXK l.prog w K mg base 1 "TooMany" Cl_TooMany ["count"] ["count"] gV1 := ⟨exB_ok eB_TooMany, PySem.W.mg_of X G aC_TooMany, fI_TooMany, _, _, _, xi_TooMany, xt_TooMany, I_TooMany base, kbind_count⟩
  have XV_TooMany : MkX l.prog w K mg base 1 "TooMany" Cl_TooMany ["count"] := ⟨exB_ok eB_TooMany, PySem.W.mg_of X G aC_TooMany, fI_TooMany, _, _, xi_TooMany, xt_TooMany, I_TooMany base, bind_count⟩
  have XK_BadLine : MkXK l.prog w K mg base 1 "BadLine" Cl_BadLine ["line"] ["line"] gV1 := ⟨exB_ok eB_BadLine, PySem.W.mg_of X G aC_BadLine, fI_BadLine, _, _, _, xi_BadLine, xt_BadLine, I_BadLine base, kbind_line⟩
  have XV_BadLine : MkX l.prog w K mg base 1 "BadLine" Cl_BadLine ["line"] := ⟨exB_ok eB_BadLine, PySem.W.mg_of X G aC_BadLine, fI_BadLine, _, _, xi_BadLine, xt_BadLine, I_BadLine base, bind_line⟩
  have X0_HeapError : Mk0X K mg "HeapError" Cl_HeapError := ⟨exB_ok eB_HeapError, PySem.W.mg_of X G aC_HeapError, x0_HeapError⟩
  have X0_NoMark : Mk0X K mg "NoMark" Cl_NoMark := ⟨exB_ok eB_NoMark, PySem.W.mg_of X G aC_NoMark, x0_NoMark⟩
  have O__law_source := ok__law_source (P := l.prog) (w := w) (mg := mg) (base := base) F0 (PySem.W.mg_none_of X G z_abs) (PySem.W.mg_none_of X G z_int) (PySem.W.mg_none_of X G z_len)
  have C__law_source : Cal l.prog w K mg base 1 "_law_source" ["_law_script", "_law_k"] S__law_source := ⟨_, _, O__law_source, PySem.W.mg_of X G a0, F0.kp, F0.binds (ps := ["_law_script", "_law_k"]) fun _ _ _ _ _ _ us hl => match us, hl with | [_, _], _ => rfl⟩
  have O__law_take := ok__law_take (P := l.prog) (w := w) (mg := mg) (base := base) F1
  have C__law_take : Cal l.prog w K mg base 1 "_law_take" ["_law_pot", "_law_many"] S__law_take := ⟨_, _, O__law_take, PySem.W.mg_of X G a1, F1.kp, F1.binds (ps := ["_law_pot", "_law_many"]) fun _ _ _ _ _ _ us hl => match us, hl with | [_, _], _ => rfl⟩
  have O__law_of := ok__law_of (P := l.prog) (w := w) (mg := mg) (base := base) F2 (PySem.W.mg_none_of X G z_len) C__law_take
  have C__law_of : Cal l.prog w K mg base 2 "_law_of" ["_law_pot", "_law_some"] S__law_of := ⟨_, _, O__law_of, PySem.W.mg_of X G a2, F2.kp, F2.binds (ps := ["_law_pot", "_law_some"]) fun _ _ _ _ _ _ us hl => match us, hl with | [_, _], _ => rfl⟩
  have C__law_drawn_x : Cal l.prog w K mg base 1 "_law_drawn" ["_law_pot", "_law_depth"] S__law_drawn_x := ⟨_, _, fn_false, PySem.W.mg_of X G a3, F3.kp, F3.binds (ps := ["_law_pot", "_law_depth"]) fun _ _ _ _ _ _ us hl => match us, hl with | [_, _], _ => rfl⟩
  have O__law_drawn_0 := ok__law_drawn_0 (P := l.prog) (w := w) (mg := mg) (base := base) F3 (PySem.W.mg_none_of X G z_str) C__law_take C__law_drawn_x C__law_of
  have C__law_drawn_0 : Cal l.prog w K mg base 3 "_law_drawn" ["_law_pot", "_law_depth"] S__law_drawn_0 := ⟨_, _, O__law_drawn_0, PySem.W.mg_of X G a3, F3.kp, F3.binds (ps := ["_law_pot", "_law_depth"]) fun _ _ _ _ _ _ us hl => match us, hl with | [_, _], _ => rfl⟩
  have O__law_drawn_1 := ok__law_drawn_1 (P := l.prog) (w := w) (mg := mg) (base := base) F3 (PySem.W.mg_none_of X G z_str) C__law_take C__law_drawn_0 C__law_of
  have C__law_drawn_1 : Cal l.prog w K mg base 4 "_law_drawn" ["_law_pot", "_law_depth"] S__law_drawn_1 := ⟨_, _, O__law_drawn_1, PySem.W.mg_of X G a3, F3.kp, F3.binds (ps := ["_law_pot", "_law_depth"]) fun _ _ _ _ _ _ us hl => match us, hl with | [_, _], _ => rfl⟩
  have O__law_drawn_2 := ok__law_drawn_2 (P := l.prog) (w := w) (mg := mg) (base := base) F3 (PySem.W.mg_none_of X G z_str) C__law_take C__law_drawn_1 C__law_of
  have C__law_drawn_2 : Cal l.prog w K mg base 5 "_law_drawn" ["_law_pot", "_law_depth"] S__law_drawn_2 := ⟨_, _, O__law_drawn_2, PySem.W.mg_of X G a3, F3.kp, F3.binds (ps := ["_law_pot", "_law_depth"]) fun _ _ _ _ _ _ us hl => match us, hl with | [_, _], _ => rfl⟩
  have O__law_drawn_3 := ok__law_drawn_3 (P := l.prog) (w := w) (mg := mg) (base := base) F3 (PySem.W.mg_none_of X G z_str) C__law_take C__law_drawn_2 C__law_of
  have C__law_drawn_3 : Cal l.prog w K mg base 6 "_law_drawn" ["_law_pot", "_law_depth"] S__law_drawn_3 := ⟨_, _, O__law_drawn_3, PySem.W.mg_of X G a3, F3.kp, F3.binds (ps := ["_law_pot", "_law_depth"]) fun _ _ _ _ _ _ us hl => match us, hl with | [_, _], _ => rfl⟩
  have O__law_shown := ok__law_shown (P := l.prog) (w := w) (mg := mg) (base := base) F8 (PySem.W.mg_none_of X G z_bool) (PySem.W.mg_none_of X G z_isinstance) (PySem.W.mg_none_of X G z_repr) (PySem.W.mg_none_of X G z_str)
  have C__law_shown : CalG l.prog w K mg base 1 "_law_shown" ["_law_thing"] S__law_shown := ⟨_, _, O__law_shown, PySem.W.mg_of X G a8, F8.kp, F8.binds (ps := ["_law_thing"]) fun _ _ _ _ _ _ us hl => match us, hl with | [_], _ => rfl⟩
  have O__law_kinds := ok__law_kinds (P := l.prog) (w := w) (mg := mg) (base := base) F9 (PySem.W.mg_none_of X G z_isinstance) (PySem.W.mg_of X G aC_Twice) (PySem.W.mg_of X G aC_BadBlock) (PySem.W.mg_of X G aC_BadRow) (PySem.W.mg_of X G aC_BadPolicy) (PySem.W.mg_of X G aC_WrongCount) (PySem.W.mg_of X G aC_NoProcedure) (PySem.W.mg_of X G aC_NoLink) (PySem.W.mg_of X G aC_NoObject) (PySem.W.mg_of X G aC_Fault) (PySem.W.mg_of X G aC_NoMark) (PySem.W.mg_of X G aC_BadText) (PySem.W.mg_of X G aC_TooMany) (PySem.W.mg_of X G aC_BadLine) TC
  have C__law_kinds : Cal l.prog w K mg base 1 "_law_kinds" ["_law_error"] (S__law_kinds [Cl_BadRow, Cl_BadBlock, Cl_Twice, Cl_NoProcedure, Cl_WrongCount, Cl_BadPolicy, Cl_Fault, Cl_NoObject, Cl_NoLink, Cl_TooMany, Cl_BadText, Cl_NoMark, Cl_BadLine, Cl_HeapError]) := ⟨_, _, O__law_kinds, PySem.W.mg_of X G a9, F9.kp, F9.binds (ps := ["_law_error"]) fun _ _ _ _ _ _ us hl => match us, hl with | [_], _ => rfl⟩
  have O__law_is_single := ok__law_is_single (P := l.prog) (w := w) (mg := mg) (base := base) F10 (PySem.W.mg_none_of X G z_ValueError) (PySem.W.mg_none_of X G z_isinstance) (PySem.W.mg_none_of X G z_range) (PySem.W.mg_of X G aC_HeapError) TC C__law_kinds
  have C__law_is_single : Cal l.prog w K mg base 2 "_law_is_single" ["_law_error", "_law_spot"] (S__law_is_single [Cl_BadRow, Cl_BadBlock, Cl_Twice, Cl_NoProcedure, Cl_WrongCount, Cl_BadPolicy, Cl_Fault, Cl_NoObject, Cl_NoLink, Cl_TooMany, Cl_BadText, Cl_NoMark, Cl_BadLine, Cl_HeapError]) := ⟨_, _, O__law_is_single, PySem.W.mg_of X G a10, F10.kp, F10.binds (ps := ["_law_error", "_law_spot"]) fun _ _ _ _ _ _ us hl => match us, hl with | [_, _], _ => rfl⟩
  have O__law_right := ok__law_right (P := l.prog) (w := w) (mg := mg) (base := base) F11 XK_BadBlock XV_BadBlock XK_BadRow XV_BadRow XK_NoProcedure XV_NoProcedure XK_Twice XV_Twice XK_BadText XV_BadText XK_WrongCount XV_WrongCount XK_BadPolicy XV_BadPolicy XK_Fault XV_Fault XK_NoLink XV_NoLink XK_NoObject XV_NoObject XK_TooMany XV_TooMany XK_BadLine XV_BadLine X0_HeapError X0_NoMark TC NF C__law_drawn_2 C__law_drawn_3 C__law_is_single C__law_shown
  have C__law_right : CalG l.prog w K mg base 7 "_law_right" ["_law_pot"] S__law_right := ⟨_, _, O__law_right, PySem.W.mg_of X G a11, F11.kp, F11.binds (ps := ["_law_pot"]) fun _ _ _ _ _ _ us hl => match us, hl with | [_], _ => rfl⟩
  exact ok_law F12 (PySem.W.mg_none_of X G z_all) (PySem.W.mg_none_of X G z_len) (PySem.W.mg_none_of X G z_max) (PySem.W.mg_none_of X G z_min) (PySem.W.mg_none_of X G z_range) C__law_source C__law_right
end K79
open PySem PySem.W PyProof.Rows
set_option maxHeartbeats 0 in
theorem PySem.Challenge.cw_crossheaps_k79_errors_by_themselves_holds : PySem.Challenge.rw_crossheaps_k79_errors_by_themselves.Holds := by
  w_on; o_law; k_head; (case hw => w_witness2)
  k_fill
  refine Gu.walk_G (l := PySem.Challenge.rw_crossheaps_k79_errors_by_themselves) (n := 63) (k := 8) (x := "_law_script") (cx := fun _ => L2.CX0) (sp := fun w => Cw.spC _ K79.S_law) rfl (by decide) rfl ⟨rfl, by decide, by decide⟩ (fun w h Y => PySem.W.kIn_of Y) ?F (fun w H a ns hl hO hS => Cw.law_start hS (K79.law_pre hl)) (fun _ _ _ _ _ h => h)
  case F =>
    intro w mg fa h KX G hmg
    refine' K79.all_mk KX G hmg ?aC_BadBlock ?eB_BadBlock ?xi_BadBlock ?xt_BadBlock ?xl_BadBlock ?xc_BadBlock ?xs_BadBlock ?xn_BadBlock_row ?aC_BadLine ?eB_BadLine ?xi_BadLine ?xt_BadLine ?xl_BadLine ?xc_BadLine ?xs_BadLine ?xn_BadLine_line ?aC_BadPolicy ?eB_BadPolicy ?xi_BadPolicy ?xt_BadPolicy ?xl_BadPolicy ?xc_BadPolicy ?xs_BadPolicy ?xn_BadPolicy_word ?aC_BadRow ?eB_BadRow ?xi_BadRow ?xt_BadRow ?xl_BadRow ?xc_BadRow ?xs_BadRow ?xn_BadRow_row ?aC_BadText ?eB_BadText ?xi_BadText ?xt_BadText ?xl_BadText ?xc_BadText ?xs_BadText ?xn_BadText_row ?aC_Fault ?eB_Fault ?xi_Fault ?xt_Fault ?xl_Fault ?xc_Fault ?xs_Fault ?xn_Fault_word ?xn_Fault_row ?aC_HeapError ?eB_HeapError ?x0_HeapError ?aC_NoLink ?eB_NoLink ?xi_NoLink ?xt_NoLink ?xl_NoLink ?xc_NoLink ?xs_NoLink ?xn_NoLink_value ?aC_NoMark ?eB_NoMark ?x0_NoMark ?aC_NoObject ?eB_NoObject ?xi_NoObject ?xt_NoObject ?xl_NoObject ?xc_NoObject ?xs_NoObject ?xn_NoObject_value ?aC_NoProcedure ?eB_NoProcedure ?xi_NoProcedure ?xt_NoProcedure ?xl_NoProcedure ?xc_NoProcedure ?xs_NoProcedure ?xn_NoProcedure_row ?aC_TooMany ?eB_TooMany ?xi_TooMany ?xt_TooMany ?xl_TooMany ?xc_TooMany ?xs_TooMany ?xn_TooMany_count ?aC_Twice ?eB_Twice ?xi_Twice ?xt_Twice ?xl_Twice ?xc_Twice ?xs_Twice ?xn_Twice_row ?aC_WrongCount ?eB_WrongCount ?xi_WrongCount ?xt_WrongCount ?xl_WrongCount ?xc_WrongCount ?xs_WrongCount ?xn_WrongCount_row ?hts ?tT ?tN ?a0 ?l0 ?c0 ?k0 ?a1 ?l1 ?c1 ?k1 ?a2 ?l2 ?c2 ?k2 ?a3 ?l3 ?c3 ?k3 ?a8 ?l8 ?c8 ?k8 ?a9 ?l9 ?c9 ?k9 ?a10 ?l10 ?c10 ?k10 ?a11 ?l11 ?c11 ?k11 ?a12 ?l12 ?c12 ?k12 ?z_ValueError ?z_abs ?z_all ?z_bool ?z_int ?z_isinstance ?z_len ?z_max ?z_min ?z_range ?z_repr ?z_str ?z_super
    (case aC_BadBlock => k_is); (case eB_BadBlock => kernel_rfl); (case xi_BadBlock => k_is); (case xt_BadBlock => k_is); (case xl_BadBlock => k_is); (case xc_BadBlock => k_is); (case xs_BadBlock => kernel_rfl); (case xn_BadBlock_row => k_is); (case aC_BadLine => k_is); (case eB_BadLine => kernel_rfl); (case xi_BadLine => k_is); (case xt_BadLine => k_is); (case xl_BadLine => k_is); (case xc_BadLine => k_is); (case xs_BadLine => kernel_rfl); (case xn_BadLine_line => k_is); (case aC_BadPolicy => k_is); (case eB_BadPolicy => kernel_rfl); (case xi_BadPolicy => k_is); (case xt_BadPolicy => k_is); (case xl_BadPolicy => k_is); (case xc_BadPolicy => k_is); (case xs_BadPolicy => kernel_rfl); (case xn_BadPolicy_word => k_is); (case aC_BadRow => k_is); (case eB_BadRow => kernel_rfl); (case xi_BadRow => k_is); (case xt_BadRow => k_is); (case xl_BadRow => k_is); (case xc_BadRow => k_is); (case xs_BadRow => kernel_rfl); (case xn_BadRow_row => k_is); (case aC_BadText => k_is); (case eB_BadText => kernel_rfl); (case xi_BadText => k_is); (case xt_BadText => k_is); (case xl_BadText => k_is); (case xc_BadText => k_is); (case xs_BadText => kernel_rfl); (case xn_BadText_row => k_is); (case aC_Fault => k_is); (case eB_Fault => kernel_rfl); (case xi_Fault => k_is); (case xt_Fault => k_is); (case xl_Fault => k_is); (case xc_Fault => k_is); (case xs_Fault => kernel_rfl); (case xn_Fault_word => k_is); (case xn_Fault_row => k_is); (case aC_HeapError => k_is); (case eB_HeapError => kernel_rfl); (case x0_HeapError => kernel_rfl); (case aC_NoLink => k_is); (case eB_NoLink => kernel_rfl); (case xi_NoLink => k_is); (case xt_NoLink => k_is); (case xl_NoLink => k_is); (case xc_NoLink => k_is); (case xs_NoLink => kernel_rfl); (case xn_NoLink_value => k_is); (case aC_NoMark => k_is); (case eB_NoMark => kernel_rfl); (case x0_NoMark => kernel_rfl); (case aC_NoObject => k_is); (case eB_NoObject => kernel_rfl); (case xi_NoObject => k_is); (case xt_NoObject => k_is); (case xl_NoObject => k_is); (case xc_NoObject => k_is); (case xs_NoObject => kernel_rfl); (case xn_NoObject_value => k_is); (case aC_NoProcedure => k_is); (case eB_NoProcedure => kernel_rfl); (case xi_NoProcedure => k_is); (case xt_NoProcedure => k_is); (case xl_NoProcedure => k_is); (case xc_NoProcedure => k_is); (case xs_NoProcedure => kernel_rfl); (case xn_NoProcedure_row => k_is); (case aC_TooMany => k_is); (case eB_TooMany => kernel_rfl); (case xi_TooMany => k_is); (case xt_TooMany => k_is); (case xl_TooMany => k_is); (case xc_TooMany => k_is); (case xs_TooMany => kernel_rfl); (case xn_TooMany_count => k_is); (case aC_Twice => k_is); (case eB_Twice => kernel_rfl); (case xi_Twice => k_is); (case xt_Twice => k_is); (case xl_Twice => k_is); (case xc_Twice => k_is); (case xs_Twice => kernel_rfl); (case xn_Twice_row => k_is); (case aC_WrongCount => k_is); (case eB_WrongCount => kernel_rfl); (case xi_WrongCount => k_is); (case xt_WrongCount => k_is); (case xl_WrongCount => k_is); (case xc_WrongCount => k_is); (case xs_WrongCount => kernel_rfl); (case xn_WrongCount_row => k_is); (case hts => kernel_rfl); (case tT => kernel_rfl); (case tN => kernel_rfl); (case a0 => k_is); (case l0 => k_is); (case c0 => k_is); (case k0 => k_is); (case a1 => k_is); (case l1 => k_is); (case c1 => k_is); (case k1 => k_is); (case a2 => k_is); (case l2 => k_is); (case c2 => k_is); (case k2 => k_is); (case a3 => k_is); (case l3 => k_is); (case c3 => k_is); (case k3 => k_is); (case a8 => k_is); (case l8 => k_is); (case c8 => k_is); (case k8 => k_is); (case a9 => k_is); (case l9 => k_is); (case c9 => k_is); (case k9 => k_is); (case a10 => k_is); (case l10 => k_is); (case c10 => k_is); (case k10 => k_is); (case a11 => k_is); (case l11 => k_is); (case c11 => k_is); (case k11 => k_is); (case a12 => k_is); (case l12 => k_is); (case c12 => k_is); (case k12 => k_is); (case z_ValueError => k_is); (case z_abs => k_is); (case z_all => k_is); (case z_bool => k_is); (case z_int => k_is); (case z_isinstance => k_is); (case z_len => k_is); (case z_max => k_is); (case z_min => k_is); (case z_range => k_is); (case z_repr => k_is); (case z_str => k_is); (case z_super => k_is)
