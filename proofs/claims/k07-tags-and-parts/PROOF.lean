import PyProof.Rows.All
import Wide.All
import OpenK.AllK
import Wide.FinOn
import HandS.ForMost
import HandS.Style
import HandS.TupAny
import HandS.IsInst
import HandS.RaiseMore
import HandS.Evl
import PyProof.ListMulRoad
import PyProof.FactsAll.tuple_2
import HandS.TupMul
import KE.KDictPairs
import KE.KIsAll
import HandS.Dict
import PyProof.EqAt
import PyProof.EqKinds
import PyProof.TupleCall
import PyProof.Rows.SortShell
import PyProof.Rows.SortKeyStr
import KE.KSortTup
import HandS.SortOrd
import HandS.SortRule
import PyProof.ListRange
import HandS.Sort
import PyProof.ZipIter
import PyProof.ListCopy
import KE.KDictZip
import HandS.OwnIter
import HandS.DictTup
import HandS.Conv
import HandS.Zip0
import HandS.Words
import HandS.SetKeys
import PyProof.DictMoreH
import HandS.DictComp
import HandS.Star
import HandS.Text
import HandS.Walk
import HandS.WordsDict
import HandS.More
import HandS.ExcInit
import HandS.MakeKw
import KE.KExcIs
import KE.KExcInit
import HandS.ExcOwn
import HandS.ExcIs
import HandS.TupLen
import PySem.Challenge.RW_roundcalls_k07_tags_and_parts_at_paths
set_option Elab.async false
set_option linter.all false
set_option maxRecDepth 100000
set_option maxHeartbeats 4000000
/-! GG: promises of defs that know that no repr is under way (guards), and repr of data by it. -/
namespace GG
open PySem PySem.Spec PyProof.Rows L2

/-- room for k calls, and no repr runs around -/
structure Rm (k : Nat) (A : Around) : Prop where
  room : Room k A
  plain : A.guards = some []
theorem Rm.mono {j k : Nat} {A : Around} (r : Rm k A) (h : j ≤ k) : Rm j A := ⟨r.room.mono h, r.plain⟩
theorem Rm.deep {k : Nat} {A : Around} (r : Rm (k + 1) A) (env : Env) : Rm k (A.deeper env) := ⟨r.room.deeper env, r.plain⟩

/-- a def keeps a promise wherever no repr runs around; it raises nothing -/
structure Fg (P : Program) (w : World) (K : PySem.W.Frag) (mg : Str → Option Value) (base : Heap) (k : Nat) (f : Addr) (fd : FuncData) (ps : List Str) (sp : Sp) : Prop where
  size : ∀ vs H Q, sp vs H Q E0 → vs.length = ps.length
  go : ∀ (A : Around) (outer : List Env) (s : Shared) (H : Hp) (args : Args) (us : List Value) (vs : List V) (Q : VK), Rm k A → Env0 P w K mg base A outer s H → BindsTo s fd args (ps.zip us) → Vals vs us → sp vs H Q E0 →
    codeAny (model P w) A (.call (.ref f) args) (CR CX0 outer P w H s Q E0) s
section
variable {P : Program} {w : World} {K : PySem.W.Frag} {mg : Str → Option Value} {base : Heap} {j k : Nat} {f : Addr} {fd : FuncData} {ps : List Str} {sp : Sp}
theorem Fg.mono (F : Fg P w K mg base j f fd ps sp) (h : j ≤ k) : Fg P w K mg base k f fd ps sp := ⟨F.size, fun A o s H a us vs Q r => F.go A o s H a us vs Q (r.mono h)⟩
theorem Fg.of (F : FnOk P w K mg base CX0 k f fd ps sp) : Fg P w K mg base k f fd ps sp := ⟨fun vs H Q h => F.len vs H Q E0 h, fun A o s H a us vs Q r e b v h => F.run A o s H a us vs Q E0 r.room e b v h⟩

/-- a def of the text keeps its promise: by its body's reading -/
theorem okg {x qual : Str} {st : Stmt} {N : List Str} (F : L2.Fun K x qual st f fd) (S : FnScope N ps (defScope st)) (size : ∀ vs H Q, sp vs H Q E0 → vs.length = ps.length)
    (body : ∀ (cdv : Value) (A : Around) (outer : List Env) (s : Shared) (H : Hp) (vs : List V) (Q : VK), Rm k (A.deeper (envOfC qual (defScope st) s.heap.objs.size f cdv)) → sp vs H Q E0 →
      ∃ t, PSs (cxOf CX0 P w K mg base N qual (defScope st) f cdv A outer s H E0).nox (defBody st) t ∧ t { nx := fun _ H' => Q .non H', rt := Q } (start N vs) H) :
    Fg P w K mg base (k + 1) f fd ps sp := by
  obtain ⟨oc, od, kV, doc, pm, an, cdv, ct, osl, rfl, lk, hcd⟩ := F.ex
  refine ⟨size, fun A outer s H args us vs Q hr e0 hb r hsp => ?_⟩
  have hl := size _ _ _ hsp
  have keep : ∀ b o, base.get? b = some o → s.heap.get? b = some o := fun b o e => (e0.bs b o e).1
  have KX : K.In s.heap := e0.mod.kin.keeps keep
  have lim : s.heap.NoLimit := e0.mod.nolimit.keeps keep
  have hkind : ∀ y ∈ ps.zip us, (defScope st).names.lookup y.1 = some .local ∨ ((defScope st).names.lookup y.1 = some .cell ∧ ((cellsFrom (s.heap.objs.size + 1) (defScope st).names []).lookup y.1).isSome = true) := by
    rintro ⟨n, v⟩ hy
    rcases S.par n (List.of_mem_zip hy).1 with q | q
    · exact .inl q
    · exact .inr ⟨q, PySem.W.cellsFrom_some _ _ _ (.inl q)⟩
  refine codeAny_call_function hr.room.depth (KX _ _ lk) rfl S.co S.gen rfl (PySem.W.codeRec_of KX hcd) (hb _ _ _ _ ?_)
  refine wpAny_newFunctionEnv_cells S.kind hkind fun env he s1 x => ?_
  subst he
  refine ⟨lim.keeps x.toInCall.keep, codeAny_func ?_⟩
  obtain ⟨t, ht, hq⟩ := body cdv A outer s H vs Q (hr.deep _) hsp
  have I := inv_start (CX := CX0) (E := E0) S hr.room.hd e0 hl r x
  refine wpAny_mono (ht.nox.run [] s1 (start N vs) H _ I hq) (fun fl s' hs => ?_) fun e s' hs => hs
  have fin : ∀ {σ' : L2.St} {H' : Hp} {v : V} {u : Value}, Inv (cxOf CX0 P w K mg base N qual (defScope st) f cdv A outer s H E0) [] σ' H' s' → RelV v u → Q v H' → CE outer P w H s Q u s' :=
    fun {σ' H' v u} J rv q => ⟨v, H', J.os, J.bare, J.base, J.hok, rv, q⟩
  cases fl with
  | ret u => obtain ⟨v, σ', H', J, rv, q⟩ := hs; exact fin J rv q
  | next => obtain ⟨σ', H', J, q⟩ := hs; exact fin (v := V.non) (u := Value.none) J rfl q
  | brk => obtain ⟨_, _, _, q⟩ := hs; exact q.elim
  | cont => obtain ⟨_, _, _, q⟩ := hs; exact q.elim
end

/-! ### calls of such defs -/
section
variable {X : Cx} {k : Nat} {f : Addr} {fd : FuncData} {ps ks : List Str} {sp : Sp} {x : Str} {p pos : Pos} {e : Expr} {es : List Expr} {kws : List Keyword} {t tk : TA} {g : List Value → List Value → List Value} {gV : List V → List V → List V}
def RP (X : Cx) (pins : List (Addr × Obj)) (σ : L2.St) (Q : VK) : Result → Shared → Prop := fun r s' => match r with
  | .ok (.ret v) => EP X pins σ Q v s'
  | .ok _ => False
  | .error e => X.xe e s'
theorem ret_of {pins : List (Addr × Obj)} {σ : L2.St} {H : Hp} {s s' : Shared} {Q : VK} {r : Result} (I : Inv X pins σ H s) (h : CR CX0 X.stack X.prog X.w H s Q E0 r s') : RP X pins σ Q r s' := by
  cases r with
  | error e => exact False.elim h
  | ok fl =>
    cases fl with
    | ret u => exact I.after h
    | next => exact False.elim h
    | brk => exact False.elim h
    | cont => exact False.elim h
/-- f(e, ..) -/
theorem pcall (F : Fg X.prog X.w X.K X.mg X.base k f fd ps sp) (hr : Rm k X.A) (hg : Gl X x) (hm : X.mg x = some (.ref f)) (hk : PySem.W.keepIn X.K (.ref f) = true) (hb : Binds X.K fd ps []) (ha : PA X (e :: es) t)
    (hdb : (x == ("__debug__" : Str)) = false := by decide) (he : starEach (e :: es) X.env = (false, eval e X.env) :: starEach es X.env := by rfl) (hpl : (backTo pos (starEach es X.env)).any (·.1) = false := by rfl) :
    PE X (.Call (.Name x p) (e :: es) [] pos) (tCall sp [] E0 t) := by
  refine ⟨fun pins s σ H Q I h => ?_⟩
  refine wpAny_Call_Name_kw (ld_glob I hg hm ?_ hdb)
  refine PySem.W.callWith_K (h₀ := X.base) I.ok.mod.kin hk (thn (ha.run pos pins s σ H _ I h) fun us s1 ⟨vs, H1, I1, r, q⟩ => ⟨I1.kIn, ?_⟩) he hpl
  have q' : sp vs H1 Q E0 := by rw [← List.append_nil vs]; exact q
  have hl : (us ++ []).length = ps.length := by rw [List.append_nil, ← r.length]; exact F.size _ _ _ q'
  have b := hb s1 us I1.kIn hl
  rw [List.append_nil] at b
  refine wpAny_call (codeAny_mono (F.go X.A X.stack s1 H1 ⟨us, []⟩ us vs Q hr I1.env0 b r q') fun r s' hq => ?_)
  exact ret_of I1 hq
/-- f(e, .., k = v) and f(k = v) -/
def tCallN (sp : Sp) (gV : List V → List V → List V) (t tk : TA) : TE := fun σ H Q => t σ H fun vs H1 => tk σ H1 fun zs H2 => sp (gV vs zs) H2 Q E0
theorem pcallK (F : Fg X.prog X.w X.K X.mg X.base k f fd ps sp) (hr : Rm k X.A) (hg : Gl X x) (hm : X.mg x = some (.ref f)) (hk : PySem.W.keepIn X.K (.ref f) = true) (hb : KBinds X.K fd ps ks g gV) (ha : PA X (e :: es) t) (hkw : PK X kws tk)
    (hall : (backToKw pos (keywordEach kws X.env)).all (·.1.isSome) = true := by rfl) (hks : (backToKw pos (keywordEach kws X.env)).filterMap (·.1) = ks := by rfl)
    (hdb : (x == ("__debug__" : Str)) = false := by decide) (he : starEach (e :: es) X.env = (false, eval e X.env) :: starEach es X.env := by rfl)
    (hpl : ((backTo pos (starEach (e :: es) X.env)).any (·.1) || (backToKw pos (keywordEach kws X.env)).any (·.1.isNone)) = false := by rfl) :
    PE X (.Call (.Name x p) (e :: es) kws pos) (tCallN sp gV t tk) := by
  refine ⟨fun pins s σ H Q I h => ?_⟩
  refine wpAny_Call_Name_kw (ld_glob I hg hm ?_ hdb)
  refine PySem.W.callWith_KW (h₀ := X.base) I.ok.mod.kin hk hall (thn (ha.run pos pins s σ H _ I h) fun us s1 ⟨vs, H1, I1, r, q⟩ => ?_) hpl he
  refine thn (hkw.run pos pins s1 σ H1 _ I1 q) fun ws s2 ⟨zs, H2, I2, rz, q2⟩ => ⟨I2.kIn, ?_⟩
  rw [hks]
  have r2 := hb.rel r rz
  have hl : (g us ws).length = ps.length := by rw [← r2.length]; exact F.size _ _ _ q2
  refine wpAny_call (codeAny_mono (F.go X.A X.stack s2 H2 ⟨us, ks.zip ws⟩ (g us ws) (gV vs zs) Q hr I2.env0 (hb.to s2 us ws I2.kIn hl) r2 q2) fun r s' hq => ?_)
  exact ret_of I2 hq
end

/-! ### the end of a law's row -/
theorem law_go {P : Program} {w : World} {K : PySem.W.Frag} {mg mb : Str → Option Value} {k : Nat} {fa a : Addr} {fd : FuncData} {x : Str} {sp : Sp} {s₁ : Shared} {vs : List Value} {ns : List Int}
    (KX : K.In s₁.heap) (hns : s₁.heap.Ns mainGlobals mg) (hb : s₁.heap.Ns builtinsNs mb) (hbb : ∀ x : Str, x ≠ "__name__" → mb x = bootBuiltins x) (hlim : s₁.heap.NoLimit) (hg : s₁.gens = #[])
    (ha : s₁.heap.get? a = some { cls := .type "list", data := .seq vs.toArray }) (hi : IntsAre vs ns) (hl : ns.length ≤ sizeLine) (hr : Rm k callerA)
    (F : ∀ base : Heap, K.In base → base.Ns mainGlobals mg → Fg P w K mg base k fa fd [x] sp) (hbind : ∀ (s : Shared) (u : Value), BindsTo s fd ⟨[u], []⟩ [(x, u)])
    (hsp : ∀ H : Hp, Only H → SqL K H a (ns.map V.int) → sp [.ref a] H (fun v _ => v = .bl true) E0) :
    codeAny (model P w) callerA (.call (.ref fa) ⟨[.ref a], []⟩) (fun r s' => r = .ok (.ret (.bool true)) ∧ OldK s₁.heap s'.heap ∧ s'.os = s₁.os ∧ AllBare s'.gens) s₁ := by
  have rv := vals_ints hi
  have lenV := hi.length
  have main : ∀ H : Hp, Only H → SqL K H a (ns.map V.int) → HOk P w H s₁.heap → (∀ b, H b ≠ none → b = a) → (H a ≠ none → K.lookup a = none) →
      codeAny (model P w) callerA (.call (.ref fa) ⟨[.ref a], []⟩) (fun r s' => r = .ok (.ret (.bool true)) ∧ OldK s₁.heap s'.heap ∧ s'.os = s₁.os ∧ AllBare s'.gens) s₁ := by
    intro H hO hS hok hA hK
    have only_a : ∀ {b : Addr} {u : HO}, H b = some u → b = a := fun {b u} q => hA b (by rw [q]; exact fun z => nomatch z)
    have free_dict : ∀ {b : Addr} {o : Obj} {es : Array DictEntry} {ep : Nat}, s₁.heap.get? b = some o → o.data = .dict es ep → H b = none := fun {b o es ep} e d => by
      cases q : H b with
      | none => rfl
      | some u =>
        rw [only_a q, ha] at e
        cases e
        exact nomatch (show Data.seq vs.toArray _ = Data.dict es ep from d)
    have ns_of : ∀ {b : Addr} {m : Str → Option Value}, s₁.heap.Ns b m → (hidT s₁.heap H).Ns b m := fun {b m} ⟨o, es, ep, e, d, r⟩ => ⟨o, es, ep, hidT_get e (free_dict e d), d, r⟩
    have hKb : K.In (hidT s₁.heap H) := fun b o e => hidT_get (KX b o e) (by
      cases q : H b with
      | none => rfl
      | some u =>
        have e' := only_a q
        rw [e', hK (by rw [← e', q]; exact fun z => nomatch z)] at e
        cases e)
    have hM : Mod K mg (hidT s₁.heap H) := ⟨hKb, ns_of hns, ⟨mb, ns_of hb, hbb⟩, let ⟨mc, h1, h2⟩ := hlim; ⟨mc, ns_of h1, h2⟩⟩
    have e0 : Env0 P w K mg (hidT s₁.heap H) callerA [] s₁ H := ⟨rfl, hM, fun b o e => of_hidT e, Nat.le_of_eq (hidT_size _ _), trivial, fun b hb => absurd (show b ∈ ([] : List Addr) from hb) List.not_mem_nil, hok, .of_eq hg⟩
    refine codeAny_mono ((F _ hKb (ns_of hns)).go callerA [] s₁ H ⟨[.ref a], []⟩ [.ref a] [.ref a] _ hr e0 (hbind s₁ (.ref a)) (.cons rfl .nil) (hsp H hO hS)) fun r s' h => ?_
    cases r with
    | error e => exact False.elim h
    | ok fl =>
      cases fl with
      | next => exact False.elim h
      | brk => exact False.elim h
      | cont => exact False.elim h
      | ret u =>
        obtain ⟨v, H', os, bare, un, hok', r', q⟩ := h
        obtain rfl : v = .bl true := q
        obtain rfl : u = Value.bool true := r'
        refine ⟨rfl, OldK.of_keep fun b o e => ?_, os, bare⟩
        rcases hO b with z | ⟨ob, xs, z⟩
        · exact un.keep b o e z (fun z => absurd (show b ∈ ([] : List Addr) from z) List.not_mem_nil) List.not_mem_nil
        · obtain ⟨e1, _⟩ := hok b _ z
          obtain ⟨e2, _⟩ := hok' b _ (un.frzs b ob _ z)
          rw [e] at e1
          cases e1
          exact e2
  cases hk : K.lookup a with
  | some o =>
    have e := KX a o hk
    rw [ha] at e
    cases e
    refine main (fun _ => none) (fun _ => .inl rfl) (.inr ⟨_, vs.toArray, _, hk, rfl, rfl, rfl, by rw [List.size_toArray, lenV]; exact hl, by simpa using rv⟩) (fun b u z => nomatch (show (none : Option HO) = some u from z)) (fun b z => absurd rfl z) fun z => absurd rfl z
  | none =>
    refine main (fun b => if b = a then some (.frz { cls := .type "list", data := .seq vs.toArray } (.lst (ns.map V.int))) else none) (fun b => ?_) (.inl (.inr ⟨{ cls := .type "list", data := .seq vs.toArray }, if_pos rfl⟩)) (fun b u z => ?_) (fun b z => ?_) fun _ => hk
    · by_cases hb : b = a
      · exact .inr ⟨_, _, if_pos hb⟩
      · exact .inl (if_neg hb)
    · by_cases hb : b = a
      · have z' := (if_pos hb).symm.trans z
        cases z'
        subst hb
        exact ⟨ha, by rw [List.length_map]; exact hl, vs, _, rv, ha⟩
      · have z' := (if_neg hb).symm.trans z
        cases z'
    · by_cases hb : b = a
      · exact hb
      · exact absurd (if_neg hb) z

theorem walk_go {l : PySem.W.OpenLaw} {n k : Nat} {q : Program} {loose : List Str} {XP : (Str → Option Value) → Heap → Prop} {YP : World → Heap → Prop} {d : DefRec} {K : Params → PySem.W.Frag} {sp : PySem.W.Frag → Sp} {x : Str}
    (hn : l.most = some n) (hn2 : n ≤ sizeLine) (hdf : d.params.defaults = []) (hr : Rm k callerA)
    (hY : ∀ (w : World) (h : Heap), YP w h → (K w.params).In h)
    (F : ∀ (w : World) (mg : Str → Option Value) (fa : Addr) (h : Heap), (K w.params).In h → h.Ns mainGlobals mg → mg d.name = some (.ref fa) →
      ∃ fd : FuncData, (∀ (s : Shared) (u : Value), BindsTo s fd ⟨[u], []⟩ [(x, u)]) ∧
        ∀ base : Heap, (K w.params).In base → base.Ns mainGlobals mg → Fg l.prog w (K w.params) mg base k fa fd [x] (sp (K w.params)))
    (hsp : ∀ (K : PySem.W.Frag) (H : Hp) (a : Addr) (ns : List Int), ns.length ≤ n → Only H → SqL K H a (ns.map V.int) → sp K [.ref a] H (fun v _ => v = .bl true) E0) :
    PySem.W.WalkO q loose XP YP l.row.toRowW d [] (fun f vs => PySem.call f vs) := by
  refine Att.attach_call hn hdf fun w s₀ s₁ mg mb fa o pm cd doc a vs ns G Y ho hd hcd hmg hobj hints hlen hg => ?_
  have KX := hY w _ Y
  obtain ⟨fd, hb, hF⟩ := F w mg fa _ KX G.T.g hmg
  exact law_go KX G.T.g G.T.b G.T.builtins G.T.nolimit hg hobj hints (Nat.le_trans hlen hn2) hr hF hb (fun H hO hS => hsp _ H a ns hlen hO hS)

/-! ### repr of data -/
def keyD : L2.Key → PyData
  | .inl i => .int i
  | .inr z => .str z
def flatV0 : V → Option PyData
  | .non => some .none
  | .bl b => some (.bool b)
  | .int i => some (.int i)
  | .str x => some (.str x)
  | _ => none
/-- the data of a dict's entries, all of them flat -/
def entsD : List (L2.Key × V) → Option (List (PyData × PyData))
  | [] => some []
  | (k, v) :: r => match flatV0 v, entsD r with
    | some d, some ds => some ((keyD k, d) :: ds)
    | _, _ => none
/-- what repr reads: data without dicts; dicts of flat things; tuples of both where no list stands beside a dict -/
inductive Dt (K : PySem.W.Frag) (H : Hp) : V → PyData → Prop
  | base {v : V} {d : PyData} : Dp K H v d → Dt K H v d
  | dic {a : Addr} {kvs : List (L2.Key × V)} {ds : List (PyData × PyData)} : H a = some (.dK kvs) → entsD kvs = some ds → Dt K H (.ref a) (.dict ds)
section
variable {X : Cx} {pins : List (Addr × Obj)} {σ : L2.St} {H : Hp} {s : Shared}
mutual
theorem dp_noDict {K : PySem.W.Frag} {H : Hp} : ∀ (d : PyData) (v : V), Dp K H v d → d.hasDict = false
  | .none, _, _ => by simp only [PyData.hasDict]
  | .bool _, _, _ => by simp only [PyData.hasDict]
  | .int _, _, _ => by simp only [PyData.hasDict]
  | .str _, _, _ => by simp only [PyData.hasDict]
  | .list ds, _, h => by
    cases h with
    | lst _ ha =>
      simp only [PyData.hasDict]
      exact dpAll_noDict ds _ ha
  | .tuple ds, _, h => by
    cases h with
    | tup _ ha =>
      simp only [PyData.hasDict]
      exact dpAll_noDict ds _ ha
  | .dict _, _, h => by cases h
theorem dpAll_noDict {K : PySem.W.Frag} {H : Hp} : ∀ (ds : List PyData) (vs : List V), DpAll K H vs ds → PyData.hasDictAll ds = false
  | [], _, _ => by simp only [PyData.hasDictAll]
  | d :: ds, _, h => by
    cases h with
    | cons h1 h2 => simp only [PyData.hasDictAll, dp_noDict d _ h1, dpAll_noDict ds _ h2, Bool.or_self]
end
mutual
theorem dp_mono {K : PySem.W.Frag} {H H' : Hp} (hl : ∀ a xs, SqL K H a xs → SqL K H' a xs) (ht : ∀ a xs, SqT K H a xs → SqT K H' a xs) : ∀ (d : PyData) (v : V), Dp K H v d → Dp K H' v d
  | .none, _, h => by cases h; exact .non
  | .bool b, _, h => by cases h; exact .bl b
  | .int i, _, h => by cases h; exact .int i
  | .str x, _, h => by cases h; exact .str x
  | .list ds, _, h => by
    cases h with
    | lst hs ha => exact .lst (hl _ _ hs) (dpAll_mono hl ht ds _ ha)
  | .tuple ds, _, h => by
    cases h with
    | tup hs ha => exact .tup (ht _ _ hs) (dpAll_mono hl ht ds _ ha)
  | .dict _, _, h => by cases h
theorem dpAll_mono {K : PySem.W.Frag} {H H' : Hp} (hl : ∀ a xs, SqL K H a xs → SqL K H' a xs) (ht : ∀ a xs, SqT K H a xs → SqT K H' a xs) : ∀ (ds : List PyData) (vs : List V), DpAll K H vs ds → DpAll K H' vs ds
  | [], _, h => by cases h; exact .nil
  | d :: ds, _, h => by
    cases h with
    | cons h1 h2 => exact .cons (dp_mono hl ht d _ h1) (dpAll_mono hl ht ds _ h2)
end
theorem same_t {K : PySem.W.Frag} {H H' : Hp} {a : Addr} {xs : List V} (e : Same H H') (h : SqT K H a xs) : SqT K H' a xs := by
  rcases h with (h | ⟨o, h⟩) | h
  · exact .inl (.inl (e _ _ h))
  · exact .inl (.inr ⟨o, e _ _ h⟩)
  · exact .inr h
theorem Dt.same {K : PySem.W.Frag} {H H' : Hp} {v : V} {d : PyData} (h : Dt K H v d) (e : Same H H') : Dt K H' v d := by
  cases h with
  | base h => exact .base (dp_mono (fun _ _ q => e.seq q) (fun _ _ q => same_t e q) _ _ h)
  | dic h1 h2 => exact .dic (e _ _ h1) h2
theorem flat_reads {h : Heap} {v : V} {u : Value} {d : PyData} (e : flatV0 v = some d) (r : RelV v u) : Reads h u d [] := by
  cases v with
  | non => cases e; cases r; exact .none
  | bl b => cases e; cases r; exact .bool b
  | int i => cases e; obtain ⟨t, rfl⟩ := r; exact .int i t
  | str x => cases e; obtain ⟨t, rfl⟩ := r; exact .str x t
  | byt _ => cases e
  | flt _ => cases e
  | ref _ => cases e
  | ty _ => cases e
theorem key_reads {h : Heap} {k : L2.Key} {u : Value} (e : keyIs k u = true) : Reads h u (keyD k) [] := by
  rcases keyIs_shape e with ⟨i, t, rfl, rfl⟩ | ⟨x, t, rfl, rfl⟩
  · exact .int i t
  · exact .str x t
theorem ents_read {P : Program} {w : World} {h : Heap} : ∀ {kvs : List (L2.Key × V)} {us : List (L2.Key × Value)} {es : List DictEntry} {ds : List (PyData × PyData)}, Pairs (mixKind P w) es us → KV kvs us → entsD kvs = some ds →
    ReadsAll h (es.map (·.key)) (ds.map (·.1)) [] ∧ ReadsAll h (es.map (·.val)) (ds.map (·.2)) []
  | [], _, _, _, hp, hk, e => by
    cases hk
    cases hp
    cases e
    exact ⟨.nil, .nil⟩
  | (k, v) :: r, _, _, _, hp, hk, e => by
    cases hk with
    | cons h1 h2 =>
      cases hp with
      | cons p1 p2 p3 =>
        unfold entsD at e
        cases e1 : flatV0 v with
        | none =>
          rw [e1] at e
          cases e
        | some d =>
          cases e2 : entsD r with
          | none =>
            rw [e1, e2] at e
            cases e
          | some ds =>
            rw [e1, e2] at e
            cases e
            obtain ⟨q1, q2⟩ := ents_read p3 h2 e2
            obtain ⟨ek, rv⟩ := h1
            have e1' : flatV0 (k, v).2 = some d := e1
            refine ⟨?_, ?_⟩
            · have z : Reads h _ (keyD k) [] := key_reads (k := k) (by
                have y := p1
                rw [mixKind_is] at y
                rw [← ek] at y
                exact y)
              exact ReadsAll.cons z q1
            · have z : Reads h _ d [] := flat_reads (u := _) e1' (p2.symm ▸ rv)
              exact ReadsAll.cons z q2
theorem Dt.reads {v : V} {u : Value} {d : PyData} (I : Inv X pins σ H s) (h : Dt X.K H v d) (r : RelV v u) : ∃ as, Reads s.heap u d as ∧ (d.hasDict = true → sysModules ∉ as) := by
  cases h with
  | base h =>
    obtain ⟨as, q⟩ := Dp.reads I d v u h r
    exact ⟨as, q, PyData.noDict_hsm (dp_noDict d v h)⟩
  | @dic a kvs ds h1 h2 =>
    obtain rfl : u = Value.ref a := r
    obtain ⟨hz, hs, us, rk, o, es, ep, ho, hx, hd, _, hp, _⟩ : kvs.length ≤ sizeLine ∧ (a == sysModules) = false ∧ ∃ vs, KV kvs vs ∧ s.heap.DictOf (mixKind X.prog X.w) a vs := I.hok a _ h1
    obtain ⟨q1, q2⟩ := ents_read (h := s.heap) hp rk h2
    refine ⟨_, Reads.dict ho hx.1 hd q1 q2, fun _ z => ?_⟩
    have z' : sysModules ∈ [a] := z
    have e := List.mem_singleton.mp z'
    rw [e, beq_self_eq_true] at hs
    cases hs
/-- repr(x) -/
def rRepr (K : PySem.W.Frag) : List V → Hp → VK → Prop := fun xs H Q => ∃ x d, xs = [x] ∧ Dt K H x d ∧ d.showable = true ∧ d.depth ≤ 60 ∧ d.shown.length ≤ sizeLine ∧ Q (.str d.shown) H
theorem call_repr {k : Nat} (hr : Rm k X.A) : CallR X (.builtin "repr") (rRepr X.K) := by
  intro pins s σ H xs us Q I r h
  obtain ⟨x, d, rfl, hx, hs, hd, hz, q⟩ := h
  obtain ⟨u, rfl, ru⟩ := vals1 r
  obtain ⟨as, hreads, hsm⟩ := hx.reads I ru
  have hu := hr.room.un
  cases x with
  | non =>
    cases ru
    cases hreads
    exact PySem.P.repr_of_none ⟨.str _, H, I.tok _, ⟨_, rfl⟩, q⟩
  | bl b =>
    cases ru
    cases hreads
    refine PySem.P.repr_of_bool ⟨.str _, H, I.tok _, ⟨_, rfl⟩, ?_⟩
    simp only [PyData.shown] at q
    exact q
  | int i =>
    obtain ⟨t, rfl⟩ := ru
    cases hreads
    simp only [PyData.shown] at q
    exact PySem.P.repr_of_int (by simpa [PyData.showable] using hs) ⟨.str _, H, I.tok _, ⟨_, rfl⟩, q⟩
  | str y =>
    obtain ⟨t, rfl⟩ := ru
    cases hreads
    simp only [PyData.shown] at q hz
    exact PySem.P.repr_of_str ⟨.str _, H, I.tok _, ⟨_, rfl⟩, q⟩ hz
  | byt y =>
    obtain ⟨t, rfl⟩ := ru
    cases hreads
  | flt y =>
    obtain ⟨t, rfl⟩ := ru
    cases hreads
  | ty y =>
    cases ru
    cases hreads
  | ref a =>
    cases ru
    exact repr_of_reads' hreads hs hsm hr.plain (by omega) (fun _ _ e => e) (fun h' u tk hk => ⟨.str _, H, I.kept hk, ⟨u, rfl⟩, q⟩) hz
end
end GG

set_option Elab.async false
set_option linter.all false
set_option maxRecDepth 100000
set_option maxHeartbeats 4000000
/-! DD: defs by their names (Df, dcall); heaps; data that is made while a deck stands (EvP). -/
namespace DD
open PySem PySem.Spec PyProof.Rows L2 GG
/-- a def of the text by its name, with its promise -/
structure Df (P : Program) (w : World) (K : PySem.W.Frag) (mg : Str → Option Value) (base : Heap) (k : Nat) (nm : Str) (ps : List Str) (sp : Sp) : Prop where
  ex : ∃ f fd, Fg P w K mg base k f fd ps sp ∧ mg nm = some (.ref f) ∧ PySem.W.keepIn K (.ref f) = true ∧ Binds K fd ps []
section
variable {X : Cx} {k : Nat} {nm : Str} {ps : List Str} {sp : Sp} {p pos : Pos} {e : Expr} {es : List Expr} {t : TA}
theorem dcall (D : Df X.prog X.w X.K X.mg X.base k nm ps sp) (hr : Rm k X.A) (hg : Gl X nm) (ha : PA X (e :: es) t)
    (hdb : (nm == ("__debug__" : Str)) = false := by decide) (he : starEach (e :: es) X.env = (false, eval e X.env) :: starEach es X.env := by rfl) (hpl : (backTo pos (starEach es X.env)).any (·.1) = false := by rfl) :
    PE X (.Call (.Name nm p) (e :: es) [] pos) (tCall sp [] E0 t) := by
  obtain ⟨f, fd, F, hm, hk, hb⟩ := D.ex
  exact pcall F hr hg hm hk hb ha hdb he hpl
end

/-! ### heaps -/
theorem same_upd {H : Hp} {p : Addr} {o : HO} (h : H p = none) : Same H (upd H p o) := fun b x e => by
  rw [upd_ne (ne_of_none e h)]
  exact e
theorem ne_new {H : Hp} {a p : Addr} {o : HO} (e : H a = some o) (n : H p = none) : a ≠ p := ne_of_none e n
/-- what stood stands, but at p and l -/
def But (p l : Addr) (H H' : Hp) : Prop := ∀ b o, b ≠ p → b ≠ l → H b = some o → H' b = some o
theorem But.refl (p l : Addr) (H : Hp) : But p l H H := fun _ _ _ _ h => h
theorem But.trans {p l : Addr} {H H1 H2 : Hp} (a : But p l H H1) (b : But p l H1 H2) : But p l H H2 := fun c o h1 h2 h => b c o h1 h2 (a c o h1 h2 h)
theorem But.of {p l : Addr} {H H' : Hp} (s : Same H H') : But p l H H' := fun b o _ _ h => s b o h
theorem But.left {p l : Addr} {H H' : Hp} {o : HO} (s : But p l H H') : But p l H (upd H' p o) := fun b u h1 h2 h => by
  rw [upd_ne h1]
  exact s b u h1 h2 h
theorem But.right {p l : Addr} {H H' : Hp} {o : HO} (s : But p l H H') : But p l H (upd H' l o) := fun b u h1 h2 h => by
  rw [upd_ne h2]
  exact s b u h1 h2 h
theorem sq {K : PySem.W.Frag} {H : Hp} {a : Addr} {xs : List V} (h : H a = some (.lst xs)) : SqL K H a xs := .inl (.inl h)
theorem sqt {K : PySem.W.Frag} {H : Hp} {a : Addr} {xs : List V} (h : H a = some (.tup xs)) : SqT K H a xs := .inl (.inl h)
theorem szl {n : Nat} (h : n ≤ 1000) : n < sizeLine := Nat.lt_of_le_of_lt h (by decide)
theorem szi {n : Nat} (h : n ≤ 1000) : n ≤ sizeLine := Nat.le_of_lt (szl h)
theorem But.seq {K : PySem.W.Frag} {p l a : Addr} {H H' : Hp} {xs : List V} (b : But p l H H') (h1 : a ≠ p) (h2 : a ≠ l) (h : SqL K H a xs) : SqL K H' a xs := by
  rcases h with (h | ⟨o, h⟩) | h
  · exact .inl (.inl (b _ _ h1 h2 h))
  · exact .inl (.inr ⟨o, b _ _ h1 h2 h⟩)
  · exact .inr h

/-! ### data made while other things (S) stand -/
open Classical in
/-- the heap without the things of S -/
noncomputable def Hd (S : Addr → Prop) (H : Hp) : Hp := fun b => if S b then none else H b
theorem hd_ne {S : Addr → Prop} {b : Addr} {H : Hp} (h : ¬ S b) : Hd S H b = H b := if_neg h
theorem hd_some {S : Addr → Prop} {b : Addr} {H : Hp} {o : HO} (h : Hd S H b = some o) : ¬ S b ∧ H b = some o := by
  unfold Hd at h
  by_cases z : S b
  · rw [if_pos z] at h
    cases h
  · rw [if_neg z] at h
    exact ⟨z, h⟩
theorem hd_sub (S : Addr → Prop) (H : Hp) : Same (Hd S H) H := fun b o h => (hd_some h).2
theorem But.hd {S : Addr → Prop} {p l : Addr} {H H' : Hp} (b : But p l H H') (sp : S p) (sl : S l) : Same (Hd S H) (Hd S H') := fun a o h => by
  obtain ⟨h1, h3⟩ := hd_some h
  rw [hd_ne h1]
  exact b a o (fun e => h1 (by rw [e]; exact sp)) (fun e => h1 (by rw [e]; exact sl)) h3
theorem hdS {S : Addr → Prop} {H H' : Hp} (s : Same H H') : Same (Hd S H) (Hd S H') := fun a o h => by
  obtain ⟨h1, h3⟩ := hd_some h
  rw [hd_ne h1]
  exact s a o h3
/-- something of S is changed -/
theorem hd_upd {S : Addr → Prop} {H : Hp} {a : Addr} {o : HO} (s : S a) : Same (Hd S H) (Hd S (upd H a o)) := fun b u h => by
  obtain ⟨h1, h3⟩ := hd_some h
  rw [hd_ne h1, upd_ne (fun e : b = a => h1 (by rw [e]; exact s))]
  exact h3
/-- the things of S stand -/
def Taken (H : Hp) (S : Addr → Prop) : Prop := ∀ b, S b → ∃ o, H b = some o
theorem Taken.same {H H' : Hp} {S : Addr → Prop} (t : Taken H S) (s : Same H H') : Taken H' S := fun b h => (t b h).imp fun o h => s _ _ h
theorem Taken.ne {H : Hp} {S : Addr → Prop} {q : Addr} (t : Taken H S) (n : H q = none) : ¬ S q := fun h => by
  obtain ⟨o, e⟩ := t q h
  rw [n] at e
  cases e
section
variable {K : PySem.W.Frag} {S : Addr → Prop} {σ : L2.St} {H : Hp}
/-- an expression gives data d, apart from S; nothing that stood changes -/
def EvP (K : PySem.W.Frag) (S : Addr → Prop) (te : TE) (σ : L2.St) (d : PyData) : Prop := ∀ H1, Taken H1 S → ∀ Q : VK, (∀ v H2, Same H1 H2 → Dp K (Hd S H2) v d → Q v H2) → te σ H1 Q
def EvPs (K : PySem.W.Frag) (S : Addr → Prop) (ta : TA) (σ : L2.St) (ds : List PyData) : Prop := ∀ H1, Taken H1 S → ∀ Q : List V → Hp → Prop, (∀ vs H2, Same H1 H2 → DpAll K (Hd S H2) vs ds → Q vs H2) → ta σ H1 Q
theorem dp_same {H H' : Hp} {v : V} {d : PyData} (s : Same H H') (h : Dp K H v d) : Dp K H' v d := dp_mono (fun _ _ q => s.seq q) (fun _ _ q => same_t s q) _ _ h
theorem dpAll_same {H H' : Hp} {vs : List V} {ds : List PyData} (s : Same H H') (h : DpAll K H vs ds) : DpAll K H' vs ds := dpAll_mono (fun _ _ q => s.seq q) (fun _ _ q => same_t s q) _ _ h
theorem dpAll_len {H : Hp} : ∀ {vs : List V} {ds : List PyData}, DpAll K H vs ds → vs.length = ds.length
  | _, _, .nil => rfl
  | _, _, .cons _ h => by rw [List.length_cons, List.length_cons, dpAll_len h]
theorem evp_c {v : V} {d : PyData} (h : ∀ H, Dp K H v d) : EvP K S (tC v) σ d := fun H1 _ Q q => q v H1 (Same.refl _) (h _)
theorem evp_int {i : Int} : EvP K S (tC (.int i)) σ (.int i) := evp_c fun _ => .int i
theorem evp_str {x : Str} : EvP K S (tC (.str x)) σ (.str x) := evp_c fun _ => .str x
theorem evp_bl {b : Bool} : EvP K S (tC (.bl b)) σ (.bool b) := evp_c fun _ => .bl b
theorem evp_non : EvP K S (tC .non) σ .none := evp_c fun _ => .non
theorem evps_nil : EvPs K S tNil σ [] := fun H1 _ Q q => q [] H1 (Same.refl _) .nil
theorem evps_cons {te : TE} {ta : TA} {d : PyData} {ds : List PyData} (h : EvP K S te σ d) (hs : EvPs K S ta σ ds) : EvPs K S (tCons te ta) σ (d :: ds) := fun H1 t Q q =>
  h H1 t _ fun v H2 s2 hv => hs H2 (t.same s2) _ fun vs H3 s3 hvs => q (v :: vs) H3 (s2.trans s3) (.cons (dp_same (hdS s3) hv) hvs)
theorem evp_tup {ta : TA} {ds : List PyData} (hs : EvPs K S ta σ ds) (hl : ds.length ≤ 1000) : EvP K S (tTup ta) σ (.tuple ds) := fun H1 t Q q =>
  hs H1 t _ fun vs H2 s2 hvs => ⟨by rw [dpAll_len hvs]; exact szi hl, fun a na => by
    have n1 := (t.same s2).ne na
    have s3 : Same H2 (upd H2 a (.tup vs)) := same_upd na
    exact q _ _ (s2.trans s3) (.tup (sqt (by rw [hd_ne n1]; exact upd_same)) (dpAll_same (hdS s3) hvs))⟩
theorem evp_lst {ta : TA} {ds : List PyData} (hs : EvPs K S ta σ ds) (hl : ds.length ≤ 1000) : EvP K S (tLst ta) σ (.list ds) := fun H1 t Q q =>
  hs H1 t _ fun vs H2 s2 hvs => ⟨by rw [dpAll_len hvs]; exact szi hl, fun a na => by
    have n1 := (t.same s2).ne na
    have s3 : Same H2 (upd H2 a (.lst vs)) := same_upd na
    exact q _ _ (s2.trans s3) (.lst (sq (by rw [hd_ne n1]; exact upd_same)) (dpAll_same (hdS s3) hvs))⟩
/-- the same for what may hold dicts -/
def EvT (K : PySem.W.Frag) (S : Addr → Prop) (te : TE) (σ : L2.St) (d : PyData) : Prop := ∀ H1, Taken H1 S → ∀ Q : VK, (∀ v H2, Same H1 H2 → Dt K (Hd S H2) v d → Q v H2) → te σ H1 Q
theorem EvP.t {te : TE} {d : PyData} (h : EvP K S te σ d) : EvT K S te σ d := fun H1 t Q q => h H1 t Q fun v H2 s hv => q v H2 s (.base hv)
inductive DtAll (K : PySem.W.Frag) (H : Hp) : List V → List PyData → Prop
  | nil : DtAll K H [] []
  | cons {v : V} {vs : List V} {d : PyData} {ds : List PyData} : Dt K H v d → DtAll K H vs ds → DtAll K H (v :: vs) (d :: ds)
theorem DtAll.len {H : Hp} : ∀ {vs : List V} {ds : List PyData}, DtAll K H vs ds → vs.length = ds.length
  | _, _, .nil => rfl
  | _, _, .cons _ h => by rw [List.length_cons, List.length_cons, DtAll.len h]
theorem DtAll.same {H H' : Hp} (s : Same H H') : ∀ {vs : List V} {ds : List PyData}, DtAll K H vs ds → DtAll K H' vs ds
  | _, _, .nil => .nil
  | _, _, .cons h t => .cons (h.same s) (t.same s)
theorem DtAll.append {H : Hp} : ∀ {vs us : List V} {ds es : List PyData}, DtAll K H vs ds → DtAll K H us es → DtAll K H (vs ++ us) (ds ++ es)
  | _, _, _, _, .nil, h => h
  | _, _, _, _, .cons h t, k => .cons h (t.append k)
theorem DtAll.mem {H : Hp} : ∀ {vs : List V} {ds : List PyData} {v : V}, DtAll K H vs ds → v ∈ vs → ∃ d, d ∈ ds ∧ Dt K H v d
  | _, _, _, .nil, h => absurd h List.not_mem_nil
  | _, _, _, .cons (d := d) h t, m => by
    rcases List.mem_cons.mp m with e | m
    · exact ⟨d, List.mem_cons_self, e ▸ h⟩
    · obtain ⟨d', h1, h2⟩ := t.mem m
      exact ⟨d', List.mem_cons_of_mem _ h1, h2⟩
def EvTs (K : PySem.W.Frag) (S : Addr → Prop) (ta : TA) (σ : L2.St) (ds : List PyData) : Prop := ∀ H1, Taken H1 S → ∀ Q : List V → Hp → Prop, (∀ vs H2, Same H1 H2 → DtAll K (Hd S H2) vs ds → Q vs H2) → ta σ H1 Q
theorem evts_nil : EvTs K S tNil σ [] := fun H1 _ Q q => q [] H1 (Same.refl _) .nil
theorem evts_cons {te : TE} {ta : TA} {d : PyData} {ds : List PyData} (h : EvT K S te σ d) (hs : EvTs K S ta σ ds) : EvTs K S (tCons te ta) σ (d :: ds) := fun H1 t Q q =>
  h H1 t _ fun v H2 s2 hv => hs H2 (t.same s2) _ fun vs H3 s3 hvs => q (v :: vs) H3 (s2.trans s3) (.cons (hv.same (hdS s3)) hvs)
/-- a written dict with one text key and an int -/
theorem evt_dict1 {k : Str} {i : Int} : EvT K S (tDisp [(tC (.str k), tC (.int i))]) σ (.dict [(.str k, .int i)]) := fun H1 t Q q => fun a na => by
  have n1 := t.ne na
  refine ⟨upd_same, [(.inr k, .int i)], rfl, (by show 1 ≤ 15; decide), ?_⟩
  rw [upd_upd]
  refine q _ _ (same_upd na) (.dic (kvs := [(.inr k, .int i)]) (by rw [hd_ne n1]; exact upd_same) rfl)
end
/-! ### one layer of a reading -/
theorem rd_lst {ta : TA} {σ : L2.St} {H : Hp} {Q : VK} (h : ta σ H fun xs H1 => xs.length ≤ sizeLine ∧ ∀ a, H1 a = none → Q (.ref a) (upd H1 a (.lst xs))) : tLst ta σ H Q := h
theorem rd_tup {ta : TA} {σ : L2.St} {H : Hp} {Q : VK} (h : ta σ H fun xs H1 => xs.length ≤ sizeLine ∧ ∀ a, H1 a = none → Q (.ref a) (upd H1 a (.tup xs))) : tTup ta σ H Q := h
theorem rd_set {te : TE} {i : Nat} {u : TS} {D : Ends} {σ : L2.St} {H : Hp} (h : te σ H fun v H1 => u D (σ.set i (some v)) H1) : tSeq (tAsg te (gName i)) u D σ H := h
theorem rd_ret {te : TE} {D : Ends} {σ : L2.St} {H : Hp} (h : te σ H D.rt) : tRet te D σ H := h
theorem rd_op {r : R2} {ta tb : TE} {σ : L2.St} {H : Hp} {Q : VK} (h : ta σ H fun x H1 => tb σ H1 fun y H2 => r x y H2 Q) : tOp r ta tb σ H Q := h
theorem rd_cons {te : TE} {ta : TA} {σ : L2.St} {H : Hp} {Q : List V → Hp → Prop} (h : te σ H fun x H1 => ta σ H1 fun xs H2 => Q (x :: xs) H2) : tCons te ta σ H Q := h
theorem rd_nil {σ : L2.St} {H : Hp} {Q : List V → Hp → Prop} (h : Q [] H) : tNil σ H Q := h
theorem rd_call {sp : Sp} {ta : TA} {σ : L2.St} {H : Hp} {Q : VK} (h : ta σ H fun vs H1 => sp (vs ++ []) H1 Q E0) : tCall sp [] E0 ta σ H Q := h
theorem rd_cb {r : List V → Hp → VK → Prop} {ta : TA} {σ : L2.St} {H : Hp} {Q : VK} (h : ta σ H fun vs H1 => r vs H1 Q) : tCB r ta σ H Q := h
theorem rd_var {i : Nat} {v : V} {σ : L2.St} {H : Hp} {Q : VK} (e : σ[i]? = some (some v)) (h : Q v H) : tVar i σ H Q := ⟨v, e, h⟩
theorem rd_c {v : V} {σ : L2.St} {H : Hp} {Q : VK} (h : Q v H) : tC v σ H Q := h
theorem rd_test {te : TE} {σ : L2.St} {H : Hp} {Q : Bool → Hp → Prop} (h : te σ H fun x H' => ∃ k, x = .bl k ∧ Q k H') : tTest te σ H Q := h
theorem rd_if {c : TT} {t u v : TS} {D : Ends} {σ : L2.St} {H : Hp} (h : c σ H fun b H1 => if b = true then t { D with nx := v D } σ H1 else u { D with nx := v D } σ H1) : tSeq (tIfS c t u) v D σ H := h
end DD

set_option Elab.async false
set_option linter.all false
set_option maxRecDepth 100000
set_option maxHeartbeats 4000000
/-! LP: loops and comprehensions of a known number of turns. -/
namespace DD
open PySem PySem.Spec PyProof.Rows L2 GG
theorem pT {c : Prop} [Decidable c] {a b : Prop} (hc : c) (h : a) : ite c a b := (if_pos hc).mpr h
theorem pF {c : Prop} [Decidable c] {a b : Prop} (hc : ¬ c) (h : b) : ite c a b := (if_neg hc).mpr h
theorem rd_next {u : TS} {D : Ends} {σ : L2.St} {H : Hp} (h : u D σ H) : tNext { D with nx := u D } σ H := h
theorem rd_nx {D : Ends} {σ : L2.St} {H : Hp} (h : D.nx σ H) : tNext D σ H := h
theorem rd_ifS {c : TT} {t u : TS} {D : Ends} {σ : L2.St} {H : Hp} (h : c σ H fun b H1 => if b = true then t D σ H1 else u D σ H1) : tIfS c t u D σ H := h
theorem rd_seq {u v : TS} {D : Ends} {σ : L2.St} {H : Hp} (h : u { D with nx := v D } σ H) : tSeq u v D σ H := h
theorem rd_asg {te : TE} {g : TG} {u : TS} {D : Ends} {σ : L2.St} {H : Hp} (h : te σ H fun x H1 => g x σ H1 (u D)) : tSeq (tAsg te g) u D σ H := h
theorem rd_par {i j : Nat} {ta : TA} {u : TS} {D : Ends} {σ : L2.St} {H : Hp} (h : ta σ H fun vs H1 => ∃ v w, vs = [v, w] ∧ u D ((σ.set i (some v)).set j (some w)) H1) : tSeq (tPar i j ta) u D σ H := h
theorem rd_yes {σ : L2.St} {H : Hp} {P R : Hp → Prop} (h : P H) : tYes σ H fun b H4 => if b = true then P H4 else R H4 := (if_pos rfl : (if true = true then P H else R H) = P H).mpr h
section
variable {wi : TI} {J : It} {g : TG} {tt : TT} {tb : TS} {te : TE} {vs : List Nat} {σ : L2.St} {H H1 : Hp} {Q : VK} {D : Ends}
def ForOk (J : It) (g : TG) (tb : TS) (D : Ends) (σ : L2.St) (H1 : Hp) : Prop := ∃ W : Nat → Nat → L2.St → Hp → Prop, (∃ m, W 0 m σ H1) ∧ ∀ i m σ H, W i m σ H →
  (J.stop i H ∧ D.nx σ H) ∨ (J.go i H ∧ ∃ N : L2.St → Hp → Prop, (∀ σ' H', N σ' H' → ∃ m', m' < m ∧ W (i + 1) m' σ' H') ∧ ∀ x H', J.yld i H x H' → g x σ H' fun σ2 H2 => tb { D with nx := N, ct := N, bk := D.nx } σ2 H2)
theorem rd_for (h : wi σ H fun J H1 => ForOk J g tb D σ H1) : tFor wi g tb D σ H := h
/-- for, n turns: I by the turn -/
theorem for_in (n : Nat) (I : Nat → L2.St → Hp → Prop) (h0 : I 0 σ H1)
    (hstop : ∀ σ' H', I n σ' H' → J.stop n H' ∧ D.nx σ' H')
    (hgo : ∀ i σ' H', i < n → I i σ' H' → J.go i H' ∧ ∀ N : L2.St → Hp → Prop, (∀ σ2 H2, I (i + 1) σ2 H2 → N σ2 H2) → ∀ x H2, J.yld i H' x H2 → g x σ' H2 fun σ3 H3 => tb { D with nx := N, ct := N, bk := D.nx } σ3 H3) :
    ForOk J g tb D σ H1 := by
  refine ⟨fun i m σ' H' => i + m = n ∧ I i σ' H', ⟨n, Nat.zero_add n, h0⟩, fun i m σ' H' ⟨e, h⟩ => ?_⟩
  by_cases hm : m = 0
  · subst hm
    have e' : i = n := by omega
    subst e'
    exact .inl (hstop _ _ h)
  · obtain ⟨h1, h2⟩ := hgo i σ' H' (by omega) h
    exact .inr ⟨h1, fun σ2 H2 => I (i + 1) σ2 H2, fun σ2 H2 k => ⟨m - 1, by omega, by omega, k⟩, h2 _ fun _ _ k => k⟩
def LcOk (J : It) (g : TG) (tt : TT) (te : TE) (vs : List Nat) (Q : VK) (σ : L2.St) (H1 : Hp) : Prop := ∀ D, H1 D = none → ∃ W : Nat → Nat → Hp → Prop, (∃ m, W 0 m (upd H1 D (.lst []))) ∧ ∀ i m H, W i m H →
  (J.stop i H ∧ Q (.ref D) H) ∨ (J.go i H ∧ ∃ Nx : Hp → Prop, (∀ H', Nx H' → ∃ m', m' < m ∧ W (i + 1) m' H') ∧ ∀ x H', J.yld i H x H' → g x (wipe σ vs) H' fun σ2 H2 => wipe σ2 vs = wipe σ vs ∧ tt σ2 H2 fun b H3 =>
    if b = true then te σ2 H3 fun y H4 => ∃ acc, H4 D = some (.lst acc) ∧ acc.length < sizeLine ∧ Nx (upd H4 D (.lst (acc ++ [y]))) else Nx H3)
theorem rd_lc (h : wi σ H fun J H1 => LcOk J g tt te vs Q σ H1) : tLc wi g tt te vs σ H Q := h
/-- a comprehension, n turns: I by the new list, the turn, what is there -/
theorem lc_in (n : Nat) (hn : n ≤ 1000) (I : Addr → Nat → List V → Hp → Prop)
    (h0 : ∀ L, H1 L = none → I L 0 [] (upd H1 L (.lst [])))
    (hstop : ∀ L acc H', H' L = some (.lst acc) → I L n acc H' → J.stop n H' ∧ Q (.ref L) H')
    (hgo : ∀ L i acc H', i < n → H' L = some (.lst acc) → I L i acc H' → J.go i H' ∧ ∀ (P : VK) (R : Hp → Prop), (∀ y H2, H2 L = some (.lst acc) → I L (i + 1) (acc ++ [y]) (upd H2 L (.lst (acc ++ [y]))) → P y H2) → (∀ H2, H2 L = some (.lst acc) → I L (i + 1) acc H2 → R H2) →
      ∀ x H2, J.yld i H' x H2 → g x (wipe σ vs) H2 fun σ2 H3 => wipe σ2 vs = wipe σ vs ∧ tt σ2 H3 fun b H4 => if b = true then te σ2 H4 P else R H4) :
    LcOk J g tt te vs Q σ H1 := by
  refine fun L hL => ⟨fun i m H' => i + m = n ∧ ∃ acc, H' L = some (.lst acc) ∧ acc.length ≤ i ∧ I L i acc H', ⟨n, Nat.zero_add n, [], upd_same, Nat.zero_le _, h0 L hL⟩, fun i m H' ⟨e, acc, h1, h2, h3⟩ => ?_⟩
  by_cases hm : m = 0
  · subst hm
    have e' : i = n := by omega
    subst e'
    exact .inl (hstop L acc H' h1 h3)
  · obtain ⟨k1, k2⟩ := hgo L i acc H' (by omega) h1 h3
    refine .inr ⟨k1, fun H2 => ∃ acc', H2 L = some (.lst acc') ∧ acc'.length ≤ i + 1 ∧ I L (i + 1) acc' H2, fun H2 k => ⟨m - 1, by omega, by omega, k⟩, k2 _ _ (fun y H2 z1 z2 => ⟨acc, z1, szl (by omega), acc ++ [y], upd_same, by rw [List.length_append]; exact Nat.succ_le_succ h2, z2⟩) fun H2 z1 z2 => ⟨acc, z1, by omega, z2⟩⟩
theorem rd_rng1 {ta : TA} {R : It → Hp → Prop} (h : ta σ H fun vs H1 => ∃ j : Int, vs = [.int j] ∧ -(2 ^ 62) ≤ j ∧ j < 2 ^ 62 ∧ R (Itr 0 j.toNat) H1) : iRng1 ta σ H R := h
theorem rng_n {n : Nat} (hn : n ≤ 1000) : -(2 ^ 62) ≤ (n : Int) ∧ (n : Int) < 2 ^ 62 := by
  constructor
  · have a : (0 : Int) ≤ (n : Int) := Int.natCast_nonneg n
    exact Int.le_trans (by decide) a
  · have a : (n : Int) ≤ 1000 := by omega
    exact Int.lt_of_le_of_lt a (by decide)
theorem rd_enum {K : PySem.W.Frag} {ta : TA} {R : It → Hp → Prop} (h : ta σ H fun vs H1 => ∃ a xs, vs = [.ref a] ∧ SqL K H1 a xs ∧ R (Ite K a) H1) : iEnum K ta σ H R := h
theorem rd_zip {K : PySem.W.Frag} {ta : TA} {R : It → Hp → Prop} (h : ta σ H fun vs H1 => ∃ a b xs ys, vs = [.ref a, .ref b] ∧ SqL K H1 a xs ∧ SqL K H1 b ys ∧ R (Itz K a b) H1) : iZip K ta σ H R := h
theorem rd_ilist {K : PySem.W.Frag} {tl : TE} {R : It → Hp → Prop} (h : tl σ H fun x H1 => ∃ a, x = .ref a ∧ (∃ xs, SqL K H1 a xs) ∧ R (Itl K a) H1) : iList K tl σ H R := h
theorem rd_or {t u : TT} {Q : Bool → Hp → Prop} (h : t σ H fun c H1 => if c = true then Q true H1 else u σ H1 Q) : tOr t u σ H Q := h
theorem rd_and {t u : TT} {Q : Bool → Hp → Prop} (h : t σ H fun c H1 => if c = true then u σ H1 Q else Q false H1) : tAnd t u σ H Q := h
theorem rd_not {t : TT} {Q : Bool → Hp → Prop} (h : t σ H fun c H1 => Q (!c) H1) : tNot t σ H Q := h
theorem rd_tb {te : TE} {Q : Bool → Hp → Prop} (h : te σ H fun x H1 => ∃ c, x = .bl c ∧ Q c H1) : tB te σ H Q := h
theorem rd_gnn {K : PySem.W.Frag} {i j : Nat} {a : Addr} {v w : V} {Q : L2.St → Hp → Prop} (h : SqT K H a [v, w]) (q : Q ((σ.set i (some v)).set j (some w)) H) : gTup K 2 (gCons (gName i) (gCons (gName j) gNil)) (.ref a) σ H Q := ⟨a, _, rfl, h, rfl, _, _, rfl, _, _, rfl, rfl, q⟩
theorem rd_gnt {K : PySem.W.Frag} {i j k : Nat} {a b : Addr} {v w z : V} {Q : L2.St → Hp → Prop} (h : SqT K H a [v, .ref b]) (h2 : SqT K H b [w, z]) (q : Q (((σ.set i (some v)).set j (some w)).set k (some z)) H) : gTup K 2 (gCons (gName i) (gCons (gTup K 2 (gCons (gName j) (gCons (gName k) gNil))) gNil)) (.ref a) σ H Q :=
  ⟨a, _, rfl, h, rfl, _, _, rfl, _, _, rfl, b, _, rfl, h2, rfl, _, _, rfl, _, _, rfl, rfl, rfl, q⟩
theorem dp_bools {K : PySem.W.Frag} {a : Addr} (js : List Nat) (f : Nat → Bool) (h : H a = some (.lst (js.map fun j => V.bl (f j)))) : Dp K H (.ref a) (.list (js.map fun j => .bool (f j))) := by
  refine .lst (sq h) ?_
  induction js generalizing a with
  | nil => exact .nil
  | cons j js ih => 
    have key : ∀ js : List Nat, DpAll K H (js.map fun j => V.bl (f j)) (js.map fun j => .bool (f j)) := fun js => by
      induction js with
      | nil => exact .nil
      | cons j js ih => exact .cons (.bl _) ih
    exact key _
/-- [e for j in range(n)], e reads what stands and changes nothing -/
theorem lc_rng {ta : TA} {i9 : Nat} (n : Nat) (hn : n ≤ 1000) (f : Nat → V) (hta : ∀ R : List V → Hp → Prop, R [.int n] H → ta σ H R) (hw : ∀ j : Int, wipe ((wipe σ vs).set i9 (some (.int j))) vs = wipe σ vs)
    (he : ∀ j, j < n → ∀ H', Same H H' → ∀ P : VK, P (f j) H' → te ((wipe σ vs).set i9 (some (.int j))) H' P)
    (q : ∀ L H', Same H H' → H L = none → H' L = some (.lst ((List.range n).map f)) → Q (.ref L) H') : tLc (iRng1 ta) (gName i9) tYes te vs σ H Q := by
  refine rd_lc (rd_rng1 (hta _ ⟨n, rfl, (rng_n hn).1, (rng_n hn).2, ?_⟩))
  rw [Int.toNat_natCast]
  refine lc_in n hn (fun L i acc H' => H L = none ∧ Same H H' ∧ acc = (List.range i).map f) (fun L hL => ⟨hL, same_upd hL, rfl⟩) (fun L acc H' h1 ⟨h2, h3, h4⟩ => ⟨Nat.le_refl n, q L H' h3 h2 (by rw [h1, h4])⟩) fun L i acc H' hi h1 ⟨h2, h3, h4⟩ => ⟨hi, fun P R hP hR x H2 ⟨e1, e2⟩ => ?_⟩
  subst e1
  subst e2
  subst h4
  rw [Int.zero_add]
  refine ⟨hw _, rd_yes (he i hi H2 h3 _ (hP _ _ h1 ⟨h2, ?_, ?_⟩))⟩
  · exact fun b o z => by
      rw [upd_ne (ne_of_none z h2)]
      exact h3 b o z
  · rw [List.range_succ, List.map_append]
    rfl
end
end DD

set_option Elab.async false
set_option linter.all false
set_option maxRecDepth 100000
set_option maxHeartbeats 4000000
/-! RPU: tuple * int, any int that is not too great. -/
namespace RPU
open PySem PySem.Spec PyProof.Rows L2
theorem tuple_mul0 (l : Addr) (items : Array Value) (n : Nat) (dd : Option Addr) (sl : Array (Option Value)) (x : Int) (u : Tok) (c0 : (decide (x < -(2 ^ 63)) || decide (x ≥ 2 ^ 63)) = false) (c1 : (items.isEmpty || x == 1) = false) (c2 : (decide (x ≤ 0) || items.isEmpty) = true) :
    Meets (Builtin.«tuple.__mul__» ⟨[.ref l, .int x u], []⟩) (fun _ R s => s.heap.get? l = some { cls := .type "tuple", dict := dd, data := .seq items n, slots := sl } ∧
      R (.ok (.ret (Value.ref s.heap.objs.size))) { s with heap := s.heap.push { cls := Value.type "tuple", data := Data.seq #[] }, toks := s.toks }) :=
  .of_wp fun prog w A R s h => by
    obtain ⟨hp, g, d, tk, os⟩ := s
    obtain ⟨hl, h⟩ := h
    have f1 := AutoSeq1.idx_int
    wp_walk using wpAny_loadPart' hl
    repeat (first
      | (refine wpAny_ite_false (decide_eq_false (by rw [c0]; exact Bool.false_ne_true)) ?_; wp_walk using wpAny_loadPart' hl)
      | (refine wpAny_ite_false (decide_eq_false (by rw [c1]; exact Bool.false_ne_true)) ?_; wp_walk using wpAny_loadPart' hl)
      | (refine wpAny_ite_true (decide_eq_true c2) ?_; wp_walk using wpAny_loadPart' hl))
    exact ⟨_, rfl, h⟩
theorem tuple_mul1 (l : Addr) (items : Array Value) (n : Nat) (dd : Option Addr) (sl : Array (Option Value)) (x : Int) (u : Tok) (c0 : (decide (x < -(2 ^ 63)) || decide (x ≥ 2 ^ 63)) = false) (c1 : (items.isEmpty || x == 1) = true) :
    Meets (Builtin.«tuple.__mul__» ⟨[.ref l, .int x u], []⟩) (fun _ R s => s.heap.get? l = some { cls := .type "tuple", dict := dd, data := .seq items n, slots := sl } ∧
      R (.ok (.ret (Value.ref l))) s) :=
  .of_wp fun prog w A R s h => by
    obtain ⟨hp, g, d, tk, os⟩ := s
    obtain ⟨hl, h⟩ := h
    have f1 := AutoSeq1.idx_int
    wp_walk using wpAny_loadPart' hl
    repeat (first
      | (refine wpAny_ite_false (decide_eq_false (by rw [c0]; exact Bool.false_ne_true)) ?_; wp_walk using wpAny_loadPart' hl)
      | (refine wpAny_ite_true (decide_eq_true c1) ?_; wp_walk using wpAny_loadPart' hl))
    exact ⟨_, rfl, h⟩
/-- t * k: nothing at k <= 0, t itself at k = 1 or where t is empty -/
def rRepU (K : PySem.W.Frag) : R2 := fun x y H Q => ∃ l k xs, x = .ref l ∧ y = .int k ∧ SqT K H l xs ∧ -(2 ^ 62) ≤ k ∧ k ≤ 1000 ∧ xs.length ≤ 1000 ∧ (xs = [] ∨ k = 1 → Q (.ref l) H) ∧ (xs ≠ [] → k ≠ 1 → ∀ p, H p = none → Q (.ref p) (upd H p (.tup (List.replicate k.toNat xs).flatten)))
theorem op_repU {X : Cx} : OpR X (binaryOp .Mult) (rRepU X.K) := by
  intro pins s σ H x y v u Q I rx ry h
  obtain ⟨l, k, xs, rfl, rfl, hT, h0, h1, hz, q1, q2⟩ := h
  by_cases big : xs ≠ [] ∧ 2 ≤ k
  · exact op_repT pins s σ H (.ref l) (.int k) v u Q I rx ry ⟨l, k, xs, rfl, rfl, hT, big.1, big.2, h1, hz, q2 big.1 (by omega)⟩
  cases rx
  obtain ⟨t, rfl⟩ := ry
  obtain ⟨its, r, ⟨⟨cls, dd, data, sl⟩, ho, hc, n, hd⟩, hs⟩ := I.tuple hT
  simp only at hc hd
  subst hc hd
  have hle : its.length = xs.length := r.length.symm
  have c0 : (decide (k < -(2 ^ 63)) || decide (k ≥ 2 ^ 63)) = false := by
    rw [decide_eq_false (by omega), decide_eq_false (by omega)] <;> rfl
  by_cases same : xs = [] ∨ k = 1
  · have c1 : (its.toArray.isEmpty || k == 1) = true := by
      rcases same with e | e
      · have e2 : its = [] := List.eq_nil_of_length_eq_zero (by rw [hle, e]; rfl)
        rw [e2]
        rfl
      · rw [e]
        simp
    refine wpAny_binaryOp_repeat_ref (T := "tuple") (U := "int") (by decide) ⟨_, ho, rfl⟩ (fun s' => typeIs_int s' k t) noFill_tuple_mul F.fills_int_mul F.slot_int_rmul repeat_tuple F.slot_int_index.lookup
      (call_meets F.slot_int_rmul (typeIs_int s k t) F.entry_int_rmul (F.args_int_rmul_2 _ _) (int_rmul_tuple k t l its.toArray n dd sl)
        ⟨ho, rfl, ⟨_, ho, rfl⟩, call_meets F.slot_tuple_mul ⟨_, ho, rfl⟩ F.entry_tuple_mul (F.args_tuple_mul_2 _ _) (tuple_mul1 l its.toArray n dd sl k t c0 c1) ⟨ho, ?_⟩⟩)
    exact ⟨.ref l, H, I, rfl, q1 same⟩
  · have hne : xs ≠ [] := fun e => same (.inl e)
    have hk1 : k ≠ 1 := fun e => same (.inr e)
    have hk : k ≤ 0 := by
      by_cases z : 2 ≤ k
      · exact absurd ⟨hne, z⟩ big
      · omega
    have hn : its ≠ [] := fun e => hne (by
      rw [e] at hle
      exact List.eq_nil_of_length_eq_zero hle.symm)
    have hi : its.toArray.isEmpty = false := by
      cases its with
      | nil => exact absurd rfl hn
      | cons a b => rfl
    have c1 : (its.toArray.isEmpty || k == 1) = false := by
      rw [hi, Bool.false_or]
      exact beq_eq_false_iff_ne.mpr hk1
    have c2 : (decide (k ≤ 0) || its.toArray.isEmpty) = true := by
      rw [decide_eq_true hk] <;> rfl
    refine wpAny_binaryOp_repeat_ref (T := "tuple") (U := "int") (by decide) ⟨_, ho, rfl⟩ (fun s' => typeIs_int s' k t) noFill_tuple_mul F.fills_int_mul F.slot_int_rmul repeat_tuple F.slot_int_index.lookup
      (call_meets F.slot_int_rmul (typeIs_int s k t) F.entry_int_rmul (F.args_int_rmul_2 _ _) (int_rmul_tuple k t l its.toArray n dd sl)
        ⟨ho, rfl, ⟨_, ho, rfl⟩, call_meets F.slot_tuple_mul ⟨_, ho, rfl⟩ F.entry_tuple_mul (F.args_tuple_mul_2 _ _) (tuple_mul0 l its.toArray n dd sl k t c0 c1 c2) ⟨ho, ?_⟩⟩)
    have e0 : (List.replicate k.toNat xs).flatten = [] := by
      have : k.toNat = 0 := by omega
      rw [this]
      rfl
    have q3 := q2 hne hk1
    rw [e0] at q3
    refine ⟨.ref s.heap.objs.size, _, I.laid (t' := s.toks) (o := .tup []) (fun b ob q => Heap.get?_push_of_some _ q) (Nat.le_refl _) ?_, rfl, q3 _ (I.hok.fresh (Nat.le_refl _))⟩
    exact ⟨Nat.zero_le _, [], .nil, IsTup.new _ _⟩
end RPU

set_option Elab.async false
set_option linter.all false
set_option maxRecDepth 100000
set_option maxHeartbeats 4000000
/-! PT: tuples that are known to have no dict of their own (a new tuple's very object is kept in mind), and dict(t) of such a tuple. -/
namespace PT
open PySem PySem.Spec PyProof.Rows L2 GG
/-- a tuple without a dict of its own -/
def PlT (K : PySem.W.Frag) (H : Hp) (a : Addr) (xs : List V) : Prop := (∃ o, H a = some (.frz o (.tup xs)) ∧ o.dict = none) ∨
  ∃ (o : Obj) (its : Array Value) (n : Nat), K.lookup a = some o ∧ o.cls = .type "tuple" ∧ o.dict = none ∧ o.data = .seq its n ∧ its.size ≤ sizeLine ∧ Vals xs its.toList
theorem PlT.sq {K : PySem.W.Frag} {H : Hp} {a : Addr} {xs : List V} (h : PlT K H a xs) : SqT K H a xs := by
  rcases h with ⟨o, h, _⟩ | ⟨o, its, n, h1, h2, _, h3, h4, h5⟩
  · exact .inl (.inr ⟨o, h⟩)
  · exact .inr ⟨o, its, n, h1, h2, h3, h4, h5⟩
theorem PlT.same {K : PySem.W.Frag} {H H' : Hp} {a : Addr} {xs : List V} (s : Same H H') (h : PlT K H a xs) : PlT K H' a xs := by
  rcases h with ⟨o, h, e⟩ | h
  · exact .inl ⟨o, s _ _ h, e⟩
  · exact .inr h
/-- a new tuple is there -/
abbrev NewT (H : Hp) (xs : List V) (Q : VK) : Prop := ∀ p o, H p = none → o.dict = none → Q (.ref p) (upd H p (.frz o (.tup xs)))
section
variable {X : Cx} {pins : List (Addr × Obj)} {σ : L2.St} {H : Hp} {s : Shared}
/-- laid: the tuple's object as it was pushed -/
theorem laidT (I : Inv X pins σ H s) {xs : List V} {us : List Value} (r : Vals xs us) (hz : xs.length ≤ sizeLine) {Q : VK} (q : NewT H xs Q) :
    EP X pins σ Q (.ref s.heap.objs.size) { s with heap := s.heap.push { cls := .type "tuple", data := .seq us.toArray } } := by
  have hg : (s.heap.push { cls := .type "tuple", data := .seq us.toArray }).get? s.heap.objs.size = some { cls := .type "tuple", data := .seq us.toArray } := Heap.get?_push_size _ rfl
  refine ⟨.ref s.heap.objs.size, _, I.laid (t' := s.toks) (o := .frz { cls := .type "tuple", data := .seq us.toArray } (.tup xs)) (fun b u e => Heap.get?_push_of_some _ e) (Nat.le_refl _) ?_, rfl, q _ _ (I.hok.fresh (Nat.le_refl _)) rfl⟩
  exact ⟨hg, hz, us, r, ⟨_, hg, rfl, _, rfl⟩⟩
end
section
variable {X : Cx} {pos : Pos} {es : List Expr} {t : TA}
def tTupP (t : TA) : TE := fun σ H Q => t σ H fun xs H1 => xs.length ≤ sizeLine ∧ NewT H1 xs Q
theorem pe_tupP {x1} (h : PA X es t) : PE X (.Tuple es x1 pos) (tTupP t) := by
  refine ⟨fun pins s σ H Q I hq => ?_⟩
  refine wpAny_Tuple_spliced (thn (h.run pos pins s σ H _ I hq) fun us s1 ⟨xs, H1, I1, r, z, q⟩ => ⟨by rw [← r.length]; exact z, ?_⟩)
  exact laidT I1 r z q
/-- tuple(xs) of a list, of a tuple -/
def rToP (K : PySem.W.Frag) : List V → Hp → VK → Prop := fun xs H Q => ∃ p ys, xs = [.ref p] ∧ ((SqL K H p ys ∧ NewT H ys Q) ∨ (SqT K H p ys ∧ Q (.ref p) H))
theorem call_tuple_ofP : CallR X (.type "tuple") (rToP X.K) := by
  intro pins s σ H xs us Q I r h
  obtain ⟨p, ys, rfl, h⟩ := h
  obtain ⟨u, rfl, rx⟩ := vals1 r
  cases rx
  rcases h with ⟨hq, q⟩ | ⟨hq, q⟩
  · obtain ⟨its, r', pl, hz⟩ := I.list hq
    have hlen := r'.length
    refine call_tuple_list pl.isList (fun h' kp => ?_) (by simp only [List.size_toArray] <;> omega)
    exact laidT (s := { s with heap := h' }) (I.kept (t' := s.toks) kp) r' hz q
  · exact call_tuple_of pins s σ H [.ref p] [Value.ref p] Q I (.cons rfl .nil) ⟨p, ys, rfl, .inr ⟨hq, q⟩⟩
def rCatP (K : PySem.W.Frag) : R2 := fun x y H Q => ∃ a b xs ys, x = .ref a ∧ y = .ref b ∧ SqT K H a xs ∧ SqT K H b ys ∧ xs.length + ys.length ≤ sizeLine ∧
  (xs = [] → Q (.ref b) H) ∧ (xs ≠ [] → ys = [] → Q (.ref a) H) ∧ (xs ≠ [] → ys ≠ [] → NewT H (xs ++ ys) Q)
theorem op_catP : OpR X (binaryOp .Add) (rCatP X.K) := by
  intro pins s σ H x y v u Q I rx ry h
  obtain ⟨a, b, xs, ys, rfl, rfl, ha, hb, hz, q0, q1, q2⟩ := h
  by_cases hx : xs = []
  · exact op_catA pins s σ H (.ref a) (.ref b) v u Q I rx ry ⟨a, b, xs, ys, rfl, rfl, ha, hb, hz, q0, q1, fun z => absurd hx z⟩
  · cases rx
    cases ry
    obtain ⟨its, r1, p1, _⟩ := I.tuple ha
    obtain ⟨its2, r2, p2, _⟩ := I.tuple hb
    refine HT.cat_tup p1 p2 (fun z => hx (r1.nil_iff.mp z)) (fun z => ⟨.ref a, H, I, rfl, q1 hx (r2.nil_iff.mp z)⟩) (fun z => ?_) (by rw [← r1.length, ← r2.length]; exact hz)
    exact laidT I (r1.append r2) (by rw [List.length_append]; exact hz) (q2 hx fun w => z (r2.nil_iff.mpr w))
def rSlP (K : PySem.W.Frag) : V → Option Int → Option Int → Hp → VK → Prop := fun x lo hi H Q => ∃ a xs, x = .ref a ∧ SqT K H a xs ∧
  (HT.sIx xs.length 0 lo = 0 ∧ HT.sIx xs.length xs.length hi = xs.length → Q (.ref a) H) ∧ (¬ (HT.sIx xs.length 0 lo = 0 ∧ HT.sIx xs.length xs.length hi = xs.length) → NewT H (cutV xs lo hi) Q)
theorem sl_tupP : SlR X (rSlP X.K) := by
  intro pins s σ H x v vl vu lo hi sl Q I rx hs pl pu h
  obtain ⟨a, xs, rfl, hx, q1, q2⟩ := h
  by_cases hw : HT.sIx xs.length 0 lo = 0 ∧ HT.sIx xs.length xs.length hi = xs.length
  · exact sl_tupA pins s σ H (.ref a) v vl vu lo hi sl Q I rx hs pl pu ⟨a, xs, rfl, hx, q1, fun z => absurd hw z⟩
  · cases rx
    obtain ⟨its, r, ht, hz⟩ := I.tuple hx
    have hlen : its.toArray.size = xs.length := by rw [List.size_toArray]; exact r.length.symm
    refine ⟨"tuple", _, PyProof.Rows.slot_tuple_getitem.lookup, ht.typeIs, ?_⟩
    refine HT.getItem_tuple_cut ht hs pl pu (by rw [hlen]; exact hw) ?_ (by rw [hlen]; exact hz)
    rw [hlen]
    exact laidT I ((r.drop (HT.sIx xs.length 0 lo)).take (HT.sIx xs.length xs.length hi - HT.sIx xs.length 0 lo)) (Nat.le_trans (cutV_length xs lo hi) hz) (q2 hw)
/-- t * k -/
def rRepP (K : PySem.W.Frag) : R2 := fun x y H Q => ∃ l k xs, x = .ref l ∧ y = .int k ∧ SqT K H l xs ∧ -(2 ^ 62) ≤ k ∧ k ≤ 1000 ∧ xs.length ≤ 1000 ∧ (xs = [] ∨ k = 1 → Q (.ref l) H) ∧ (xs ≠ [] → k ≠ 1 → NewT H (List.replicate k.toNat xs).flatten Q)
theorem op_repP : OpR X (binaryOp .Mult) (rRepP X.K) := by
  intro pins s σ H x y v u Q I rx ry h
  obtain ⟨l, k, xs, rfl, rfl, hT, h0, h1, hz, q1, q2⟩ := h
  by_cases same : xs = [] ∨ k = 1
  · exact RPU.op_repU pins s σ H (.ref l) (.int k) v u Q I rx ry ⟨l, k, xs, rfl, rfl, hT, h0, h1, hz, q1, fun a b => absurd same (fun z => z.elim a b)⟩
  cases rx
  obtain ⟨t, rfl⟩ := ry
  obtain ⟨its, r, ⟨⟨cls, dd, data, sl⟩, ho, hc, n, hd⟩, hs⟩ := I.tuple hT
  simp only at hc hd
  subst hc hd
  have hle : its.length = xs.length := r.length.symm
  have hne : xs ≠ [] := fun e => same (.inl e)
  have hk1 : k ≠ 1 := fun e => same (.inr e)
  have hn : its ≠ [] := fun e => hne (by
    rw [e] at hle
    exact List.eq_nil_of_length_eq_zero hle.symm)
  have hi : its.toArray.isEmpty = false := by
    cases its with
    | nil => exact absurd rfl hn
    | cons a b => rfl
  have c0 : (decide (k < -(2 ^ 63)) || decide (k ≥ 2 ^ 63)) = false := by
    rw [decide_eq_false (by omega), decide_eq_false (by omega)] <;> rfl
  have c1 : (its.toArray.isEmpty || k == 1) = false := by
    rw [hi, Bool.false_or]
    exact beq_eq_false_iff_ne.mpr hk1
  by_cases hk : k ≤ 0
  · have c2 : (decide (k ≤ 0) || its.toArray.isEmpty) = true := by
      rw [decide_eq_true hk] <;> rfl
    refine wpAny_binaryOp_repeat_ref (T := "tuple") (U := "int") (by decide) ⟨_, ho, rfl⟩ (fun s' => typeIs_int s' k t) noFill_tuple_mul F.fills_int_mul F.slot_int_rmul repeat_tuple F.slot_int_index.lookup
      (call_meets F.slot_int_rmul (typeIs_int s k t) F.entry_int_rmul (F.args_int_rmul_2 _ _) (int_rmul_tuple k t l its.toArray n dd sl)
        ⟨ho, rfl, ⟨_, ho, rfl⟩, call_meets F.slot_tuple_mul ⟨_, ho, rfl⟩ F.entry_tuple_mul (F.args_tuple_mul_2 _ _) (RPU.tuple_mul0 l its.toArray n dd sl k t c0 c1 c2) ⟨ho, ?_⟩⟩)
    have e0 : (List.replicate k.toNat xs).flatten = [] := by
      have : k.toNat = 0 := by omega
      rw [this]
      rfl
    have q3 := q2 hne hk1
    rw [e0] at q3
    exact laidT I (us := []) .nil (Nat.zero_le _) q3
  · have c2 : (decide (k ≤ 0) || its.toArray.isEmpty) = false := by
      rw [hi, Bool.or_false]
      exact decide_eq_false hk
    have hsz0 : its.toArray.size = xs.length := by rw [List.size_toArray, hle]
    have hm : ((its.toArray.size : Nat) : Int) * k ≤ 1000000 := by
      rw [hsz0]
      have a1 : ((xs.length : Nat) : Int) * k ≤ 1000 * k := Int.mul_le_mul_of_nonneg_right (by omega) (by omega)
      omega
    have flen : (List.replicate k.toNat its).flatten.length ≤ sizeLine := by
      rw [PyProof.Rows.lm_len_rep_flat, hle, sizeLine_eq]
      have a1 : k.toNat * xs.length ≤ 1000 * 1000 := Nat.mul_le_mul (by omega) hz
      omega
    have flen2 : (List.replicate k.toNat xs).flatten.length ≤ sizeLine := by
      rw [PyProof.Rows.lm_len_rep_flat, sizeLine_eq]
      have a1 : k.toNat * xs.length ≤ 1000 * 1000 := Nat.mul_le_mul (by omega) hz
      omega
    have c4 : Builtin.Tuple.tupleTooMany (((its.toArray.size : Nat) : Int) * k) = false := by
      unfold Builtin.Tuple.tupleTooMany
      rw [sizeLine_eq]
      exact decide_eq_false (by omega)
    refine wpAny_binaryOp_repeat_ref (T := "tuple") (U := "int") (by decide) ⟨_, ho, rfl⟩ (fun s' => typeIs_int s' k t) noFill_tuple_mul F.fills_int_mul F.slot_int_rmul repeat_tuple F.slot_int_index.lookup
      (call_meets F.slot_int_rmul (typeIs_int s k t) F.entry_int_rmul (F.args_int_rmul_2 _ _) (int_rmul_tuple k t l its.toArray n dd sl)
        ⟨ho, rfl, ⟨_, ho, rfl⟩, call_meets F.slot_tuple_mul ⟨_, ho, rfl⟩ F.entry_tuple_mul (F.args_tuple_mul_2 _ _) (tuple_mulW l its.toArray n dd sl k t c0 c1 c2 (by omega) c4 (by rw [size_rep, List.size_toArray]; exact flen)) ⟨ho, ?_⟩⟩)
    rw [size_rep]
    exact laidT I (r.rep k.toNat) flen2 (q2 hne hk1)
/-- the pairs of a plain tuple -/
theorem pairs_at {pins : List (Addr × Obj)} {σ : L2.St} {H : Hp} {s : Shared} (I : Inv X pins σ H s) : ∀ {ps : List Addr} {kvs : List (L2.Key × V)}, Paired (fun p kv => SqT X.K H p [kV kv.1, kv.2]) ps kvs →
    ∃ qs : List (Value × Value), ∃ prs : List (L2.Key × Value), KV kvs prs ∧ qs.length = ps.length ∧ prs.length = ps.length ∧ (∀ (j : Nat) (k v : Value), qs[j]? = some (k, v) → (∃ b : Addr, ps[j]? = some b ∧ IsTup s.heap b #[k, v]) ∧ ∃ kk, prs[j]? = some (kk, v) ∧ keyIs kk k = true)
  | _, _, .nil => ⟨[], [], .nil, rfl, rfl, fun j k v e => by simp at e⟩
  | _, _, .cons (a := p) (b := kv) h t => by
    obtain ⟨qs, prs, r, h1, h2, h3⟩ := pairs_at I t
    obtain ⟨its, rv, ht, _⟩ := I.tuple h
    obtain ⟨u, y, ei, ru, ry⟩ := vals2 rv
    subst ei
    refine ⟨(u, y) :: qs, (kv.1, y) :: prs, .cons ⟨rfl, ry⟩ r, by rw [List.length_cons, List.length_cons, h1], by rw [List.length_cons, List.length_cons, h2], fun j k v e => ?_⟩
    cases j with
    | zero =>
      have e' : (u, y) = (k, v) := Option.some.inj e
      cases e'
      exact ⟨⟨p, rfl, ht⟩, kv.1, rfl, kV_is (P := X.prog) (w := X.w) ru⟩
    | succ j =>
      obtain ⟨⟨b, e1, e2⟩, kk, e3, e4⟩ := h3 j k v (by simpa using e)
      exact ⟨⟨b, by simpa using e1, e2⟩, kk, by simpa using e3, e4⟩
/-- dict(t) of a tuple of pairs (key, value): later pairs win, the place is the first one's -/
def rDictT (K : PySem.W.Frag) : List V → Hp → VK → Prop := fun xs H Q => ∃ (a : Addr) (ps : List Addr) (kvs : List (L2.Key × V)), xs = [.ref a] ∧ PlT K H a (ps.map V.ref) ∧ Paired (fun p kv => SqT K H p [kV kv.1, kv.2]) ps kvs ∧
    ∀ p, H p = none → Q (.ref p) (upd H p (.dK (mergeK [] kvs)))
theorem call_dictT (hcalm : X.calm = true) : CallR X (.type "dict") (rDictT X.K) := by
  intro pins s σ H xs us Q I r q
  obtain ⟨a, ps, kvs, ex, hq, hp, q⟩ := q
  subst ex
  obtain ⟨u, eu, rx⟩ := vals1 r
  subst eu
  cases rx
  obtain ⟨qs, prs, rel, l1, l2, hpr⟩ := pairs_at I hp
  have plain : ∃ items : Array Value, PySem.PlainSeq "tuple" s.heap a items ∧ items.toList = ps.map Value.ref ∧ ps.length ≤ sizeLine := by
    rcases hq with ⟨o, h, e⟩ | ⟨o, its, n, h1, h2, e, h3, h4, h5⟩
    · obtain ⟨g, hz, its, rv, o', ho', hc', n, hd'⟩ := (show ObjOk X.prog X.w H s.heap a (.frz o (.tup (ps.map V.ref))) from I.hok a _ h)
      rw [g] at ho'
      cases ho'
      have ei := refs_at rv
      subst ei
      exact ⟨_, ⟨o, n, g, hc', e, hd'⟩, rfl, by rw [List.length_map] at hz; exact hz⟩
    · have ei := refs_at h5
      have hl : its.size = ps.length := by
        rw [← Array.length_toList, ei, List.length_map]
      exact ⟨its, ⟨o, n, I.kIn a o h1, h2, e, h3⟩, ei, by omega⟩
  obtain ⟨items, hps, hi, hz⟩ := plain
  have hsz : items.size = ps.length := by rw [← Array.length_toList, hi, List.length_map]
  have hget : ∀ (j : Nat) (b : Addr), ps[j]? = some b → items[j]? = some (.ref b) := fun j b e => by
    rw [← Array.getElem?_toList, hi, List.getElem?_map, e]
    rfl
  have P := PySem.PairArg.tuple (prog := X.prog) (w := X.w) a items (fun j => (ps[j]?).getD 0) qs
  refine PySem.call_dict_pairs (knd := mixKind X.prog X.w) (kvs := prs) P (I.ok.hd hcalm) ⟨hps, by rw [hsz, l1], fun j k v e => ?_⟩ ⟨by rw [l2, l1], fun j k v e => ?_⟩ (by rw [l1]; exact hz) fun h' tk hd' k => ?_
  · obtain ⟨⟨b, e1, e2⟩, _⟩ := hpr j k v e
    have e3 : (ps[j]?).getD 0 = b := by rw [e1]; rfl
    show items[j]? = some (Value.ref ((ps[j]?).getD 0)) ∧ PairAt s.heap ((ps[j]?).getD 0) k v
    rw [e3]
    exact ⟨hget j b e1, .inl e2⟩
  · obtain ⟨_, kk, e3, e4⟩ := hpr j k v e
    exact ⟨kk, e3, e4⟩
  · have hm : (s.heap.objs.size == sysModules) = false := beq_eq_false_iff_ne.mpr (Nat.ne_of_gt I.big)
    have hlen : (mergeK [] kvs).length ≤ sizeLine := by
      refine Nat.le_trans (length_mergeK kvs []) ?_
      rw [List.length_nil, Nat.zero_add, rel.length, l2]
      exact hz
    exact ⟨.ref s.heap.objs.size, upd H s.heap.objs.size (.dK (mergeK [] kvs)), I.laid (t' := tk) (fun b o e => k b o List.not_mem_nil e) (Nat.le_refl _) (show ObjOk X.prog X.w _ _ _ (.dK (mergeK [] kvs)) from ⟨hlen, hm, merged [] prs, KV.merge rel .nil, hd'⟩), rfl, q _ (I.hok.fresh (Nat.le_refl _))⟩
end
end PT

set_option Elab.async false
set_option linter.all false
set_option maxRecDepth 100000
set_option maxHeartbeats 4000000
/-! DLa: data in the heap (Da), the abstract state of a def's slots (DV, DSt), what ties it to the heap (Rl). -/
namespace DL
open PySem PySem.Spec PyProof.Rows L2 GG DD PT
mutual
/-- a value is this data, whatever is inside -/
inductive Da (K : PySem.W.Frag) (H : Hp) : V → PyData → Prop
  | non : Da K H .non .none
  | bl (b : Bool) : Da K H (.bl b) (.bool b)
  | int (i : Int) : Da K H (.int i) (.int i)
  | str (x : Str) : Da K H (.str x) (.str x)
  | lst {a : Addr} {xs : List V} {ds : List PyData} : H a = some (.lst xs) → DaAll K H xs ds → Da K H (.ref a) (.list ds)
  | tup {a : Addr} {xs : List V} {ds : List PyData} : PlT K H a xs → DaAll K H xs ds → Da K H (.ref a) (.tuple ds)
  | dic {a : Addr} {kvs : List (L2.Key × V)} {ds : List (PyData × PyData)} : H a = some (.dK kvs) → DaKv K H kvs ds → Da K H (.ref a) (.dict ds)
  | dct {a : Addr} {kvs : List (List L2.Key × V)} {ds : List (PyData × PyData)} : H a = some (.dT kvs) → kvs ≠ [] → DaKt K H kvs ds → Da K H (.ref a) (.dict ds)
inductive DaAll (K : PySem.W.Frag) (H : Hp) : List V → List PyData → Prop
  | nil : DaAll K H [] []
  | cons {v : V} {vs : List V} {d : PyData} {ds : List PyData} : Da K H v d → DaAll K H vs ds → DaAll K H (v :: vs) (d :: ds)
inductive DaKv (K : PySem.W.Frag) (H : Hp) : List (L2.Key × V) → List (PyData × PyData) → Prop
  | nil : DaKv K H [] []
  | cons {k : L2.Key} {v : V} {r : List (L2.Key × V)} {d : PyData} {ds : List (PyData × PyData)} : Da K H v d → DaKv K H r ds → DaKv K H ((k, v) :: r) ((keyD k, d) :: ds)
inductive DaKt (K : PySem.W.Frag) (H : Hp) : List (List L2.Key × V) → List (PyData × PyData) → Prop
  | nil : DaKt K H [] []
  | cons {k : List L2.Key} {v : V} {r : List (List L2.Key × V)} {d : PyData} {ds : List (PyData × PyData)} : Da K H v d → DaKt K H r ds → DaKt K H ((k, v) :: r) ((.tuple (k.map keyD), d) :: ds)
end
theorem rd_same {H H' : Hp} {a : Addr} {u : HO} (s : Same H H') (h : Rd H a u) : Rd H' a u := by
  rcases h with h | ⟨o, h⟩
  · exact .inl (s _ _ h)
  · exact .inr ⟨o, s _ _ h⟩
section
variable {K : PySem.W.Frag} {H H' : Hp}
mutual
theorem Da.same (s : Same H H') : ∀ (d : PyData) (v : V), Da K H v d → Da K H' v d
  | .none, _, h => by cases h; exact .non
  | .bool b, _, h => by cases h; exact .bl b
  | .int i, _, h => by cases h; exact .int i
  | .str x, _, h => by cases h; exact .str x
  | .list ds, _, h => by
    cases h with
    | lst hs ha => exact .lst (s _ _ hs) (DaAll.same s ds _ ha)
  | .tuple ds, _, h => by
    cases h with
    | tup hs ha => exact .tup (hs.same s) (DaAll.same s ds _ ha)
  | .dict ds, _, h => by
    cases h with
    | dic hs ha => exact .dic (s _ _ hs) (DaKv.same s ds _ ha)
    | dct hs hn ha => exact .dct (s _ _ hs) hn (DaKt.same s ds _ ha)
theorem DaAll.same (s : Same H H') : ∀ (ds : List PyData) (vs : List V), DaAll K H vs ds → DaAll K H' vs ds
  | [], _, h => by cases h; exact .nil
  | d :: ds, _, h => by
    cases h with
    | cons h1 h2 => exact .cons (Da.same s d _ h1) (DaAll.same s ds _ h2)
theorem DaKv.same (s : Same H H') : ∀ (ds : List (PyData × PyData)) (vs : List (L2.Key × V)), DaKv K H vs ds → DaKv K H' vs ds
  | [], _, h => by cases h; exact .nil
  | (k, d) :: ds, _, h => by
    cases h with
    | cons h1 h2 => exact .cons (Da.same s d _ h1) (DaKv.same s ds _ h2)
theorem DaKt.same (s : Same H H') : ∀ (ds : List (PyData × PyData)) (vs : List (List L2.Key × V)), DaKt K H vs ds → DaKt K H' vs ds
  | [], _, h => by cases h; exact .nil
  | (k, d) :: ds, _, h => by
    cases h with
    | cons h1 h2 => exact .cons (Da.same s d _ h1) (DaKt.same s ds _ h2)
end
theorem Da.of {v : V} {d : PyData} (h : Da K H v d) (s : Same H H') : Da K H' v d := Da.same s d v h
theorem DaAll.of {vs : List V} {ds : List PyData} (h : DaAll K H vs ds) (s : Same H H') : DaAll K H' vs ds := DaAll.same s ds vs h
theorem DaKv.of {vs : List (L2.Key × V)} {ds : List (PyData × PyData)} (h : DaKv K H vs ds) (s : Same H H') : DaKv K H' vs ds := DaKv.same s ds vs h
theorem DaKt.of {vs : List (List L2.Key × V)} {ds : List (PyData × PyData)} (h : DaKt K H vs ds) (s : Same H H') : DaKt K H' vs ds := DaKt.same s ds vs h
theorem DaAll.len : ∀ {vs : List V} {ds : List PyData}, DaAll K H vs ds → vs.length = ds.length
  | _, _, .nil => rfl
  | _, _, .cons _ h => by rw [List.length_cons, List.length_cons, DaAll.len h]
theorem DaAll.append : ∀ {vs us : List V} {ds es : List PyData}, DaAll K H vs ds → DaAll K H us es → DaAll K H (vs ++ us) (ds ++ es)
  | _, _, _, _, .nil, h => h
  | _, _, _, _, .cons h t, k => .cons h (t.append k)
theorem DaAll.get : ∀ {vs : List V} {ds : List PyData} {i : Nat} {v : V}, DaAll K H vs ds → vs[i]? = some v → ∃ d, ds[i]? = some d ∧ Da K H v d
  | _, _, _, _, .nil, e => by simp at e
  | _, _, 0, _, .cons h _, e => by
    simp at e
    subst e
    exact ⟨_, rfl, h⟩
  | _, _, i + 1, v, .cons _ t, e => by
    obtain ⟨d, h1, h2⟩ := t.get (i := i) (v := v) (by simpa using e)
    exact ⟨d, by simpa using h1, h2⟩
theorem DaAll.getD : ∀ {vs : List V} {ds : List PyData} {i : Nat} {d : PyData}, DaAll K H vs ds → ds[i]? = some d → ∃ v, vs[i]? = some v ∧ Da K H v d
  | _, _, _, _, .nil, e => by simp at e
  | _, _, 0, _, .cons h _, e => by
    simp at e
    subst e
    exact ⟨_, rfl, h⟩
  | _, _, i + 1, d, .cons _ t, e => by
    obtain ⟨v, h1, h2⟩ := t.getD (i := i) (d := d) (by simpa using e)
    exact ⟨v, by simpa using h1, h2⟩
theorem DaAll.take (n : Nat) : ∀ {vs : List V} {ds : List PyData}, DaAll K H vs ds → DaAll K H (vs.take n) (ds.take n) := by
  induction n with
  | zero => intro vs ds h; exact .nil
  | succ n ih =>
    intro vs ds h
    cases h with
    | nil => exact .nil
    | cons h t => exact .cons h (ih t)
theorem DaAll.drop (n : Nat) : ∀ {vs : List V} {ds : List PyData}, DaAll K H vs ds → DaAll K H (vs.drop n) (ds.drop n) := by
  induction n with
  | zero => intro vs ds h; exact h
  | succ n ih =>
    intro vs ds h
    cases h with
    | nil => exact .nil
    | cons h t => exact ih t
theorem DaAll.rev : ∀ {vs : List V} {ds : List PyData}, DaAll K H vs ds → DaAll K H vs.reverse ds.reverse
  | _, _, .nil => .nil
  | _, _, .cons h t => by
    rw [List.reverse_cons, List.reverse_cons]
    exact t.rev.append (.cons h .nil)
end

/-! ### slots -/
/-- what a slot holds: nothing that is known; data; a list of one's own (it may change); a dict of one's own; the deck -/
inductive DV where
  | un
  | dat (d : PyData)
  | own (ds : List PyData)
  | arg (a : Addr) (ds : List PyData)
  | owd (kvs : List (PyData × PyData))
  | owt (kvs : List (PyData × PyData))
  | lkd (a : Addr) (o : HO) (kvs : List (PyData × PyData))
  | deck
  | exc (a : Addr)
structure DSt where
  sl : List DV
  n : Nat
/-- the deck, if there is one -/
abbrev Wo := Option (Addr × Addr)
def Mu : Wo → Addr → Prop
  | none => fun _ => False
  | some (p, l) => fun b => b = p ∨ b = l
/-- the deck at p, its cells at l, n draws so far -/
structure Deck (H : Hp) (p l : Addr) (n : Nat) : Prop where
  at_ : ∃ (m : Int) (cs : List Int), H p = some (.lst [.ref l, .int m, .int (n : Int)]) ∧ H l = some (.lst (cs.map V.int)) ∧ 0 ≤ m ∧ m < 2147483647 ∧ cs.length ≤ 64
  ne : l ≠ p
def DkOk : Wo → Hp → Nat → Prop
  | none => fun _ _ => True
  | some (p, l) => fun H n => Deck H p l n
def ButW (W : Wo) (H H' : Hp) : Prop := ∀ b o, ¬ Mu W b → H b = some o → H' b = some o
theorem ButW.refl (W : Wo) (H : Hp) : ButW W H H := fun _ _ _ h => h
theorem ButW.trans {W : Wo} {H H1 H2 : Hp} (a : ButW W H H1) (b : ButW W H1 H2) : ButW W H H2 := fun c o h1 h => b c o h1 (a c o h1 h)
theorem ButW.of {W : Wo} {H H' : Hp} (s : Same H H') : ButW W H H' := fun b o _ h => s b o h
theorem Deck.same {H H' : Hp} {p l : Addr} {n : Nat} (d : Deck H p l n) (s : Same H H') : Deck H' p l n := by
  obtain ⟨⟨m, cs, h1, h2, h3⟩, h4⟩ := d
  exact ⟨⟨m, cs, s _ _ h1, s _ _ h2, h3⟩, h4⟩
theorem DkOk.same {W : Wo} {H H' : Hp} {n : Nat} (d : DkOk W H n) (s : Same H H') : DkOk W H' n := by
  cases W with
  | none => trivial
  | some w => exact Deck.same d s
theorem DkOk.taken {W : Wo} {H : Hp} {n : Nat} {b : Addr} (d : DkOk W H n) (h : Mu W b) : ∃ o, H b = some o := by
  cases W with
  | none => exact h.elim
  | some w =>
    obtain ⟨⟨m, cs, h1, h2, _⟩, _⟩ := d
    rcases h with rfl | rfl
    · exact ⟨_, h1⟩
    · exact ⟨_, h2⟩
theorem DkOk.upd {W : Wo} {H : Hp} {n : Nat} {a : Addr} {o : HO} (d : DkOk W H n) (h : ¬ Mu W a) : DkOk W (upd H a o) n := by
  cases W with
  | none => trivial
  | some w =>
    obtain ⟨⟨m, cs, h1, h2, h3⟩, h4⟩ := d
    exact ⟨⟨m, cs, by rw [upd_ne (fun e => h (.inl e.symm))]; exact h1, by rw [upd_ne (fun e => h (.inr e.symm))]; exact h2, h3⟩, h4⟩
/-- what is given at the call: the written part, the deck, what the callers hide, the heap at the call -/
structure KX where
  fr : PySem.W.Frag
  W : Wo
  B0 : Addr → Prop
  H0 : Hp
  G0 : V → PyData → Prop
  Z0 : Addr → HO → Prop
instance : Coe KX PySem.W.Frag := ⟨KX.fr⟩
/-- what stays fixed in a def's body -/
structure DC where
  K : KX
  /-- what is hidden beyond the callers' own things -/
  ex : (Addr → Prop) → Addr → Prop
  sub : ∀ (p : Addr → Prop) (b : Addr), p b → ex p b
  /-- data to be kept -/
  G : V → PyData → Prop
  /-- hidden things that are as they are -/
  Z : Addr → HO → Prop
  gsub : ∀ v d, K.G0 v d → G v d
  zsub : ∀ a o, K.Z0 a o → Z a o
/-- at the call -/
@[reducible] def DC.base (K : KX) : DC := ⟨K, fun p => p, fun _ _ h => h, K.G0, K.Z0, fun _ _ h => h, fun _ _ h => h⟩
@[reducible] def DC.W (C : DC) : Wo := C.K.W
@[reducible] def DC.H0 (C : DC) : Hp := C.K.H0
/-- hidden from all data -/
@[reducible] def DC.S0 (C : DC) : Addr → Prop := C.ex C.K.B0
def isOwn : DV → Bool
  | .own _ => true
  | .arg _ _ => true
  | .owd _ => true
  | .owt _ => true
  | _ => false
/-- hidden now: the callers' things, the deck, one's own -/
def Sof (C : DC) (σ : L2.St) (δ : List DV) : Addr → Prop := fun b => C.S0 b ∨ Mu C.W b ∨ ∃ (i : Nat) (dv : DV), δ[i]? = some dv ∧ isOwn dv = true ∧ σ[i]? = some (some (V.ref b))
def SlotOk (C : DC) (S : Addr → Prop) (H : Hp) (sl : Option V) : DV → Prop
  | .un => True
  | .dat d => ∃ v, sl = some v ∧ Da C.K (Hd S H) v d
  | .own ds => ∃ a vs, sl = some (.ref a) ∧ H a = some (.lst vs) ∧ DaAll C.K (Hd S H) vs ds
  | .arg a ds => ∃ vs, sl = some (.ref a) ∧ H a = some (.lst vs) ∧ DaAll C.K (Hd S H) vs ds
  | .owd kvs => ∃ a es, sl = some (.ref a) ∧ H a = some (.dK es) ∧ DaKv C.K (Hd S H) es kvs
  | .owt kvs => ∃ a es, sl = some (.ref a) ∧ H a = some (.dT es) ∧ DaKt C.K (Hd S H) es kvs
  | .lkd a o kvs => sl = some (.ref a) ∧ C.Z a o ∧ ∃ od es, o = .frz od (.dT es) ∧ DaKt C.K (Hd S H) es kvs
  | .deck => ∃ p l, C.W = some (p, l) ∧ sl = some (.ref p)
  | .exc a => sl = some (.ref a)
structure Rl (C : DC) (σ : L2.St) (H : Hp) (s : DSt) : Prop where
  len : σ.length = s.sl.length
  slots : ∀ (i : Nat) (dv : DV), s.sl[i]? = some dv → ∃ sl : Option V, σ[i]? = some sl ∧ SlotOk C (Sof C σ s.sl) H sl dv
  nd : ∀ (i j : Nat) (a : Addr) (dv ev : DV), s.sl[i]? = some dv → s.sl[j]? = some ev → isOwn dv = true → isOwn ev = true → σ[i]? = some (some (V.ref a)) → σ[j]? = some (some (V.ref a)) → i = j
  fr : ∀ (i : Nat) (a : Addr) (dv : DV), s.sl[i]? = some dv → isOwn dv = true → σ[i]? = some (some (V.ref a)) → C.H0 a = none ∧ ¬ C.S0 a ∧ ¬ Mu C.W a
  dk : DkOk C.W H s.n
  but : ButW C.W C.H0 H
  tk : Taken H C.S0
  gh : ∀ v d, C.G v d → Da C.K (Hd (Sof C σ s.sl) H) v d
  fz : ∀ a o, C.Z a o → C.S0 a ∧ ¬ Mu C.W a ∧ H a = some o
theorem hd_mono {S S' : Addr → Prop} {H : Hp} (h : ∀ b, S' b → S b) : Same (Hd S H) (Hd S' H) := fun a o e => by
  obtain ⟨h1, h3⟩ := hd_some e
  rw [hd_ne fun z => h1 (h _ z)]
  exact h3
theorem hd_step {S : Addr → Prop} {H H' : Hp} (h : ∀ b o, ¬ S b → H b = some o → H' b = some o) : Same (Hd S H) (Hd S H') := fun a o e => by
  obtain ⟨h1, h3⟩ := hd_some e
  rw [hd_ne h1]
  exact h _ _ h1 h3
theorem SlotOk.move {C C' : DC} {S S' : Addr → Prop} {H H' : Hp} {sl : Option V} {dv : DV} (h : SlotOk C S H sl dv) (hK : C'.K = C.K) (hW : C'.W = C.W) (s : Same (Hd S H) (Hd S' H')) (o : ∀ a, isOwn dv = true → sl = some (.ref a) → ∀ u, H a = some u → H' a = some u) (hZ : ∀ a o, C.Z a o → C'.Z a o := by exact fun _ _ h => h) : SlotOk C' S' H' sl dv := by
  cases dv with
  | un => trivial
  | dat d =>
    obtain ⟨v, h1, h2⟩ := h
    exact ⟨v, h1, hK ▸ h2.of s⟩
  | own ds =>
    obtain ⟨a, vs, h1, h2, h3⟩ := h
    exact ⟨a, vs, h1, o a rfl h1 _ h2, hK ▸ h3.of s⟩
  | arg b ds =>
    obtain ⟨vs, h1, h2, h3⟩ := h
    exact ⟨vs, h1, o b rfl h1 _ h2, hK ▸ h3.of s⟩
  | owd kvs =>
    obtain ⟨a, vs, h1, h2, h3⟩ := h
    exact ⟨a, vs, h1, o a rfl h1 _ h2, hK ▸ h3.of s⟩
  | owt kvs =>
    obtain ⟨a, vs, h1, h2, h3⟩ := h
    exact ⟨a, vs, h1, o a rfl h1 _ h2, hK ▸ h3.of s⟩
  | lkd a ob kvs =>
    obtain ⟨h1, h2, od, es, h3, h4⟩ := h
    exact ⟨h1, hZ a ob h2, od, es, h3, hK ▸ h4.of s⟩
  | deck =>
    obtain ⟨p, l, h1, h2⟩ := h
    exact ⟨p, l, hW.trans h1, h2⟩
  | exc a => exact h
section
variable {C : DC} {σ : L2.St} {H : Hp} {s : DSt}
theorem Rl.own_at (R : Rl C σ H s) {i : Nat} {a : Addr} {dv : DV} (h : s.sl[i]? = some dv) (ho : isOwn dv = true) (e : σ[i]? = some (some (V.ref a))) : ∃ o, H a = some o := by
  obtain ⟨sl, h1, h2⟩ := R.slots i dv h
  rw [e] at h1
  cases h1
  cases dv with
  | own ds =>
    obtain ⟨b, vs, e1, e2, _⟩ := h2
    cases e1
    exact ⟨_, e2⟩
  | arg b ds =>
    obtain ⟨vs, e1, e2, _⟩ := h2
    cases e1
    exact ⟨_, e2⟩
  | owd ds =>
    obtain ⟨b, vs, e1, e2, _⟩ := h2
    cases e1
    exact ⟨_, e2⟩
  | owt ds =>
    obtain ⟨b, vs, e1, e2, _⟩ := h2
    cases e1
    exact ⟨_, e2⟩
  | _ => cases ho
theorem Rl.taken (R : Rl C σ H s) : Taken H (Sof C σ s.sl) := fun b hb => by
  rcases hb with hb | hb | ⟨i, dv, h1, h2, h3⟩
  · exact R.tk b hb
  · exact R.dk.taken hb
  · exact R.own_at h1 h2 h3
theorem Rl.new (R : Rl C σ H s) {a : Addr} (na : H a = none) : ¬ Sof C σ s.sl a ∧ C.H0 a = none := by
  have h1 : ¬ Sof C σ s.sl a := R.taken.ne na
  refine ⟨h1, ?_⟩
  cases e : C.H0 a with
  | none => rfl
  | some o =>
    have := R.but a o (fun z => h1 (.inr (.inl z))) e
    rw [na] at this
    cases this
/-- the heap goes on: all but the deck stands -/
theorem Rl.step (R : Rl C σ H s) {H' : Hp} {n' : Nat} (b : ButW C.W H H') (d : DkOk C.W H' n') : Rl C σ H' ⟨s.sl, n'⟩ := by
  have hs : Same (Hd (Sof C σ s.sl) H) (Hd (Sof C σ s.sl) H') := hd_step fun c o h1 h2 => b c o (fun z => h1 (.inr (.inl z))) h2
  refine ⟨R.len, fun i dv h => ?_, R.nd, R.fr, d, R.but.trans b, fun c hc => ?_, fun v x h => (R.gh v x h).of hs, fun a o h => ⟨(R.fz a o h).1, (R.fz a o h).2.1, b a o (R.fz a o h).2.1 (R.fz a o h).2.2⟩⟩
  · obtain ⟨sl, h1, h2⟩ := R.slots i dv h
    exact ⟨sl, h1, h2.move rfl rfl hs fun a ho e u hu => b a u (R.fr i a dv h ho (e ▸ h1)).2.2 hu⟩
  · by_cases z : Mu C.W c
    · exact d.taken z
    · obtain ⟨o, h⟩ := R.tk c hc
      exact ⟨o, b c o z h⟩
theorem Rl.ext (R : Rl C σ H s) {H' : Hp} (e : Same H H') : Rl C σ H' s := R.step (ButW.of e) (R.dk.same e)
/-- what is hidden stays hidden or is told, when one slot gets data -/
theorem sof_set {i : Nat} {v : Option V} {dv : DV} (ho : isOwn dv = false) (b : Addr) (h : Sof C (σ.set i v) (s.sl.set i dv) b) : Sof C σ s.sl b := by
  rcases h with h | h | ⟨j, ev, h1, h2, h3⟩
  · exact .inl h
  · exact .inr (.inl h)
  · by_cases e : i = j
    · subst e
      rw [List.getElem?_set] at h1
      by_cases hl : i < s.sl.length
      · rw [if_pos rfl, if_pos hl] at h1
        cases h1
        rw [ho] at h2
        cases h2
      · rw [if_pos rfl, if_neg hl] at h1
        cases h1
    · rw [List.getElem?_set_ne e] at h1 h3
      exact .inr (.inr ⟨j, ev, h1, h2, h3⟩)
theorem Rl.set (R : Rl C σ H s) {i : Nat} {v : V} {d : PyData} (h : Da C.K (Hd (Sof C σ s.sl) H) v d) : Rl C (σ.set i (some v)) H ⟨s.sl.set i (.dat d), s.n⟩ := by
  have hs : Same (Hd (Sof C σ s.sl) H) (Hd (Sof C (σ.set i (some v)) (s.sl.set i (.dat d))) H) := hd_mono fun b z => sof_set (s := s) rfl b z
  have key : ∀ {j : Nat} {dv : DV}, (s.sl.set i (.dat d))[j]? = some dv → isOwn dv = true → i ≠ j ∧ s.sl[j]? = some dv := fun {j dv} h1 h2 => by
    by_cases e : i = j
    · subst e
      rw [List.getElem?_set] at h1
      by_cases hl : i < s.sl.length
      · rw [if_pos rfl, if_pos hl] at h1
        cases h1
        cases h2
      · rw [if_pos rfl, if_neg hl] at h1
        cases h1
    · rw [List.getElem?_set_ne e] at h1
      exact ⟨e, h1⟩
  refine ⟨by rw [List.length_set, List.length_set]; exact R.len, fun j dv h1 => ?_, fun j k a dv ev h1 h2 h3 h4 h5 h6 => ?_, fun j a dv h1 h2 h3 => ?_, R.dk, R.but, R.tk, fun x y z => (R.gh x y z).of hs, R.fz⟩
  · by_cases e : i = j
    · subst e
      have hl : i < s.sl.length := by
        have := (List.getElem?_eq_some_iff.mp h1).1
        rw [List.length_set] at this
        exact this
      have h1' : some (DV.dat d) = some dv := by rw [← h1, List.getElem?_set, if_pos rfl, if_pos hl]
      cases h1'
      exact ⟨some v, by rw [List.getElem?_set, if_pos rfl, if_pos (by rw [R.len]; exact hl)], v, rfl, h.of hs⟩
    · rw [List.getElem?_set_ne e] at h1 ⊢
      obtain ⟨sl, e1, e2⟩ := R.slots j dv h1
      exact ⟨sl, e1, e2.move rfl rfl hs fun _ _ _ _ u => u⟩
  · obtain ⟨n1, e1⟩ := key h1 h3
    obtain ⟨n2, e2⟩ := key h2 h4
    rw [List.getElem?_set_ne n1] at h5
    rw [List.getElem?_set_ne n2] at h6
    exact R.nd j k a dv ev e1 e2 h3 h4 h5 h6
  · obtain ⟨n1, e1⟩ := key h1 h2
    rw [List.getElem?_set_ne n1] at h3
    exact R.fr j a dv e1 h2 h3
/-- a slot gets a new list -/
theorem Rl.setOwn (R : Rl C σ H s) {i : Nat} {a : Addr} {o : HO} {dv : DV} (na : H a = none) (hi : i < s.sl.length) (ho : isOwn dv = true)
    (hn : ∀ S' : Addr → Prop, Same (Hd (Sof C σ s.sl) H) (Hd S' (upd H a o)) → SlotOk C S' (upd H a o) (some (.ref a)) dv) : Rl C (σ.set i (some (.ref a))) (upd H a o) ⟨s.sl.set i dv, s.n⟩ := by
  obtain ⟨n1, n2⟩ := R.new na
  have sub : ∀ b, Sof C (σ.set i (some (.ref a))) (s.sl.set i dv) b → Sof C σ s.sl b ∨ b = a := fun b h => by
    rcases h with h | h | ⟨j, ev, h1, h2, h3⟩
    · exact .inl (.inl h)
    · exact .inl (.inr (.inl h))
    · by_cases e : i = j
      · subst e
        rw [List.getElem?_set, if_pos rfl, if_pos (by rw [R.len]; exact hi)] at h3
        cases h3
        exact .inr rfl
      · rw [List.getElem?_set_ne e] at h1 h3
        exact .inl (.inr (.inr ⟨j, ev, h1, h2, h3⟩))
  have hs : Same (Hd (Sof C σ s.sl) H) (Hd (Sof C (σ.set i (some (.ref a))) (s.sl.set i dv)) (upd H a o)) := fun b u e => by
    obtain ⟨h1, h3⟩ := hd_some e
    have hb : b ≠ a := ne_of_none h3 na
    rw [hd_ne (fun z => (sub b z).elim h1 hb), upd_ne hb]
    exact h3
  have key : ∀ {j : Nat} {ev : DV} {c : Addr}, (s.sl.set i dv)[j]? = some ev → isOwn ev = true → (σ.set i (some (.ref a)))[j]? = some (some (V.ref c)) → (j = i ∧ c = a) ∨ (j ≠ i ∧ c ≠ a ∧ s.sl[j]? = some ev ∧ σ[j]? = some (some (V.ref c))) := fun {j ev c} h1 h2 h3 => by
    by_cases e : i = j
    · subst e
      rw [List.getElem?_set, if_pos rfl, if_pos (by rw [R.len]; exact hi)] at h3
      cases h3
      exact .inl ⟨rfl, rfl⟩
    · rw [List.getElem?_set_ne e] at h1 h3
      obtain ⟨u, hu⟩ := R.own_at h1 h2 h3
      exact .inr ⟨fun z => e z.symm, ne_of_none hu na, h1, h3⟩
  refine ⟨by rw [List.length_set, List.length_set]; exact R.len, fun j ev h1 => ?_, fun j k c ev fv h1 h2 h3 h4 h5 h6 => ?_, fun j c ev h1 h2 h3 => ?_, R.dk.same (same_upd na), R.but.trans (ButW.of (same_upd na)), R.tk.same (same_upd na), fun x y z => (R.gh x y z).of hs, fun b u h => ⟨(R.fz b u h).1, (R.fz b u h).2.1, by rw [upd_ne (ne_of_none (R.fz b u h).2.2 na)]; exact (R.fz b u h).2.2⟩⟩
  · by_cases e : i = j
    · subst e
      rw [List.getElem?_set, if_pos rfl, if_pos hi] at h1
      cases h1
      exact ⟨some (.ref a), by rw [List.getElem?_set, if_pos rfl, if_pos (by rw [R.len]; exact hi)], hn _ hs⟩
    · rw [List.getElem?_set_ne e] at h1 ⊢
      obtain ⟨sl, e1, e2⟩ := R.slots j ev h1
      exact ⟨sl, e1, e2.move rfl rfl hs fun c hc ec u hu => by rw [upd_ne (ne_of_none hu na)]; exact hu⟩
  · rcases key h1 h3 h5 with ⟨rfl, rfl⟩ | ⟨q1, q2, q3, q4⟩
    · rcases key h2 h4 h6 with ⟨rfl, _⟩ | ⟨_, q2, _, _⟩
      · rfl
      · exact absurd rfl q2
    · rcases key h2 h4 h6 with ⟨_, rfl⟩ | ⟨r1, r2, r3, r4⟩
      · exact absurd rfl q2
      · exact R.nd j k c ev fv q3 r3 h3 h4 q4 r4
  · rcases key h1 h2 h3 with ⟨rfl, rfl⟩ | ⟨q1, q2, q3, q4⟩
    · exact ⟨n2, fun z => n1 (.inl z), fun z => n1 (.inr (.inl z))⟩
    · exact R.fr j c ev q3 h2 q4
/-- one's own thing at slot i changes -/
theorem Rl.mut (R : Rl C σ H s) {i : Nat} {a : Addr} {o : HO} {dv ev : DV} (h0 : s.sl[i]? = some dv) (hd : isOwn dv = true) (ho : isOwn ev = true) (e0 : σ[i]? = some (some (V.ref a)))
    (hn : Same (Hd (Sof C σ s.sl) H) (Hd (Sof C σ (s.sl.set i ev)) (upd H a o)) → SlotOk C (Sof C σ (s.sl.set i ev)) (upd H a o) (some (.ref a)) ev) : Rl C σ (upd H a o) ⟨s.sl.set i ev, s.n⟩ := by
  have hi : i < s.sl.length := (List.getElem?_eq_some_iff.mp h0).1
  obtain ⟨f1, f2, f3⟩ := R.fr i a dv h0 hd e0
  have key : ∀ {j : Nat} {fv : DV}, (s.sl.set i ev)[j]? = some fv → isOwn fv = true → ∃ gv, s.sl[j]? = some gv ∧ isOwn gv = true := fun {j fv} h1 h2 => by
    by_cases e : i = j
    · subst e
      exact ⟨dv, h0, hd⟩
    · rw [List.getElem?_set_ne e] at h1
      exact ⟨fv, h1, h2⟩
  have sub : ∀ b, Sof C σ (s.sl.set i ev) b → Sof C σ s.sl b := fun b h => by
    rcases h with h | h | ⟨j, fv, h1, h2, h3⟩
    · exact .inl h
    · exact .inr (.inl h)
    · obtain ⟨gv, g1, g2⟩ := key h1 h2
      exact .inr (.inr ⟨j, gv, g1, g2, h3⟩)
  have sa : Sof C σ s.sl a := .inr (.inr ⟨i, dv, h0, hd, e0⟩)
  have hs : Same (Hd (Sof C σ s.sl) H) (Hd (Sof C σ (s.sl.set i ev)) (upd H a o)) := fun b u e => by
    obtain ⟨h1, h3⟩ := hd_some e
    have hb : b ≠ a := fun z => h1 (z ▸ sa)
    rw [hd_ne (fun z => h1 (sub b z)), upd_ne hb]
    exact h3
  refine ⟨by rw [List.length_set]; exact R.len, fun j fv h1 => ?_, fun j k c fv gv h1 h2 h3 h4 h5 h6 => ?_, fun j c fv h1 h2 h3 => ?_, R.dk.upd f3, fun b u hb hu => ?_, fun b hb => ?_, fun x y z => (R.gh x y z).of hs, fun b u h => ⟨(R.fz b u h).1, (R.fz b u h).2.1, by rw [upd_ne (fun z : b = a => f2 (z ▸ (R.fz b u h).1))]; exact (R.fz b u h).2.2⟩⟩
  · by_cases e : i = j
    · subst e
      rw [List.getElem?_set, if_pos rfl, if_pos hi] at h1
      cases h1
      exact ⟨some (.ref a), e0, hn hs⟩
    · rw [List.getElem?_set_ne e] at h1
      obtain ⟨sl, e1, e2⟩ := R.slots j fv h1
      refine ⟨sl, e1, e2.move rfl rfl hs fun c hc ec u hu => ?_⟩
      have hca : c ≠ a := fun z => by
        subst z
        rw [ec] at e1
        exact e (R.nd i j c dv fv h0 h1 hd hc e0 e1)
      rw [upd_ne hca]
      exact hu
  · obtain ⟨gv', g1, g2⟩ := key h1 h3
    obtain ⟨gw, k1, k2⟩ := key h2 h4
    exact R.nd j k c _ _ g1 k1 g2 k2 h5 h6
  · obtain ⟨gv, g1, g2⟩ := key h1 h2
    exact R.fr j c _ g1 g2 h3
  · have hba : b ≠ a := fun z => by
      subst z
      rw [f1] at hu
      cases hu
    rw [upd_ne hba]
    exact R.but b u hb hu
  · by_cases e : b = a
    · subst e
      exact absurd hb f2
    · rw [upd_ne e]
      exact R.tk b hb
/-- one's own thing becomes data -/
theorem Rl.freeze (R : Rl C σ H s) {i : Nat} {dv : DV} {d : PyData} (h0 : s.sl[i]? = some dv) (hd : (∃ ds, dv = .own ds ∧ d = .list ds) ∨ (∃ kvs, dv = .owd kvs ∧ d = .dict kvs) ∨ ∃ kvs, dv = .owt kvs ∧ d = .dict kvs ∧ kvs ≠ []) : Rl C σ H ⟨s.sl.set i (.dat d), s.n⟩ := by
  obtain ⟨sl, e1, e2⟩ := R.slots i dv h0
  have fin : ∀ a : Addr, isOwn dv = true → sl = some (.ref a) → Da C.K (Hd (Sof C σ (s.sl.set i (.dat d))) H) (.ref a) d → Rl C σ H ⟨s.sl.set i (.dat d), s.n⟩ := fun a hdv es hda => by
    subst es
    have hset : σ.set i (some (.ref a)) = σ := by
      apply List.ext_getElem?
      intro j
      rw [List.getElem?_set]
      by_cases e : i = j
      · subst e
        rw [if_pos rfl, e1]
        rw [if_pos (List.getElem?_eq_some_iff.mp e1).1]
      · rw [if_neg e]
    have hs : Same (Hd (Sof C σ s.sl) H) (Hd (Sof C σ (s.sl.set i (.dat d))) H) := hd_mono fun b z => by
      have := sof_set (C := C) (σ := σ) (s := s) (i := i) (v := some (.ref a)) (dv := .dat d) rfl b
      rw [hset] at this
      exact this z
    have hi : i < s.sl.length := (List.getElem?_eq_some_iff.mp h0).1
    have key : ∀ {j : Nat} {fv : DV}, (s.sl.set i (.dat d))[j]? = some fv → isOwn fv = true → s.sl[j]? = some fv := fun {j fv} h1 h2 => by
      by_cases e : i = j
      · subst e
        rw [List.getElem?_set, if_pos rfl, if_pos hi] at h1
        cases h1
        cases h2
      · rw [List.getElem?_set_ne e] at h1
        exact h1
    refine ⟨by rw [List.length_set]; exact R.len, fun j fv h1 => ?_, fun j k c fv gv h1 h2 h3 h4 h5 h6 => R.nd j k c _ _ (key h1 h3) (key h2 h4) h3 h4 h5 h6, fun j c fv h1 h2 h3 => R.fr j c _ (key h1 h2) h2 h3, R.dk, R.but, R.tk, fun x y z => (R.gh x y z).of hs, R.fz⟩
    by_cases e : i = j
    · subst e
      rw [List.getElem?_set, if_pos rfl, if_pos hi] at h1
      cases h1
      exact ⟨_, e1, _, rfl, hda⟩
    · rw [List.getElem?_set_ne e] at h1
      obtain ⟨sl, q1, q2⟩ := R.slots j fv h1
      exact ⟨sl, q1, q2.move rfl rfl hs fun _ _ _ _ u => u⟩
  have hna : ∀ a : Addr, isOwn dv = true → sl = some (.ref a) → ¬ Sof C σ (s.sl.set i (.dat d)) a := fun a hdv es z => by
    subst es
    have hi : i < s.sl.length := (List.getElem?_eq_some_iff.mp h0).1
    obtain ⟨f1, f2, f3⟩ := R.fr i a dv h0 hdv e1
    rcases z with z | z | ⟨j, ev, z1, z2, z3⟩
    · exact f2 z
    · exact f3 z
    · by_cases e : i = j
      · subst e
        rw [List.getElem?_set, if_pos rfl, if_pos hi] at z1
        cases z1
        cases z2
      · rw [List.getElem?_set_ne e] at z1
        exact e (R.nd i j a dv ev h0 z1 hdv z2 e1 z3)
  have hsub : ∀ a : Addr, sl = some (.ref a) → Same (Hd (Sof C σ s.sl) H) (Hd (Sof C σ (s.sl.set i (.dat d))) H) := fun a es => hd_mono fun b z => by
    subst es
    rcases z with z | z | ⟨j, ev, z1, z2, z3⟩
    · exact .inl z
    · exact .inr (.inl z)
    · by_cases e : i = j
      · subst e
        rw [List.getElem?_set, if_pos rfl, if_pos (List.getElem?_eq_some_iff.mp h0).1] at z1
        cases z1
        cases z2
      · rw [List.getElem?_set_ne e] at z1
        exact .inr (.inr ⟨j, ev, z1, z2, z3⟩)
  rcases hd with ⟨ds, rfl, rfl⟩ | ⟨kvs, rfl, rfl⟩ | ⟨kvs, rfl, rfl, hne⟩
  · obtain ⟨a, vs, rfl, h2, h3⟩ := e2
    exact fin a rfl rfl (.lst (by rw [hd_ne (hna a rfl rfl)]; exact h2) (h3.of (hsub a rfl)))
  · obtain ⟨a, vs, rfl, h2, h3⟩ := e2
    exact fin a rfl rfl (.dic (by rw [hd_ne (hna a rfl rfl)]; exact h2) (h3.of (hsub a rfl)))
  · obtain ⟨a, vs, rfl, h2, h3⟩ := e2
    exact fin a rfl rfl (.dct (by rw [hd_ne (hna a rfl rfl)]; exact h2) (fun z => by
      subst z
      cases h3
      exact hne rfl) (h3.of (hsub a rfl)))
end
end DL

set_option Elab.async false
set_option linter.all false
set_option maxRecDepth 100000
set_option maxHeartbeats 4000000
/-! DLb: readings of expressions, tests, arguments told by data alone. -/
namespace DL
open PySem PySem.Spec PyProof.Rows L2 GG DD PT
abbrev DE := DSt → (PyData → DSt → Prop) → Prop
abbrev DT := DSt → (Bool → DSt → Prop) → Prop
abbrev DA := DSt → (List PyData → DSt → Prop) → Prop
abbrev DX := DSt → (List DV → DSt → Prop) → Prop
def XE (C : DC) (te : TE) (s : DSt) (P : PyData → DSt → Prop) : Prop := ∀ (σ : L2.St) (H : Hp) (Q : VK), Rl C σ H s → (∀ v H' d s', P d s' → Rl C σ H' s' → Da C.K (Hd (Sof C σ s'.sl) H') v d → Q v H') → te σ H Q
def RE (K : KX) (te : TE) (de : DE) : Prop := ∀ C : DC, C.K = K → ∀ s P, de s P → XE C te s P
def XT (C : DC) (tt : TT) (s : DSt) (P : Bool → DSt → Prop) : Prop := ∀ (σ : L2.St) (H : Hp) (Q : Bool → Hp → Prop), Rl C σ H s → (∀ b H' s', P b s' → Rl C σ H' s' → Q b H') → tt σ H Q
def RT (K : KX) (tt : TT) (dt : DT) : Prop := ∀ C : DC, C.K = K → ∀ s P, dt s P → XT C tt s P
def XA (C : DC) (ta : TA) (s : DSt) (P : List PyData → DSt → Prop) : Prop := ∀ (σ : L2.St) (H : Hp) (Q : List V → Hp → Prop), Rl C σ H s → (∀ vs H' ds s', P ds s' → Rl C σ H' s' → DaAll C.K (Hd (Sof C σ s'.sl) H') vs ds → Q vs H') → ta σ H Q
def RA (K : KX) (ta : TA) (da : DA) : Prop := ∀ C : DC, C.K = K → ∀ s P, da s P → XA C ta s P
/-- a list that is read: data, or one's own -/
def XL (C : DC) (te : TE) (s : DSt) (P : List PyData → DSt → Prop) : Prop := ∀ (σ : L2.St) (H : Hp) (Q : VK), Rl C σ H s → (∀ a vs H' ds s', P ds s' → Rl C σ H' s' → H' a = some (.lst vs) → DaAll C.K (Hd (Sof C σ s'.sl) H') vs ds → Q (.ref a) H') → te σ H Q
def RL (K : KX) (te : TE) (dl : DA) : Prop := ∀ C : DC, C.K = K → ∀ s P, dl s P → XL C te s P
/-- a tuple that is read -/
def XU (C : DC) (te : TE) (s : DSt) (P : List PyData → DSt → Prop) : Prop := ∀ (σ : L2.St) (H : Hp) (Q : VK), Rl C σ H s → (∀ a vs H' ds s', P ds s' → Rl C σ H' s' → SqT C.K H' a vs → DaAll C.K (Hd (Sof C σ s'.sl) H') vs ds → Q (.ref a) H') → te σ H Q
def RU (K : KX) (te : TE) (dl : DA) : Prop := ∀ C : DC, C.K = K → ∀ s P, dl s P → XU C te s P
/-- a new list -/
def XF (C : DC) (te : TE) (s : DSt) (P : List PyData → DSt → Prop) : Prop := ∀ (σ : L2.St) (H : Hp) (Q : VK), Rl C σ H s → (∀ a vs H' ds s', P ds s' → Rl C σ H' s' → H' a = none → DaAll C.K (Hd (Sof C σ s'.sl) H') vs ds → Q (.ref a) (upd H' a (.lst vs))) → te σ H Q
def RF (K : KX) (te : TE) (dl : DA) : Prop := ∀ C : DC, C.K = K → ∀ s P, dl s P → XF C te s P
/-! ### data that is kept -/
def DC.keep (C : DC) (v : V) (d : PyData) : DC := { C with G := fun x y => C.G x y ∨ (x = v ∧ y = d), gsub := fun x y h => .inl (C.gsub x y h) }
section
variable {C : DC} {σ : L2.St} {H : Hp} {s : DSt} {v : V} {d : PyData}
theorem Rl.keep (R : Rl C σ H s) (h : Da C.K (Hd (Sof C σ s.sl) H) v d) : Rl (C.keep v d) σ H s :=
  ⟨R.len, R.slots, R.nd, R.fr, R.dk, R.but, R.tk, fun x y z => z.elim (R.gh x y) fun e => by
    obtain ⟨rfl, rfl⟩ := e
    exact h, R.fz⟩
theorem Rl.kept (R : Rl (C.keep v d) σ H s) : Rl C σ H s ∧ Da C.K (Hd (Sof C σ s.sl) H) v d :=
  ⟨⟨R.len, R.slots, R.nd, R.fr, R.dk, R.but, R.tk, fun x y z => R.gh x y (.inl z), R.fz⟩, R.gh v d (.inr ⟨rfl, rfl⟩)⟩
/-- a new object is seen by data -/
theorem Rl.see (R : Rl C σ H s) {p : Addr} {o : HO} (np : H p = none) : Hd (Sof C σ s.sl) (upd H p o) p = some o := by
  rw [hd_ne (R.new np).1]
  exact upd_same
theorem Rl.kp (R : Rl C σ H s) {p : Addr} {o : HO} (np : H p = none) : Same (Hd (Sof C σ s.sl) H) (Hd (Sof C σ s.sl) (upd H p o)) := hdS (same_upd np)
end
variable {K : KX}
/-! ### values that are written, slots -/
def dC (d : PyData) : DE := fun s P => P d s
theorem re_int {i : Int} : RE K (tC (.int i)) (dC (.int i)) := fun C _ s P h σ H Q R q => q _ H _ s h R (.int i)
theorem re_str {x : Str} : RE K (tC (.str x)) (dC (.str x)) := fun C _ s P h σ H Q R q => q _ H _ s h R (.str x)
theorem re_bl {b : Bool} : RE K (tC (.bl b)) (dC (.bool b)) := fun C _ s P h σ H Q R q => q _ H _ s h R (.bl b)
theorem re_non : RE K (tC .non) (dC .none) := fun C _ s P h σ H Q R q => q _ H _ s h R .non
def dVar (i : Nat) : DE := fun s P => match s.sl[i]? with
  | some (.dat d) => P d s
  | _ => False
theorem re_var {i : Nat} : RE K (tVar i) (dVar i) := fun C _ s P h σ H Q R q => by
  unfold dVar at h
  split at h
  · rename_i d e
    obtain ⟨sl, h1, v, rfl, h3⟩ := R.slots i _ e
    exact ⟨v, h1, q v H d s h R h3⟩
  · exact h.elim
/-- a list in a slot, data or one's own -/
def dListVar (i : Nat) : DA := fun s P => match s.sl[i]? with
  | some (.dat (.list ds)) => P ds s
  | some (.own ds) => P ds s
  | some (.arg _ ds) => P ds s
  | _ => False
theorem da_list {K : PySem.W.Frag} {S : Addr → Prop} {H : Hp} {v : V} {ds : List PyData} (h : Da K (Hd S H) v (.list ds)) : ∃ a vs, v = .ref a ∧ H a = some (.lst vs) ∧ DaAll K (Hd S H) vs ds := by
  cases h with
  | lst h1 h2 => exact ⟨_, _, rfl, (hd_some h1).2, h2⟩
theorem da_tup {K : PySem.W.Frag} {S : Addr → Prop} {H : Hp} {v : V} {ds : List PyData} (h : Da K (Hd S H) v (.tuple ds)) : ∃ a vs, v = .ref a ∧ SqT K H a vs ∧ DaAll K (Hd S H) vs ds := by
  cases h with
  | tup h1 h2 => exact ⟨_, _, rfl, (h1.same (hd_sub S H)).sq, h2⟩
theorem list_at {C : DC} {σ : L2.St} {H : Hp} {s : DSt} (R : Rl C σ H s) {i : Nat} {P : List PyData → DSt → Prop} (h : dListVar i s P) : ∃ a vs ds, σ[i]? = some (some (V.ref a)) ∧ P ds s ∧ H a = some (.lst vs) ∧ DaAll C.K (Hd (Sof C σ s.sl) H) vs ds := by
  unfold dListVar at h
  split at h
  · rename_i ds e
    obtain ⟨sl, h1, v, rfl, h3⟩ := R.slots i _ e
    obtain ⟨a, vs, rfl, h4, h5⟩ := da_list h3
    exact ⟨a, vs, ds, h1, h, h4, h5⟩
  · rename_i ds e
    obtain ⟨sl, h1, a, vs, rfl, h4, h5⟩ := R.slots i _ e
    exact ⟨a, vs, ds, h1, h, h4, h5⟩
  · rename_i a ds e
    obtain ⟨sl, h1, vs, rfl, h4, h5⟩ := R.slots i _ e
    exact ⟨a, vs, ds, h1, h, h4, h5⟩
  · exact h.elim
theorem rl_var {i : Nat} : RL K (tVar i) (dListVar i) := fun C _ s P h σ H Q R q => by
  obtain ⟨a, vs, ds, h1, h2, h4, h5⟩ := list_at R h
  exact ⟨_, h1, q a vs H ds s h2 R h4 h5⟩
def dAsL (de : DE) : DA := fun s P => de s fun d s1 => match d with
  | .list ds => P ds s1
  | _ => False
theorem rl_of {te : TE} {de : DE} (h : RE K te de) : RL K te (dAsL de) := fun C hC s P hd σ H Q R q => h C hC s _ hd σ H Q R fun v H' d s' hp R' hv => by
  cases d with
  | list ds =>
    obtain ⟨a, vs, rfl, h4, h5⟩ := da_list hv
    exact q a vs H' ds s' hp R' h4 h5
  | _ => exact hp.elim
def dAsU (de : DE) : DA := fun s P => de s fun d s1 => match d with
  | .tuple ds => P ds s1
  | _ => False
theorem ru_of {te : TE} {de : DE} (h : RE K te de) : RU K te (dAsU de) := fun C hC s P hd σ H Q R q => h C hC s _ hd σ H Q R fun v H' d s' hp R' hv => by
  cases d with
  | tuple ds =>
    obtain ⟨a, vs, rfl, h4, h5⟩ := da_tup hv
    exact q a vs H' ds s' hp R' h4 h5
  | _ => exact hp.elim
/-- a new list as data -/
def dNewL (dl : DA) : DE := fun s P => dl s fun ds s1 => P (.list ds) s1
theorem re_new {te : TE} {dl : DA} (h : RF K te dl) : RE K te (dNewL dl) := fun C hC s P hd σ H Q R q => h C hC s _ hd σ H Q R fun a vs H' ds s' hp R' na hv =>
  q _ _ _ s' hp (R'.ext (same_upd na)) (.lst (R'.see na) (hv.of (R'.kp na)))
theorem rl_new {te : TE} {dl : DA} (h : RF K te dl) : RL K te dl := fun C hC s P hd σ H Q R q => h C hC s _ hd σ H Q R fun a vs H' ds s' hp R' na hv =>
  q a vs _ ds s' hp (R'.ext (same_upd na)) upd_same (hv.of (R'.kp na))
/-! ### argument lists -/
def dNil : DA := fun s P => P [] s
def dCons (de : DE) (da : DA) : DA := fun s P => de s fun d s1 => da s1 fun ds s2 => P (d :: ds) s2
theorem ra_nil : RA K tNil dNil := fun C _ s P h σ H Q R q => q [] H [] s h R .nil
theorem ra_cons {te : TE} {ta : TA} {de : DE} {da : DA} (h1 : RE K te de) (h2 : RA K ta da) : RA K (tCons te ta) (dCons de da) := fun C hC s P hd σ H Q R q =>
  rd_cons (h1 C hC s _ hd σ H _ R fun v H1 d s1 hd1 R1 hv => h2 (C.keep v d) hC s1 _ hd1 σ H1 _ (R1.keep hv) fun vs H2 ds s2 hp R2 hvs => by
    obtain ⟨R3, hv3⟩ := R2.kept
    exact q (v :: vs) H2 (d :: ds) s2 hp R3 (.cons hv3 hvs))
def dTup (da : DA) : DE := fun s P => da s fun ds s1 => ds.length ≤ 1000000 ∧ P (.tuple ds) s1
theorem sz6 : 1000000 ≤ sizeLine := by decide
theorem rd_tupP {ta : TA} {σ : L2.St} {H : Hp} {Q : VK} (h : ta σ H fun xs H1 => xs.length ≤ sizeLine ∧ NewT H1 xs Q) : tTupP ta σ H Q := h
theorem re_tup {ta : TA} {da : DA} (h : RA K ta da) : RE K (tTupP ta) (dTup da) := fun C hC s P hd σ H Q R q =>
  rd_tupP (h C hC s _ hd σ H _ R fun vs H1 ds s1 hp R1 hv => ⟨by rw [hv.len]; exact Nat.le_trans hp.1 sz6, fun a o na e => q _ _ _ s1 hp.2 (R1.ext (same_upd na)) (.tup (.inl ⟨o, R1.see na, e⟩) (hv.of (R1.kp na)))⟩)
def dLst (da : DA) : DA := fun s P => da s fun ds s1 => ds.length ≤ 1000000 ∧ P ds s1
theorem rf_lst {ta : TA} {da : DA} (h : RA K ta da) : RF K (tLst ta) (dLst da) := fun C hC s P hd σ H Q R q =>
  rd_lst (h C hC s _ hd σ H _ R fun vs H1 ds s1 hp R1 hv => ⟨by rw [hv.len]; exact Nat.le_trans hp.1 sz6, fun a na => q a vs H1 ds s1 hp.2 R1 na hv⟩)
/-! ### operations on two values -/
abbrev D2 := PyData → PyData → (PyData → Prop) → Prop
def RO (K : PySem.W.Frag) (r : R2) (ro : D2) : Prop := ∀ (S : Addr → Prop) (H : Hp) (x y : V) (d e : PyData) (P : PyData → Prop) (Q : VK), Taken H S → Da K (Hd S H) x d → Da K (Hd S H) y e → ro d e P → (∀ v H' f, P f → Same H H' → Da K (Hd S H') v f → Q v H') → r x y H Q
def dOp (ro : D2) (da db : DE) : DE := fun s P => da s fun d s1 => db s1 fun e s2 => ro d e fun f => P f s2
theorem re_op {r : R2} {ro : D2} {ta tb : TE} {da db : DE} (ho : RO K r ro) (h1 : RE K ta da) (h2 : RE K tb db) : RE K (tOp r ta tb) (dOp ro da db) := fun C hC s P hd σ H Q R q =>
  rd_op (h1 C hC s _ hd σ H _ R fun v H1 d s1 hd1 R1 hv => h2 (C.keep v d) hC s1 _ hd1 σ H1 _ (R1.keep hv) fun w H2 e s2 hp R2 hw => by
    obtain ⟨R3, hv3⟩ := R2.kept
    subst hC
    exact ho _ H2 v w d e _ Q R3.taken hv3 hw hp fun u H3 f hf s23 hu => q u H3 f s2 hf (R3.ext s23) hu)
/-- ints to an int -/
def oI (c : Int → Int → Prop) (g : Int → Int → Int) : D2 := fun d e P => match d, e with
  | .int i, .int j => c i j ∧ P (.int (g i j))
  | _, _ => False
theorem ro_I {c : Int → Int → Prop} {g : Int → Int → Int} : RO K (rI c fun i j => .int (g i j)) (oI c g) := fun S H x y d e P Q _ hx hy h q => by
  unfold oI at h
  split at h
  · cases hx
    cases hy
    exact ⟨_, _, rfl, rfl, h.1, q _ H _ h.2 (Same.refl _) (.int _)⟩
  · exact h.elim
def oI0 (g : Int → Int → Int) : D2 := fun d e P => match d, e with
  | .int i, .int j => P (.int (g i j))
  | _, _ => False
theorem ro_I0 {g : Int → Int → Int} : RO K (rI0 fun i j => .int (g i j)) (oI0 g) := fun S H x y d e P Q _ hx hy h q => by
  unfold oI0 at h
  split at h
  · cases hx
    cases hy
    exact ⟨_, _, rfl, rfl, q _ H _ h (Same.refl _) (.int _)⟩
  · exact h.elim
/-- ints to a truth -/
def oB0 (g : Int → Int → Bool) : D2 := fun d e P => match d, e with
  | .int i, .int j => P (.bool (g i j))
  | _, _ => False
theorem ro_B0 {g : Int → Int → Bool} : RO K (rI0 fun i j => .bl (g i j)) (oB0 g) := fun S H x y d e P Q _ hx hy h q => by
  unfold oB0 at h
  split at h
  · cases hx
    cases hy
    exact ⟨_, _, rfl, rfl, q _ H _ h (Same.refl _) (.bl _)⟩
  · exact h.elim
/-- texts to a truth -/
def oS (g : Str → Str → Bool) : D2 := fun d e P => match d, e with
  | .str i, .str j => P (.bool (g i j))
  | _, _ => False
theorem ro_S {g : Str → Str → Bool} : RO K (fun x y H Q => ∃ i j, x = .str i ∧ y = .str j ∧ Q (.bl (g i j)) H) (oS g) := fun S H x y d e P Q _ hx hy h q => by
  unfold oS at h
  split at h
  · cases hx
    cases hy
    exact ⟨_, _, rfl, rfl, q _ H _ h (Same.refl _) (.bl _)⟩
  · exact h.elim
def oCatS : D2 := fun d e P => match d, e with
  | .str i, .str j => i.length + j.length ≤ 1000000 ∧ P (.str (i ++ j))
  | _, _ => False
theorem ro_catS : RO K (fun x y H Q => ∃ i j, x = .str i ∧ y = .str j ∧ i.length + j.length ≤ sizeLine ∧ Q (.str (i ++ j)) H) oCatS := fun S H x y d e P Q _ hx hy h q => by
  unfold oCatS at h
  split at h
  · cases hx
    cases hy
    exact ⟨_, _, rfl, rfl, Nat.le_trans h.1 sz6, q _ H _ h.2 (Same.refl _) (.str _)⟩
  · exact h.elim
/-- == of flat things -/
def flatD : PyData → Option V
  | .none => some .non
  | .bool b => some (.bl b)
  | .int i => some (.int i)
  | .str x => some (.str x)
  | _ => none
theorem flat_v {H : Hp} {v x : V} {d : PyData} (h : Da K H v d) (e : flatD d = some x) : v = x := by
  cases d with
  | none => cases h; cases e; rfl
  | bool b => cases h; cases e; rfl
  | int i => cases h; cases e; rfl
  | str z => cases h; cases e; rfl
  | _ => cases e
def oEq (neg : Bool) : D2 := fun d e P => match flatD d, flatD e with
  | some x, some y => scal x y = true ∧ P (.bool (if neg then !decide (x = y) else decide (x = y)))
  | _, _ => False
theorem ro_eq : RO K rEq (oEq false) := fun S H x y d e P Q _ hx hy h q => by
  unfold oEq at h
  split at h
  · rename_i a b e1 e2
    obtain rfl := flat_v hx e1
    obtain rfl := flat_v hy e2
    exact ⟨h.1, q _ H _ h.2 (Same.refl _) (.bl _)⟩
  · exact h.elim
theorem ro_ne : RO K rNe (oEq true) := fun S H x y d e P Q _ hx hy h q => by
  unfold oEq at h
  split at h
  · rename_i a b e1 e2
    obtain rfl := flat_v hx e1
    obtain rfl := flat_v hy e2
    exact ⟨h.1, q _ H _ h.2 (Same.refl _) (.bl _)⟩
  · exact h.elim
mutual
/-- data without a dict, as the library has it -/
theorem Da.dp {H : Hp} : ∀ (d : PyData) (v : V), d.hasDict = false → Da K H v d → Dp K H v d
  | .none, _, _, h => by cases h; exact .non
  | .bool b, _, _, h => by cases h; exact .bl b
  | .int i, _, _, h => by cases h; exact .int i
  | .str x, _, _, h => by cases h; exact .str x
  | .list ds, _, n, h => by
    cases h with
    | lst hs ha => exact .lst (sq hs) (DaAll.dp ds _ (by simpa only [PyData.hasDict] using n) ha)
  | .tuple ds, _, n, h => by
    cases h with
    | tup hs ha => exact .tup hs.sq (DaAll.dp ds _ (by simpa only [PyData.hasDict] using n) ha)
  | .dict ds, _, n, h => by simp only [PyData.hasDict] at n; cases n
theorem DaAll.dp {H : Hp} : ∀ (ds : List PyData) (vs : List V), PyData.hasDictAll ds = false → DaAll K H vs ds → DpAll K H vs ds
  | [], _, _, h => by cases h; exact .nil
  | d :: ds, _, n, h => by
    cases h with
    | cons h1 h2 =>
      simp only [PyData.hasDictAll, Bool.or_eq_false_iff] at n
      exact .cons (Da.dp d _ n.1 h1) (DaAll.dp ds _ n.2 h2)
end
/-- == of data without dicts -/
def oEqD (neg : Bool) : D2 := fun d e P => d.hasDict = false ∧ e.hasDict = false ∧ SeqAt.shaped d = true ∧ SeqAt.shaped e = true ∧ P (.bool (if neg then !PyData.eqv d e else PyData.eqv d e))
theorem dp_hd {S : Addr → Prop} {H : Hp} {v : V} {d : PyData} (n : d.hasDict = false) (h : Da K (Hd S H) v d) : Dp K H v d := (h.of (hd_sub S H)).dp d v n
theorem ro_eqD : RO K (rEqD K) (oEqD false) := fun S H x y d e P Q _ hx hy h q => ⟨d, e, dp_hd h.1 hx, dp_hd h.2.1 hy, h.2.2.1, h.2.2.2.1, q _ H _ h.2.2.2.2 (Same.refl _) (.bl _)⟩
theorem ro_neD : RO K (rNeD K) (oEqD true) := fun S H x y d e P Q _ hx hy h q => ⟨d, e, dp_hd h.1 hx, dp_hd h.2.1 hy, h.2.2.1, h.2.2.2.1, q _ H _ h.2.2.2.2 (Same.refl _) (.bl _)⟩
/-- is None -/
def isNoneD : PyData → Bool
  | .none => true
  | _ => false
def oIsN (neg : Bool) : D2 := fun d e P => match e with
  | .none => P (.bool (if neg then !isNoneD d else isNoneD d))
  | _ => False
theorem da_none {H : Hp} {v : V} {d : PyData} (h : Da K H v d) : decide (v = .non) = isNoneD d := by
  cases h <;> rfl
theorem ro_isN : RO K (fun x y H Q => y = .non ∧ Q (.bl (decide (x = .non))) H) (oIsN false) := fun S H x y d e P Q _ hx hy h q => by
  unfold oIsN at h
  split at h
  · cases hy
    refine ⟨rfl, q _ H _ h (Same.refl _) ?_⟩
    rw [da_none hx]
    exact .bl _
  · exact h.elim
theorem ro_notN : RO K (fun x y H Q => y = .non ∧ Q (.bl (!decide (x = .non))) H) (oIsN true) := fun S H x y d e P Q _ hx hy h q => by
  unfold oIsN at h
  split at h
  · cases hy
    refine ⟨rfl, q _ H _ h (Same.refl _) ?_⟩
    rw [da_none hx]
    exact .bl _
  · exact h.elim
/-- t + u of tuples -/
def oCatU : D2 := fun d e P => match d, e with
  | .tuple a, .tuple b => a.length + b.length ≤ 1000000 ∧ P (.tuple (a ++ b))
  | _, _ => False
theorem see_of {S : Addr → Prop} {H : Hp} {p : Addr} {o : HO} (T : Taken H S) (np : H p = none) : Hd S (upd H p o) p = some o := by
  rw [hd_ne (T.ne np)]
  exact upd_same
theorem ro_catU : RO K (rCatP K) oCatU := fun S H x y d e P Q T hx hy h q => by
  unfold oCatU at h
  split at h
  · rename_i ds es
    obtain ⟨a, vs, rfl, h1, h2⟩ := da_tup hx
    obtain ⟨b, us, rfl, h3, h4⟩ := da_tup hy
    refine ⟨a, b, vs, us, rfl, rfl, h1, h3, by rw [h2.len, h4.len]; exact Nat.le_trans h.1 sz6, fun e => ?_, fun _ e => ?_, fun _ _ p o np eo => ?_⟩
    · subst e
      cases h2
      exact q _ H _ h.2 (Same.refl _) hy
    · subst e
      cases h4
      rw [List.append_nil] at h
      exact q _ H _ h.2 (Same.refl _) hx
    · exact q _ _ _ h.2 (same_upd np) (.tup (.inl ⟨o, see_of T np, eo⟩) ((h2.append h4).of (hdS (same_upd np))))
  · exact h.elim
/-- o[i] -/
def oIxL : D2 := fun d e P => match d, e with
  | .list a, .int i => ∃ x, atI a i = some x ∧ P x
  | _, _ => False
theorem atI_da {H : Hp} {vs : List V} {ds : List PyData} (h : DaAll K H vs ds) {i : Int} {x : PyData} (e : atI ds i = some x) : ∃ v, atI vs i = some v ∧ Da K H v x := by
  unfold atI at e ⊢
  rw [h.len]
  obtain ⟨j, e1, e2⟩ := Option.bind_eq_some_iff.mp e
  obtain ⟨v, h1, h2⟩ := h.getD e2
  exact ⟨v, by rw [e1]; exact h1, h2⟩
theorem ro_ixL : RO K (rIxL K) oIxL := fun S H x y d e P Q T hx hy h q => by
  unfold oIxL at h
  split at h
  · rename_i ds i
    obtain ⟨a, vs, rfl, h1, h2⟩ := da_list hx
    cases hy
    obtain ⟨z, e1, hp⟩ := h
    obtain ⟨v, e2, hv⟩ := atI_da h2 e1
    exact ⟨a, vs, i, v, rfl, rfl, sq h1, e2, q _ H _ hp (Same.refl _) hv⟩
  · exact h.elim
def oIxU : D2 := fun d e P => match d, e with
  | .tuple a, .int i => ∃ x, atI a i = some x ∧ P x
  | _, _ => False
theorem ro_ixU : RO K (rIxT K) oIxU := fun S H x y d e P Q T hx hy h q => by
  unfold oIxU at h
  split at h
  · rename_i ds i
    obtain ⟨a, vs, rfl, h1, h2⟩ := da_tup hx
    cases hy
    obtain ⟨z, e1, hp⟩ := h
    obtain ⟨v, e2, hv⟩ := atI_da h2 e1
    exact ⟨a, vs, i, v, rfl, rfl, h1, e2, q _ H _ hp (Same.refl _) hv⟩
  · exact h.elim
def oIxS : D2 := fun d e P => match d, e with
  | .str z, .int i => z.length ≤ 1000000 ∧ ∃ c, atI z.cps.toList i = some c ∧ P (.str ⟨#[c]⟩)
  | _, _ => False
theorem ro_ixS : RO K rIxS oIxS := fun S H x y d e P Q T hx hy h q => by
  unfold oIxS at h
  split at h
  · cases hx
    cases hy
    obtain ⟨hz, c, e1, hp⟩ := h
    exact ⟨_, _, c, rfl, rfl, Nat.le_trans hz sz6, e1, q _ H _ hp (Same.refl _) (.str _)⟩
  · exact h.elim
/-- the list in slot i by an index that may draw -/
def dIxVar (i : Nat) (db : DE) : DE := fun s P => (match s.sl[i]? with
  | some (.dat _) => True
  | some (.own _) => True
  | _ => False) ∧ db s fun e s1 => match e with
  | .int k => dListVar i s1 fun a s2 => ∃ x, atI a k = some x ∧ P x s2
  | _ => False
theorem re_ixVar {i : Nat} {tb : TE} {db : DE} (h : RE K tb db) : RE K (tOp (rIxL K) (tVar i) tb) (dIxVar i db) := fun C hC s P hd σ H Q R q => by
  have hsl : ∃ v, σ[i]? = some (some v) := by
    have h0 := hd.1
    split at h0
    · rename_i e
      obtain ⟨sl, h1, v, rfl, h3⟩ := R.slots i _ e
      exact ⟨v, h1⟩
    · rename_i e
      obtain ⟨sl, h1, a, vs, rfl, h3⟩ := R.slots i _ e
      exact ⟨_, h1⟩
    · exact h0.elim
  obtain ⟨v, e⟩ := hsl
  exact rd_op (rd_var e (h C hC s _ hd.2 σ H _ R fun w H1 d s1 hp R1 hw => by
    cases d with
    | int k =>
      cases hw
      obtain ⟨a, vs, ds, e1, ⟨x, ex, hp⟩, e3, e4⟩ := list_at R1 hp
      rw [e] at e1
      cases e1
      obtain ⟨u, e5, e6⟩ := atI_da e4 ex
      exact ⟨a, vs, k, u, rfl, rfl, sq e3, e5, q u H1 x s1 hp R1 e6⟩
    | _ => exact hp.elim))
/-! ### slices -/
def DO := DSt → (Option Int → DSt → Prop) → Prop
def RP (K : KX) (to : TO) (d : DO) : Prop := ∀ C : DC, C.K = K → ∀ s P, d s P → ∀ (σ : L2.St) (H : Hp) (Q : Option Int → Hp → Prop), Rl C σ H s → (∀ o H' s', P o s' → Rl C σ H' s' → Q o H') → to σ H Q
def dNoP : DO := fun s P => P none s
def dPart (de : DE) : DO := fun s P => de s fun d s1 => match d with
  | .int i => P (some i) s1
  | _ => False
theorem rp_no : RP K tNoPart dNoP := fun C _ s P h σ H Q R q => q none H s h R
theorem rp_of {te : TE} {de : DE} (h : RE K te de) : RP K (tPart te) (dPart de) := fun C hC s P hd σ H Q R q => h C hC s _ hd σ H _ R fun v H1 d s1 hp R1 hv => by
  cases d with
  | int i =>
    cases hv
    exact ⟨i, rfl, q _ H1 s1 hp R1⟩
  | _ => exact hp.elim
def cutD (xs : List PyData) (lo hi : Option Int) : List PyData := (xs.drop (HT.sIx xs.length 0 lo)).take (HT.sIx xs.length xs.length hi - HT.sIx xs.length 0 lo)
theorem cut_da {H : Hp} {vs : List V} {ds : List PyData} (h : DaAll K H vs ds) (lo hi : Option Int) : DaAll K H (cutV vs lo hi) (cutD ds lo hi) := by
  unfold cutV cutD
  rw [h.len]
  exact (h.drop _).take _
/-- xs[lo:hi] of a list: the bounds call nothing that changes it -/
def dSlL (dl : DA) (d1 d2 : DO) : DA := fun s P => dl s fun ds s1 => d1 s1 fun lo s2 => d2 s2 fun hi s3 => P (cutD ds lo hi) s3
/-- xs[lo:hi] of a list that is data -/
def dSlD (de : DE) (d1 d2 : DO) : DA := fun s P => de s fun d s1 => d1 s1 fun lo s2 => d2 s2 fun hi s3 => match d with
  | .list ds => P (cutD ds lo hi) s3
  | _ => False
theorem rf_sl {te : TE} {tl th : TO} {de : DE} {d1 d2 : DO} (h : RE K te de) (h1 : RP K tl d1) (h2 : RP K th d2) : RF K (tSl (rSlL K) te tl th) (dSlD de d1 d2) := fun C hC s P hd σ H Q R q =>
  h C hC s _ hd σ H _ R fun v H1 d s1 hd1 R1 hv => h1 (C.keep v d) hC s1 _ hd1 σ H1 _ (R1.keep hv) fun lo H2 s2 hd2 R2 => h2 (C.keep v d) hC s2 _ hd2 σ H2 _ R2 fun hi H3 s3 hp R3 => by
    obtain ⟨R4, hv4⟩ := R3.kept
    cases d with
    | list ds =>
      obtain ⟨a, vs, rfl, k1, k2⟩ := da_list hv4
      exact ⟨a, vs, rfl, sq k1, fun p np => q p _ H3 _ s3 hp R4 np (cut_da k2 lo hi)⟩
    | _ => exact hp.elim
/-- the list in slot i, cut -/
def dSlVar (i : Nat) (d1 d2 : DO) : DA := fun s P => (match s.sl[i]? with
  | some (.dat _) => True
  | some (.own _) => True
  | _ => False) ∧ d1 s fun lo s2 => d2 s2 fun hi s3 => dListVar i s3 fun ds s4 => P (cutD ds lo hi) s4
theorem rf_slVar {i : Nat} {tl th : TO} {d1 d2 : DO} (h1 : RP K tl d1) (h2 : RP K th d2) : RF K (tSl (rSlL K) (tVar i) tl th) (dSlVar i d1 d2) := fun C hC s P hd σ H Q R q => by
  have hsl : ∃ v, σ[i]? = some (some v) := by
    have h0 := hd.1
    split at h0
    · rename_i e
      obtain ⟨sl, h1, v, rfl, h3⟩ := R.slots i _ e
      exact ⟨v, h1⟩
    · rename_i e
      obtain ⟨sl, h1, a, vs, rfl, h3⟩ := R.slots i _ e
      exact ⟨_, h1⟩
    · exact h0.elim
  obtain ⟨v, e⟩ := hsl
  refine rd_var (Q := fun x H1 => tl σ H1 fun l H2 => th σ H2 fun u H3 => rSlL K x l u H3 Q) e ?_
  refine h1 C hC s _ hd.2 σ H _ R fun lo H2 s2 hd2 R2 => h2 C hC s2 _ hd2 σ H2 _ R2 fun hi H3 s3 hp R3 => ?_
  obtain ⟨a, vs, ds, e1, hp, e3, e4⟩ := list_at R3 hp
  rw [e] at e1
  cases e1
  exact ⟨a, vs, rfl, sq e3, fun p np => q p _ H3 _ s3 hp R3 np (cut_da e4 lo hi)⟩
/-- xs[lo:hi] of a tuple -/
def dSlU (de : DE) (d1 d2 : DO) : DE := fun s P => de s fun d s1 => d1 s1 fun lo s2 => d2 s2 fun hi s3 => match d with
  | .tuple ds => P (.tuple (cutD ds lo hi)) s3
  | _ => False
theorem re_slU {te : TE} {tl th : TO} {de : DE} {d1 d2 : DO} (h : RE K te de) (h1 : RP K tl d1) (h2 : RP K th d2) : RE K (tSl (rSlP K) te tl th) (dSlU de d1 d2) := fun C hC s P hd σ H Q R q =>
  h C hC s _ hd σ H _ R fun v H1 d s1 hd1 R1 hv => h1 (C.keep v d) hC s1 _ hd1 σ H1 _ (R1.keep hv) fun lo H2 s2 hd2 R2 => h2 (C.keep v d) hC s2 _ hd2 σ H2 _ R2 fun hi H3 s3 hp R3 => by
    obtain ⟨R4, hv4⟩ := R3.kept
    cases d with
    | tuple ds =>
      obtain ⟨a, vs, rfl, k1, k2⟩ := da_tup hv4
      subst hC
      refine ⟨a, vs, rfl, k1, fun e => ?_, fun _ p o np eo => q _ _ _ s3 hp (R4.ext (same_upd np)) (.tup (.inl ⟨o, R4.see np, eo⟩) ((cut_da k2 lo hi).of (R4.kp np)))⟩
      have e' : cutD ds lo hi = ds := by
        unfold cutD
        rw [← k2.len, e.1, e.2, List.drop_zero, Nat.sub_zero, k2.len, List.take_length]
      have hp' : P (.tuple (cutD ds lo hi)) s3 := hp
      rw [e'] at hp'
      exact q _ H3 _ s3 hp' R4 hv4
    | _ => exact hp.elim
/-- of a text -/
def dSlS (de : DE) (d1 d2 : DO) : DE := fun s P => de s fun d s1 => d1 s1 fun lo s2 => d2 s2 fun hi s3 => match d with
  | .str z => z.length ≤ 1000000 ∧ P (.str (cutS z lo hi)) s3
  | _ => False
theorem re_slS {te : TE} {tl th : TO} {de : DE} {d1 d2 : DO} (h : RE K te de) (h1 : RP K tl d1) (h2 : RP K th d2) : RE K (tSl rSlS te tl th) (dSlS de d1 d2) := fun C hC s P hd σ H Q R q =>
  h C hC s _ hd σ H _ R fun v H1 d s1 hd1 R1 hv => h1 C hC s1 _ hd1 σ H1 _ R1 fun lo H2 s2 hd2 R2 => h2 C hC s2 _ hd2 σ H2 _ R2 fun hi H3 s3 hp R3 => by
    cases d with
    | str z =>
      cases hv
      exact ⟨z, rfl, Nat.le_trans hp.1 sz6, q _ H3 _ s3 hp.2 R3 (.str _)⟩
    | _ => exact hp.elim
/-- xs[::-1] -/
def dRevL (dl : DA) : DA := fun s P => dl s fun ds s1 => P ds.reverse s1
theorem rf_rev {te : TE} {dl : DA} (h : RL K te dl) : RF K (tRevL K te) (dRevL dl) := fun C hC s P hd σ H Q R q =>
  h C hC s _ hd σ H _ R fun a vs H1 ds s1 hp R1 e hv => ⟨a, vs, rfl, sq e, fun p np => q p _ H1 _ s1 hp R1 np hv.rev⟩
/-! ### built-in calls -/
/-- len of a list that is read, of a tuple, of a text -/
def dLenL (dl : DA) : DE := fun s P => dl s fun ds s1 => P (.int ds.length) s1
def rLn (K : PySem.W.Frag) : List V → Hp → VK → Prop := fun xs H Q => ∃ p ys, xs = [.ref p] ∧ (SqL K H p ys ∨ SqT K H p ys) ∧ Q (.int ys.length) H
theorem re_lenL {te : TE} {dl : DA} (h : RL K te dl) : RE K (tCB (rLn K) (tCons te tNil)) (dLenL dl) := fun C hC s P hd σ H Q R q =>
  rd_cb (rd_cons (h C hC s _ hd σ H _ R fun a vs H1 ds s1 hp R1 e hv => rd_nil ⟨a, vs, rfl, .inl (sq e), by rw [hv.len]; exact q _ H1 _ s1 hp R1 (.int _)⟩))
theorem re_lenU {te : TE} {dl : DA} (h : RU K te dl) : RE K (tCB (rLn K) (tCons te tNil)) (dLenL dl) := fun C hC s P hd σ H Q R q =>
  rd_cb (rd_cons (h C hC s _ hd σ H _ R fun a vs H1 ds s1 hp R1 e hv => rd_nil ⟨a, vs, rfl, .inr (hC ▸ e), by rw [hv.len]; exact q _ H1 _ s1 hp R1 (.int _)⟩))
/-- of a list or a tuple, data -/
def dLenD (de : DE) : DE := fun s P => de s fun d s1 => match d with
  | .list ds => P (.int ds.length) s1
  | .tuple ds => P (.int ds.length) s1
  | _ => False
theorem re_lenD {te : TE} {de : DE} (h : RE K te de) : RE K (tCB (rLn K) (tCons te tNil)) (dLenD de) := fun C hC s P hd σ H Q R q =>
  rd_cb (rd_cons (h C hC s _ hd σ H _ R fun v H1 d s1 hp R1 hv => by
    cases d with
    | list ds =>
      obtain ⟨a, vs, rfl, k1, k2⟩ := da_list hv
      exact rd_nil ⟨a, vs, rfl, .inl (sq k1), by rw [k2.len]; exact q _ H1 _ s1 hp R1 (.int _)⟩
    | tuple ds =>
      obtain ⟨a, vs, rfl, k1, k2⟩ := da_tup hv
      exact rd_nil ⟨a, vs, rfl, .inr (hC ▸ k1), by rw [k2.len]; exact q _ H1 _ s1 hp R1 (.int _)⟩
    | _ => exact hp.elim))
def dLenS (de : DE) : DE := fun s P => de s fun d s1 => match d with
  | .str z => z.length ≤ 1000000 ∧ P (.int z.length) s1
  | _ => False
theorem re_lenS {te : TE} {de : DE} (h : RE K te de) : RE K (tCB (fun xs H Q => ∃ z, xs = [.str z] ∧ z.length ≤ sizeLine ∧ Q (.int z.length) H) (tCons te tNil)) (dLenS de) := fun C hC s P hd σ H Q R q =>
  rd_cb (rd_cons (h C hC s _ hd σ H _ R fun v H1 d s1 hp R1 hv => by
    cases d with
    | str z =>
      cases hv
      exact rd_nil ⟨z, rfl, Nat.le_trans hp.1 sz6, q _ H1 _ s1 hp.2 R1 (.int _)⟩
    | _ => exact hp.elim))
/-- list(xs), tuple(xs) of a list or tuple that is read -/
def rLo (K : PySem.W.Frag) : List V → Hp → VK → Prop := fun xs H Q => ∃ p ys, xs = [.ref p] ∧ (SqL K H p ys ∨ SqT K H p ys) ∧ ∀ l, H l = none → Q (.ref l) (upd H l (.lst ys))
theorem rf_listL {te : TE} {dl : DA} (h : RL K te dl) : RF K (tCB (rLo K) (tCons te tNil)) dl := fun C hC s P hd σ H Q R q =>
  rd_cb (rd_cons (h C hC s _ hd σ H _ R fun a vs H1 ds s1 hp R1 e hv => rd_nil ⟨a, vs, rfl, .inl (sq e), fun p np => q p _ H1 _ s1 hp R1 np hv⟩))
theorem rf_listU {te : TE} {dl : DA} (h : RU K te dl) : RF K (tCB (rLo K) (tCons te tNil)) dl := fun C hC s P hd σ H Q R q =>
  rd_cb (rd_cons (h C hC s _ hd σ H _ R fun a vs H1 ds s1 hp R1 e hv => rd_nil ⟨a, vs, rfl, .inr (hC ▸ e), fun p np => q p _ H1 _ s1 hp R1 np hv⟩))
def dTupOf (dl : DA) : DE := fun s P => dl s fun ds s1 => P (.tuple ds) s1
theorem re_tupL {te : TE} {dl : DA} (h : RL K te dl) : RE K (tCB (rToP K) (tCons te tNil)) (dTupOf dl) := fun C hC s P hd σ H Q R q =>
  rd_cb (rd_cons (h C hC s _ hd σ H _ R fun a vs H1 ds s1 hp R1 e hv => rd_nil ⟨a, vs, rfl, .inl ⟨sq e, fun p o np eo => q _ _ _ s1 hp (R1.ext (same_upd np)) (.tup (.inl ⟨o, R1.see np, eo⟩) (hv.of (R1.kp np)))⟩⟩))
/-- t * k of a tuple -/
def oRepU : D2 := fun d e P => match d, e with
  | .tuple a, .int k => -(2 ^ 62) ≤ k ∧ k ≤ 1000 ∧ a.length ≤ 1000 ∧ P (.tuple (List.replicate k.toNat a).flatten)
  | _, _ => False
theorem DaAll.rep {H : Hp} {vs : List V} {ds : List PyData} (h : DaAll K H vs ds) : ∀ n : Nat, DaAll K H (List.replicate n vs).flatten (List.replicate n ds).flatten
  | 0 => .nil
  | n + 1 => by
    rw [List.replicate_succ, List.replicate_succ, List.flatten_cons, List.flatten_cons]
    exact h.append (h.rep n)
theorem flat_nil (n : Nat) : (List.replicate n ([] : List PyData)).flatten = [] := by
  induction n with
  | zero => rfl
  | succ n ih => rw [List.replicate_succ, List.flatten_cons, ih]; rfl
theorem ro_repU : RO K (rRepP K) oRepU := fun S H x y d e P Q T hx hy h q => by
  unfold oRepU at h
  split at h
  · rename_i ds k
    obtain ⟨a, vs, rfl, h1, h2⟩ := da_tup hx
    cases hy
    refine ⟨a, k, vs, rfl, rfl, h1, h.1, h.2.1, by rw [h2.len]; exact h.2.2.1, fun e => ?_, fun _ _ p o np eo => ?_⟩
    · refine q _ H _ h.2.2.2 (Same.refl _) ?_
      rcases e with e | e
      · subst e
        cases h2
        rw [flat_nil]
        exact hx
      · subst e
        have e1 : (List.replicate (1 : Int).toNat ds).flatten = ds := by simp
        rw [e1]
        exact hx
    · exact q _ _ _ h.2.2.2 (same_upd np) (.tup (.inl ⟨o, see_of T np, eo⟩) ((h2.rep _).of (hdS (same_upd np))))
  · exact h.elim
/-! ### truths -/
def dAndV (da db : DE) : DE := fun s P => da s fun d s1 => match d with
  | .bool c => if c = true then db s1 P else P (.bool false) s1
  | _ => False
theorem re_and {ta tb : TE} {da db : DE} (h1 : RE K ta da) (h2 : RE K tb db) : RE K (tAndV ta tb) (dAndV da db) := fun C hC s P hd σ H Q R q =>
  h1 C hC s _ hd σ H _ R fun v H1 d s1 hp R1 hv => by
    cases d with
    | bool c =>
      cases hv
      refine ⟨c, rfl, ?_⟩
      cases c with
      | true => exact pT rfl (h2 C hC s1 _ (by simpa using hp) σ H1 _ R1 q)
      | false => exact pF (by decide) (q _ H1 _ s1 (by simpa using hp) R1 (.bl _))
    | _ => exact hp.elim
def dOrV (da db : DE) : DE := fun s P => da s fun d s1 => match d with
  | .bool c => if c = true then P (.bool true) s1 else db s1 P
  | _ => False
theorem re_or {ta tb : TE} {da db : DE} (h1 : RE K ta da) (h2 : RE K tb db) : RE K (tOrV ta tb) (dOrV da db) := fun C hC s P hd σ H Q R q =>
  h1 C hC s _ hd σ H _ R fun v H1 d s1 hp R1 hv => by
    cases d with
    | bool c =>
      cases hv
      refine ⟨c, rfl, ?_⟩
      cases c with
      | true => exact pT rfl (q _ H1 _ s1 (by simpa using hp) R1 (.bl _))
      | false => exact pF (by decide) (h2 C hC s1 _ (by simpa using hp) σ H1 _ R1 q)
    | _ => exact hp.elim
def dNotV (da : DE) : DE := fun s P => da s fun d s1 => match d with
  | .bool c => P (.bool (!c)) s1
  | _ => False
theorem re_not {ta : TE} {da : DE} (h1 : RE K ta da) : RE K (tNotV ta) (dNotV da) := fun C hC s P hd σ H Q R q =>
  h1 C hC s _ hd σ H _ R fun v H1 d s1 hp R1 hv => by
    cases d with
    | bool c =>
      cases hv
      exact ⟨c, rfl, q _ H1 _ s1 hp R1 (.bl _)⟩
    | _ => exact hp.elim
def dB (de : DE) : DT := fun s P => de s fun d s1 => match d with
  | .bool c => P c s1
  | _ => False
theorem rt_test {te : TE} {de : DE} (h : RE K te de) : RT K (tTest te) (dB de) := fun C hC s P hd σ H Q R q =>
  rd_test (h C hC s _ hd σ H _ R fun v H1 d s1 hp R1 hv => by
    cases d with
    | bool c =>
      cases hv
      exact ⟨c, rfl, q _ H1 s1 hp R1⟩
    | _ => exact hp.elim)
theorem rt_val {te : TE} {de : DE} (h : RE K te de) : RT K (tB te) (dB de) := fun C hC s P hd σ H Q R q =>
  rd_tb (h C hC s _ hd σ H _ R fun v H1 d s1 hp R1 hv => by
    cases d with
    | bool c =>
      cases hv
      exact ⟨c, rfl, q _ H1 s1 hp R1⟩
    | _ => exact hp.elim)
def dAnd (a b : DT) : DT := fun s P => a s fun c s1 => if c = true then b s1 P else P false s1
def dOr (a b : DT) : DT := fun s P => a s fun c s1 => if c = true then P true s1 else b s1 P
def dNot (a : DT) : DT := fun s P => a s fun c s1 => P (!c) s1
theorem rt_and {ta tb : TT} {da db : DT} (h1 : RT K ta da) (h2 : RT K tb db) : RT K (tAnd ta tb) (dAnd da db) := fun C hC s P hd σ H Q R q =>
  rd_and (h1 C hC s _ hd σ H _ R fun c H1 s1 hp R1 => by
    cases c with
    | true => exact pT rfl (h2 C hC s1 _ (by simpa using hp) σ H1 _ R1 q)
    | false => exact pF (by decide) (q _ H1 s1 (by simpa using hp) R1))
theorem rt_or {ta tb : TT} {da db : DT} (h1 : RT K ta da) (h2 : RT K tb db) : RT K (tOr ta tb) (dOr da db) := fun C hC s P hd σ H Q R q =>
  rd_or (h1 C hC s _ hd σ H _ R fun c H1 s1 hp R1 => by
    cases c with
    | true => exact pT rfl (q _ H1 s1 (by simpa using hp) R1)
    | false => exact pF (by decide) (h2 C hC s1 _ (by simpa using hp) σ H1 _ R1 q))
theorem rt_not {ta : TT} {da : DT} (h1 : RT K ta da) : RT K (tNot ta) (dNot da) := fun C hC s P hd σ H Q R q =>
  rd_not (h1 C hC s _ hd σ H _ R fun c H1 s1 hp R1 => q _ H1 s1 hp R1)
def dIfE (c : DT) (da db : DE) : DE := fun s P => c s fun b s1 => if b = true then da s1 P else db s1 P
theorem re_if {tc : TT} {ta tb : TE} {dc : DT} {da db : DE} (hc : RT K tc dc) (h1 : RE K ta da) (h2 : RE K tb db) : RE K (tIf tc ta tb) (dIfE dc da db) := fun C hC s P hd σ H Q R q =>
  hc C hC s _ hd σ H _ R fun c H1 s1 hp R1 => by
    cases c with
    | true => exact pT rfl (h1 C hC s1 _ (by simpa using hp) σ H1 _ R1 q)
    | false => exact pF (by decide) (h2 C hC s1 _ (by simpa using hp) σ H1 _ R1 q)
/-- one's own list against [] -/
def dNeNil (i : Nat) : DT := fun s P => dListVar i s fun ds s1 => P (!ds.isEmpty) s1
end DL

set_option Elab.async false
set_option linter.all false
set_option maxRecDepth 100000
set_option maxHeartbeats 4000000
/-! DLc: statements, calls, defs told by data alone. -/
namespace DL
open PySem PySem.Spec PyProof.Rows L2 GG DD PT
variable {K : KX}
/-! ### calls -/
def ArgOk (K : PySem.W.Frag) (W : Wo) (S : Addr → Prop) (H : Hp) (v : V) : DV → Prop
  | .dat d => Da K (Hd S H) v d
  | .deck => ∃ p l, W = some (p, l) ∧ v = .ref p
  | _ => False
inductive ArgsOk (K : PySem.W.Frag) (W : Wo) (S : Addr → Prop) (H : Hp) : List V → List DV → Prop
  | nil : ArgsOk K W S H [] []
  | cons {v : V} {vs : List V} {a : DV} {as : List DV} : ArgOk K W S H v a → ArgsOk K W S H vs as → ArgsOk K W S H (v :: vs) (a :: as)
theorem ArgsOk.len {K : PySem.W.Frag} {W : Wo} {S : Addr → Prop} {H : Hp} : ∀ {vs : List V} {as : List DV}, ArgsOk K W S H vs as → vs.length = as.length
  | _, _, .nil => rfl
  | _, _, .cons _ h => by rw [List.length_cons, List.length_cons, ArgsOk.len h]
/-- what a def does, by data: its arguments, the draws so far, what is wished -/
abbrev FD := List DV → Nat → (PyData → Nat → Prop) → Prop
/-- the promise of a def that does F and has m parameters -/
def spOf (K : PySem.W.Frag) (m : Nat) (F : FD) : Sp := fun vs H Q _ => vs.length = m ∧ ∃ (W : Wo) (S0 : Addr → Prop) (n : Nat) (as : List DV) (P : PyData → Nat → Prop), Taken H S0 ∧ DkOk W H n ∧ (∀ b, Mu W b → S0 b) ∧ ArgsOk K W S0 H vs as ∧ F as n P ∧
  ∀ v H' d n', P d n' → DkOk W H' n' → ButW W H H' → Da K (Hd S0 H') v d → Q v H'
def XX (C : DC) (ta : TA) (s : DSt) (P : List DV → DSt → Prop) : Prop := ∀ (σ : L2.St) (H : Hp) (Q : List V → Hp → Prop), Rl C σ H s → (∀ vs H' as s', P as s' → Rl C σ H' s' → ArgsOk C.K C.W (Sof C σ s'.sl) H' vs as → Q vs H') → ta σ H Q
def RX (K : KX) (ta : TA) (dx : DX) : Prop := ∀ C : DC, C.K = K → ∀ s P, dx s P → XX C ta s P
def xNil : DX := fun s P => P [] s
def xCons (de : DE) (da : DX) : DX := fun s P => de s fun d s1 => da s1 fun ds s2 => P (.dat d :: ds) s2
/-- the deck, from slot i -/
def xDeck (i : Nat) (da : DX) : DX := fun s P => match s.sl[i]? with
  | some .deck => da s fun ds s2 => P (.deck :: ds) s2
  | _ => False
theorem rx_nil : RX K tNil xNil := fun C _ s P h σ H Q R q => q [] H [] s h R .nil
theorem rx_cons {te : TE} {ta : TA} {de : DE} {da : DX} (h1 : RE K te de) (h2 : RX K ta da) : RX K (tCons te ta) (xCons de da) := fun C hC s P hd σ H Q R q =>
  rd_cons (h1 C hC s _ hd σ H _ R fun v H1 d s1 hd1 R1 hv => h2 (C.keep v d) hC s1 _ hd1 σ H1 _ (R1.keep hv) fun vs H2 ds s2 hp R2 hvs => by
    obtain ⟨R3, hv3⟩ := R2.kept
    exact q (v :: vs) H2 (.dat d :: ds) s2 hp R3 (.cons hv3 hvs))
theorem rx_deck {i : Nat} {ta : TA} {da : DX} (h2 : RX K ta da) : RX K (tCons (tVar i) ta) (xDeck i da) := fun C hC s P hd σ H Q R q => by
  unfold xDeck at hd
  split at hd
  · rename_i e
    obtain ⟨sl, h1, p, l, hW, rfl⟩ := R.slots i _ e
    exact rd_cons (rd_var h1 (h2 C hC s _ hd σ H _ R fun vs H2 ds s2 hp R2 hvs => q (.ref p :: vs) H2 (.deck :: ds) s2 hp R2 (.cons ⟨p, l, hW, rfl⟩ hvs)))
  · exact hd.elim
def dCall (m : Nat) (F : FD) (da : DX) : DE := fun s P => da s fun as s1 => as.length = m ∧ F as s1.n fun d n' => P d ⟨s1.sl, n'⟩
theorem re_call {m : Nat} {F : FD} {ta : TA} {da : DX} (h : RX K ta da) : RE K (tCall (spOf K m F) [] E0 ta) (dCall m F da) := fun C hC s P hd σ H Q R q =>
  rd_call (h C hC s _ hd σ H _ R fun vs H1 as s1 hp R1 hv => by
    subst hC
    refine ⟨by rw [List.append_nil, hv.len]; exact hp.1, C.W, Sof C σ s1.sl, s1.n, as, _, R1.taken, R1.dk, fun b hb => .inr (.inl hb), by rw [List.append_nil]; exact hv, hp.2, fun v H' d n' hP hD hB hda => ?_⟩
    exact q v H' d ⟨s1.sl, n'⟩ hP (R1.step hB hD) hda)
/-! ### statements -/
structure DEnds where
  nx : DSt → Prop
  rt : PyData → DSt → Prop
  bk : DSt → Prop := fun _ => False
  ct : DSt → Prop := fun _ => False
abbrev DS := DEnds → DSt → Prop
structure EndsOk (C : DC) (E : DEnds) (D : Ends) : Prop where
  nx : ∀ σ H s, E.nx s → Rl C σ H s → D.nx σ H
  rt : ∀ σ v H d s, E.rt d s → Rl C σ H s → Da C.K (Hd (Sof C σ s.sl) H) v d → D.rt v H
  bk : ∀ σ H s, E.bk s → Rl C σ H s → D.bk σ H
  ct : ∀ σ H s, E.ct s → Rl C σ H s → D.ct σ H
def RS (K : KX) (t : TS) (d : DS) : Prop := ∀ C : DC, C.K = K → ∀ (E : DEnds) (s : DSt), d E s → ∀ (σ : L2.St) (H : Hp) (D : Ends), Rl C σ H s → EndsOk C E D → t D σ H
def dNext : DS := fun E s => E.nx s
theorem rs_next : RS K tNext dNext := fun C _ E s h σ H D R o => o.nx σ H s h R
def dSeq (a b : DS) : DS := fun E s => a { E with nx := b E } s
theorem rs_seq {a b : TS} {da db : DS} (h1 : RS K a da) (h2 : RS K b db) : RS K (tSeq a b) (dSeq da db) := fun C hC E s h σ H D R o =>
  rd_seq (h1 C hC _ s h σ H _ R ⟨fun σ' H' s' h' R' => h2 C hC E s' h' σ' H' D R' o, o.rt, o.bk, o.ct⟩)
def dSet (de : DE) (i : Nat) : DS := fun E s => de s fun d s1 => E.nx ⟨s1.sl.set i (.dat d), s1.n⟩
theorem rs_set {te : TE} {i : Nat} {de : DE} (h : RE K te de) : RS K (tAsg te (gName i)) (dSet de i) := fun C hC E s hd σ H D R o =>
  h C hC s _ hd σ H _ R fun v H1 d s1 hp R1 hv => o.nx _ H1 _ hp (R1.set hv)
/-- a new list as one's own -/
def dSetO (dl : DA) (i : Nat) : DS := fun E s => dl s fun ds s1 => i < s1.sl.length ∧ E.nx ⟨s1.sl.set i (.own ds), s1.n⟩
theorem rs_setO {te : TE} {i : Nat} {dl : DA} (h : RF K te dl) : RS K (tAsg te (gName i)) (dSetO dl i) := fun C hC E s hd σ H D R o =>
  h C hC s _ hd σ H _ R fun a vs H1 ds s1 hp R1 na hv => o.nx _ _ _ hp.2 (R1.setOwn na hp.1 rfl fun S' hs => ⟨a, vs, rfl, upd_same, hv.of hs⟩)
def dIf (c : DT) (a b : DS) : DS := fun E s => c s fun b' s1 => if b' = true then a E s1 else b E s1
theorem rs_if {tc : TT} {a b : TS} {dc : DT} {da db : DS} (hc : RT K tc dc) (h1 : RS K a da) (h2 : RS K b db) : RS K (tIfS tc a b) (dIf dc da db) := fun C hC E s hd σ H D R o =>
  rd_ifS (hc C hC s _ hd σ H _ R fun c H1 s1 hp R1 => by
    cases c with
    | true => exact pT rfl (h1 C hC E s1 (by simpa using hp) σ H1 D R1 o)
    | false => exact pF (by decide) (h2 C hC E s1 (by simpa using hp) σ H1 D R1 o))
def dRet (de : DE) : DS := fun E s => de s E.rt
theorem rs_ret {te : TE} {de : DE} (h : RE K te de) : RS K (tRet te) (dRet de) := fun C hC E s hd σ H D R o =>
  rd_ret (h C hC s _ hd σ H _ R fun v H1 d s1 hp R1 hv => o.rt σ v H1 d s1 hp R1 hv)
def dDrop (de : DE) : DS := fun E s => de s fun _ s1 => E.nx s1
theorem rs_drop {te : TE} {de : DE} (h : RE K te de) : RS K (tDrop te) (dDrop de) := fun C hC E s hd σ H D R o =>
  h C hC s _ hd σ H _ R fun v H1 d s1 hp R1 hv => o.nx σ H1 s1 hp R1
/-- one's own thing is data from here on -/
def dFreeze (i : Nat) (b : DS) : DS := fun E s => match s.sl[i]? with
  | some (.own ds) => b E ⟨s.sl.set i (.dat (.list ds)), s.n⟩
  | some (.owd kvs) => b E ⟨s.sl.set i (.dat (.dict kvs)), s.n⟩
  | some (.owt kvs) => kvs ≠ [] ∧ b E ⟨s.sl.set i (.dat (.dict kvs)), s.n⟩
  | some (.dat _) => b E s
  | _ => False
theorem rs_freeze {i : Nat} {t : TS} {b : DS} (h : RS K t b) : RS K t (dFreeze i b) := fun C hC E s hd σ H D R o => by
  unfold dFreeze at hd
  split at hd
  · rename_i ds e
    exact h C hC E _ hd σ H D (R.freeze e (.inl ⟨ds, rfl, rfl⟩)) o
  · rename_i kvs e
    exact h C hC E _ hd σ H D (R.freeze e (.inr (.inl ⟨kvs, rfl, rfl⟩))) o
  · rename_i kvs e
    exact h C hC E _ hd.2 σ H D (R.freeze e (.inr (.inr ⟨kvs, rfl, rfl, hd.1⟩))) o
  · exact h C hC E s hd σ H D R o
  · exact hd.elim
/-- a, b = x, y -/
def dPar (i j : Nat) (da : DA) : DS := fun E s => da s fun ds s1 => match ds with
  | [d, e] => E.nx ⟨(s1.sl.set i (.dat d)).set j (.dat e), s1.n⟩
  | _ => False
theorem rs_par {i j : Nat} {ta : TA} {da : DA} (h : RA K ta da) : RS K (tPar i j ta) (dPar i j da) := fun C hC E s hd σ H D R o =>
  h C hC s _ hd σ H _ R fun vs H1 ds s1 hp R1 hv => by
    match ds, hp, hv with
    | [d, e], hp, .cons (v := v) h1 (.cons (v := w) h2 .nil) =>
      have R2 := (R1.keep (v := w) h2).set (i := i) h1
      obtain ⟨R3, h3⟩ := R2.kept
      exact ⟨v, w, rfl, o.nx _ H1 _ hp (R3.set h3)⟩
/-! ### defs -/
theorem rl_start {K : PySem.W.Frag} {W : Wo} {S0 : Addr → Prop} {H : Hp} {n : Nat} {vs : List V} {as : List DV} (m : Nat) (T : Taken H S0) (dk : DkOk W H n) (hm : ∀ b, Mu W b → S0 b) (ha : ArgsOk K W S0 H vs as) :
    Rl (DC.base ⟨K, W, S0, H, fun _ _ => False, fun _ _ => False⟩) (vs.map some ++ List.replicate m none) H ⟨as ++ List.replicate m .un, n⟩ := by
  have no : ∀ {vs : List V} {as : List DV}, ArgsOk K W S0 H vs as → ∀ (i : Nat) (dv : DV), (as ++ List.replicate m .un)[i]? = some dv → isOwn dv = true → False := by
    intro vs as ha
    induction ha with
    | nil =>
      intro i dv h ho
      rw [List.nil_append] at h
      have := List.eq_of_mem_replicate (List.mem_of_getElem? h)
      subst this
      cases ho
    | @cons v vs a as h1 h2 ih =>
      intro i dv h ho
      cases i with
      | zero =>
        simp at h
        subst h
        cases a <;> first | exact h1.elim | cases ho
      | succ i => exact ih i dv (by simpa using h) ho
  have sof : ∀ b, Sof (DC.base ⟨K, W, S0, H, fun _ _ => False, fun _ _ => False⟩) (vs.map some ++ List.replicate m none) (as ++ List.replicate m .un) b → S0 b := fun b h => by
    rcases h with h | h | ⟨i, dv, h1, h2, h3⟩
    · exact h
    · exact hm b h
    · exact (no ha i dv h1 h2).elim
  refine ⟨?_, ?_, fun i j a dv ev h1 _ h3 => (no ha i dv h1 h3).elim, fun i a dv h1 h2 => (no ha i dv h1 h2).elim, dk, ButW.refl _ _, T, fun _ _ h => h.elim, fun _ _ h => h.elim⟩
  · rw [List.length_append, List.length_append, List.length_map, List.length_replicate, List.length_replicate, ha.len]
  · have hs := hd_mono (S := S0) (S' := Sof (DC.base ⟨K, W, S0, H, fun _ _ => False, fun _ _ => False⟩) (vs.map some ++ List.replicate m none) (as ++ List.replicate m .un)) (H := H) sof
    generalize Sof (DC.base ⟨K, W, S0, H, fun _ _ => False, fun _ _ => False⟩) (vs.map some ++ List.replicate m none) (as ++ List.replicate m .un) = S at hs
    clear sof
    induction ha with
    | nil =>
      intro i dv h
      rw [List.nil_append] at h
      have := List.eq_of_mem_replicate (List.mem_of_getElem? h)
      subst this
      have hi : i < m := by
        have := (List.getElem?_eq_some_iff.mp h).1
        rw [List.length_replicate] at this
        exact this
      exact ⟨none, by simp [hi], trivial⟩
    | @cons v vs a as h1 h2 ih =>
      intro i dv h
      cases i with
      | zero =>
        simp at h
        subst h
        refine ⟨some v, by simp, ?_⟩
        cases a with
        | dat d => exact ⟨v, rfl, Da.of h1 hs⟩
        | deck =>
          obtain ⟨p, l, e1, e2⟩ := h1
          exact ⟨p, l, e1, by rw [e2]⟩
        | _ => exact h1.elim
      | succ i =>
        obtain ⟨sl, q1, q2⟩ := ih i dv (by simpa using h)
        exact ⟨sl, by simpa using q1, q2⟩
/-- a def's body, by data -/
def bodyD (d : DS) (m : Nat) : FD := fun as n P => d { nx := fun s => P .none s.n, rt := fun v s => P v s.n } ⟨as ++ List.replicate m .un, n⟩
theorem body_ok {K : PySem.W.Frag} {d : DS} {N : List Str} {k : Nat} {vs : List V} {H : Hp} {Q : VK} {X : TS → Prop} (h : ∀ W B H0 G0 Z0, ∃ t, X t ∧ RS ⟨K, W, B, H0, G0, Z0⟩ t d) (hsp : spOf K k (bodyD d (N.length - k)) vs H Q E0) : ∃ t, X t ∧ t { nx := fun _ H' => Q .non H', rt := Q } (L2.start N vs) H := by
  obtain ⟨hl, W, S0, n, as, P, T, dk, hm, ha, hF, q⟩ := hsp
  obtain ⟨t, hX, h⟩ := h W S0 H (fun _ _ => False) (fun _ _ => False)
  refine ⟨t, hX, ?_⟩
  unfold L2.start
  rw [hl]
  refine h (DC.base ⟨K, W, S0, H, fun _ _ => False, fun _ _ => False⟩) rfl _ _ hF _ H _ (rl_start _ T dk hm ha) ⟨fun σ H' s hp R => ?_, fun σ v H' d s hp R hv => ?_, fun _ _ _ h => h.elim, fun _ _ _ h => h.elim⟩
  · exact q _ H' _ _ hp R.dk R.but .non
  · exact q v H' d s.n hp R.dk R.but (hv.of (hd_mono fun b hb => .inl hb))
section
variable {P : Program} {w : World} {K : PySem.W.Frag} {mg : Str → Option Value} {base : Heap} {k : Nat} {f : Addr} {fd : FuncData} {ps : List Str}
/-- a def does what its body does -/
theorem okd {x qual : Str} {st : Stmt} {N : List Str} {d : DS} {m : Nat} (hm : ps.length = m) (F : L2.Fun K x qual st f fd) (S : FnScope N ps (defScope st))
    (body : ∀ (cdv : Value) (A : Around) (outer : List Env) (s : Shared) (H : Hp), Rm k (A.deeper (envOfC qual (defScope st) s.heap.objs.size f cdv)) → ∀ W B H0 G0 Z0,
      ∃ t, PSs (cxOf CX0 P w K mg base N qual (defScope st) f cdv A outer s H E0).nox (defBody st) t ∧ RS ⟨K, W, B, H0, G0, Z0⟩ t d) :
    Fg P w K mg base (k + 1) f fd ps (spOf K m (bodyD d (N.length - m))) :=
  okg F S (fun vs H Q h => by rw [h.1]; exact hm.symm) fun cdv A outer s H vs Q hr h => body_ok (body cdv A outer s H hr) h
end
end DL

set_option Elab.async false
set_option linter.all false
set_option maxRecDepth 100000
set_option maxHeartbeats 4000000
/-! DLd: loops and comprehensions told by data alone. -/
namespace DL
open PySem PySem.Spec PyProof.Rows L2 GG DD PT
def DC.more (C : DC) (G' : V → PyData → Prop) : DC := { C with G := fun x y => C.G x y ∨ G' x y, gsub := fun x y h => .inl (C.gsub x y h) }
section
variable {C : DC} {σ : L2.St} {H : Hp} {s : DSt}
theorem Rl.more (R : Rl C σ H s) {G' : V → PyData → Prop} (h : ∀ v d, G' v d → Da C.K (Hd (Sof C σ s.sl) H) v d) : Rl (C.more G') σ H s :=
  ⟨R.len, R.slots, R.nd, R.fr, R.dk, R.but, R.tk, fun x y z => z.elim (R.gh x y) (h x y), R.fz⟩
theorem Rl.less {G' : V → PyData → Prop} (R : Rl (C.more G') σ H s) : Rl C σ H s := ⟨R.len, R.slots, R.nd, R.fr, R.dk, R.but, R.tk, fun x y z => R.gh x y (.inl z), R.fz⟩
end
/-- data, or (w) a tuple of data that was made on the way -/
def DaF (w : Bool) (K : PySem.W.Frag) (S : Addr → Prop) (H : Hp) (v : V) (d : PyData) : Prop := Da K (Hd S H) v d ∨ (w = true ∧ ∃ a vs ds, v = .ref a ∧ d = .tuple ds ∧ SqT K H a vs ∧ DaAll K (Hd S H) vs ds)
theorem DaF.da {K : PySem.W.Frag} {S : Addr → Prop} {H : Hp} {v : V} {d : PyData} (h : DaF false K S H v d) : Da K (Hd S H) v d := h.elim id fun z => by cases z.1
theorem DaF.tup {w : Bool} {K : PySem.W.Frag} {S : Addr → Prop} {H : Hp} {v : V} {ds : List PyData} (h : DaF w K S H v (.tuple ds)) : ∃ a vs, v = .ref a ∧ SqT K H a vs ∧ DaAll K (Hd S H) vs ds := by
  rcases h with h | ⟨_, a, vs, es, e1, e2, h1, h2⟩
  · exact da_tup h
  · cases e2
    exact ⟨a, vs, e1, h1, h2⟩
/-- an iterator yields these items, as long as the data of G' stands -/
def ItOk (w : Bool) (K : KX) (G' : V → PyData → Prop) (Z' : Addr → HO → Prop) (J : It) (items : List PyData) : Prop := ∀ C : DC, C.K = K → (∀ v d, G' v d → C.G v d) → (∀ a o, Z' a o → C.Z a o) → ∀ (σ : L2.St) (H : Hp) (s : DSt), Rl C σ H s → J.stop items.length H ∧
  ∀ (i : Nat) (d : PyData), items[i]? = some d → J.go i H ∧ ∀ x H', J.yld i H x H' → Rl C σ H' s ∧ Same H H' ∧ DaF w C.K (Sof C σ s.sl) H' x d
def XI (w : Bool) (C : DC) (wi : TI) (s : DSt) (P : List PyData → DSt → Prop) : Prop := ∀ (σ : L2.St) (H : Hp) (R0 : It → Hp → Prop), Rl C σ H s → (∀ J H' items s' G' Z', P items s' → Rl (C.more G') σ H' s' → (∀ a o, Z' a o → C.Z a o) → ItOk w C.K G' Z' J items → R0 J H') → wi σ H R0
def RI (w : Bool) (K : KX) (wi : TI) (di : DA) : Prop := ∀ C : DC, C.K = K → ∀ s P, di s P → XI w C wi s P
variable {K : KX}
theorem ri_list {te : TE} {de : DE} (h : RE K te de) : RI false K (iList K te) (dAsL de) := fun C hC s P hd σ H R0 R q =>
  rd_ilist (h C hC s _ hd σ H _ R fun v H1 d s1 hp R1 hv => by
    cases d with
    | list ds =>
      obtain ⟨a, vs, rfl, k1, k2⟩ := da_list hv
      refine ⟨a, rfl, ⟨vs, sq k1⟩, q _ H1 ds s1 (fun x y => x = .ref a ∧ y = .list ds) (fun _ _ => False) hp (R1.more fun x y z => by
        obtain ⟨rfl, rfl⟩ := z
        exact hv) (fun _ _ z => z.elim) ?_⟩
      intro C' hK hG _ σ' H' s' R'
      obtain ⟨b, us, e, k3, k4⟩ := da_list (R'.gh _ _ (hG _ _ ⟨rfl, rfl⟩))
      cases e
      refine ⟨⟨us, sq k3, by rw [k4.len]; exact Nat.le_refl _⟩, fun i d hi => ?_⟩
      obtain ⟨u, hu, hud⟩ := k4.getD hi
      refine ⟨⟨us, u, sq k3, hu⟩, fun x H2 hy => ?_⟩
      obtain ⟨rfl, hy⟩ := hy
      have e := hy us (sq k3)
      rw [hu] at e
      cases e
      exact ⟨R', Same.refl _, .inl hud⟩
    | _ => exact hp.elim)
theorem ri_tup {te : TE} {de : DE} (h : RE K te de) : RI false K (iTup K te) (dAsU de) := fun C hC s P hd σ H R0 R q => by
  refine h C hC s _ hd σ H _ R fun v H1 d s1 hp R1 hv => ?_
  cases d with
  | tuple ds =>
    obtain ⟨a, vs, rfl, k1, k2⟩ := da_tup hv
    subst hC
    refine ⟨a, rfl, ⟨vs, k1⟩, q _ H1 ds s1 (fun x y => x = .ref a ∧ y = .tuple ds) (fun _ _ => False) hp (R1.more fun x y z => by
      obtain ⟨rfl, rfl⟩ := z
      exact hv) (fun _ _ z => z.elim) ?_⟩
    intro C' hK hG _ σ' H' s' R'
    obtain ⟨b, us, e, k3, k4⟩ := da_tup (R'.gh _ _ (hG _ _ ⟨rfl, rfl⟩))
    cases e
    rw [hK] at k3
    refine ⟨⟨us, k3, by rw [k4.len]; exact Nat.le_refl _⟩, fun i d hi => ?_⟩
    obtain ⟨u, hu, hud⟩ := k4.getD hi
    refine ⟨⟨us, u, k3, hu⟩, fun x H2 hy => ?_⟩
    obtain ⟨rfl, hy⟩ := hy
    have e := hy us k3
    rw [hu] at e
    cases e
    exact ⟨R', Same.refl _, .inl hud⟩
  | _ => exact hp.elim
def rngD (lo : Int) (n : Nat) : List PyData := (List.range n).map fun k => .int (lo + (k : Nat))
theorem it_rng (lo : Int) (n : Nat) : ItOk false K (fun _ _ => False) (fun _ _ => False) (Itr lo n) (rngD lo n) := fun C hK hG _ σ H s R => by
  unfold rngD
  refine ⟨by rw [List.length_map, List.length_range]; exact Nat.le_refl n, fun i d hi => ?_⟩
  rw [List.getElem?_map] at hi
  have hlt : i < n := by
    cases e : (List.range n)[i]? with
    | none => rw [e] at hi; cases hi
    | some k =>
      have := (List.getElem?_eq_some_iff.mp e).1
      rw [List.length_range] at this
      exact this
  rw [List.getElem?_range hlt] at hi
  cases hi
  refine ⟨hlt, fun x H' hy => ?_⟩
  obtain ⟨rfl, rfl⟩ := hy
  exact ⟨R, Same.refl _, .inl (.int _)⟩
def dRng1 (de : DE) : DA := fun s P => de s fun d s1 => match d with
  | .int j => -(2 ^ 62) ≤ j ∧ j < 2 ^ 62 ∧ P (rngD 0 j.toNat) s1
  | _ => False
theorem ri_rng1 {te : TE} {de : DE} (h : RE K te de) : RI false K (iRng1 (tCons te tNil)) (dRng1 de) := fun C hC s P hd σ H R0 R q =>
  rd_rng1 (rd_cons (h C hC s _ hd σ H _ R fun v H1 d s1 hp R1 hv => by
    cases d with
    | int j =>
      cases hv
      exact rd_nil ⟨j, rfl, hp.1, hp.2.1, q _ H1 _ s1 (fun _ _ => False) (fun _ _ => False) hp.2.2 (R1.more fun _ _ z => z.elim) (fun _ _ z => z.elim) (it_rng 0 _)⟩
    | _ => exact hp.elim))
def dRng2 (de df : DE) : DA := fun s P => de s fun d s1 => df s1 fun e s2 => match d, e with
  | .int i, .int j => (-(2 ^ 62) ≤ i ∧ i < 2 ^ 62 ∧ -(2 ^ 62) ≤ j ∧ j < 2 ^ 62) ∧ P (rngD i (j - i).toNat) s2
  | _, _ => False
theorem ri_rng2 {te tf : TE} {de df : DE} (h : RE K te de) (h2 : RE K tf df) : RI false K (iRng2 (tCons te (tCons tf tNil))) (dRng2 de df) := fun C hC s P hd σ H R0 R q => by
  refine rd_cons (Q := fun vs H1 => ∃ i j : Int, vs = [.int i, .int j] ∧ (-(2 ^ 62) ≤ i ∧ i < 2 ^ 62 ∧ -(2 ^ 62) ≤ j ∧ j < 2 ^ 62) ∧ R0 (Itr i (j - i).toNat) H1) (h C hC s _ hd σ H _ R fun v H1 d s1 hd1 R1 hv => rd_cons (h2 C hC s1 _ hd1 σ H1 _ R1 fun w H2 e s2 hp R2 hw => ?_))
  split at hp
  · cases hv
    cases hw
    exact rd_nil ⟨_, _, rfl, hp.1, q _ H2 _ s2 (fun _ _ => False) (fun _ _ => False) hp.2 (R2.more fun _ _ z => z.elim) (fun _ _ z => z.elim) (it_rng _ _)⟩
  · exact hp.elim
/-- enumerate(xs) -/
def enumD (ds : List PyData) : List PyData := ds.zipIdx.map fun p => .tuple [.int (p.2 : Nat), p.1]
theorem enum_get {ds : List PyData} {i : Nat} {d : PyData} (h : (enumD ds)[i]? = some d) : ∃ x, ds[i]? = some x ∧ d = .tuple [.int (i : Nat), x] := by
  unfold enumD at h
  rw [List.getElem?_map, List.getElem?_zipIdx] at h
  cases e : ds[i]? with
  | none => rw [e] at h; cases h
  | some x =>
    rw [e] at h
    exact ⟨x, rfl, by simpa using h.symm⟩
theorem enum_len {ds : List PyData} : (enumD ds).length = ds.length := by unfold enumD; rw [List.length_map, List.length_zipIdx]
def dEnum (de : DE) : DA := fun s P => de s fun d s1 => match d with
  | .list ds => P (enumD ds) s1
  | _ => False
theorem ri_enum {te : TE} {de : DE} (h : RE K te de) : RI true K (iEnum K (tCons te tNil)) (dEnum de) := fun C hC s P hd σ H R0 R q =>
  rd_enum (rd_cons (h C hC s _ hd σ H _ R fun v H1 d s1 hp R1 hv => by
    cases d with
    | list ds =>
      obtain ⟨a, vs, rfl, k1, k2⟩ := da_list hv
      refine rd_nil ⟨a, vs, rfl, sq k1, q _ H1 (enumD ds) s1 (fun x y => x = .ref a ∧ y = .list ds) (fun _ _ => False) hp (R1.more fun x y z => by
        obtain ⟨rfl, rfl⟩ := z
        exact hv) (fun _ _ z => z.elim) ?_⟩
      intro C' hK hG _ σ' H' s' R'
      obtain ⟨b, us, e, k3, k4⟩ := da_list (R'.gh _ _ (hG _ _ ⟨rfl, rfl⟩))
      cases e
      refine ⟨⟨us, sq k3, by rw [k4.len, enum_len]; exact Nat.le_refl _⟩, fun i d hi => ?_⟩
      obtain ⟨x0, hx0, rfl⟩ := enum_get hi
      obtain ⟨u, hu, hud⟩ := k4.getD hx0
      refine ⟨⟨us, u, sq k3, hu⟩, fun x H2 hy => ?_⟩
      obtain ⟨T, z, rfl, nT, rfl, hy⟩ := hy
      have e := hy us (sq k3)
      rw [hu] at e
      cases e
      exact ⟨R'.ext (same_upd nT), same_upd nT, .inr ⟨rfl, T, _, _, rfl, rfl, sqt upd_same, .cons (.int _) (.cons (hud.of (R'.kp nT)) .nil)⟩⟩
    | _ => exact hp.elim))
/-- zip(xs, ys) -/
def zipD (xs ys : List PyData) : List PyData := (xs.zip ys).map fun p => .tuple [p.1, p.2]
def dZip (de df : DE) : DA := fun s P => de s fun d s1 => df s1 fun e s2 => match d, e with
  | .list xs, .list ys => P (zipD xs ys) s2
  | _, _ => False
theorem ri_zip {te tf : TE} {de df : DE} (h : RE K te de) (h2 : RE K tf df) : RI true K (iZip K (tCons te (tCons tf tNil))) (dZip de df) := fun C hC s P hd σ H R0 R q =>
  rd_zip (rd_cons (h C hC s _ hd σ H _ R fun v H1 d s1 hd1 R1 hv => rd_cons (h2 (C.keep v d) hC s1 _ hd1 σ H1 _ (R1.keep hv) fun w H2 e s2 hp R2 hw => by
    obtain ⟨R3, hv3⟩ := R2.kept
    split at hp
    · rename_i xs ys
      obtain ⟨a, vs, rfl, k1, k2⟩ := da_list hv3
      obtain ⟨b, us, rfl, k3, k4⟩ := da_list hw
      refine rd_nil ⟨a, b, vs, us, rfl, sq k1, sq k3, q _ H2 (zipD xs ys) s2 (fun x y => (x = .ref a ∧ y = .list xs) ∨ (x = .ref b ∧ y = .list ys)) (fun _ _ => False) hp (R3.more fun x y z => by
        rcases z with ⟨rfl, rfl⟩ | ⟨rfl, rfl⟩
        · exact hv3
        · exact hw) (fun _ _ z => z.elim) ?_⟩
      intro C' hK hG _ σ' H' s' R'
      obtain ⟨a', vs', e1, j1, j2⟩ := da_list (R'.gh _ _ (hG _ _ (.inl ⟨rfl, rfl⟩)))
      cases e1
      obtain ⟨b', us', e2, j3, j4⟩ := da_list (R'.gh _ _ (hG _ _ (.inr ⟨rfl, rfl⟩)))
      cases e2
      refine ⟨⟨vs', us', sq j1, sq j3, ?_⟩, fun i d hi => ?_⟩
      · unfold zipD
        rw [List.length_map, List.length_zip, j2.len, j4.len]
        omega
      · unfold zipD at hi
        rw [List.getElem?_map] at hi
        cases ez : (xs.zip ys)[i]? with
        | none => rw [ez] at hi; cases hi
        | some pr =>
          rw [ez] at hi
          cases hi
          obtain ⟨x0, y0⟩ := pr
          obtain ⟨z1, z2⟩ := List.getElem?_zip_eq_some.mp ez
          obtain ⟨u1, hu1, hd1⟩ := j2.getD z1
          obtain ⟨u2, hu2, hd2⟩ := j4.getD z2
          refine ⟨⟨vs', us', u1, u2, sq j1, sq j3, hu1, hu2⟩, fun x H3 hy => ?_⟩
          obtain ⟨T, p1, p2, rfl, nT, rfl, y1, y2⟩ := hy
          have e1 := y1 vs' (sq j1)
          have e2 := y2 us' (sq j3)
          rw [hu1] at e1
          rw [hu2] at e2
          cases e1
          cases e2
          exact ⟨R'.ext (same_upd nT), same_upd nT, .inr ⟨rfl, T, _, _, rfl, rfl, sqt upd_same, .cons (hd1.of (R'.kp nT)) (.cons (hd2.of (R'.kp nT)) .nil)⟩⟩
    · exact hp.elim)))
/-! ### targets -/
abbrev DG := PyData → (DSt → Prop) → DSt → Prop
def RG (w : Bool) (K : KX) (g : TG) (dg : DG) : Prop := ∀ C : DC, C.K = K → ∀ (d : PyData) (N : DSt → Prop) (s : DSt), dg d N s → ∀ (σ : L2.St) (H : Hp) (v : V) (N0 : L2.St → Hp → Prop), Rl C σ H s → DaF w C.K (Sof C σ s.sl) H v d → (∀ σ' s', N s' → Rl C σ' H s' → N0 σ' H) → g v σ H N0
def gdN (i : Nat) : DG := fun d N s => N ⟨s.sl.set i (.dat d), s.n⟩
theorem rg_name {i : Nat} : RG false K (gName i) (gdN i) := fun C hC d N s h σ H v N0 R hv q => q _ _ h (R.set hv.da)
abbrev DGs := List PyData → (DSt → Prop) → DSt → Prop
def RGs (K : KX) (g : TGs) (dg : DGs) : Prop := ∀ C : DC, C.K = K → ∀ (ds : List PyData) (N : DSt → Prop) (s : DSt), dg ds N s → ∀ (σ : L2.St) (H : Hp) (vs : List V) (N0 : L2.St → Hp → Prop), Rl C σ H s → DaAll C.K (Hd (Sof C σ s.sl) H) vs ds → (∀ σ' s', N s' → Rl C σ' H s' → N0 σ' H) → g vs σ H N0
def gdNil : DGs := fun ds N s => ds = [] ∧ N s
def gdCons (a : DG) (b : DGs) : DGs := fun ds N s => match ds with
  | d :: r => a d (fun s1 => b r N s1) s
  | [] => False
theorem rgs_nil : RGs K gNil gdNil := fun C hC ds N s h σ H vs N0 R hv q => by
  obtain ⟨rfl, h⟩ := h
  cases hv
  exact ⟨rfl, q _ _ h R⟩
def pairG (vs : List V) (ds : List PyData) : V → PyData → Prop := fun x y => ∃ i : Nat, vs[i]? = some x ∧ ds[i]? = some y
theorem pair_da {H : Hp} : ∀ {vs : List V} {ds : List PyData}, DaAll K H vs ds → ∀ x y, pairG vs ds x y → Da K H x y := fun h x y ⟨i, h1, h2⟩ => by
  obtain ⟨d, e, hd⟩ := h.get h1
  rw [h2] at e
  cases e
  exact hd
theorem da_pair {H : Hp} : ∀ {vs : List V} {ds : List PyData}, vs.length = ds.length → (∀ x y, pairG vs ds x y → Da K H x y) → DaAll K H vs ds
  | [], [], _, _ => .nil
  | v :: vs, d :: ds, hl, h => .cons (h v d ⟨0, rfl, rfl⟩) (da_pair (by simpa using hl) fun x y ⟨i, h1, h2⟩ => h x y ⟨i + 1, by simpa using h1, by simpa using h2⟩)
  | [], _ :: _, hl, _ => by cases hl
  | _ :: _, [], hl, _ => by cases hl
theorem rgs_cons {t : TG} {u : TGs} {a : DG} {b : DGs} (h1 : RG false K t a) (h2 : RGs K u b) : RGs K (gCons t u) (gdCons a b) := fun C hC ds N s h σ H vs N0 R hv q => by
  cases hv with
  | nil => exact h.elim
  | @cons v r d ds' hv hr =>
    refine ⟨v, r, rfl, ?_⟩
    refine h1 (C.more (pairG r ds')) hC d _ s h σ H v _ (R.more (pair_da hr)) (.inl hv) fun σ' s' hn R' => ?_
    refine h2 C hC ds' N s' hn σ' H r N0 R'.less (da_pair hr.len fun x y z => R'.gh x y (.inr z)) q
def gdTup (n : Nat) (g : DGs) : DG := fun d N s => match d with
  | .tuple ds => ds.length = n ∧ g ds N s
  | _ => False
theorem rg_tup {w : Bool} {n : Nat} {t : TGs} {g : DGs} (h : RGs K t g) : RG w K (gTup K n t) (gdTup n g) := fun C hC d N s hd σ H v N0 R hv q => by
  cases d with
  | tuple ds =>
    obtain ⟨a, vs, rfl, k1, k2⟩ := hv.tup
    exact ⟨a, vs, rfl, hC ▸ k1, by rw [k2.len]; exact hd.1, h C hC ds N s hd.2 σ H vs N0 R k2 q⟩
  | _ => exact hd.elim
/-! ### for -/
def dLoop (g : DG) (b : DS) (E : DEnds) : List PyData → DSt → Prop
  | [], s => E.nx s
  | d :: ds, s => g d (fun s1 => b { nx := fun s2 => dLoop g b E ds s2, rt := E.rt, ct := fun s2 => dLoop g b E ds s2, bk := E.nx } s1) s
def dFor (di : DA) (g : DG) (b : DS) : DS := fun E s => di s fun items s1 => dLoop g b E items s1
theorem rs_for {w : Bool} {wi : TI} {g : TG} {tb : TS} {di : DA} {dg : DG} {db : DS} (hi : RI w K wi di) (hg : RG w K g dg) (hb : RS K tb db) : RS K (tFor wi g tb) (dFor di dg db) := fun C hC E s hd σ H D R o =>
  rd_for (hi C hC s _ hd σ H _ R fun J H1 items s1 G' Z' hp R1 hZ ok => by
    refine for_in items.length (fun i σ' H' => ∃ s', Rl (C.more G') σ' H' s' ∧ dLoop dg db E (items.drop i) s') ⟨s1, R1, hp⟩ (fun σ' H' ⟨s', R', h⟩ => ?_) fun i σ' H' hlt ⟨s', R', h⟩ => ?_
    · rw [List.drop_length] at h
      exact ⟨(ok (C.more G') rfl (fun _ _ z => .inr z) hZ σ' H' s' R').1, o.nx _ _ _ h R'.less⟩
    · obtain ⟨d, hd⟩ : ∃ d, items[i]? = some d := ⟨_, List.getElem?_eq_getElem hlt⟩
      obtain ⟨k1, k2⟩ := (ok (C.more G') rfl (fun _ _ z => .inr z) hZ σ' H' s' R').2 i d hd
      refine ⟨k1, fun N hN x H2 hy => ?_⟩
      obtain ⟨R2, s2, hx⟩ := k2 x H2 hy
      have e : items.drop i = d :: items.drop (i + 1) := by
        rw [List.drop_eq_getElem_cons hlt]
        rw [List.getElem?_eq_getElem hlt] at hd
        rw [Option.some.inj hd]
      rw [e] at h
      refine hg (C.more G') hC d _ s' h σ' H2 x _ R2 hx fun σ3 s3 h3 R3 => ?_
      exact hb (C.more G') hC _ s3 h3 σ3 H2 _ R3 ⟨fun σ4 H4 s4 h4 R4 => hN σ4 H4 ⟨s4, R4, h4⟩, fun σ4 v H4 d4 s4 h4 R4 hv => o.rt σ4 v H4 d4 s4 h4 R4.less hv, fun σ4 H4 s4 h4 R4 => o.nx σ4 H4 s4 h4 R4.less, fun σ4 H4 s4 h4 R4 => hN σ4 H4 ⟨s4, R4, h4⟩⟩)
/-- while: an invariant and a measure are to be given -/
def dWhile (c : DT) (b : DS) : DS := fun E s => ∃ I : Nat → DSt → Prop, (∃ m, I m s) ∧ ∀ m s, I m s → c s fun t s1 => if t = true then b { nx := fun s2 => ∃ m', m' < m ∧ I m' s2, rt := E.rt, ct := fun s2 => ∃ m', m' < m ∧ I m' s2, bk := E.nx } s1 else E.nx s1
theorem rs_while {tc : TT} {tb : TS} {dc : DT} {db : DS} (hc : RT K tc dc) (hb : RS K tb db) : RS K (tWhile tc tb) (dWhile dc db) := fun C hC E s hd σ H D R o => by
  obtain ⟨I, ⟨m, hm⟩, step⟩ := hd
  refine ⟨fun m σ' H' => ∃ s', Rl C σ' H' s' ∧ I m s', ⟨m, s, R, hm⟩, fun m σ' H' ⟨s', R', h'⟩ => ?_⟩
  refine hc C hC s' _ (step m s' h') σ' H' _ R' fun t H2 s2 h2 R2 => ?_
  cases t with
  | false => exact pF (by decide) (o.nx _ _ _ (by simpa using h2) R2)
  | true =>
    refine pT rfl ⟨fun σ3 H3 => ∃ m', m' < m ∧ ∃ s3, Rl C σ3 H3 s3 ∧ I m' s3, fun σ3 H3 ⟨m', l, s3, R3, h3⟩ => ⟨m', l, s3, R3, h3⟩, ?_⟩
    exact hb C hC { nx := fun s2 => ∃ m', m' < m ∧ I m' s2, rt := E.rt, ct := fun s2 => ∃ m', m' < m ∧ I m' s2, bk := E.nx } s2 (by simpa using h2) σ' H2 _ R2 ⟨fun σ4 H4 s4 ⟨m', l, h4⟩ R4 => ⟨m', l, s4, R4, h4⟩, fun σ4 v H4 d4 s4 h4 R4 hv => o.rt σ4 v H4 d4 s4 h4 R4 hv, fun σ4 H4 s4 h4 R4 => o.nx σ4 H4 s4 h4 R4, fun σ4 H4 s4 ⟨m', l, h4⟩ R4 => ⟨m', l, s4, R4, h4⟩⟩
end DL

set_option Elab.async false
set_option linter.all false
set_option maxRecDepth 100000
set_option maxHeartbeats 4000000
/-! DLe: comprehensions, methods of one's own lists. -/
namespace DL
open PySem PySem.Spec PyProof.Rows L2 GG DD PT
variable {K : KX}
section
variable {C : DC} {σ : L2.St} {H : Hp} {s : DSt}
/-- other slots over the same heap -/
theorem Rl.rewire {σ2 : L2.St} {δ2 : List DV} (R : Rl C σ H s) (hl : σ2.length = δ2.length)
    (h : ∀ (i : Nat) (dv : DV), δ2[i]? = some dv → (s.sl[i]? = some dv ∧ σ[i]? = σ2[i]?) ∨ (isOwn dv = false ∧ ∃ sl : Option V, σ2[i]? = some sl ∧ SlotOk C (Sof C σ s.sl) H sl dv)) : Rl C σ2 H ⟨δ2, s.n⟩ ∧ Same (Hd (Sof C σ s.sl) H) (Hd (Sof C σ2 δ2) H) := by
  have key : ∀ {i : Nat} {dv : DV}, δ2[i]? = some dv → isOwn dv = true → s.sl[i]? = some dv ∧ σ[i]? = σ2[i]? := fun {i dv} h1 h2 => by
    rcases h i dv h1 with q | ⟨q, _⟩
    · exact q
    · rw [h2] at q
      cases q
  have hs : Same (Hd (Sof C σ s.sl) H) (Hd (Sof C σ2 δ2) H) := hd_mono fun b z => by
    rcases z with z | z | ⟨i, dv, z1, z2, z3⟩
    · exact .inl z
    · exact .inr (.inl z)
    · obtain ⟨q1, q2⟩ := key z1 z2
      exact .inr (.inr ⟨i, dv, q1, z2, q2.trans z3⟩)
  refine ⟨⟨hl, fun i dv h1 => ?_, fun i j a dv ev h1 h2 h3 h4 h5 h6 => ?_, fun i a dv h1 h2 h3 => ?_, R.dk, R.but, R.tk, fun x y z => (R.gh x y z).of hs, R.fz⟩, hs⟩
  · rcases h i dv h1 with ⟨q1, q2⟩ | ⟨_, sl, q1, q2⟩
    · obtain ⟨sl, e1, e2⟩ := R.slots i dv q1
      exact ⟨sl, q2 ▸ e1, e2.move rfl rfl hs fun _ _ _ _ u => u⟩
    · exact ⟨sl, q1, q2.move rfl rfl hs fun _ _ _ _ u => u⟩
  · obtain ⟨q1, q2⟩ := key h1 h3
    obtain ⟨q3, q4⟩ := key h2 h4
    exact R.nd i j a dv ev q1 q3 h3 h4 (q2.trans h5) (q4.trans h6)
  · obtain ⟨q1, q2⟩ := key h1 h2
    exact R.fr i a dv q1 h2 (q2.trans h3)
def DC.hide (C : DC) (L : Addr) : DC := { C with ex := fun p b => C.ex p b ∨ b = L, sub := fun p b h => .inl (C.sub p b h) }
theorem sof_hide {L b : Addr} {δ : List DV} : Sof (C.hide L) σ δ b ↔ Sof C σ δ b ∨ b = L := by
  constructor
  · rintro ((h | h) | h | h)
    · exact .inl (.inl h)
    · exact .inr h
    · exact .inl (.inr (.inl h))
    · exact .inl (.inr (.inr h))
  · rintro ((h | h | h) | h)
    · exact .inl (.inl h)
    · exact .inr (.inl h)
    · exact .inr (.inr h)
    · exact .inl (.inr h)
/-- a new thing, hidden -/
theorem Rl.hidden (R : Rl C σ H s) {L : Addr} {o : HO} (nL : H L = none) : Rl (C.hide L) σ (upd H L o) s := by
  obtain ⟨n1, n2⟩ := R.new nL
  have hs : Same (Hd (Sof C σ s.sl) H) (Hd (Sof (C.hide L) σ s.sl) (upd H L o)) := fun b u e => by
    obtain ⟨h1, h3⟩ := hd_some e
    have hb : b ≠ L := ne_of_none h3 nL
    rw [hd_ne (fun z => (sof_hide.mp z).elim h1 hb), upd_ne hb]
    exact h3
  refine ⟨R.len, fun i dv h => ?_, R.nd, fun i a dv h1 h2 h3 => ?_, R.dk.same (same_upd nL), R.but.trans (ButW.of (same_upd nL)), fun b hb => ?_, fun x y z => (R.gh x y z).of hs, fun b u h => ⟨.inl (R.fz b u h).1, (R.fz b u h).2.1, by rw [upd_ne (ne_of_none (R.fz b u h).2.2 nL)]; exact (R.fz b u h).2.2⟩⟩
  · obtain ⟨sl, e1, e2⟩ := R.slots i dv h
    exact ⟨sl, e1, e2.move rfl rfl hs fun a ho ea u hu => by rw [upd_ne (ne_of_none hu nL)]; exact hu⟩
  · obtain ⟨f1, f2, f3⟩ := R.fr i a dv h1 h2 h3
    obtain ⟨u, hu⟩ := R.own_at h1 h2 h3
    exact ⟨f1, fun z => z.elim f2 (ne_of_none hu nL), f3⟩
  · rcases hb with hb | rfl
    · obtain ⟨u, hu⟩ := R.tk b hb
      exact ⟨u, by rw [upd_ne (ne_of_none hu nL)]; exact hu⟩
    · exact ⟨o, upd_same⟩
/-- what is hidden changes -/
theorem Rl.hmut {L : Addr} {o : HO} (R : Rl (C.hide L) σ H s) (nM : ¬ Mu C.W L) (n0 : C.H0 L = none) (nZ : ∀ u, ¬ C.Z L u) : Rl (C.hide L) σ (upd H L o) s := by
  have hL : Sof (C.hide L) σ s.sl L := sof_hide.mpr (.inr rfl)
  have hs : Same (Hd (Sof (C.hide L) σ s.sl) H) (Hd (Sof (C.hide L) σ s.sl) (upd H L o)) := hd_upd hL
  refine ⟨R.len, fun i dv h => ?_, R.nd, R.fr, R.dk.upd nM, fun b u h1 h2 => ?_, fun b hb => ?_, fun x y z => (R.gh x y z).of hs, fun b u h => ⟨(R.fz b u h).1, (R.fz b u h).2.1, by rw [upd_ne (fun z : b = L => nZ u (z ▸ h))]; exact (R.fz b u h).2.2⟩⟩
  · obtain ⟨sl, e1, e2⟩ := R.slots i dv h
    exact ⟨sl, e1, e2.move rfl rfl hs fun a ho ea u hu => by
      have f := (R.fr i a dv h ho (ea ▸ e1)).2.1
      rw [upd_ne (fun z => f (.inr z))]
      exact hu⟩
  · have hb : b ≠ L := fun z => by
      subst z
      have h2' : C.H0 b = some u := h2
      rw [n0] at h2'
      cases h2'
    rw [upd_ne hb]
    exact R.but b u h1 h2
  · by_cases e : b = L
    · subst e
      exact ⟨o, upd_same⟩
    · obtain ⟨u, hu⟩ := R.tk b hb
      exact ⟨u, by rw [upd_ne e]; exact hu⟩
def del (H : Hp) (L : Addr) : Hp := fun b => if b = L then none else H b
theorem del_ne {L b : Addr} (h : b ≠ L) : del H L b = H b := if_neg h
theorem del_upd {L : Addr} {o : HO} (h : H L = some o) : upd (del H L) L o = H := by
  funext b
  by_cases e : b = L
  · subst e
    rw [upd_same, h]
  · rw [upd_ne e, del_ne e]
/-- a hidden thing stays as it is -/
def DC.pin (C : DC) (L : Addr) (o : HO) : DC := { C with Z := fun a u => C.Z a u ∨ (a = L ∧ u = o), zsub := fun x y h => .inl (C.zsub x y h) }
theorem Rl.pin (R : Rl C σ H s) {L : Addr} {o : HO} (hS : C.S0 L) (nM : ¬ Mu C.W L) (e : H L = some o) : Rl (C.pin L o) σ H s :=
  ⟨R.len, fun i dv h => by
    obtain ⟨sl, e1, e2⟩ := R.slots i dv h
    exact ⟨sl, e1, e2.move (C' := C.pin L o) rfl rfl (Same.refl _) (fun _ _ _ _ u => u) fun a u z => .inl z⟩, R.nd, R.fr, R.dk, R.but, R.tk, R.gh, fun a u h => h.elim (R.fz a u) fun z => by
    obtain ⟨rfl, rfl⟩ := z
    exact ⟨hS, nM, e⟩⟩
/-- not a dict with tuple keys that is locked -/
def NotLk (o : HO) : Prop := ∀ od es, o ≠ .frz od (.dT es)
theorem Rl.unpin {L : Addr} {o : HO} (R : Rl (C.pin L o) σ H s) (no : NotLk o := by exact fun _ _ h => by cases h) : Rl C σ H s ∧ H L = some o := ⟨⟨R.len, fun i dv h => by
    obtain ⟨sl, e1, e2⟩ := R.slots i dv h
    refine ⟨sl, e1, ?_⟩
    cases dv with
    | lkd a ob kvs =>
      obtain ⟨h1, h2, od, es, h3, h4⟩ := e2
      rcases h2 with h2 | ⟨_, h2⟩
      · exact ⟨h1, h2, od, es, h3, h4⟩
      · exact absurd (h2.symm.trans h3) (no od es)
    | un => trivial
    | dat d => exact e2
    | own ds => exact e2
    | arg _ ds => exact e2
    | owd kvs => exact e2
    | owt kvs => exact e2
    | exc a => exact e2
    | deck => exact e2, R.nd, R.fr, R.dk, R.but, R.tk, R.gh, fun a u h => R.fz a u (.inl h)⟩, (R.fz L o (.inr ⟨rfl, rfl⟩)).2.2⟩
/-- what was hidden goes out of the way -/
theorem Rl.leave {L : Addr} (R : Rl (C.hide L) σ H s) (nS : ¬ C.S0 L) (nM : ¬ Mu C.W L) (n0 : C.H0 L = none) (hZ : ∀ a u, C.Z a u → C.S0 a) : Rl C σ (del H L) s ∧ Same (Hd (Sof (C.hide L) σ s.sl) H) (Hd (Sof C σ s.sl) (del H L)) := by
  have hs : Same (Hd (Sof (C.hide L) σ s.sl) H) (Hd (Sof C σ s.sl) (del H L)) := fun b u e => by
    obtain ⟨h1, h3⟩ := hd_some e
    have hb : b ≠ L := fun z => h1 (sof_hide.mpr (.inr z))
    rw [hd_ne (fun z => h1 (sof_hide.mpr (.inl z))), del_ne hb]
    exact h3
  refine ⟨⟨R.len, fun i dv h => ?_, R.nd, fun i a dv h1 h2 h3 => ?_, ?_, fun b u h1 h2 => ?_, fun b hb => ?_, fun x y z => (R.gh x y z).of hs, fun b u h => ⟨hZ b u h, (R.fz b u h).2.1, by rw [del_ne (fun z : b = L => nS (z ▸ hZ b u h))]; exact (R.fz b u h).2.2⟩⟩, hs⟩
  · obtain ⟨sl, e1, e2⟩ := R.slots i dv h
    refine ⟨sl, e1, e2.move rfl rfl hs fun a ho ea u hu => ?_⟩
    have f := (R.fr i a dv h ho (ea ▸ e1)).2.1
    rw [del_ne (fun z => f (.inr z))]
    exact hu
  · obtain ⟨f1, f2, f3⟩ := R.fr i a dv h1 h2 h3
    exact ⟨f1, fun z => f2 (.inl z), f3⟩
  · have d := R.dk
    show DkOk C.W (del H L) s.n
    have d' : DkOk C.W H s.n := d
    cases hW : C.W with
    | none => trivial
    | some w =>
      rw [hW] at d' nM
      obtain ⟨⟨m, cs, h1, h2, h3⟩, h4⟩ := d'
      exact ⟨⟨m, cs, by rw [del_ne (fun e => nM (.inl e.symm))]; exact h1, by rw [del_ne (fun e => nM (.inr e.symm))]; exact h2, h3⟩, h4⟩
  · have hb : b ≠ L := fun z => by
      subst z
      rw [n0] at h2
      cases h2
    rw [del_ne hb]
    exact R.but b u h1 h2
  · have e : b ≠ L := fun z => nS (z ▸ hb)
    obtain ⟨u, hu⟩ := R.tk b (.inl hb)
    exact ⟨u, by rw [del_ne e]; exact hu⟩
end
/-! ### slots wiped -/
def wipeD (sl : List DV) : List Nat → List DV
  | [] => sl
  | v :: vs => (wipeD sl vs).set v .un
theorem wipeD_len (sl : List DV) : ∀ vs : List Nat, (wipeD sl vs).length = sl.length
  | [] => rfl
  | v :: vs => by rw [wipeD, List.length_set, wipeD_len sl vs]
theorem wipeD_get (sl : List DV) (i : Nat) : ∀ vs : List Nat, (wipeD sl vs)[i]? = if i ∈ vs then (if i < sl.length then some .un else none) else sl[i]?
  | [] => by simp [wipeD]
  | v :: vs => by
    rw [wipeD, List.getElem?_set, wipeD_len, wipeD_get sl i vs]
    by_cases e : v = i
    · subst e
      simp
    · rw [if_neg e]
      have e' : i ≠ v := fun z => e z.symm
      simp [e']
theorem wipe_get (σ : L2.St) (i : Nat) : ∀ vs : List Nat, (wipe σ vs)[i]? = if i ∈ vs then (if i < σ.length then some none else none) else σ[i]?
  | [] => by simp [wipe]
  | v :: vs => by
    rw [wipe, List.getElem?_set, wipe_length, wipe_get σ i vs]
    by_cases e : v = i
    · subst e
      simp
    · rw [if_neg e]
      have e' : i ≠ v := fun z => e z.symm
      simp [e']
theorem wipe_set {σ : L2.St} {i : Nat} {v : Option V} {vs : List Nat} (h : i ∈ vs) : wipe (σ.set i v) vs = wipe σ vs := by
  apply List.ext_getElem?
  intro j
  rw [wipe_get, wipe_get, List.length_set]
  by_cases e : j ∈ vs
  · rw [if_pos e, if_pos e]
  · rw [if_neg e, if_neg e, List.getElem?_set_ne (fun z : i = j => e (by rw [← z]; exact h))]
section
variable {C : DC} {σ : L2.St} {H : Hp} {s : DSt}
theorem Rl.wiped (R : Rl C σ H s) (vs : List Nat) : Rl C (wipe σ vs) H ⟨wipeD s.sl vs, s.n⟩ ∧ Same (Hd (Sof C σ s.sl) H) (Hd (Sof C (wipe σ vs) (wipeD s.sl vs)) H) := by
  refine R.rewire (by rw [wipe_length, wipeD_len]; exact R.len) fun i dv h => ?_
  rw [wipeD_get] at h
  by_cases e : i ∈ vs
  · rw [if_pos e] at h
    by_cases hl : i < s.sl.length
    · rw [if_pos hl] at h
      cases h
      exact .inr ⟨rfl, none, by rw [wipe_get, if_pos e, if_pos (by rw [R.len]; exact hl)], trivial⟩
    · rw [if_neg hl] at h
      cases h
  · rw [if_neg e] at h
    exact .inl ⟨h, by rw [wipe_get, if_neg e]⟩
/-- the outer slots' data, to be kept -/
def outG (σ : L2.St) (δ : List DV) (vs : List Nat) : V → PyData → Prop := fun v d => ∃ i : Nat, i ∈ vs ∧ δ[i]? = some (.dat d) ∧ σ[i]? = some (some v)
theorem out_da (R : Rl C σ H s) (vs : List Nat) : ∀ v d, outG σ s.sl vs v d → Da C.K (Hd (Sof C σ s.sl) H) v d := fun v d ⟨i, _, h2, h3⟩ => by
  obtain ⟨sl, e1, u, rfl, e2⟩ := R.slots i _ h2
  rw [h3] at e1
  cases e1
  exact e2
/-- no thing of one's own stands in these slots -/
def isLk : DV → Bool
  | .lkd _ _ _ => true
  | .exc _ => true
  | _ => false
def NoOwn (δ : List DV) (vs : List Nat) : Prop := ∀ i, i ∈ vs → ∀ dv, δ[i]? = some dv → isOwn dv = false ∧ isLk dv = false
def noOwnB (δ : List DV) (vs : List Nat) : Bool := vs.all fun i => match δ[i]? with
  | some (.own _) => false
  | some (.arg _ _) => false
  | some (.owd _) => false
  | some (.owt _) => false
  | some (.lkd _ _ _) => false
  | some (.exc _) => false
  | _ => true
theorem noOwn_of {δ : List DV} {vs : List Nat} (h : noOwnB δ vs = true) : NoOwn δ vs := fun i hi dv e => by
  have z := List.all_eq_true.mp h i hi
  rw [e] at z
  cases dv <;> first | exact ⟨rfl, rfl⟩ | cases z
theorem Rl.unwiped {δ : List DV} {n : Nat} {vs : List Nat} (R : Rl C (wipe σ vs) H ⟨wipeD δ vs, n⟩) (hl : σ.length = δ.length) (no : NoOwn δ vs) (hg : ∀ v d, outG σ δ vs v d → C.G v d) (hv : ∀ (i : Nat) (dv : DV), δ[i]? = some dv → ∃ sl : Option V, σ[i]? = some sl ∧ (∀ d, dv = .dat d → ∃ v, sl = some v) ∧ (dv = .deck → ∃ p l, C.W = some (p, l) ∧ sl = some (.ref p))) :
    Rl C σ H ⟨δ, n⟩ ∧ Same (Hd (Sof C (wipe σ vs) (wipeD δ vs)) H) (Hd (Sof C σ δ) H) := by
  refine R.rewire hl fun i dv h => ?_
  by_cases e : i ∈ vs
  · refine .inr ⟨(no i e dv h).1, ?_⟩
    obtain ⟨sl, e1, e2, e3⟩ := hv i dv h
    refine ⟨sl, e1, ?_⟩
    cases dv with
    | un => trivial
    | dat d =>
      obtain ⟨v, rfl⟩ := e2 d rfl
      exact ⟨v, rfl, R.gh v d (hg v d ⟨i, e, h, e1⟩)⟩
    | own ds => exact Bool.noConfusion (no i e _ h).1
    | arg _ ds => exact Bool.noConfusion (no i e _ h).1
    | owd ds => exact Bool.noConfusion (no i e _ h).1
    | owt ds => exact Bool.noConfusion (no i e _ h).1
    | lkd a o ds => exact Bool.noConfusion (no i e _ h).2
    | exc a => exact Bool.noConfusion (no i e _ h).2
    | deck => exact e3 rfl
  · exact .inl ⟨by rw [wipeD_get, if_neg e]; exact h, by rw [wipe_get, if_neg e]⟩
theorem slots_hv (R : Rl C σ H s) : ∀ (i : Nat) (dv : DV), s.sl[i]? = some dv → ∃ sl : Option V, σ[i]? = some sl ∧ (∀ d, dv = .dat d → ∃ v, sl = some v) ∧ (dv = .deck → ∃ p l, C.W = some (p, l) ∧ sl = some (.ref p)) := fun i dv h => by
  obtain ⟨sl, e1, e2⟩ := R.slots i dv h
  refine ⟨sl, e1, fun d e => ?_, fun e => ?_⟩
  · subst e
    obtain ⟨v, h1, _⟩ := e2
    exact ⟨v, h1⟩
  · subst e
    exact e2
end
/-! ### targets that store in these slots alone -/
def RGv (w : Bool) (K : KX) (vs : List Nat) (g : TG) (dg : DG) : Prop := ∀ C : DC, C.K = K → ∀ (d : PyData) (N : DSt → Prop) (s : DSt), dg d N s → ∀ (σ : L2.St) (H : Hp) (v : V) (N0 : L2.St → Hp → Prop), Rl C σ H s → DaF w C.K (Sof C σ s.sl) H v d → (∀ σ' s', N s' → Rl C σ' H s' → wipe σ' vs = wipe σ vs → N0 σ' H) → g v σ H N0
theorem rgv_name {vs : List Nat} {i : Nat} (hi : i ∈ vs) : RGv false K vs (gName i) (gdN i) := fun C hC d N s h σ H v N0 R hv q => q _ _ h (R.set hv.da) (wipe_set hi)
def RGvs (K : KX) (ws : List Nat) (g : TGs) (dg : DGs) : Prop := ∀ C : DC, C.K = K → ∀ (ds : List PyData) (N : DSt → Prop) (s : DSt), dg ds N s → ∀ (σ : L2.St) (H : Hp) (vs : List V) (N0 : L2.St → Hp → Prop), Rl C σ H s → DaAll C.K (Hd (Sof C σ s.sl) H) vs ds → (∀ σ' s', N s' → Rl C σ' H s' → wipe σ' ws = wipe σ ws → N0 σ' H) → g vs σ H N0
theorem rgvs_nil {ws : List Nat} : RGvs K ws gNil gdNil := fun C hC ds N s h σ H vs N0 R hv q => by
  obtain ⟨rfl, h⟩ := h
  cases hv
  exact ⟨rfl, q _ _ h R rfl⟩
theorem rgvs_cons {ws : List Nat} {t : TG} {u : TGs} {a : DG} {b : DGs} (h1 : RGv false K ws t a) (h2 : RGvs K ws u b) : RGvs K ws (gCons t u) (gdCons a b) := fun C hC ds N s h σ H vs N0 R hv q => by
  cases hv with
  | nil => exact h.elim
  | @cons v r d ds' hv hr =>
    refine ⟨v, r, rfl, ?_⟩
    refine h1 (C.more (pairG r ds')) hC d _ s h σ H v _ (R.more (pair_da hr)) (.inl hv) fun σ' s' hn R' hw => ?_
    exact h2 C hC ds' N s' hn σ' H r N0 R'.less (da_pair hr.len fun x y z => R'.gh x y (.inr z)) fun σ2 s2 hn2 R2 hw2 => q σ2 s2 hn2 R2 (hw2.trans hw)
theorem rgv_tup {w : Bool} {ws : List Nat} {n : Nat} {t : TGs} {g : DGs} (h : RGvs K ws t g) : RGv w K ws (gTup K n t) (gdTup n g) := fun C hC d N s hd σ H v N0 R hv q => by
  cases d with
  | tuple ds =>
    obtain ⟨a, vs, rfl, k1, k2⟩ := hv.tup
    exact ⟨a, vs, rfl, hC ▸ k1, by rw [k2.len]; exact hd.1, h C hC ds N s hd.2 σ H vs N0 R k2 q⟩
  | _ => exact hd.elim
/-- such a target's data side: monotone, and it changes these slots alone -/
structure GW (vs : List Nat) (g : DG) : Prop where
  mono : ∀ (d : PyData) (N N' : DSt → Prop) (s : DSt), (∀ s, N s → N' s) → g d N s → g d N' s
  w : ∀ (d : PyData) (N : DSt → Prop) (s : DSt), g d N s → g d (fun s2 => N s2 ∧ wipeD s2.sl vs = wipeD s.sl vs) s
structure GWs (vs : List Nat) (g : DGs) : Prop where
  mono : ∀ (d : List PyData) (N N' : DSt → Prop) (s : DSt), (∀ s, N s → N' s) → g d N s → g d N' s
  w : ∀ (d : List PyData) (N : DSt → Prop) (s : DSt), g d N s → g d (fun s2 => N s2 ∧ wipeD s2.sl vs = wipeD s.sl vs) s
theorem wipeD_set {sl : List DV} {i : Nat} {v : DV} {vs : List Nat} (h : i ∈ vs) : wipeD (sl.set i v) vs = wipeD sl vs := by
  apply List.ext_getElem?
  intro j
  rw [wipeD_get, wipeD_get, List.length_set]
  by_cases e : j ∈ vs
  · rw [if_pos e, if_pos e]
  · rw [if_neg e, if_neg e, List.getElem?_set_ne (fun z : i = j => e (by rw [← z]; exact h))]
theorem gw_name {vs : List Nat} {i : Nat} (h : i ∈ vs) : GW vs (gdN i) := ⟨fun d N N' s hN h' => hN _ h', fun d N s h' => ⟨h', wipeD_set h⟩⟩
theorem gws_nil {vs : List Nat} : GWs vs gdNil := ⟨fun d N N' s hN h' => ⟨h'.1, hN _ h'.2⟩, fun d N s h' => ⟨h'.1, h'.2, rfl⟩⟩
theorem gws_cons {vs : List Nat} {a : DG} {b : DGs} (h1 : GW vs a) (h2 : GWs vs b) : GWs vs (gdCons a b) := ⟨fun d N N' s hN h' => by
    cases d with
    | nil => exact h'.elim
    | cons d r => exact h1.mono d _ _ s (fun s1 h => h2.mono r N N' s1 hN h) h', fun d N s h' => by
    cases d with
    | nil => exact h'.elim
    | cons d r =>
      refine h1.mono d _ _ s (fun s1 h => ?_) (h1.w d _ s h')
      exact h2.mono r _ _ s1 (fun s2 z => ⟨z.1, z.2.trans h.2⟩) (h2.w r N s1 h.1)⟩
theorem gw_tup {vs : List Nat} {n : Nat} {g : DGs} (h : GWs vs g) : GW vs (gdTup n g) := ⟨fun d N N' s hN h' => by
    cases d with
    | tuple ds => exact ⟨h'.1, h.mono ds N N' s hN h'.2⟩
    | _ => exact h'.elim, fun d N s h' => by
    cases d with
    | tuple ds => exact ⟨h'.1, h.w ds N s h'.2⟩
    | _ => exact h'.elim⟩
/-! ### comprehensions -/
def RTs (K : KX) (tt : TT) (dt : DT) : Prop := RT K tt dt
def dYes : DT := fun s P => P true s
theorem rt_yes : RT K tYes dYes := fun C hC s P h σ H Q R q => q true H s h R
def dLc (g : DG) (t : DT) (e : DE) (base : List DV) : List PyData → List PyData → Nat → (List PyData → Nat → Prop) → Prop
  | [], acc, n, P => P acc n
  | d :: ds, acc, n, P => g d (fun s1 => t s1 fun b s2 => if b = true then e s2 fun y s3 => s3.sl = s1.sl ∧ dLc g t e base ds (acc ++ [y]) s3.n P else s2.sl = s1.sl ∧ dLc g t e base ds acc s2.n P) ⟨base, n⟩
def dComp (di : DA) (g : DG) (t : DT) (e : DE) (vs : List Nat) : DA := fun s P => di s fun items s1 => items.length ≤ 1000 ∧ noOwnB s1.sl vs = true ∧ dLc g t e (wipeD s1.sl vs) items [] s1.n fun acc n => P acc ⟨s1.sl, n⟩
theorem rf_comp {w : Bool} {wi : TI} {g : TG} {tt : TT} {te : TE} {vs : List Nat} {di : DA} {dg : DG} {dt : DT} {de : DE} (hi : RI w K wi di) (hg : RGv w K vs g dg) (hgw : GW vs dg) (ht : RT K tt dt) (he : RE K te de) : RF K (tLc wi g tt te vs) (dComp di dg dt de vs) := fun C hC s P hd σ H Q R q =>
  rd_lc (hi C hC s _ hd σ H _ R fun J H1 items s1 G' Z' hp R1 hZ' ok => by
    obtain ⟨hlen, no, hp⟩ := hp
    have no := noOwn_of no
    have hv := slots_hv R1
    generalize hC1 : (C.more G').more (outG σ s1.sl vs) = C1
    have cK : C1.K = C.K := by rw [← hC1]; rfl
    have cG : ∀ v d, G' v d → C1.G v d := fun v d z => by rw [← hC1]; exact .inl (.inr z)
    have cO : ∀ v d, outG σ s1.sl vs v d → C1.G v d := fun v d z => by rw [← hC1]; exact .inr z
    have R1' : Rl C1 σ H1 s1 := by rw [← hC1]; exact R1.more (out_da R1 vs)
    have cB : ∀ {H' : Hp} {s' : DSt}, Rl C1 σ H' s' → Rl C σ H' s' := fun {H' s'} z => by
      rw [← hC1] at z
      exact z.less.less
    have cW : C1.W = C.W := by rw [← hC1]; rfl
    have cS : Sof C1 σ s1.sl = Sof C σ s1.sl := by rw [← hC1]; rfl
    have cZ : ∀ a o, Z' a o → C1.Z a o := fun a o z => by rw [← hC1]; exact hZ' a o z
    clear hC1
    have idem : wipe (wipe σ vs) vs = wipe σ vs := by
      apply List.ext_getElem?
      intro j
      rw [wipe_get, wipe_get, wipe_length]
      by_cases e : j ∈ vs
      · rw [if_pos e, if_pos e]
      · rw [if_neg e, if_neg e]
    have idemD : wipeD (wipeD s1.sl vs) vs = wipeD s1.sl vs := by
      apply List.ext_getElem?
      intro j
      rw [wipeD_get, wipeD_get, wipeD_len]
      by_cases e : j ∈ vs
      · rw [if_pos e, if_pos e]
      · rw [if_neg e, if_neg e]
    refine lc_in items.length hlen (fun L i acc H' => H1 L = none ∧ ∃ ds n', Rl (C1.hide L) (wipe σ vs) H' ⟨wipeD s1.sl vs, n'⟩ ∧ DaAll C.K (Hd (Sof (C1.hide L) (wipe σ vs) (wipeD s1.sl vs)) H') acc ds ∧ dLc dg dt de (wipeD s1.sl vs) (items.drop i) ds n' fun acc n => P acc ⟨s1.sl, n⟩)
      (fun L nL => ⟨nL, [], s1.n, ((R1'.wiped vs).1).hidden nL, .nil, hp⟩) (fun L acc H' e1 ⟨nL, ds, n', R2, hda, h⟩ => ?_) fun L i acc H' hlt e1 ⟨nL, ds, n', R2, hda, h⟩ => ?_
    · obtain ⟨n1, n2⟩ := R1'.new nL
      rw [List.drop_length] at h
      refine ⟨(ok (C1.hide L) cK (fun v d z => cG v d z) cZ (wipe σ vs) H' ⟨_, n'⟩ R2).1, ?_⟩
      obtain ⟨R3, hs3⟩ := R2.leave (fun z => n1 (.inl z)) (fun z => n1 (.inr (.inl z))) n2 fun a u z => (R1'.fz a u z).1
      obtain ⟨R4, hs4⟩ := R3.unwiped R1.len no cO (cW ▸ hv)
      have hq := q L acc (del H' L) ds ⟨s1.sl, n'⟩ h (cB R4) (if_pos rfl) (by
        have z := (hda.of hs3).of hs4
        rw [cS] at z
        exact z)
      rw [del_upd e1] at hq
      exact hq
    · obtain ⟨n1, n2⟩ := R1'.new nL
      have nZ : ∀ u, ¬ C1.Z L u := fun u z => n1 (.inl (R1'.fz L u z).1)
      obtain ⟨d, hd⟩ : ∃ d, items[i]? = some d := ⟨_, List.getElem?_eq_getElem hlt⟩
      obtain ⟨k1, k2⟩ := (ok (C1.hide L) cK cG cZ (wipe σ vs) H' ⟨_, n'⟩ R2).2 i d hd
      refine ⟨k1, fun Pk Rk hPk hRk x H2 hy => ?_⟩
      obtain ⟨R3, s23, hx⟩ := k2 x H2 hy
      have e : items.drop i = d :: items.drop (i + 1) := by
        rw [List.drop_eq_getElem_cons hlt]
        rw [List.getElem?_eq_getElem hlt] at hd
        rw [Option.some.inj hd]
      rw [e] at h
      have h' := hgw.w d _ _ h
      -- the items so far are kept; the new list stays
      generalize hC2 : ((C1.hide L).pin L (.lst acc)).more (pairG acc ds) = C2
      have cK2 : C2.K = K := by rw [← hC2]; exact cK.trans hC
      have R3k : Rl C2 (wipe σ vs) H2 ⟨wipeD s1.sl vs, n'⟩ := by
        rw [← hC2]
        refine (R3.pin (.inr rfl) (fun z => n1 (.inr (.inl z))) (s23 _ _ e1)).more ?_
        have z := pair_da (hda.of (hdS s23))
        rw [← cK] at z
        exact z
      have down : ∀ {H4 : Hp} {δ : List DV} {m : Nat}, Rl C2 (wipe σ vs) H4 ⟨δ, m⟩ → Rl (C1.hide L) (wipe σ vs) H4 ⟨δ, m⟩ ∧ H4 L = some (.lst acc) ∧ DaAll C.K (Hd (Sof (C1.hide L) (wipe σ vs) δ) H4) acc ds := fun {H4 δ m} z => by
        rw [← hC2] at z
        refine ⟨z.less.unpin.1, z.less.unpin.2, ?_⟩
        have z2 := da_pair hda.len fun x y w => z.gh x y (.inr w)
        have z3 : DaAll C1.K (Hd (Sof (C1.hide L) (wipe σ vs) δ) H4) acc ds := z2
        rw [cK] at z3
        exact z3
      have cS2 : ∀ (τ : L2.St) (δ : List DV), Sof C2 τ δ = Sof (C1.hide L) τ δ := fun τ δ => by rw [← hC2]; rfl
      have cx2 : Sof C2 (wipe σ vs) (wipeD s1.sl vs) = Sof (C1.hide L) (wipe σ vs) (wipeD s1.sl vs) := cS2 _ _
      have cKx : C2.K = C.K := cK2.trans hC.symm
      have hx2 : DaF w C2.K (Sof C2 (wipe σ vs) (wipeD s1.sl vs)) H2 x d := by
        rw [cx2, cKx, ← cK]
        exact hx
      clear hC2
      refine hg C2 cK2 d _ ⟨_, n'⟩ h' (wipe σ vs) H2 x _ R3k hx2 fun σ2 s2 hn R4 hw => ?_
      obtain ⟨hn, hwD⟩ := hn
      have hwD : wipeD s2.sl vs = wipeD s1.sl vs := hwD.trans idemD
      have hww : wipe σ2 vs = wipe σ vs := hw.trans idem
      refine ⟨hww, ?_⟩
      have back : ∀ {H4 : Hp} {s4 : DSt}, Rl C2 σ2 H4 s4 → s4.sl = s2.sl → Rl C2 (wipe σ vs) H4 ⟨wipeD s1.sl vs, s4.n⟩ ∧ Same (Hd (Sof C2 σ2 s4.sl) H4) (Hd (Sof C2 (wipe σ vs) (wipeD s1.sl vs)) H4) := fun {H4 s4} R5 e5 => by
        have w := R5.wiped vs
        rw [hww, e5, hwD] at w
        rw [e5]
        exact w
      refine ht C2 cK2 s2 _ hn σ2 H2 _ R4 fun b H3 s3 hb R5 => ?_
      cases b with
      | false =>
        refine pF (by decide) ?_
        have hb' : s3.sl = s2.sl ∧ dLc dg dt de (wipeD s1.sl vs) (items.drop (i + 1)) ds s3.n fun acc n => P acc ⟨s1.sl, n⟩ := by simpa using hb
        obtain ⟨R6, hs6⟩ := back R5 hb'.1
        obtain ⟨R7, eL, hacc⟩ := down R6
        exact hRk H3 eL ⟨nL, ds, s3.n, R7, hacc, hb'.2⟩
      | true =>
        refine pT rfl ?_
        have hb' := hb
        rw [if_pos rfl] at hb'
        refine he C2 cK2 s3 _ hb' σ2 H3 _ R5 fun y H4 dy s4 hy4 R6 hyd => ?_
        obtain ⟨R7, hs7⟩ := back R6 hy4.1
        obtain ⟨R8, eL, hacc⟩ := down R7
        have hL : Sof (C1.hide L) (wipe σ vs) (wipeD s1.sl vs) L := sof_hide.mpr (.inr rfl)
        have hyd2 := hyd.of hs7
        rw [cx2, cKx] at hyd2
        exact hPk y H4 eL ⟨nL, ds ++ [dy], s4.n, R8.hmut (fun z => n1 (.inr (.inl z))) n2 nZ, (hacc.append (.cons hyd2 .nil)).of (hd_upd hL), hy4.2⟩)
end DL

set_option Elab.async false
set_option linter.all false
set_option maxRecDepth 100000
set_option maxHeartbeats 4000000
/-! DLf: methods of one's own lists, repr, isinstance, dicts, told by data. -/
namespace DL
open PySem PySem.Spec PyProof.Rows L2 GG DD PT
variable {K : KX}
theorem own_at {C : DC} {σ : L2.St} {H : Hp} {s : DSt} (R : Rl C σ H s) {i : Nat} {ds : List PyData} (e : s.sl[i]? = some (.own ds)) : ∃ a vs, σ[i]? = some (some (V.ref a)) ∧ H a = some (.lst vs) ∧ DaAll C.K (Hd (Sof C σ s.sl) H) vs ds := by
  obtain ⟨sl, h1, a, vs, rfl, h2, h3⟩ := R.slots i _ e
  exact ⟨a, vs, h1, h2, h3⟩
theorem own_mut {C : DC} {σ : L2.St} {H : Hp} {s : DSt} (R : Rl C σ H s) {i : Nat} {a : Addr} {ds es : List PyData} {us : List V} (e : s.sl[i]? = some (.own ds)) (h1 : σ[i]? = some (some (V.ref a))) (h : DaAll C.K (Hd (Sof C σ s.sl) H) us es) :
    Rl C σ (upd H a (.lst us)) ⟨s.sl.set i (.own es), s.n⟩ ∧ Same (Hd (Sof C σ s.sl) H) (Hd (Sof C σ (s.sl.set i (.own es))) (upd H a (.lst us))) := by
  have R2 := R.mut (o := .lst us) (ev := .own es) e rfl rfl h1 fun hs => ⟨a, us, rfl, upd_same, h.of hs⟩
  refine ⟨R2, fun b u z => ?_⟩
  obtain ⟨z1, z2⟩ := hd_some z
  have sa : Sof C σ s.sl a := .inr (.inr ⟨i, _, e, rfl, h1⟩)
  have hb : b ≠ a := fun w => z1 (w ▸ sa)
  have nb : ¬ Sof C σ (s.sl.set i (.own es)) b := fun w => by
    rcases w with w | w | ⟨j, dv, w1, w2, w3⟩
    · exact z1 (.inl w)
    · exact z1 (.inr (.inl w))
    · by_cases ej : i = j
      · subst ej
        rw [h1] at w3
        cases w3
        exact hb rfl
      · rw [List.getElem?_set_ne ej] at w1
        exact z1 (.inr (.inr ⟨j, dv, w1, w2, w3⟩))
  rw [hd_ne nb, upd_ne hb]
  exact z2
def isOwnL : Option DV → Prop
  | some (.own _) => True
  | _ => False
/-- x.append(e) -/
def dApp (i : Nat) (de : DE) : DS := fun E s => isOwnL s.sl[i]? ∧ de s fun d s1 => match s1.sl[i]? with
  | some (.own ds) => ds.length < 1000000 ∧ E.nx ⟨s1.sl.set i (.own (ds ++ [d])), s1.n⟩
  | _ => False
theorem ty_list {H : Hp} {a : Addr} {vs : List V} (e : H a = some (.lst vs)) : tyV K "list" (.ref a) H := .inl ⟨rfl, vs, sq e⟩
theorem own_first {C : DC} {σ : L2.St} {H : Hp} {s : DSt} (R : Rl C σ H s) {i : Nat} (h : isOwnL s.sl[i]?) : ∃ a vs, σ[i]? = some (some (V.ref a)) ∧ H a = some (.lst vs) := by
  cases e : s.sl[i]? with
  | none => rw [e] at h; exact h.elim
  | some dv =>
    cases dv with
    | own ds =>
      obtain ⟨a, vs, h1, h2, _⟩ := own_at R e
      exact ⟨a, vs, h1, h2⟩
    | _ => rw [e] at h; exact h.elim
theorem rs_app {i : Nat} {te : TE} {de : DE} (h : RE K te de) : RS K (tDrop (tBM K "list" rAppend (tVar i) (tCons te tNil))) (dApp i de) := fun C hC E s hd σ H D R o => by
  obtain ⟨a, vs, h1, h2⟩ := own_first R hd.1
  refine ⟨_, h1, ty_list h2, h C hC s _ hd.2 σ H _ R fun v H1 d s1 hp R1 hv => rd_nil ?_⟩
  cases e : s1.sl[i]? with
  | none => rw [e] at hp; exact hp.elim
  | some dv =>
    cases dv with
    | own ds =>
      rw [e] at hp
      obtain ⟨b, us, k1, k2, k3⟩ := own_at R1 e
      rw [h1] at k1
      cases k1
      refine ⟨a, us, v, rfl, rfl, k2, by rw [k3.len]; exact Nat.lt_of_lt_of_le hp.1 sz6, o.nx _ _ _ hp.2 (own_mut R1 e h1 (k3.append (.cons hv .nil))).1⟩
    | _ => rw [e] at hp; exact hp.elim
/-- x.extend(a list) -/
def dExt (i : Nat) (de : DE) : DS := fun E s => isOwnL s.sl[i]? ∧ de s fun d s1 => match s1.sl[i]?, d with
  | some (.own ds), .list es => ds.length + es.length ≤ 1000000 ∧ E.nx ⟨s1.sl.set i (.own (ds ++ es)), s1.n⟩
  | _, _ => False
theorem rs_ext {i : Nat} {te : TE} {de : DE} (h : RE K te de) : RS K (tDrop (tBM K "list" rExtend (tVar i) (tCons te tNil))) (dExt i de) := fun C hC E s hd σ H D R o => by
  obtain ⟨a, vs, h1, h2⟩ := own_first R hd.1
  refine ⟨_, h1, ty_list h2, h C hC s _ hd.2 σ H _ R fun v H1 d s1 hp R1 hv => rd_nil ?_⟩
  cases e : s1.sl[i]? with
  | none => rw [e] at hp; exact hp.elim
  | some dv =>
    cases dv with
    | own ds =>
      rw [e] at hp
      cases d with
      | list es =>
        obtain ⟨b, us, k1, k2, k3⟩ := own_at R1 e
        rw [h1] at k1
        cases k1
        obtain ⟨c, ws, rfl, k4, k5⟩ := da_list hv
        refine ⟨a, c, us, ws, rfl, rfl, k2, k4, by rw [k3.len, k5.len]; exact Nat.le_trans hp.1 sz6, o.nx _ _ _ hp.2 (own_mut R1 e h1 (k3.append k5)).1⟩
      | _ => exact hp.elim
    | _ => rw [e] at hp; exact hp.elim
/-- x.pop() -/
def dPop (i : Nat) : DE := fun s P => match s.sl[i]? with
  | some (.own ds) => ∃ d, ds[ds.length - 1]? = some d ∧ P d ⟨s.sl.set i (.own ds.dropLast), s.n⟩
  | _ => False
theorem DaAll.dropLast {H : Hp} {vs : List V} {ds : List PyData} (h : DaAll K H vs ds) : DaAll K H vs.dropLast ds.dropLast := by
  rw [List.dropLast_eq_take, List.dropLast_eq_take, h.len]
  exact h.take _
theorem re_pop {i : Nat} : RE K (tBM0 K "list" rPop (tVar i)) (dPop i) := fun C hC s P hd σ H Q R q => by
  unfold dPop at hd
  split at hd
  · rename_i ds e
    obtain ⟨d, hx, hp⟩ := hd
    obtain ⟨a, vs, h1, h2, h3⟩ := own_at R e
    obtain ⟨v, hv, hvd⟩ := h3.getD hx
    obtain ⟨R2, hs⟩ := own_mut R e h1 h3.dropLast
    exact ⟨_, h1, ty_list h2, a, vs, v, rfl, rfl, h2, by rw [h3.len]; exact hv, q _ _ _ _ hp R2 (hvd.of hs)⟩
  · exact hd.elim
/-- x.pop(e) -/
def dPopAt (i : Nat) (de : DE) : DE := fun s P => isOwnL s.sl[i]? ∧ de s fun d s1 => match s1.sl[i]?, d with
  | some (.own ds), .int k => -(2 ^ 63) ≤ k ∧ k < 2 ^ 63 ∧ ∃ j x, seqIndex? k ds.length = some j ∧ ds[j]? = some x ∧ P x ⟨s1.sl.set i (.own (ds.eraseIdx j)), s1.n⟩
  | _, _ => False
theorem DaAll.erase {H : Hp} : ∀ {vs : List V} {ds : List PyData} (j : Nat), DaAll K H vs ds → DaAll K H (vs.eraseIdx j) (ds.eraseIdx j)
  | _, _, _, .nil => by
    rw [List.eraseIdx_nil, List.eraseIdx_nil]
    exact .nil
  | _, _, 0, .cons h t => t
  | _, _, j + 1, .cons h t => by
    rw [List.eraseIdx_cons_succ, List.eraseIdx_cons_succ]
    exact .cons h (t.erase j)
theorem re_popAt {i : Nat} {te : TE} {de : DE} (h : RE K te de) : RE K (tBM K "list" rPopAt (tVar i) (tCons te tNil)) (dPopAt i de) := fun C hC s P hd σ H Q R q => by
  obtain ⟨a, vs, h1, h2⟩ := own_first R hd.1
  refine ⟨_, h1, ty_list h2, h C hC s _ hd.2 σ H _ R fun v H1 d s1 hp R1 hv => rd_nil ?_⟩
  cases e : s1.sl[i]? with
  | none => rw [e] at hp; exact hp.elim
  | some dv =>
    cases dv with
    | own ds =>
      rw [e] at hp
      cases d with
      | int k =>
        cases hv
        obtain ⟨b, us, k1, k2, k3⟩ := own_at R1 e
        rw [h1] at k1
        cases k1
        obtain ⟨b1, b2, j, x, e1, e2, hp⟩ := hp
        obtain ⟨v, hv, hvd⟩ := k3.getD e2
        obtain ⟨R2, hs⟩ := own_mut R1 e h1 (k3.erase j)
        exact ⟨a, us, k, j, v, rfl, rfl, k2, b1, b2, by rw [k3.len]; exact e1, hv, q _ _ _ _ hp R2 (hvd.of hs)⟩
      | _ => exact hp.elim
    | _ => rw [e] at hp; exact hp.elim
/-- x != [], x == [] of a list in a slot -/
def dVsNil (neg : Bool) (i : Nat) : DE := fun s P => dListVar i s fun ds s1 => PyData.hasDictAll ds = false ∧ SeqAt.shaped (.list ds) = true ∧ P (.bool (if neg then !ds.isEmpty else ds.isEmpty)) s1
theorem eqv_nil {ds : List PyData} : PyData.eqv (.list ds) (.list []) = ds.isEmpty := by
  cases ds with
  | nil => simp [PyData.eqv, PyData.eqvAll]
  | cons d r => simp [PyData.eqv, PyData.eqvAll]
theorem re_neNil {i : Nat} : RE K (tOp (rNeD K) (tVar i) (tLst tNil)) (dVsNil true i) := fun C hC s P hd σ H Q R q => by
  subst hC
  obtain ⟨a, vs, ds, h1, ⟨hn, hsh, hp⟩, h2, h3⟩ := list_at R hd
  refine rd_op (rd_var h1 (rd_lst (rd_nil ⟨Nat.zero_le _, fun p np => ?_⟩)))
  have s1 := same_upd (o := .lst []) np
  refine ⟨.list ds, .list [], .lst (sq (s1 _ _ h2)) (((h3.of (hd_sub _ H)).of s1).dp ds _ hn), .lst (sq upd_same) .nil, hsh, rfl, ?_⟩
  rw [eqv_nil]
  exact q _ _ _ s hp (R.ext s1) (.bl _)
theorem re_eqNil {i : Nat} : RE K (tOp (rEqD K) (tVar i) (tLst tNil)) (dVsNil false i) := fun C hC s P hd σ H Q R q => by
  subst hC
  obtain ⟨a, vs, ds, h1, ⟨hn, hsh, hp⟩, h2, h3⟩ := list_at R hd
  refine rd_op (rd_var h1 (rd_lst (rd_nil ⟨Nat.zero_le _, fun p np => ?_⟩)))
  have s1 := same_upd (o := .lst []) np
  refine ⟨.list ds, .list [], .lst (sq (s1 _ _ h2)) (((h3.of (hd_sub _ H)).of s1).dp ds _ hn), .lst (sq upd_same) .nil, hsh, rfl, ?_⟩
  rw [eqv_nil]
  exact q _ _ _ s hp (R.ext s1) (.bl _)
/-! ### isinstance -/
def tyD : PyData → String
  | .none => "NoneType"
  | .bool _ => "bool"
  | .int _ => "int"
  | .str _ => "str"
  | .list _ => "list"
  | .tuple _ => "tuple"
  | .dict _ => "dict"
theorem da_ty {H : Hp} {v : V} {d : PyData} (h : Da K H v d) : TyX K H v (.type (tyD d)) := by
  cases h with
  | non => exact .base .non
  | bl b => exact .base (.bl b)
  | int i => exact .base (.int i)
  | str x => exact .base (.str x)
  | lst h1 _ => exact .base (.lst h1)
  | tup h1 _ =>
    rcases h1 with ⟨o, h1, _⟩ | ⟨o, its, n, h1, h2, _⟩
    · exact .fTuple h1
    · exact .kTuple h1 h2
  | dic h1 _ => exact .base (.dK h1)
  | dct h1 _ _ => exact .base (.dT h1)
/-- the answer of isinstance by the two types' names -/
def isaB (t n : String) : Option Bool := PySem.W.kitOne [] (.type t) (.type n)
theorem kit_nil {t n : String} : PySem.W.kitOne K (.type t) (.type n) = isaB t n := by
  unfold isaB PySem.W.kitOne PySem.W.kitCls PySem.W.subIn
  rfl
def dIsi (n : String) (de : DE) : DE := fun s P => de s fun d s1 => ∃ b, isaB (tyD d) n = some b ∧ P (.bool b) s1
theorem re_isi {n : String} {te : TE} {de : DE} (h : RE K te de) : RE K (tCB (rIsi K) (tCons te (tCons (tC (.ty n)) tNil))) (dIsi n de) := fun C hC s P hd σ H Q R q =>
  rd_cb (rd_cons (h C hC s _ hd σ H _ R fun v H1 d s1 hp R1 hv => rd_cons (rd_c (rd_nil (by
    obtain ⟨b, hb, hp⟩ := hp
    have hv' : Da K H1 v d := hC ▸ (hv.of (hd_sub _ H1))
    exact ⟨v, .ty n, _, _, b, rfl, .ty n, da_ty hv', kit_nil.trans hb, q _ H1 _ s1 hp R1 (.bl _)⟩)))))
/-! ### str(int) -/
def dStrI (de : DE) : DE := fun s P => de s fun d s1 => match d with
  | .int i => i.natAbs.log2 < 1920 ∧ P (.str (toString i)) s1
  | _ => False
theorem re_strI {te : TE} {de : DE} (h : RE K te de) : RE K (tCB (fun xs H Q => ∃ i : Int, xs = [.int i] ∧ i.natAbs.log2 < 1920 ∧ Q (.str (toString i)) H) (tCons te tNil)) (dStrI de) := fun C hC s P hd σ H Q R q =>
  rd_cb (rd_cons (h C hC s _ hd σ H _ R fun v H1 d s1 hp R1 hv => by
    cases d with
    | int i =>
      cases hv
      exact rd_nil ⟨i, rfl, hp.1, q _ H1 _ s1 hp.2 R1 (.str _)⟩
    | _ => exact hp.elim))
/-! ### all([..]) of truths -/
def boolsD : List PyData → Option (List Bool)
  | [] => some []
  | .bool b :: r => (boolsD r).map (b :: ·)
  | _ => none
theorem bools_da {H : Hp} : ∀ {vs : List V} {ds : List PyData} {bs : List Bool}, DaAll K H vs ds → boolsD ds = some bs → vs = bs.map V.bl
  | _, _, _, .nil, e => by cases e; rfl
  | _, _, bs, .cons (d := d) h t, e => by
    cases d with
    | bool b =>
      unfold boolsD at e
      obtain ⟨r, e1, e2⟩ := Option.map_eq_some_iff.mp e
      subst e2
      cases h
      rw [bools_da t e1]
      rfl
    | _ => cases e
def dAll (dl : DA) : DE := fun s P => dl s fun ds s1 => ∃ bs, boolsD ds = some bs ∧ P (.bool (bs.all id)) s1
theorem re_all {te : TE} {dl : DA} (h : RL K te dl) : RE K (tCB (rAll K) (tCons te tNil)) (dAll dl) := fun C hC s P hd σ H Q R q =>
  rd_cb (rd_cons (h C hC s _ hd σ H _ R fun a vs H1 ds s1 hp R1 e hv => rd_nil (by
    obtain ⟨bs, hb, hp⟩ := hp
    exact ⟨a, bs, rfl, by rw [← bools_da hv hb]; exact sq e, q _ H1 _ s1 hp R1 (.bl _)⟩)))
end DL

set_option Elab.async false
set_option linter.all false
set_option maxRecDepth 100000
set_option maxHeartbeats 4000000
/-! DLg: more list operations, sorted texts, dicts told by data. -/
namespace DL
open PySem PySem.Spec PyProof.Rows L2 GG DD PT
variable {K : KX}
/-- xs + ys of lists -/
def dCat (da db : DE) : DA := fun s P => da s fun d s1 => db s1 fun e s2 => match d, e with
  | .list a, .list b => a.length + b.length ≤ 1000000 ∧ P (a ++ b) s2
  | _, _ => False
theorem rf_cat {ta tb : TE} {da db : DE} (h1 : RE K ta da) (h2 : RE K tb db) : RF K (tOp rCat ta tb) (dCat da db) := fun C hC s P hd σ H Q R q =>
  rd_op (h1 C hC s _ hd σ H _ R fun v H1 d s1 hd1 R1 hv => h2 (C.keep v d) hC s1 _ hd1 σ H1 _ (R1.keep hv) fun w H2 e s2 hp R2 hw => by
    obtain ⟨R3, hv3⟩ := R2.kept
    split at hp
    · obtain ⟨a, vs, rfl, k1, k2⟩ := da_list hv3
      obtain ⟨b, us, rfl, k3, k4⟩ := da_list hw
      exact ⟨a, b, vs, us, rfl, rfl, k1, k3, by rw [k2.len, k4.len]; exact Nat.le_trans hp.1 sz6, fun p np => q p _ H2 _ s2 hp.2 R3 np (k2.append k4)⟩
    · exact hp.elim)
/-- xs * k of a list -/
def dRep (da db : DE) : DA := fun s P => da s fun d s1 => db s1 fun e s2 => match d, e with
  | .list a, .int k => -(2 ^ 63) ≤ k ∧ k < 2 ^ 63 ∧ a.length * k.toNat ≤ 1000000 ∧ P (List.replicate k.toNat a).flatten s2
  | _, _ => False
theorem rf_rep {ta tb : TE} {da db : DE} (h1 : RE K ta da) (h2 : RE K tb db) : RF K (tOp rRep ta tb) (dRep da db) := fun C hC s P hd σ H Q R q =>
  rd_op (h1 C hC s _ hd σ H _ R fun v H1 d s1 hd1 R1 hv => h2 (C.keep v d) hC s1 _ hd1 σ H1 _ (R1.keep hv) fun w H2 e s2 hp R2 hw => by
    obtain ⟨R3, hv3⟩ := R2.kept
    split at hp
    · obtain ⟨a, vs, rfl, k1, k2⟩ := da_list hv3
      cases hw
      exact ⟨a, _, vs, rfl, rfl, k1, hp.1, hp.2.1, by rw [k2.len]; exact Nat.le_trans hp.2.2.1 sz6, fun p np => q p _ H2 _ s2 hp.2.2.2 R3 np (k2.rep _)⟩
    · exact hp.elim)
/-! ### sorted texts -/
def strsD : List PyData → Option (List Str)
  | [] => some []
  | .str x :: r => (strsD r).map (x :: ·)
  | _ => none
theorem strs_da {H : Hp} : ∀ {vs : List V} {ds : List PyData} {bs : List Str}, DaAll K H vs ds → strsD ds = some bs → vs = bs.map V.str
  | _, _, _, .nil, e => by cases e; rfl
  | _, _, bs, .cons (d := d) h t, e => by
    cases d with
    | str b =>
      unfold strsD at e
      obtain ⟨r, e1, e2⟩ := Option.map_eq_some_iff.mp e
      subst e2
      cases h
      rw [strs_da t e1]
      rfl
    | _ => cases e
theorem da_strs {H : Hp} : ∀ ys : List Str, DaAll K H (ys.map V.str) (ys.map .str)
  | [] => .nil
  | y :: ys => .cons (.str y) (da_strs ys)
def dSortS (dl : DA) : DA := fun s P => dl s fun ds s1 => ∃ xs, strsD ds = some xs ∧ xs.length < 64 ∧ ∀ ys : List Str, ys.Perm xs → sortedS ys = true → P (ys.map .str) s1
theorem rf_sortS {te : TE} {dl : DA} (h : RL K te dl) : RF K (tCB (rSortedS K) (tCons te tNil)) (dSortS dl) := fun C hC s P hd σ H Q R q =>
  rd_cb (rd_cons (h C hC s _ hd σ H _ R fun a vs H1 ds s1 hp R1 e hv => rd_nil (by
    obtain ⟨xs, hx, hl, hp⟩ := hp
    exact ⟨a, xs, rfl, by rw [← strs_da hv hx]; exact sq e, hl, fun ys p hpm hso np => q p _ H1 _ s1 (hp ys hpm hso) R1 np (da_strs ys)⟩)))
/-! ### repr, data without a dict or a dict of flat things -/
def flatKv : List (PyData × PyData) → Bool
  | [] => true
  | (_, d) :: r => (flatD d).isSome && flatKv r
/-- the first key is no tuple -/
def headK : List (PyData × PyData) → Bool
  | [] => true
  | (.tuple _, _) :: _ => false
  | _ => true
theorem headK_dct {H : Hp} {es : List (List L2.Key × V)} {kvs : List (PyData × PyData)} (h : DaKt K H es kvs) (hn : es ≠ []) (e : headK kvs = true) : False := by
  cases h with
  | nil => exact hn rfl
  | cons h t => cases e
def reprOk : PyData → Bool
  | .dict kvs => headK kvs && flatKv kvs
  | d => !d.hasDict
theorem ents_of {H : Hp} : ∀ {es : List (L2.Key × V)} {kvs : List (PyData × PyData)}, DaKv K H es kvs → flatKv kvs = true → entsD es = some kvs
  | _, _, .nil, _ => rfl
  | _, _, .cons (d := d) (v := v) h t, e => by
    unfold flatKv at e
    rw [Bool.and_eq_true] at e
    have t' := ents_of t e.2
    unfold entsD
    have hv : flatV0 v = some d := by
      cases d with
      | none => cases h; rfl
      | bool b => cases h; rfl
      | int i => cases h; rfl
      | str z => cases h; rfl
      | _ => cases e.1
    rw [hv, t']
theorem dt_ofH {S : Addr → Prop} {H : Hp} {v : V} {d : PyData} (h : Da K (Hd S H) v d) (e : reprOk d = true) : Dt K H v d := by
  have h' := h.of (hd_sub S H)
  cases d with
  | dict kvs =>
    cases h' with
    | dic h1 h2 => exact .dic h1 (ents_of h2 (by rw [show reprOk (.dict kvs) = (headK kvs && flatKv kvs) from rfl, Bool.and_eq_true] at e; exact e.2))
    | dct h1 hn h2 => exact (headK_dct h2 hn (by rw [show reprOk (.dict kvs) = (headK kvs && flatKv kvs) from rfl, Bool.and_eq_true] at e; exact e.1)).elim
  | _ => exact .base (h'.dp _ v (by simpa [reprOk] using e))
def dRepr (de : DE) : DE := fun s P => de s fun d s1 => reprOk d = true ∧ d.showable = true ∧ d.depth ≤ 60 ∧ d.shown.length ≤ sizeLine ∧ P (.str d.shown) s1
theorem re_repr {te : TE} {de : DE} (h : RE K te de) : RE K (tCB (rRepr K) (tCons te tNil)) (dRepr de) := fun C hC s P hd σ H Q R q =>
  rd_cb (rd_cons (h C hC s _ hd σ H _ R fun v H1 d s1 hp R1 hv => rd_nil ⟨v, d, rfl, by
    subst hC
    exact dt_ofH hv hp.1, hp.2.1, hp.2.2.1, hp.2.2.2.1, q _ H1 _ s1 hp.2.2.2.2 R1 (.str _)⟩))
end DL

set_option Elab.async false
set_option linter.all false
set_option maxRecDepth 100000
set_option maxHeartbeats 4000000
/-! DLh: negatives, chains, membership, targets of an assignment, a, b = [], e. -/
namespace DL
open PySem PySem.Spec PyProof.Rows L2 GG DD PT
variable {K : KX}
def dNeg (de : DE) : DE := fun s P => de s fun d s1 => match d with
  | .int i => P (.int (-i)) s1
  | _ => False
theorem re_neg {te : TE} {de : DE} (h : RE K te de) : RE K (tUn (rU fun i => .int (-i)) te) (dNeg de) := fun C hC s P hd σ H Q R q =>
  h C hC s _ hd σ H _ R fun v H1 d s1 hp R1 hv => by
    cases d with
    | int i =>
      cases hv
      exact ⟨i, rfl, q _ H1 _ s1 hp R1 (.int _)⟩
    | _ => exact hp.elim
/-- a op b op' c -/
def dChain (r r' : D2) (da db dc : DE) : DE := fun s P => da s fun x s1 => db s1 fun y s2 => r x y fun z => match z with
  | .bool k => if k = true then dc s2 fun w s3 => r' y w fun u => P u s3 else P (.bool false) s2
  | _ => False
theorem re_chain {r r' : R2} {ro ro' : D2} {ta tb tc : TE} {da db dc : DE} (h : RO K r ro) (h' : RO K r' ro') (h1 : RE K ta da) (h2 : RE K tb db) (h3 : RE K tc dc) : RE K (tChain r r' ta tb tc) (dChain ro ro' da db dc) := fun C hC s P hd σ H Q R q =>
  h1 C hC s _ hd σ H _ R fun v H1 d s1 hd1 R1 hv => h2 (C.keep v d) hC s1 _ hd1 σ H1 _ (R1.keep hv) fun w H2 e s2 hp R2 hw => by
    obtain ⟨R3, hv3⟩ := R2.kept
    subst hC
    refine h _ H2 v w d e _ _ R3.taken hv3 hw hp fun z H3 f hf s23 hz => ?_
    have R4 := R3.ext s23
    cases f with
    | bool k =>
      cases hz
      refine ⟨k, rfl, ?_⟩
      cases k with
      | false => exact pF (by decide) (q _ H3 _ s2 (by simpa using hf) R4 (.bl _))
      | true =>
        refine pT rfl (h3 (C.keep w e) rfl s2 _ (by simpa using hf) σ H3 _ (R4.keep (hw.of (hdS s23))) fun w' H4 e' s4 hp4 R5 hw' => ?_)
        obtain ⟨R6, hw6⟩ := R5.kept
        exact h' _ H4 w w' e e' _ _ R6.taken hw6 hw' hp4 fun u H5 g hg s45 hu => q _ H5 _ s4 hg (R6.ext s45) hu
    | _ => exact hf.elim
/-- x in a list or tuple of flat things -/
def flatsD : List PyData → Option (List V)
  | [] => some []
  | d :: r => match flatD d, flatsD r with
    | some v, some vs => some (v :: vs)
    | _, _ => none
theorem flats_da {H : Hp} : ∀ {vs ws : List V} {ds : List PyData}, DaAll K H vs ds → flatsD ds = some ws → vs = ws
  | _, _, _, .nil, e => by cases e; rfl
  | _, _, _, .cons (d := d) (ds := ds) h t, e => by
    unfold flatsD at e
    cases e1 : flatD d with
    | none => rw [e1] at e; cases e
    | some x =>
      cases e2 : flatsD ds with
      | none => rw [e1, e2] at e; cases e
      | some xs =>
        rw [e1, e2] at e
        cases e
        rw [flat_v h e1, flats_da t e2]
def oIn (neg : Bool) : D2 := fun d e P => match flatD d, e with
  | some x, .list ds => ∃ vs, flatsD ds = some vs ∧ flatV x = true ∧ vs.all flatV = true ∧ P (.bool (if neg then !inV x vs else inV x vs))
  | some x, .tuple ds => ∃ vs, flatsD ds = some vs ∧ flatV x = true ∧ vs.all flatV = true ∧ P (.bool (if neg then !inV x vs else inV x vs))
  | _, _ => False
theorem ro_in {neg : Bool} : RO K (rIn K neg) (oIn neg) := fun S H x y d e P Q T hx hy h q => by
  unfold oIn at h
  split at h
  · rename_i z ds e1
    obtain ⟨vs, e2, h1, h2, hp⟩ := h
    obtain ⟨a, us, rfl, k1, k2⟩ := da_list hy
    have e3 := flats_da k2 e2
    subst e3
    have e4 := flat_v hx e1
    subst e4
    exact ⟨a, us, rfl, .inl (sq k1), h1, h2, q _ H _ hp (Same.refl _) (.bl _)⟩
  · rename_i z ds e1
    obtain ⟨vs, e2, h1, h2, hp⟩ := h
    obtain ⟨a, us, rfl, k1, k2⟩ := da_tup hy
    have e3 := flats_da k2 e2
    subst e3
    have e4 := flat_v hx e1
    subst e4
    exact ⟨a, us, rfl, .inr k1, h1, h2, q _ H _ hp (Same.refl _) (.bl _)⟩
  · exact h.elim
/-- (a, b, ..) = e -/
def dAsg (de : DE) (g : DG) : DS := fun E s => de s fun d s1 => g d E.nx s1
theorem rs_asg {te : TE} {g : TG} {de : DE} {dg : DG} (h : RE K te de) (hg : RG false K g dg) : RS K (tAsg te g) (dAsg de dg) := fun C hC E s hd σ H D R o =>
  h C hC s _ hd σ H _ R fun v H1 d s1 hp R1 hv => hg C hC d _ s1 hp σ H1 v _ R1 (.inl hv) fun σ' s' h' R' => o.nx σ' H1 s' h' R'
/-- a new list that was hidden becomes one's own -/
theorem Rl.adopt {C : DC} {σ : L2.St} {H : Hp} {s : DSt} {L : Addr} {vs : List V} {ds : List PyData} {i : Nat} (R : Rl (C.hide L) σ H s) (nS : ¬ C.S0 L) (nM : ¬ Mu C.W L) (n0 : C.H0 L = none) (hZ : ∀ a u, C.Z a u → C.S0 a) (e : H L = some (.lst vs)) (h : DaAll C.K (Hd (Sof (C.hide L) σ s.sl) H) vs ds) (hi : i < s.sl.length) :
    Rl C (σ.set i (some (.ref L))) H ⟨s.sl.set i (.own ds), s.n⟩ := by
  obtain ⟨R2, hs⟩ := R.leave nS nM n0 hZ
  have z := R2.setOwn (i := i) (a := L) (o := .lst vs) (dv := .own ds) (if_pos rfl) hi rfl fun S' hs' => ⟨L, vs, rfl, upd_same, (h.of hs).of hs'⟩
  rw [del_upd e] at z
  exact z
/-- a, b = a new list, e -/
def dParL (i j : Nat) (dl : DA) (de : DE) : DS := fun E s => dl s fun ds s1 => de s1 fun d s2 => i < s2.sl.length ∧ E.nx ⟨(s2.sl.set i (.own ds)).set j (.dat d), s2.n⟩
theorem rs_parL {i j : Nat} {te tf : TE} {dl : DA} {de : DE} (h : RF K te dl) (h2 : RE K tf de) : RS K (tPar i j (tCons te (tCons tf tNil))) (dParL i j dl de) := fun C hC E s hd σ H D R o =>
  h C hC s _ hd σ H _ R fun a vs H1 ds s1 hd1 R1 na hv => by
    obtain ⟨n1, n2⟩ := R1.new na
    have R2 := (R1.hidden (o := .lst vs) na).pin (L := a) (.inr rfl) (fun z => n1 (.inr (.inl z))) upd_same
    have hs : Same (Hd (Sof C σ s1.sl) H1) (Hd (Sof (C.hide a) σ s1.sl) (upd H1 a (.lst vs))) := fun b u e => by
      obtain ⟨z1, z3⟩ := hd_some e
      have hb : b ≠ a := ne_of_none z3 na
      rw [hd_ne (fun z => (sof_hide.mp z).elim z1 hb), upd_ne hb]
      exact z3
    have R2' := R2.more (pair_da (hv.of hs))
    refine h2 (((C.hide a).pin a (.lst vs)).more (pairG vs ds)) hC s1 _ hd1 σ _ _ R2' fun w H2 d s2 hp R3 hw => ⟨_, _, rfl, ?_⟩
    obtain ⟨R4, e4⟩ := R3.less.unpin
    have hds : DaAll C.K (Hd (Sof (C.hide a) σ s2.sl) H2) vs ds := da_pair hv.len fun x y z => R3.gh x y (.inr z)
    have hw' : Da C.K (Hd (Sof (C.hide a) σ s2.sl) H2) w d := hw
    have R5 := (R4.keep (v := w) (d := d) hw')
    have R6 := Rl.adopt (C := C.keep w d) (i := i) R5 (fun z => n1 (.inl z)) (fun z => n1 (.inr (.inl z))) n2 (fun b u z => (R1.fz b u z).1) e4 hds hp.1
    obtain ⟨R7, hw7⟩ := R6.kept
    exact o.nx _ H2 _ hp.2 (R7.set hw7)
/-- a, b = e, a new list -/
def dParR (i j : Nat) (de : DE) (dl : DA) : DS := fun E s => de s fun d s1 => dl s1 fun ds s2 => i ≠ j ∧ j < s2.sl.length ∧ E.nx ⟨(s2.sl.set i (.dat d)).set j (.own ds), s2.n⟩
theorem rs_parR {i j : Nat} {te tf : TE} {dl : DA} {de : DE} (h : RE K te de) (h2 : RF K tf dl) : RS K (tPar i j (tCons te (tCons tf tNil))) (dParR i j de dl) := fun C hC E s hd σ H D R o =>
  h C hC s _ hd σ H _ R fun w H1 d s1 hd1 R1 hw => h2 (C.keep w d) hC s1 _ hd1 σ H1 _ (R1.keep hw) fun a vs H2 ds s2 hp R2 na hv => by
    refine ⟨_, _, rfl, ?_⟩
    obtain ⟨R3, hw3⟩ := R2.kept
    have R4 := (R3.keep (v := w) (d := d) hw3).set (i := i) hw3
    have hs : Same (Hd (Sof C σ s2.sl) H2) (Hd (Sof C (σ.set i (some w)) (s2.sl.set i (.dat d))) H2) := hd_mono fun b z => sof_set (s := s2) rfl b z
    have hv' : DaAll C.K (Hd (Sof C (σ.set i (some w)) (s2.sl.set i (.dat d))) H2) vs ds := (show DaAll C.K (Hd (Sof C σ s2.sl) H2) vs ds from hv).of hs
    obtain ⟨R5, _⟩ := R4.kept
    exact o.nx _ _ _ hp.2.2 (R5.setOwn na (by rw [List.length_set]; exact hp.2.1) rfl fun S' hs' => ⟨a, vs, rfl, upd_same, hv'.of hs'⟩)
/-- a, b = a new list, a new list -/
def dParLL (i j : Nat) (dl dm : DA) : DS := fun E s => dl s fun ds s1 => dm s1 fun es s2 => i < s2.sl.length ∧ j < s2.sl.length ∧ E.nx ⟨(s2.sl.set i (.own ds)).set j (.own es), s2.n⟩
theorem rs_parLL {i j : Nat} {te tf : TE} {dl dm : DA} (h : RF K te dl) (h2 : RF K tf dm) : RS K (tPar i j (tCons te (tCons tf tNil))) (dParLL i j dl dm) := fun C hC E s hd σ H D R o =>
  h C hC s _ hd σ H _ R fun a vs H1 ds s1 hd1 R1 na hv => by
    obtain ⟨n1, n2⟩ := R1.new na
    have R2 := (R1.hidden (o := .lst vs) na).pin (L := a) (.inr rfl) (fun z => n1 (.inr (.inl z))) upd_same
    have hs : Same (Hd (Sof C σ s1.sl) H1) (Hd (Sof (C.hide a) σ s1.sl) (upd H1 a (.lst vs))) := fun b u e => by
      obtain ⟨z1, z3⟩ := hd_some e
      have hb : b ≠ a := ne_of_none z3 na
      rw [hd_ne (fun z => (sof_hide.mp z).elim z1 hb), upd_ne hb]
      exact z3
    have R2' := R2.more (pair_da (hv.of hs))
    refine h2 (((C.hide a).pin a (.lst vs)).more (pairG vs ds)) hC s1 _ hd1 σ _ _ R2' fun b us H2 es s2 hp R3 nb hu => ⟨_, _, rfl, ?_⟩
    obtain ⟨R4, e4⟩ := R3.less.unpin
    have hds : DaAll C.K (Hd (Sof (C.hide a) σ s2.sl) H2) vs ds := da_pair hv.len fun x y z => R3.gh x y (.inr z)
    have hus : DaAll C.K (Hd (Sof (C.hide a) σ s2.sl) H2) us es := hu
    -- the second list's items are kept while the first is adopted
    have R5 := R4.more (pair_da hus)
    have R6 := Rl.adopt (C := C.more (pairG us es)) (i := i) R5 (fun z => n1 (.inl z)) (fun z => n1 (.inr (.inl z))) n2 (fun b u z => (R1.fz b u z).1) e4 hds hp.1
    have hu6 : DaAll C.K (Hd (Sof C (σ.set i (some (V.ref a))) (s2.sl.set i (.own ds))) H2) us es := da_pair hus.len fun x y z => R6.gh x y (.inr z)
    exact o.nx _ _ _ hp.2.2 (R6.less.setOwn nb (by rw [List.length_set]; exact hp.2.1) rfl fun S' hs' => ⟨b, us, rfl, upd_same, hu6.of hs'⟩)
/-! ### (a, b) = (.., ..) by a tuple in between: where a name is a cell -/
theorem rs_tup2 {i j : Nat} {ta : TA} {da : DA} (h : RA K ta da) : RS K (tAsg (tTupP ta) (gTup K 2 (gCons (gName i) (gCons (gName j) gNil)))) (dPar i j da) := fun C hC E s hd σ H D R o =>
  rd_tupP (h C hC s _ hd σ H _ R fun vs H1 ds s1 hp R1 hv => by
    match ds, hp, hv with
    | [d, e], hp, .cons (v := v) h1 (.cons (v := w) h2 .nil) =>
      refine ⟨by show 2 ≤ sizeLine; decide, fun p ob np _ => rd_gnn (.inl (.inr ⟨ob, upd_same⟩)) ?_⟩
      have hk := same_upd (o := .frz ob (.tup [v, w])) np
      have R2 := ((R1.ext hk).keep (v := w) (h2.of (hdS hk))).set (i := i) (h1.of (hdS hk))
      obtain ⟨R3, h3⟩ := R2.kept
      exact o.nx _ _ _ hp (R3.set h3))
theorem rs_tupL {i j : Nat} {te tf : TE} {dl : DA} {de : DE} (h : RF K te dl) (h2 : RE K tf de) : RS K (tAsg (tTupP (tCons te (tCons tf tNil))) (gTup K 2 (gCons (gName i) (gCons (gName j) gNil)))) (dParL i j dl de) := fun C hC E s hd σ H D R o =>
  rd_tupP (rd_cons (h C hC s _ hd σ H _ R fun a vs H1 ds s1 hd1 R1 na hv => by
    obtain ⟨n1, n2⟩ := R1.new na
    have R2 := (R1.hidden (o := .lst vs) na).pin (L := a) (.inr rfl) (fun z => n1 (.inr (.inl z))) upd_same
    have hs : Same (Hd (Sof C σ s1.sl) H1) (Hd (Sof (C.hide a) σ s1.sl) (upd H1 a (.lst vs))) := fun b u e => by
      obtain ⟨z1, z3⟩ := hd_some e
      have hb : b ≠ a := ne_of_none z3 na
      rw [hd_ne (fun z => (sof_hide.mp z).elim z1 hb), upd_ne hb]
      exact z3
    have R2' := R2.more (pair_da (hv.of hs))
    refine rd_cons (h2 (((C.hide a).pin a (.lst vs)).more (pairG vs ds)) hC s1 _ hd1 σ _ _ R2' fun w H2 d s2 hp R3 hw => rd_nil ⟨by show 2 ≤ sizeLine; decide, fun p ob np _ => rd_gnn (.inl (.inr ⟨ob, upd_same⟩)) ?_⟩)
    have hk := same_upd (o := .frz ob (.tup [.ref a, w])) np
    obtain ⟨R4, e4⟩ := R3.less.unpin
    have hds : DaAll C.K (Hd (Sof (C.hide a) σ s2.sl) H2) vs ds := da_pair hv.len fun x y z => R3.gh x y (.inr z)
    have hw' : Da C.K (Hd (Sof (C.hide a) σ s2.sl) H2) w d := hw
    have R5 := ((R4.ext hk).keep (v := w) (d := d) (hw'.of (hdS hk)))
    have R6 := Rl.adopt (C := C.keep w d) (i := i) R5 (fun z => n1 (.inl z)) (fun z => n1 (.inr (.inl z))) n2 (fun b u z => (R1.fz b u z).1) (hk _ _ e4) (hds.of (hdS hk)) hp.1
    obtain ⟨R7, hw7⟩ := R6.kept
    exact o.nx _ _ _ hp.2 (R7.set hw7)))
theorem rs_tupR {i j : Nat} {te tf : TE} {dl : DA} {de : DE} (h : RE K te de) (h2 : RF K tf dl) : RS K (tAsg (tTupP (tCons te (tCons tf tNil))) (gTup K 2 (gCons (gName i) (gCons (gName j) gNil)))) (dParR i j de dl) := fun C hC E s hd σ H D R o =>
  rd_tupP (rd_cons (h C hC s _ hd σ H _ R fun w H1 d s1 hd1 R1 hw => rd_cons (h2 (C.keep w d) hC s1 _ hd1 σ H1 _ (R1.keep hw) fun a vs H2 ds s2 hp R2 na hv => rd_nil ⟨by show 2 ≤ sizeLine; decide, fun p ob np _ => rd_gnn (.inl (.inr ⟨ob, upd_same⟩)) (by
    obtain ⟨R3, hw3⟩ := R2.kept
    obtain ⟨n1, n2⟩ := R3.new na
    have hv' : DaAll C.K (Hd (Sof C σ s2.sl) H2) vs ds := hv
    have hs : Same (Hd (Sof C σ s2.sl) H2) (Hd (Sof (C.hide a) σ s2.sl) (upd H2 a (.lst vs))) := fun b u e => by
      obtain ⟨z1, z3⟩ := hd_some e
      have hb : b ≠ a := ne_of_none z3 na
      rw [hd_ne (fun z => (sof_hide.mp z).elim z1 hb), upd_ne hb]
      exact z3
    have hk := same_upd (o := .frz ob (.tup [w, .ref a])) np
    -- first the plain value, then the list becomes one's own
    have R4 := ((R3.hidden (o := .lst vs) na).ext hk)
    have w4 : Da C.K (Hd (Sof (C.hide a) σ s2.sl) (upd (upd H2 a (.lst vs)) p (.frz ob (.tup [w, .ref a])))) w d := (hw3.of hs).of (hdS hk)
    have v4 := (hv'.of hs).of (hdS hk)
    have R5 := (R4.more (pair_da v4)).set (i := i) w4
    have v5 : DaAll C.K (Hd (Sof (C.hide a) (σ.set i (some w)) (s2.sl.set i (.dat d))) (upd (upd H2 a (.lst vs)) p (.frz ob (.tup [w, .ref a])))) vs ds := da_pair hv.len fun x y z => R5.gh x y (.inr z)
    exact o.nx _ _ _ hp.2.2 (Rl.adopt (C := C) (i := j) R5.less (fun z => n1 (.inl z)) (fun z => n1 (.inr (.inl z))) n2 (fun b u z => (R3.fz b u z).1) (hk _ _ upd_same) v5 (by
      show j < (s2.sl.set i (.dat d)).length
      rw [List.length_set]
      exact hp.2.1)))⟩)))
end DL

set_option Elab.async false
set_option linter.all false
set_option maxRecDepth 100000
set_option maxHeartbeats 4000000
/-! DLr: repr of any data, dicts inside too. -/
namespace DL
open PySem PySem.Spec PyProof.Rows L2 GG DD PT
theorem keyV_reads {h : Heap} {k : L2.Key} {u : Value} (r : RelV (kV k) u) : Reads h u (keyD k) [] := by
  cases k with
  | inl i =>
    obtain ⟨t, rfl⟩ := (show ∃ t, u = Value.int i t from r)
    exact .int i t
  | inr x =>
    obtain ⟨t, rfl⟩ := (show ∃ t, u = Value.str x t from r)
    exact .str x t
theorem keys_read {h : Heap} : ∀ {k : List L2.Key} {us : List Value}, Vals (k.map kV) us → ReadsAll h us (k.map keyD) []
  | [], _, r => by
    cases r
    exact .nil
  | x :: k, _, r => by
    cases r with
    | cons r1 r2 => exact ReadsAll.cons (keyV_reads r1) (keys_read r2)
section
variable {X : Cx} {pins : List (Addr × Obj)} {σ : L2.St} {H : Hp} {s : Shared}
mutual
theorem Da.reads (I : Inv X pins σ H s) : ∀ (d : PyData) (v : V) (u : Value), Da X.K H v d → RelV v u → ∃ as, Reads s.heap u d as ∧ ((∀ zs, H sysModules ≠ some (.lst zs)) → sysModules ∉ as)
  | .none, _, _, h, r => by
    cases h
    cases r
    exact ⟨_, Reads.none, fun _ z => by cases z⟩
  | .bool b, _, _, h, r => by
    cases h
    cases r
    exact ⟨_, Reads.bool b, fun _ z => by cases z⟩
  | .int i, _, _, h, r => by
    cases h
    obtain ⟨t, rfl⟩ := r
    exact ⟨_, Reads.int i t, fun _ z => by cases z⟩
  | .str x, _, _, h, r => by
    cases h
    obtain ⟨t, rfl⟩ := r
    exact ⟨_, Reads.str x t, fun _ z => by cases z⟩
  | .list ds, _, _, h, r => by
    cases h with
    | @lst a xs _ hs ha =>
      cases r
      obtain ⟨its, rv, ⟨o, n, ho, hc, _, hd⟩, _⟩ := I.list (sq hs)
      obtain ⟨as, hr, hm⟩ := DaAll.reads I ds _ its ha rv
      refine ⟨_, Reads.list ho hc hd hr, fun hS z => ?_⟩
      rcases List.mem_cons.mp z with z | z
      · exact hS xs (z ▸ hs)
      · exact hm hS z
  | .tuple ds, _, _, h, r => by
    cases h with
    | tup hs ha =>
      cases r
      obtain ⟨its, rv, ⟨o, ho, hc, n, hd⟩, _⟩ := I.tuple hs.sq
      obtain ⟨as, hr, hm⟩ := DaAll.reads I ds _ its ha rv
      exact ⟨_, Reads.tuple ho hc hd hr, hm⟩
  | .dict ds, _, _, h, r => by
    cases h with
    | @dic a kvs _ h1 h2 =>
      cases r
      obtain ⟨hz, hs, us, rk, o, es, ep, ho, hx, hd, _, hp, _⟩ : kvs.length ≤ sizeLine ∧ (a == sysModules) = false ∧ ∃ vs, KV kvs vs ∧ s.heap.DictOf (mixKind X.prog X.w) a vs := I.hok a _ h1
      obtain ⟨as, q1, q2, hm⟩ := DaKv.reads I ds kvs us es.toList h2 hp rk
      refine ⟨_, Reads.dict ho hx.1 hd q1 q2, fun hS z => ?_⟩
      rcases List.mem_append.mp z with z | z
      · have e := List.mem_singleton.mp z
        rw [e, beq_self_eq_true] at hs
        cases hs
      · exact hm hS z
    | @dct a kvs _ h1 hn h2 =>
      cases r
      obtain ⟨hz, hs, xs, rk, o, es, ep, ho, hx, hd, hp, hk, hnd⟩ := dt_of I.hok h1
      obtain ⟨as, q1, q2, hm⟩ := DaKt.reads I ds kvs xs h2 rk
      have e1 : es.toList.map (·.key) = xs.map fun x => Value.ref x.2.1 := by rw [hp, List.map_map]; rfl
      have e2 : es.toList.map (·.val) = xs.map fun x => x.2.2 := by rw [hp, List.map_map]; rfl
      rw [← e1] at q1
      rw [← e2] at q2
      refine ⟨_, Reads.dict ho hx.1 hd q1 q2, fun hS z => ?_⟩
      rcases List.mem_append.mp z with z | z
      · have e := List.mem_singleton.mp z
        rw [e, beq_self_eq_true] at hs
        cases hs
      · exact hm hS z
theorem DaAll.reads (I : Inv X pins σ H s) : ∀ (ds : List PyData) (vs : List V) (us : List Value), DaAll X.K H vs ds → Vals vs us → ∃ as, ReadsAll s.heap us ds as ∧ ((∀ zs, H sysModules ≠ some (.lst zs)) → sysModules ∉ as)
  | [], _, _, h, r => by
    cases h
    cases r
    exact ⟨_, ReadsAll.nil, fun _ z => by cases z⟩
  | d :: ds, _, _, h, r => by
    cases h with
    | cons h1 h2 =>
      cases r with
      | cons r1 r2 =>
        obtain ⟨as, q1, m1⟩ := Da.reads I d _ _ h1 r1
        obtain ⟨bs, q2, m2⟩ := DaAll.reads I ds _ _ h2 r2
        exact ⟨_, ReadsAll.cons q1 q2, fun hS z => (List.mem_append.mp z).elim (m1 hS) (m2 hS)⟩
theorem DaKv.reads (I : Inv X pins σ H s) : ∀ (ds : List (PyData × PyData)) (kvs : List (L2.Key × V)) (us : List (L2.Key × Value)) (es : List DictEntry), DaKv X.K H kvs ds → Pairs (mixKind X.prog X.w) es us → KV kvs us →
    ∃ as, ReadsAll s.heap (es.map (·.key)) (ds.map (·.1)) [] ∧ ReadsAll s.heap (es.map (·.val)) (ds.map (·.2)) as ∧ ((∀ zs, H sysModules ≠ some (.lst zs)) → sysModules ∉ as)
  | [], _, _, _, h, hp, hk => by
    cases h
    cases hk
    cases hp
    exact ⟨_, .nil, .nil, fun _ z => by cases z⟩
  | (k', d) :: ds, _, _, _, h, hp, hk => by
    cases h with
    | cons h1 h2 =>
      cases hk with
      | cons k1 k2 =>
        cases hp with
        | cons p1 p2 p3 =>
          obtain ⟨ek, rv⟩ := k1
          obtain ⟨bs, q1, q2, m2⟩ := DaKv.reads I ds _ _ _ h2 p3 k2
          obtain ⟨as, q3, m1⟩ := Da.reads I d _ _ h1 (p2.symm ▸ rv)
          refine ⟨_, ReadsAll.cons (key_reads (by
            have y := p1
            rw [mixKind_is] at y
            rw [← ek] at y
            exact y)) q1, ReadsAll.cons q3 q2, fun hS z => (List.mem_append.mp z).elim (m1 hS) (m2 hS)⟩
theorem DaKt.reads (I : Inv X pins σ H s) : ∀ (ds : List (PyData × PyData)) (kvs : List (List L2.Key × V)) (xs : List (List L2.Key × Addr × Value)), DaKt X.K H kvs ds → KT H kvs xs →
    ∃ as, ReadsAll s.heap (xs.map fun x => Value.ref x.2.1) (ds.map (·.1)) [] ∧ ReadsAll s.heap (xs.map fun x => x.2.2) (ds.map (·.2)) as ∧ ((∀ zs, H sysModules ≠ some (.lst zs)) → sysModules ∉ as)
  | [], _, _, h, hk => by
    cases h
    cases hk
    exact ⟨_, .nil, .nil, fun _ z => by cases z⟩
  | (k', d) :: ds, _, _, h, hk => by
    cases h with
    | cons h1 h2 =>
      cases hk with
      | cons k1 k2 =>
        obtain ⟨ek, et, rv⟩ := k1
        obtain ⟨bs, q1, q2, m2⟩ := DaKt.reads I ds _ _ h2 k2
        obtain ⟨as, q3, m1⟩ := Da.reads I d _ _ h1 rv
        obtain ⟨its, rvs, ⟨o, ho, hc, n, hd⟩, _⟩ := I.tuple (.inl (.inl et))
        exact ⟨_, ReadsAll.cons (Reads.tuple ho hc hd (keys_read rvs)) q1, ReadsAll.cons q3 q2, fun hS z => (List.mem_append.mp z).elim (m1 hS) (m2 hS)⟩
end
end
/-- the written part has sys.modules, a dict -/
def SysK (K : PySem.W.Frag) : Prop := ∃ o, K.lookup sysModules = some o ∧ o.cls = .type "dict"
theorem SysK.no {X : Cx} {pins : List (Addr × Obj)} {σ : L2.St} {H : Hp} {s : Shared} (h : SysK X.K) (I : Inv X pins σ H s) : ∀ zs, H sysModules ≠ some (.lst zs) := fun zs e => by
  obtain ⟨o, h1, h2⟩ := h
  have h3 := I.kIn _ _ h1
  obtain ⟨_, its, n, _, h4⟩ : zs.length ≤ sizeLine ∧ ∃ (its : List Value) (n : Nat), Vals zs its ∧ s.heap.get? sysModules = some { cls := .type "list", data := .seq its.toArray n } := I.hok _ _ e
  rw [h3] at h4
  cases h4
  exact absurd (Value.type.inj h2) (by decide)
/-- repr(x), whatever is inside -/
def rReprA (K : PySem.W.Frag) : List V → Hp → VK → Prop := fun xs H Q => ∃ x d, xs = [x] ∧ Da K H x d ∧ d.showable = true ∧ d.depth ≤ 60 ∧ d.shown.length ≤ sizeLine ∧ Q (.str d.shown) H
section
variable {X : Cx}
theorem call_reprA {k : Nat} (hr : Rm k X.A) (sys : SysK X.K) : CallR X (.builtin "repr") (rReprA X.K) := by
  intro pins s σ H xs us Q I r h
  obtain ⟨x, d, rfl, hx, hs, hd, hz, q⟩ := h
  have hS := sys.no I
  obtain ⟨u, rfl, ru⟩ := vals1 r
  obtain ⟨as, hreads, hsm⟩ := Da.reads I d x u hx ru
  have hu := hr.room.un
  cases x with
  | non =>
    cases ru
    cases hreads
    exact PySem.P.repr_of_none ⟨.str _, H, I.tok _, ⟨_, rfl⟩, q⟩
  | bl b =>
    cases ru
    cases hreads
    refine PySem.P.repr_of_bool ⟨.str _, H, I.tok _, ⟨_, rfl⟩, ?_⟩
    simp only [PyData.shown] at q
    exact q
  | int i =>
    obtain ⟨t, rfl⟩ := ru
    cases hreads
    simp only [PyData.shown] at q
    exact PySem.P.repr_of_int (by simpa [PyData.showable] using hs) ⟨.str _, H, I.tok _, ⟨_, rfl⟩, q⟩
  | str y =>
    obtain ⟨t, rfl⟩ := ru
    cases hreads
    simp only [PyData.shown] at q hz
    exact PySem.P.repr_of_str ⟨.str _, H, I.tok _, ⟨_, rfl⟩, q⟩ hz
  | byt y =>
    obtain ⟨t, rfl⟩ := ru
    cases hreads
  | flt y =>
    obtain ⟨t, rfl⟩ := ru
    cases hreads
  | ty y =>
    cases ru
    cases hreads
  | ref a =>
    cases ru
    exact repr_of_reads' hreads hs (fun _ => hsm hS) hr.plain (by omega) (fun _ _ e => e) (fun h' u tk hk => ⟨.str _, H, I.kept hk, ⟨u, rfl⟩, q⟩) hz
end
/-- data whose repr can be taken -/
structure Shows (d : PyData) : Prop where
  sh : d.showable = true
  dp : d.depth ≤ 60
  sz : d.shown.length ≤ sizeLine
variable {K : KX}
def dReprA (de : DE) : DE := fun s P => de s fun d s1 => Shows d ∧ P (.str d.shown) s1
theorem re_reprA {te : TE} {de : DE} (h : RE K te de) : RE K (tCB (rReprA K) (tCons te tNil)) (dReprA de) := fun C hC s P hd σ H Q R q =>
  rd_cb (rd_cons (h C hC s _ hd σ H _ R fun v H1 d s1 hp R1 hv => by
    subst hC
    exact rd_nil ⟨v, d, rfl, hv.of (hd_sub _ H1), hp.1.sh, hp.1.dp, hp.1.sz, q _ H1 _ s1 hp.2 R1 (.str _)⟩))
end DL

set_option Elab.async false
set_option linter.all false
set_option maxRecDepth 100000
set_option maxHeartbeats 4000000
/-! DLk: dicts with ints and texts for keys, told by data. -/
namespace DL
open PySem PySem.Spec PyProof.Rows L2 GG DD PT
variable {K : PySem.W.Frag}
def kOf : PyData → Option L2.Key
  | .int i => some (.inl i)
  | .str x => some (.inr x)
  | _ => none
theorem kOf_keyD (k : L2.Key) : kOf (keyD k) = some k := by cases k <;> rfl
theorem key_v {H : Hp} {v : V} {d : PyData} {k : L2.Key} (h : Da K H v d) (e : kOf d = some k) : v = kV k := by
  cases d with
  | int i => cases h; cases e; rfl
  | str x => cases h; cases e; rfl
  | _ => cases e
def dgetD : List (PyData × PyData) → L2.Key → Option PyData
  | [], _ => none
  | p :: r, k => if kOf p.1 = some k then some p.2 else dgetD r k
def dputD (kvs : List (PyData × PyData)) (k : L2.Key) (d : PyData) : List (PyData × PyData) :=
  if (dgetD kvs k).isSome = true then kvs.map (fun p => if kOf p.1 = some k then (p.1, d) else p) else kvs ++ [(keyD k, d)]
def mergeD (kvs : List (PyData × PyData)) (more : List (L2.Key × PyData)) : List (PyData × PyData) := more.foldl (fun acc kv => dputD acc kv.1 kv.2) kvs
theorem get_da {H : Hp} (k : L2.Key) : ∀ {es : List (L2.Key × V)} {kvs : List (PyData × PyData)}, DaKv K H es kvs → (valV es k = none ∧ dgetD kvs k = none) ∨ ∃ v d, valV es k = some v ∧ dgetD kvs k = some d ∧ Da K H v d
  | _, _, .nil => .inl ⟨rfl, rfl⟩
  | _, _, .cons (k := k') (v := v) (r := r) (d := d) (ds := ds) h t => by
    by_cases e : k' = k
    · refine .inr ⟨v, d, valV_pos (p := (k', v)) e, ?_, h⟩
      unfold dgetD
      rw [kOf_keyD, e, if_pos rfl]
    · have e2 : ¬ kOf (keyD k') = some k := fun z => e (by rw [kOf_keyD] at z; exact Option.some.inj z)
      have e3 : dgetD ((keyD k', d) :: ds) k = dgetD ds k := by
        show (if kOf (keyD k') = some k then some d else dgetD ds k) = _
        rw [if_neg e2]
      rw [valV_neg (p := (k', v)) e, e3]
      exact get_da k t
theorem put_map {H : Hp} (k : L2.Key) {v : V} {d : PyData} (hd : Da K H v d) : ∀ {es : List (L2.Key × V)} {kvs : List (PyData × PyData)}, DaKv K H es kvs → DaKv K H (es.map fun kv => if kv.1 = k then (kv.1, v) else kv) (kvs.map fun p => if kOf p.1 = some k then (p.1, d) else p)
  | _, _, .nil => .nil
  | _, _, .cons (k := k') (v := v') (d := d') h t => by
    rw [List.map_cons, List.map_cons]
    by_cases e : k' = k
    · have e2 : kOf (keyD k') = some k := by rw [kOf_keyD, e]
      show DaKv K H ((if k' = k then (k', v) else (k', v')) :: _) ((if kOf (keyD k') = some k then (keyD k', d) else (keyD k', d')) :: _)
      rw [if_pos e, if_pos e2]
      exact .cons hd (put_map k hd t)
    · have e2 : ¬ kOf (keyD k') = some k := fun z => e (by rw [kOf_keyD] at z; exact Option.some.inj z)
      show DaKv K H ((if k' = k then (k', v) else (k', v')) :: _) ((if kOf (keyD k') = some k then (keyD k', d) else (keyD k', d')) :: _)
      rw [if_neg e, if_neg e2]
      exact .cons h (put_map k hd t)
theorem DaKv.append {H : Hp} : ∀ {es fs : List (L2.Key × V)} {a b : List (PyData × PyData)}, DaKv K H es a → DaKv K H fs b → DaKv K H (es ++ fs) (a ++ b)
  | _, _, _, _, .nil, h => h
  | _, _, _, _, .cons h t, k => .cons h (t.append k)
theorem DaKv.len {H : Hp} : ∀ {es : List (L2.Key × V)} {a : List (PyData × PyData)}, DaKv K H es a → es.length = a.length
  | _, _, .nil => rfl
  | _, _, .cons _ t => by rw [List.length_cons, List.length_cons, t.len]
theorem put_da {H : Hp} {es : List (L2.Key × V)} {kvs : List (PyData × PyData)} {k : L2.Key} {v : V} {d : PyData} (h : DaKv K H es kvs) (hd : Da K H v d) : DaKv K H (putK es k v) (dputD kvs k d) := by
  unfold putK dputD
  rw [valV_any]
  rcases get_da k h with ⟨e1, e2⟩ | ⟨v', d', e1, e2, _⟩
  · rw [e1, e2, if_neg (by decide), if_neg (by decide)]
    exact h.append (.cons hd .nil)
  · rw [e1, e2, if_pos (show (some v').isSome = true from rfl), if_pos (show (some d').isSome = true from rfl)]
    exact put_map k hd h
theorem merge_da {H : Hp} : ∀ {more : List (L2.Key × V)} {mored : List (L2.Key × PyData)} {es : List (L2.Key × V)} {kvs : List (PyData × PyData)}, Paired (fun (a : L2.Key × V) (b : L2.Key × PyData) => a.1 = b.1 ∧ Da K H a.2 b.2) more mored → DaKv K H es kvs → DaKv K H (mergeK es more) (mergeD kvs mored)
  | _, _, _, _, .nil, h => h
  | _, _, _, _, .cons (a := a) (b := b) q t, h => by
    obtain ⟨e, hd⟩ := q
    show DaKv K H (mergeK (putK _ a.1 a.2) _) (mergeD (dputD _ b.1 b.2) _)
    refine merge_da t ?_
    rw [e]
    exact put_da h hd
/-- the pairs (key, value) of a list -/
def pairsD : List PyData → Option (List (L2.Key × PyData))
  | [] => some []
  | .tuple [k, d] :: r => match kOf k, pairsD r with
    | some k', some r' => some ((k', d) :: r')
    | _, _ => none
  | _ => none
theorem pairs_da {S : Addr → Prop} {H : Hp} : ∀ {vs : List V} {ds : List PyData} {prs : List (L2.Key × PyData)}, DaAll K (Hd S H) vs ds → pairsD ds = some prs →
    ∃ (ps : List Addr) (kvs : List (L2.Key × V)), vs = ps.map V.ref ∧ Paired (fun p kv => SqT K H p [kV kv.1, kv.2]) ps kvs ∧ Paired (fun (a : L2.Key × V) (b : L2.Key × PyData) => a.1 = b.1 ∧ Da K (Hd S H) a.2 b.2) kvs prs
  | _, _, _, .nil, e => by
    cases e
    exact ⟨[], [], rfl, .nil, .nil⟩
  | _, _, prs, .cons (v := v) (ds := ds) (d := d) h t, e => by
    match d, h, e with
    | .tuple [k, x], h, e =>
      unfold pairsD at e
      cases e1 : kOf k with
      | none => rw [e1] at e; cases e
      | some k' =>
        cases e2 : pairsD ds with
        | none => rw [e1, e2] at e; cases e
        | some r' =>
          rw [e1, e2] at e
          cases e
          obtain ⟨ps, kvs, rfl, h1, h2⟩ := pairs_da t e2
          obtain ⟨a, us, rfl, h3, h4⟩ := da_tup h
          cases h4 with
          | cons q1 h4 =>
            cases h4 with
            | cons q2 h4 =>
              cases h4
              have e3 := key_v q1 e1
              subst e3
              exact ⟨a :: ps, (k', _) :: kvs, rfl, .cons h3 h1, .cons ⟨rfl, q2⟩ h2⟩
/-! ### dicts in slots -/
variable {K : KX}
def dDictVar (i : Nat) (s : DSt) (P : List (PyData × PyData) → DSt → Prop) : Prop := match s.sl[i]? with
  | some (.dat (.dict kvs)) => headK kvs = true ∧ P kvs s
  | some (.owd kvs) => P kvs s
  | _ => False
theorem dict_at {C : DC} {σ : L2.St} {H : Hp} {s : DSt} (R : Rl C σ H s) {i : Nat} {P : List (PyData × PyData) → DSt → Prop} (h : dDictVar i s P) : ∃ a es kvs, σ[i]? = some (some (V.ref a)) ∧ P kvs s ∧ H a = some (.dK es) ∧ DaKv C.K (Hd (Sof C σ s.sl) H) es kvs := by
  unfold dDictVar at h
  split at h
  · rename_i kvs e
    obtain ⟨sl, h1, v, rfl, h3⟩ := R.slots i _ e
    cases h3 with
    | dic h4 h5 => exact ⟨_, _, kvs, h1, h.2, (hd_some h4).2, h5⟩
    | dct h4 hn h5 => exact (headK_dct h5 hn h.1).elim
  · rename_i kvs e
    obtain ⟨sl, h1, a, es, rfl, h4, h5⟩ := R.slots i _ e
    exact ⟨a, es, kvs, h1, h, h4, h5⟩
  · exact h.elim
def hasV : Option DV → Prop
  | some (.dat _) => True
  | some (.own _) => True
  | some (.owd _) => True
  | _ => False
theorem has_at {C : DC} {σ : L2.St} {H : Hp} {s : DSt} (R : Rl C σ H s) {i : Nat} (h : hasV s.sl[i]?) : ∃ v, σ[i]? = some (some v) := by
  cases e : s.sl[i]? with
  | none => rw [e] at h; exact h.elim
  | some dv =>
    obtain ⟨sl, h1, h2⟩ := R.slots i _ e
    cases dv with
    | dat d =>
      obtain ⟨v, rfl, _⟩ := h2
      exact ⟨v, h1⟩
    | own d =>
      obtain ⟨a, vs, rfl, _⟩ := h2
      exact ⟨_, h1⟩
    | owd d =>
      obtain ⟨a, vs, rfl, _⟩ := h2
      exact ⟨_, h1⟩
    | _ => rw [e] at h; exact h.elim
/-- y in d, y not in d: d in slot i -/
def dDIn (neg : Bool) (dk : DE) (i : Nat) : DE := fun s P => dk s fun kd s1 => match kOf kd with
  | some k => dDictVar i s1 fun kvs s2 => P (.bool (if neg then !(dgetD kvs k).isSome else (dgetD kvs k).isSome)) s2
  | none => False
theorem isSome_da {K : PySem.W.Frag} {H : Hp} {es : List (L2.Key × V)} {kvs : List (PyData × PyData)} (h : DaKv K H es kvs) (k : L2.Key) : (valV es k).isSome = (dgetD kvs k).isSome := by
  rcases get_da k h with ⟨e1, e2⟩ | ⟨v, d, e1, e2, _⟩ <;> rw [e1, e2] <;> rfl
theorem re_dIn {ty : TE} {dk : DE} {i : Nat} (h : RE K ty dk) : RE K (tDIn ty (tVar i)) (dDIn false dk i) := fun C hC s P hd σ H Q R q =>
  h C hC s _ hd σ H _ R fun v H1 d s1 hp R1 hv => by
    cases e : kOf d with
    | none => rw [e] at hp; exact hp.elim
    | some k =>
      rw [e] at hp
      obtain ⟨a, es, kvs, h1, hp, h2, h3⟩ := dict_at R1 hp
      have ev := key_v hv e
      subst ev
      refine ⟨_, h1, a, _, rfl, DGet.k h2, ?_⟩
      rw [isSome_da h3 k]
      exact q _ H1 _ s1 hp R1 (.bl _)
theorem re_dNotIn {ty : TE} {dk : DE} {i : Nat} (h : RE K ty dk) : RE K (tDNotIn ty (tVar i)) (dDIn true dk i) := fun C hC s P hd σ H Q R q =>
  h C hC s _ hd σ H _ R fun v H1 d s1 hp R1 hv => by
    cases e : kOf d with
    | none => rw [e] at hp; exact hp.elim
    | some k =>
      rw [e] at hp
      obtain ⟨a, es, kvs, h1, hp, h2, h3⟩ := dict_at R1 hp
      have ev := key_v hv e
      subst ev
      refine ⟨_, h1, a, _, rfl, DGet.k h2, ?_⟩
      rw [isSome_da h3 k]
      exact q _ H1 _ s1 hp R1 (.bl _)
/-- d[y]: d in slot i -/
def dDGet (i : Nat) (dk : DE) : DE := fun s P => hasV s.sl[i]? ∧ dk s fun kd s1 => match kOf kd with
  | some k => dDictVar i s1 fun kvs s2 => ∃ d, dgetD kvs k = some d ∧ P d s2
  | none => False
theorem re_dGet {ty : TE} {dk : DE} {i : Nat} (h : RE K ty dk) : RE K (tDGet (tVar i) ty) (dDGet i dk) := fun C hC s P hd σ H Q R q => by
  obtain ⟨v0, e0⟩ := has_at R hd.1
  refine ⟨v0, e0, h C hC s _ hd.2 σ H _ R fun v H1 d s1 hp R1 hv => ?_⟩
  cases e : kOf d with
  | none => rw [e] at hp; exact hp.elim
  | some k =>
    rw [e] at hp
    obtain ⟨a, es, kvs, h1, ⟨x, hx, hp⟩, h2, h3⟩ := dict_at R1 hp
    rw [e0] at h1
    cases h1
    have ev := key_v hv e
    subst ev
    rcases get_da k h3 with ⟨_, e2⟩ | ⟨w, d', e1, e2, hw⟩
    · rw [e2] at hx
      cases hx
    · rw [e2] at hx
      cases hx
      refine ⟨a, w, rfl, ?_, q w H1 _ s1 hp R1 hw⟩
      have g := DGet.k (k := k) h2
      rw [e1] at g
      exact g
/-- d[y] = v: d one's own, in slot i -/
def isOwnD : Option DV → Prop
  | some (.owd _) => True
  | _ => False
def dDPut (i : Nat) (dk dv : DE) : DS := fun E s => dv s fun d s1 => isOwnD s1.sl[i]? ∧ dk s1 fun kd s2 => match kOf kd, s2.sl[i]? with
  | some k, some (.owd kvs) => kvs.length < 1000000 ∧ E.nx ⟨s2.sl.set i (.owd (dputD kvs k d)), s2.n⟩
  | _, _ => False
theorem rs_dPut {ty tv : TE} {dk dv : DE} {i : Nat} (h1 : RE K ty dk) (h2 : RE K tv dv) : RS K (sDPut (tVar i) ty tv) (dDPut i dk dv) := fun C hC E s hd σ H D R o =>
  h2 C hC s _ hd σ H _ R fun v H1 d s1 hp R1 hv => by
    obtain ⟨ho, hp⟩ := hp
    obtain ⟨v0, e0⟩ := has_at R1 (i := i) (by
      cases e : s1.sl[i]? with
      | none => rw [e] at ho; exact ho.elim
      | some dv => rw [e] at ho; cases dv <;> first | exact ho.elim | exact True.intro)
    refine ⟨v0, e0, h1 (C.keep v d) hC s1 _ hp σ H1 _ (R1.keep hv) fun y H2 kd s2 hp2 R2 hy => ?_⟩
    obtain ⟨R3, hv3⟩ := R2.kept
    cases e : kOf kd with
    | none => rw [e] at hp2; exact hp2.elim
    | some k =>
      cases e2 : s2.sl[i]? with
      | none => rw [e, e2] at hp2; exact hp2.elim
      | some fv =>
        cases fv with
        | owd kvs =>
          rw [e, e2] at hp2
          obtain ⟨sl, q1, a, es, rfl, q2, q3⟩ := R3.slots i _ e2
          rw [e0] at q1
          cases q1
          have ev := key_v hy e
          subst ev
          refine ⟨a, upd H2 a (.dK (putK es k v)), rfl, DPut.k q2 (by rw [q3.len]; exact Nat.lt_of_lt_of_le hp2.1 sz6), o.nx _ _ _ hp2.2 (R3.mut e2 rfl rfl e0 fun hs => ⟨a, _, rfl, upd_same, (put_da q3 hv3).of hs⟩)⟩
        | _ => rw [e, e2] at hp2; exact hp2.elim
/-! ### new dicts -/
abbrev DK := DSt → (List (PyData × PyData) → DSt → Prop) → Prop
def XD (C : DC) (te : TE) (s : DSt) (P : List (PyData × PyData) → DSt → Prop) : Prop := ∀ (σ : L2.St) (H : Hp) (Q : VK), Rl C σ H s → (∀ a es H' kvs s', P kvs s' → Rl C σ H' s' → H' a = none → DaKv C.K (Hd (Sof C σ s'.sl) H') es kvs → Q (.ref a) (upd H' a (.dK es))) → te σ H Q
def RD (K : KX) (te : TE) (dl : DK) : Prop := ∀ C : DC, C.K = K → ∀ s P, dl s P → XD C te s P
def dNewD (dl : DK) : DE := fun s P => dl s fun kvs s1 => P (.dict kvs) s1
theorem re_newD {te : TE} {dl : DK} (h : RD K te dl) : RE K te (dNewD dl) := fun C hC s P hd σ H Q R q => h C hC s _ hd σ H Q R fun a es H' kvs s' hp R' na hv =>
  q _ _ _ s' hp (R'.ext (same_upd na)) (.dic (R'.see na) (hv.of (R'.kp na)))
def dSetD (dl : DK) (i : Nat) : DS := fun E s => dl s fun kvs s1 => i < s1.sl.length ∧ E.nx ⟨s1.sl.set i (.owd kvs), s1.n⟩
theorem rs_setD {te : TE} {i : Nat} {dl : DK} (h : RD K te dl) : RS K (tAsg te (gName i)) (dSetD dl i) := fun C hC E s hd σ H D R o =>
  h C hC s _ hd σ H _ R fun a es H1 kvs s1 hp R1 na hv => o.nx _ _ _ hp.2 (R1.setOwn na hp.1 rfl fun S' hs => ⟨a, es, rfl, upd_same, hv.of hs⟩)
def dDict0 : DK := fun s P => P [] s
theorem rd_dict0 : RD K tDNewK dDict0 := fun C hC s P hd σ H Q R q => fun p np => q p [] H [] s hd R np .nil
def rDictL (K : PySem.W.Frag) : List V → Hp → VK → Prop := fun xs H Q => ∃ (a : Addr) (ps : List Addr) (kvs : List (L2.Key × V)), xs = [.ref a] ∧ SqL K H a (ps.map V.ref) ∧ Paired (fun p kv => SqT K H p [kV kv.1, kv.2]) ps kvs ∧ ∀ p, H p = none → Q (.ref p) (upd H p (.dK (mergeK [] kvs)))
def dDictL (dl : DA) : DK := fun s P => dl s fun ds s1 => ∃ prs, pairsD ds = some prs ∧ P (mergeD [] prs) s1
theorem rd_dictL {te : TE} {dl : DA} (h : RL K te dl) : RD K (tCB (rDictL K) (tCons te tNil)) (dDictL dl) := fun C hC s P hd σ H Q R q =>
  rd_cb (rd_cons (h C hC s _ hd σ H _ R fun a vs H1 ds s1 hp R1 e hv => rd_nil (by
    obtain ⟨prs, hpr, hp⟩ := hp
    subst hC
    obtain ⟨ps, kvs, rfl, h1, h2⟩ := pairs_da hv hpr
    exact ⟨a, ps, kvs, rfl, sq e, h1, fun p np => q p _ H1 _ s1 hp R1 np (merge_da h2 .nil)⟩)))
def dDictU (de : DE) : DK := fun s P => de s fun d s1 => match d with
  | .tuple ds => ∃ prs, pairsD ds = some prs ∧ P (mergeD [] prs) s1
  | _ => False
theorem rd_dictU {te : TE} {de : DE} (h : RE K te de) : RD K (tCB (rDictT K) (tCons te tNil)) (dDictU de) := fun C hC s P hd σ H Q R q =>
  rd_cb (rd_cons (h C hC s _ hd σ H _ R fun v H1 d s1 hp R1 hv => by
    cases d with
    | tuple ds =>
      obtain ⟨prs, hpr, hp⟩ := hp
      subst hC
      cases hv with
      | tup k1 k2 =>
        obtain ⟨ps, kvs, rfl, h1, h2⟩ := pairs_da k2 hpr
        exact rd_nil ⟨_, ps, kvs, rfl, k1.same (hd_sub _ H1), h1, fun p np => q p _ H1 _ s1 hp R1 np (merge_da h2 .nil)⟩
    | _ => exact hp.elim))
end DL

set_option Elab.async false
set_option linter.all false
set_option maxRecDepth 100000
set_option maxHeartbeats 4000000
/-! KW: defs called by keywords alone, in any order. -/
namespace DL
open PySem PySem.Spec PyProof.Rows L2 GG DD PT
/-- the values in the parameters' order: the i-th parameter's stands at place π[i] -/
def permL {α : Type} (π : List Nat) (l : List α) : List α := π.filterMap fun i => l[i]?
/-- a def called by these keywords -/
structure DfK (P : Program) (w : World) (K : PySem.W.Frag) (mg : Str → Option Value) (base : Heap) (k : Nat) (nm : Str) (ps ks : List Str) (π : List Nat) (sp : Sp) : Prop where
  ex : ∃ f fd, Fg P w K mg base k f fd ps sp ∧ mg nm = some (.ref f) ∧ PySem.W.keepIn K (.ref f) = true ∧ ∀ (s : Shared) (ws : List Value), ws.length = ks.length → BindsTo s fd ⟨[], ks.zip ws⟩ (ps.zip (permL π ws))
theorem perm_vals {vs : List V} {us : List Value} (r : Vals vs us) : ∀ π : List Nat, Vals (permL π vs) (permL π us)
  | [] => .nil
  | i :: π => by
    unfold permL
    rw [List.filterMap_cons, List.filterMap_cons]
    cases e : vs[i]? with
    | none =>
      have e2 : us[i]? = none := by
        have := List.getElem?_eq_none_iff.mp e
        exact List.getElem?_eq_none (by rw [← r.length]; exact this)
      rw [e2]
      exact perm_vals r π
    | some v =>
      obtain ⟨u, e2, hu⟩ := r.get e
      rw [e2]
      exact .cons hu (perm_vals r π)
section
variable {X : Cx} {k : Nat} {nm : Str} {ps ks : List Str} {π : List Nat} {sp : Sp} {p pos : Pos} {kws : List Keyword} {tk : TA}
def tCallP (sp : Sp) (π : List Nat) (n : Nat) (tk : TA) : TE := fun σ H Q => tk σ H fun zs H2 => zs.length = n ∧ sp (permL π zs) H2 Q E0
theorem kcall (D : DfK X.prog X.w X.K X.mg X.base k nm ps ks π sp) (hr : Rm k X.A) (hg : Gl X nm) (hkw : PK X kws tk)
    (hall : (backToKw pos (keywordEach kws X.env)).all (·.1.isSome) = true := by rfl) (hks : (backToKw pos (keywordEach kws X.env)).filterMap (·.1) = ks := by rfl)
    (hdb : (nm == ("__debug__" : Str)) = false := by decide)
    (hpl : ((backTo pos (starEach [] X.env)).any (·.1) || (backToKw pos (keywordEach kws X.env)).any (·.1.isNone)) = false := by rfl) :
    PE X (.Call (.Name nm p) [] kws pos) (tCallP sp π ks.length tk) := by
  obtain ⟨f, fd, F, hm, hk, hb⟩ := D.ex
  refine ⟨fun pins s σ H Q I h => ?_⟩
  refine wpAny_Call_Name_kw (ld_glob I hg hm ?_ hdb)
  refine PySem.W.callWith_KW0 (h₀ := X.base) I.ok.mod.kin hk hall (thn (hkw.run pos pins s σ H _ I h) fun ws s2 ⟨zs, H2, I2, rz, hl, q2⟩ => ⟨I2.kIn, ?_⟩) hpl
  rw [hks]
  refine wpAny_call (codeAny_mono (F.go X.A X.stack s2 H2 ⟨[] ++ [], ks.zip ws⟩ (permL π ws) (permL π zs) Q hr I2.env0 (hb s2 ws (by rw [← rz.length]; exact hl)) (perm_vals rz π) q2) fun r s' hq => ?_)
  exact ret_of I2 hq
end
variable {K : KX}
theorem perm_args {W : Wo} {S : Addr → Prop} {H : Hp} {vs : List V} {as : List DV} (h : ArgsOk K W S H vs as) : ∀ π : List Nat, ArgsOk K W S H (permL π vs) (permL π as)
  | [] => .nil
  | i :: π => by
    unfold permL
    rw [List.filterMap_cons, List.filterMap_cons]
    have get : ∀ {vs : List V} {as : List DV} (j : Nat), ArgsOk K W S H vs as → (vs[j]? = none ∧ as[j]? = none) ∨ ∃ v a, vs[j]? = some v ∧ as[j]? = some a ∧ ArgOk K W S H v a := by
      intro vs as j h
      induction h generalizing j with
      | nil => exact .inl ⟨rfl, rfl⟩
      | @cons v vs a as h1 h2 ih =>
        cases j with
        | zero => exact .inr ⟨v, a, rfl, rfl, h1⟩
        | succ j => simpa using ih j
    rcases get i h with ⟨e1, e2⟩ | ⟨v, a, e1, e2, ha⟩
    · rw [e1, e2]
      exact perm_args h π
    · rw [e1, e2]
      exact .cons ha (perm_args h π)
def dCallP (m : Nat) (F : FD) (π : List Nat) (n : Nat) (da : DX) : DE := fun s P => da s fun as s1 => as.length = n ∧ (permL π as).length = m ∧ F (permL π as) s1.n fun d n' => P d ⟨s1.sl, n'⟩
theorem re_callP {m : Nat} {F : FD} {π : List Nat} {n : Nat} {ta : TA} {da : DX} (h : RX K ta da) : RE K (tCallP (spOf K m F) π n ta) (dCallP m F π n da) := fun C hC s P hd σ H Q R q =>
  h C hC s _ hd σ H _ R fun vs H1 as s1 hp R1 hv => by
    subst hC
    refine ⟨by rw [hv.len]; exact hp.1, by rw [(perm_args hv π).len]; exact hp.2.1, C.W, Sof C σ s1.sl, s1.n, permL π as, _, R1.taken, R1.dk, fun b hb => .inr (.inl hb), perm_args hv π, hp.2.2, fun v H' d n' hP hD hB hda => ?_⟩
    exact q v H' d ⟨s1.sl, n'⟩ hP (R1.step hB hD) hda
end DL

set_option Elab.async false
set_option linter.all false
set_option maxRecDepth 100000
set_option maxHeartbeats 4000000
/-! SRT: sorted(xs), xs a list of pairs (text, int) of any length: a rearrangement. -/
namespace SRT
open PySem PyProof.Rows Srt SrtO L2
/-- by the text, then by the int -/
def lexS (p q : Str × Int) : Bool := if p.1 = q.1 then decide (p.2 < q.2) else decide (p.1.cps.toList < q.1.cps.toList)
theorem nat_lt_irr (a : List Nat) : ¬ a < a := List.lt_irrefl a
theorem str_eq {a b : Str} (h1 : ¬ a.cps.toList < b.cps.toList) (h2 : ¬ b.cps.toList < a.cps.toList) : a = b := by
  have h : a.cps.toList = b.cps.toList := List.le_antisymm (List.not_lt.mp h2) (List.not_lt.mp h1)
  obtain ⟨⟨a⟩⟩ := a
  obtain ⟨⟨b⟩⟩ := b
  simp at h
  rw [h]
theorem lexS_iff {p q : Str × Int} : lexS p q = true ↔ p.1.cps.toList < q.1.cps.toList ∨ (p.1 = q.1 ∧ p.2 < q.2) := by
  unfold lexS
  by_cases e : p.1 = q.1
  · rw [if_pos e, decide_eq_true_eq]
    constructor
    · exact fun h => .inr ⟨e, h⟩
    · rintro (h | h)
      · rw [e] at h
        exact absurd h (nat_lt_irr _)
      · exact h.2
  · rw [if_neg e, decide_eq_true_eq]
    constructor
    · exact .inl
    · rintro (h | h)
      · exact h
      · exact absurd h.1 e
theorem lexS_no {p q : Str × Int} : lexS p q = false ↔ ¬ (p.1.cps.toList < q.1.cps.toList ∨ (p.1 = q.1 ∧ p.2 < q.2)) := by
  rw [← lexS_iff]
  cases lexS p q <;> simp
theorem swo_S {α : Type} (k : α → Str × Int) : Swo fun v u => lexS (k v) (k u) := by
  refine ⟨fun x y h => ?_, fun x y z h1 h2 => ?_⟩
  · have a := lexS_iff.mp h
    refine lexS_no.mpr fun b => ?_
    rcases a with a | ⟨a1, a2⟩
    · rcases b with b | ⟨b1, b2⟩
      · exact nat_lt_irr _ (List.lt_trans a b)
      · rw [b1] at a
        exact nat_lt_irr _ a
    · rcases b with b | ⟨b1, b2⟩
      · rw [a1] at b
        exact nat_lt_irr _ b
      · omega
  · have a := lexS_no.mp h1
    have b := lexS_no.mp h2
    refine lexS_no.mpr fun c => ?_
    have a1 : ¬ (k y).1.cps.toList < (k x).1.cps.toList := fun z => a (.inl z)
    have b1 : ¬ (k z).1.cps.toList < (k y).1.cps.toList := fun w => b (.inl w)
    have c1 : ¬ (k z).1.cps.toList < (k x).1.cps.toList := List.not_lt.mpr (List.le_trans (List.not_lt.mp a1) (List.not_lt.mp b1))
    rcases c with c | ⟨c2, c3⟩
    · exact c1 c
    · have e1 : (k y).1 = (k x).1 := by
        refine str_eq a1 ?_
        rw [← c2]
        exact b1
      have e2 : (k z).1 = (k y).1 := c2.trans e1.symm
      have a2 : ¬ (k y).2 < (k x).2 := fun w => a (.inr ⟨e1, w⟩)
      have b2 : ¬ (k z).2 < (k y).2 := fun w => b (.inr ⟨e2, w⟩)
      omega
def IsSP (h : Heap) (v : Value) (x : Str) (y : Int) : Prop := ∃ a o t u n, v = .ref a ∧ h.get? a = some o ∧ o.cls = .type "tuple" ∧ o.data = .seq #[.str x t, .int y u] n
theorem IsSP.keeps {h h' : Heap} {v : Value} {x : Str} {y : Int} (p : IsSP h v x y) (k : ∀ b o, h.get? b = some o → o.cls = .type "tuple" → h'.get? b = some o) : IsSP h' v x y := by
  obtain ⟨a, o, t, u, n, e, ho, hc, hd⟩ := p
  exact ⟨a, o, t, u, n, e, k _ _ ho hc, hc, hd⟩
theorem firsts_S {h : Heap} : ∀ {vs : List Value}, (∀ v ∈ vs, ∃ x y, IsSP h v x y) → ∃ fs : List Value, PySem.W.KatTups h vs fs ∧ fs.length = vs.length ∧ ∀ f ∈ fs, ∃ x t, f = Value.str x t
  | [], _ => ⟨[], PySem.W.KatTups.nil, rfl, fun _ hm => by simp at hm⟩
  | v :: vs, hp => by
    obtain ⟨fs, h1, h2, h3⟩ := firsts_S (vs := vs) fun v' hm => hp v' (List.mem_cons_of_mem _ hm)
    obtain ⟨x, y, a, o, t, u, n, e, ho, hc, hd⟩ := hp v (List.mem_cons_self ..)
    subst e
    refine ⟨.str x t :: fs, PySem.W.KatTups.cons ho hc hd rfl h1, by rw [List.length_cons, List.length_cons, h2], fun f hm => ?_⟩
    rcases List.mem_cons.mp hm with rfl | hm
    · exact ⟨x, t, rfl⟩
    · exact h3 f hm
section
variable {prog : Program} {w : World} {A : Around} {E : Value → Shared → Prop} {s : Shared}
theorem sp_cmp {vs : List Value} {k : Value → Str × Int} (hp : ∀ v ∈ vs, IsSP s.heap v (k v).1 (k v).2) : Cmp prog w A s (tuples' true) (fun p => p.1 ∈ vs) (lt2 fun v u => lexS (k v) (k u)) := by
  intro p q hm hm'
  have h1 := hp _ hm
  have h2 := hp _ hm'
  show wpAny (model prog w) A (keyLt' (tuples' true) p.1 q.1) (fun r s' => s' = s ∧ r = lexS (k p.1) (k q.1)) (fun _ _ => False) s
  unfold lexS
  generalize (k p.1).1 = x at h1 ⊢
  generalize (k p.1).2 = y at h1 ⊢
  generalize (k q.1).1 = x' at h2 ⊢
  generalize (k q.1).2 = y' at h2 ⊢
  obtain ⟨a, o, t, u, n, e, ho, hc, hd⟩ := h1
  obtain ⟨a', o', t', u', n', e', ho', hc', hd'⟩ := h2
  rw [e, e']
  refine PySem.W.kat_lt ho hd ho' hd' ?_
  show PySem.W.KatLex prog w A true (decide (2 < 2)) _ [(.str x t, .str x' t'), (.int y u, .int y' u')] 0 s
  refine PySem.W.kat_cons (SeqAt.EqAt.str_str x t x' t' prog w _ _ ?_)
  refine PySem.W.kat_go (fun e1 => ?_) (fun e1 => ?_)
  · have ex : x = x' := by simpa using e1
    refine PySem.W.kat_yes (PySem.W.kat_cons (SeqAt.EqAt.int_int y u y' u' prog w _ _ ?_))
    refine PySem.W.kat_go (fun e2 => ?_) (fun e2 => ?_)
    · have ey : y = y' := by simpa using e2
      have e3 : (if x = x' then decide (y < y') else decide (x.cps.toList < x'.cps.toList)) = false := by
        rw [if_pos ex, ey]
        exact decide_eq_false (Int.lt_irrefl _)
      exact PySem.W.kat_yes (PySem.W.kat_nil ⟨rfl, e3.symm⟩)
    · have e3 : (if x = x' then decide (y < y') else decide (x.cps.toList < x'.cps.toList)) = decide (y < y') := if_pos ex
      refine PySem.W.kat_no (PySem.W.kat_one _ _ (PyProof.Rows.lt_int ?_))
      exact (show s = s ∧ decide (y < y') = (if x = x' then decide (y < y') else decide (x.cps.toList < x'.cps.toList)) from ⟨rfl, e3.symm⟩)
  · have ex : ¬ x = x' := by simpa using e1
    have e3 : (if x = x' then decide (y < y') else decide (x.cps.toList < x'.cps.toList)) = decide (x.cps.toList < x'.cps.toList) := if_neg ex
    exact PySem.W.kat_no (oneLt_str ⟨rfl, e3.symm⟩)
theorem sp_sortable {a : Addr} {vs : List Value} {k : Value → Str × Int} (h0 : 0 < vs.length) (hp : ∀ v ∈ vs, IsSP s.heap v (k v).1 (k v).2) (ha : ∀ o, s.heap.get? a = some o → o.cls ≠ .type "tuple") : SortableO prog w A s a vs fun v u => lexS (k v) (k u) := by
  intro h' keep
  have hp' : ∀ v ∈ vs, IsSP h' v (k v).1 (k v).2 := fun v hm => (hp v hm).keeps fun b o e c => keep b o (fun z => by subst z; exact ha o e c) e
  obtain ⟨fs, h1, h2, h3⟩ := firsts_S fun v hm => ⟨_, _, hp' v hm⟩
  refine ⟨tuples' true, fun Q E hq => ?_, sp_cmp hp'⟩
  refine PySem.W.kat_kind (T := .type "str") h1 (by omega) (fun f hm => ?_) (by rfl) ?_
  · obtain ⟨x, t, rfl⟩ := h3 f hm
    exact PySem.W.Looks.now
  · have e : (Value.type "str" != Value.type "tuple") = true := by first | decide +kernel | rfl | decide
    rw [e]
    exact hq
theorem sorted_sp {l : Addr} {vs : List Value} {k : Value → Str × Int} {Q : Value → Shared → Prop} (hl : s.heap.IsList l vs.toArray) (hz : vs.length ≤ sizeLine) (hp : ∀ v ∈ vs, IsSP s.heap v (k v).1 (k v).2)
    (h : ∀ (h' : Heap) (d : Addr) (out : List Value), out.Perm vs → (∀ b o, s.heap.get? b = some o → h'.get? b = some o) → s.heap.objs.size ≤ d → (∃ n, h'.get? d = some (seqObj "list" out.toArray n)) → Q (.ref d) { s with heap := h' }) :
    wpAny (model prog w) A (call (.builtin "sorted") [.ref l]) Q E s := by
  refine sorted_ord (swo_S k) hl hz (fun h2 h₁ a ha kk => ?_) fun out hs hb => ?_
  · refine sp_sortable (s := { s with heap := h₁ }) (by omega) (fun v hm => (hp v hm).keeps fun b o e _ => (kk b o e).2) fun o e => ?_
    have e' : some o = some (seqObj "list" vs.toArray 0) := e.symm.trans ha
    cases e'
    intro c
    exact absurd (Value.type.inj c) (by decide)
  · exact h _ _ out hb.perm (fun b o e => sortedAll_old e) (Nat.le_succ _) (sortedAll_at s.heap vs out.toArray)
end
open PySem.Spec in
/-- sorted(xs) of pairs (text, int): they are there in some order -/
def rSortedSI (K : PySem.W.Frag) : List V → Hp → VK → Prop := fun vs H Q => ∃ (a : Addr) (xs : List V) (k : V → Str × Int), vs = [V.ref a] ∧ SqL K H a xs ∧ (∀ x ∈ xs, ∃ t, x = V.ref t ∧ SqT K H t [.str (k x).1, .int (k x).2]) ∧ ∀ ys p, ys.Perm xs → H p = none → Q (.ref p) (upd H p (.lst ys))
theorem cr_sortedSI {X : Cx} : CallR X (.builtin "sorted") (rSortedSI X.K) := by
  intro pins s σ H vs us Q I r h
  obtain ⟨a, xs, k, rfl, hs, hx, q⟩ := h
  obtain ⟨its, rv, hl, hz⟩ := I.list hs
  obtain ⟨u, rfl, ru⟩ := vals1 r
  obtain rfl : u = Value.ref a := ru
  obtain ⟨e1, e2⟩ := refs_back rv fun x m => by
    obtain ⟨t, e, _⟩ := hx x m
    exact ⟨t, e⟩
  refine sorted_sp (k := fun u => k (backV u)) hl.isList (by rw [← rv.length]; exact hz) (fun v hv => ?_) fun h' d out h2 kp hd hn => ?_
  · obtain ⟨t, rfl⟩ := e2 v hv
    have hm : V.ref t ∈ xs := by rw [e1]; exact List.mem_map.mpr ⟨_, hv, rfl⟩
    obtain ⟨t', e, ht⟩ := hx _ hm
    cases e
    obtain ⟨its2, r2, ⟨o, ho, hc, n, hd⟩, _⟩ := I.tuple ht
    obtain ⟨u1, u2, rfl, ri, rj⟩ := vals2 r2
    obtain ⟨t1, rfl⟩ := ri
    obtain ⟨t2, rfl⟩ := rj
    exact ⟨t, o, t1, t2, n, rfl, ho, hc, hd⟩
  · have h3 : ∀ u ∈ out, ∃ a, u = Value.ref a := fun u hu => e2 u (h2.mem_iff.mp hu)
    obtain ⟨n, hn⟩ := hn
    have hb : (out.map backV).Perm xs := by
      rw [e1]
      exact h2.map backV
    refine ⟨.ref d, upd H d (.lst (out.map backV)), I.laid (t' := s.toks) kp hd ⟨?_, out, n, vals_back h3, hn⟩, rfl, q _ d hb (I.hok.fresh hd)⟩
    rw [hb.length_eq]
    exact hz
end SRT

set_option Elab.async false
set_option linter.all false
set_option maxRecDepth 100000
set_option maxHeartbeats 4000000
/-! RGL: range(n) as a value, list(range(n)). -/
namespace RGL
open PySem PySem.Spec PyProof.Rows L2
theorem cr_range1 {X : Cx} : CallR X (.type "range") (fun vs H Q => ∃ j, vs = [V.int j] ∧ ∀ p, H p = none → Q (.ref p) (upd H p (.rng 0 j))) := by
  intro pins s σ H vs us Q I r h
  obtain ⟨j, rfl, q⟩ := h
  obtain ⟨u, rfl, ru⟩ := vals1 r
  obtain ⟨t, rfl⟩ := ru
  refine call_range_1 ⟨.ref s.heap.objs.size, upd H s.heap.objs.size (.rng 0 j), I.laid (t' := s.toks + 2) (fun b o e => Heap.get?_push_of_some _ e) (Nat.le_refl _) ?_, rfl, q _ (I.hok.fresh (Nat.le_refl _))⟩
  exact ⟨_, _, _, Heap.get?_push_size _ rfl⟩
def upTo (n : Nat) : List V := (List.range n).map fun i => V.int (i : Nat)
def rListRng : List V → Hp → VK → Prop := fun vs H Q => ∃ (a : Addr) (n : Nat), vs = [V.ref a] ∧ H a = some (.rng 0 n) ∧ n ≤ 1000 ∧ ∀ p, H p = none → Q (.ref p) (upd H p (.lst (upTo n)))
theorem vals_ints : ∀ {n : Nat} {l : List Value}, l.length = n → (∀ (i : Nat) (v : Value), l[i]? = some v → ∃ t, v = .int (i : Nat) t) → Vals (upTo n) l := by
  intro n
  unfold upTo
  induction n with
  | zero =>
    intro l hl _
    cases l with
    | nil => exact .nil
    | cons _ _ => cases hl
  | succ n ih =>
    intro l hl h
    have hne : l ≠ [] := fun e => by rw [e] at hl; cases hl
    have e := (List.dropLast_concat_getLast hne).symm
    rw [List.range_succ, List.map_append, e]
    have hd : l.dropLast.length = n := by rw [List.length_dropLast, hl]; rfl
    refine (ih hd fun i v hv => ?_).append (.cons ?_ .nil)
    · refine h i v ?_
      have hi : i < l.dropLast.length := by
        rcases Nat.lt_or_ge i l.dropLast.length with q | q
        · exact q
        · rw [List.getElem?_eq_none q] at hv; cases hv
      rw [e, List.getElem?_append_left hi]
      exact hv
    · obtain ⟨t, ht⟩ := h n (l.getLast hne) (by
        rw [List.getLast_eq_getElem, List.getElem?_eq_getElem (by omega)]
        simp [hl])
      exact ⟨t, ht⟩
theorem cr_listRng {X : Cx} (hc : X.calm = true) : CallR X (.type "list") rListRng := by
  intro pins s σ H vs us Q I r h
  obtain ⟨a, n, rfl, ha, hn, q⟩ := h
  obtain ⟨u, rfl, ru⟩ := vals1 r
  obtain rfl : u = Value.ref a := ru
  obtain ⟨t1, t2, t3, ho⟩ := I.hok a _ ha
  have hsz : Builtin.Range.rangeSize 0 n 1 = n := by rw [rangeSize_one]; split <;> omega
  refine call_list_range (n := n) (I.ok.hd hc) ho (small_one (by omega) (by omega) (by omega) (by omega)) hsz (by omega) fun h' tk acc' c' kp e it => ?_
  refine ⟨.ref s.heap.objs.size, upd H s.heap.objs.size (.lst (upTo n)), I.laid (t' := tk) kp (Nat.le_refl _) ⟨by simp [upTo, sizeLine_eq]; omega, acc'.toList, c', vals_ints (by rw [Array.length_toList, it.1]) fun i v hv => ?_, ?_⟩, rfl, q _ (I.hok.fresh (Nat.le_refl _))⟩
  · obtain ⟨t, e1⟩ := it.2 i v (by rw [← Array.getElem?_toList]; exact hv)
    exact ⟨t, by rw [e1]; simp⟩
  · simpa using e
end RGL

set_option Elab.async false
set_option linter.all false
set_option maxRecDepth 100000
set_option maxHeartbeats 4000000
/-! EMT: t == () and xs == [], whatever lies in t or xs. -/
namespace EMT
open PySem PySem.Spec PyProof.Rows L2
variable {X : Cx}
def rEqMt (K : PySem.W.Frag) : R2 := fun x y H Q => ∃ a b xs, x = .ref a ∧ y = .ref b ∧ SqT K H a xs ∧ SqT K H b [] ∧ Q (.bl xs.isEmpty) H
theorem op_eqMt (hu : X.A.units + 64 < cLine) : OpR X (compareOp .Eq) (rEqMt X.K) := by
  intro pins s σ H x y v u Q I rx ry h
  obtain ⟨a, b, xs, rfl, rfl, ha, hb, q⟩ := h
  cases (show v = Value.ref a from rx)
  cases (show u = Value.ref b from ry)
  obtain ⟨its, rv, pl, _⟩ := I.tuple ha
  obtain ⟨its2, rv2, pl2, _⟩ := I.tuple hb
  cases rv2
  have hl := rv.length
  refine SeqAt.eq_tupleAt (e := fun _ => true) pl pl2 (by omega) (fun j _ h2 => absurd h2 (Nat.not_lt_zero _)) ?_
  have e : ((List.range (min its.toArray.size ([] : List Value).toArray.size)).all (fun _ => true) && its.toArray.size == ([] : List Value).toArray.size) = xs.isEmpty := by
    cases xs with
    | nil => cases rv; rfl
    | cons x r => cases rv; simp
  rw [e]
  exact ⟨.bl _, H, I, rfl, q⟩
def rEqMtL (K : PySem.W.Frag) : R2 := fun x y H Q => ∃ a b xs, x = .ref a ∧ y = .ref b ∧ SqL K H a xs ∧ SqL K H b [] ∧ Q (.bl xs.isEmpty) H
theorem op_eqMtL (hu : X.A.units + 64 < cLine) : OpR X (compareOp .Eq) (rEqMtL X.K) := by
  intro pins s σ H x y v u Q I rx ry h
  obtain ⟨a, b, xs, rfl, rfl, ha, hb, q⟩ := h
  cases (show v = Value.ref a from rx)
  cases (show u = Value.ref b from ry)
  obtain ⟨its, rv, pl, _⟩ := I.list ha
  obtain ⟨its2, rv2, pl2, _⟩ := I.list hb
  cases rv2
  cases xs with
  | nil =>
    cases rv
    exact SeqAt.eq_listAt (e := fun _ => true) pl.isList pl2.isList rfl (by omega) (fun j _ h2 => absurd h2 (Nat.not_lt_zero _)) ⟨.bl true, H, I, rfl, q⟩
  | cons x r =>
    cases rv
    exact SeqAt.eq_list_lengthsAt pl.isList pl2.isList (by simp) (by omega) ⟨.bl false, H, I, rfl, q⟩
end EMT
namespace DL
open PySem PySem.Spec PyProof.Rows L2 GG DD PT
variable {K : KX}
def oEqMt : D2 := fun d e P => match d, e with
  | .tuple ds, .tuple [] => P (.bool ds.isEmpty)
  | _, _ => False
theorem ro_eqMt : RO K (EMT.rEqMt K) oEqMt := fun S H x y d e P Q _ hx hy h q => by
  unfold oEqMt at h
  split at h
  · obtain ⟨a, vs, rfl, k1, k2⟩ := da_tup hx
    obtain ⟨b, us, rfl, k3, k4⟩ := da_tup hy
    cases k4
    refine ⟨a, b, vs, rfl, rfl, k1, k3, q _ H _ h (Same.refl _) ?_⟩
    cases k2 with
    | nil => exact .bl _
    | cons _ _ => exact .bl _
  · exact h.elim
def oEqMtL : D2 := fun d e P => match d, e with
  | .list ds, .list [] => P (.bool ds.isEmpty)
  | _, _ => False
theorem ro_eqMtL : RO K (EMT.rEqMtL K) oEqMtL := fun S H x y d e P Q _ hx hy h q => by
  unfold oEqMtL at h
  split at h
  · obtain ⟨a, vs, rfl, k1, k2⟩ := da_list hx
    obtain ⟨b, us, rfl, k3, k4⟩ := da_list hy
    cases k4
    refine ⟨a, b, vs, rfl, rfl, sq k1, sq k3, q _ H _ h (Same.refl _) ?_⟩
    cases k2 with
    | nil => exact .bl _
    | cons _ _ => exact .bl _
  · exact h.elim
end DL

set_option Elab.async false
set_option linter.all false
set_option maxRecDepth 100000
set_option maxHeartbeats 4000000
/-! DLm: sorted of pairs (text, int). -/
namespace DL
open PySem PySem.Spec PyProof.Rows L2 GG DD PT
variable {K : KX}
def isSI : PyData → Bool
  | .tuple [.str _, .int _] => true
  | _ => false
theorem si_da {S : Addr → Prop} {H : Hp} {v : V} {d : PyData} (h : Da K (Hd S H) v d) (e : isSI d = true) : ∃ k : Str × Int, ∃ t, v = V.ref t ∧ SqT K H t [.str k.1, .int k.2] := by
  match d, h, e with
  | .tuple [.str x, .int i], h, _ =>
    obtain ⟨a, us, rfl, h3, h4⟩ := da_tup h
    cases h4 with
    | cons q1 h4 =>
      cases h4 with
      | cons q2 h4 =>
        cases h4
        cases q1
        cases q2
        exact ⟨(x, i), a, rfl, h3⟩
theorem DaAll.mem {H : Hp} : ∀ {vs : List V} {ds : List PyData}, DaAll K H vs ds → ∀ v ∈ vs, ∃ d ∈ ds, Da K H v d
  | _, _, .nil, v, m => by cases m
  | _, _, .cons h t, v, m => by
    rcases List.mem_cons.mp m with rfl | m
    · exact ⟨_, List.mem_cons_self, h⟩
    · obtain ⟨d, hd, h'⟩ := DaAll.mem t v m
      exact ⟨d, List.mem_cons_of_mem _ hd, h'⟩
theorem DaAll.perm {H : Hp} {ys vs : List V} (p : ys.Perm vs) : ∀ {ds : List PyData}, DaAll K H vs ds → ∃ es : List PyData, es.Perm ds ∧ DaAll K H ys es := by
  induction p with
  | nil => intro ds h; exact ⟨ds, List.Perm.refl _, h⟩
  | cons x p ih =>
    intro ds h
    cases h with
    | cons h t =>
      obtain ⟨es, pe, he⟩ := ih t
      exact ⟨_ :: es, pe.cons _, .cons h he⟩
  | swap x y l =>
    intro ds h
    cases h with
    | cons h1 t =>
      cases t with
      | cons h2 t => exact ⟨_, List.Perm.swap _ _ _, .cons h2 (.cons h1 t)⟩
  | trans p1 p2 ih1 ih2 =>
    intro ds h
    obtain ⟨es, pe, he⟩ := ih2 h
    obtain ⟨fs, pf, hf⟩ := ih1 he
    exact ⟨fs, pf.trans pe, hf⟩
noncomputable def kSI (K : PySem.W.Frag) (H : Hp) (v : V) : Str × Int := Classical.epsilon fun k : Str × Int => ∃ t, v = V.ref t ∧ SqT K H t [.str k.1, .int k.2]
def dSortSI (dl : DA) : DA := fun s P => dl s fun ds s1 => ds.all isSI = true ∧ ∀ es : List PyData, es.Perm ds → P es s1
theorem rf_sortSI {te : TE} {dl : DA} (h : RL K te dl) : RF K (tCB (SRT.rSortedSI K) (tCons te tNil)) (dSortSI dl) := fun C hC s P hd σ H Q R q =>
  rd_cb (rd_cons (h C hC s _ hd σ H _ R fun a vs H1 ds s1 hp R1 e hv => rd_nil (by
    obtain ⟨h1, h2⟩ := hp
    subst hC
    refine ⟨a, vs, kSI C.K H1, rfl, sq e, fun x m => ?_, fun ys p pm np => ?_⟩
    · obtain ⟨d, md, hd⟩ := hv.mem x m
      exact Classical.epsilon_spec (si_da hd (List.all_eq_true.mp h1 d md))
    · obtain ⟨es, pe, he⟩ := hv.perm pm
      exact q p _ H1 es s1 (h2 es pe) R1 np he)))
/-! ### list(range(n)) -/
def rRng1 : List V → Hp → VK → Prop := fun vs H Q => ∃ j, vs = [V.int j] ∧ ∀ p, H p = none → Q (.ref p) (upd H p (.rng 0 j))
def upToD (n : Nat) : List PyData := (List.range n).map fun i => .int (i : Nat)
theorem da_upToR {H : Hp} (n : Nat) : DaAll K H (RGL.upTo n) (upToD n) := by
  unfold RGL.upTo upToD
  generalize List.range n = l
  induction l with
  | nil => exact .nil
  | cons x l ih => exact .cons (.int _) ih
def dListRng (de : DE) : DA := fun s P => de s fun d s1 => match d with
  | .int j => 0 ≤ j ∧ j ≤ 1000 ∧ P (upToD j.toNat) s1
  | _ => False
theorem rf_listRng {te : TE} {de : DE} (h : RE K te de) : RF K (tCB RGL.rListRng (tCons (tCB rRng1 (tCons te tNil)) tNil)) (dListRng de) := fun C hC s P hd σ H Q R q =>
  rd_cb (rd_cons (rd_cb (rd_cons (h C hC s _ hd σ H _ R fun v H1 d s1 hp R1 hv => rd_nil (by
    cases d with
    | int j =>
      cases hv
      refine ⟨j, rfl, fun p np => rd_nil ⟨p, j.toNat, rfl, ?_, by omega, fun p' np' => q p' _ _ _ s1 hp.2.2 (R1.ext (same_upd np)) np' (da_upToR _)⟩⟩
      rw [Int.toNat_of_nonneg hp.1]
      exact upd_same
    | _ => exact hp.elim)))))
/-! ### {k: v, ..} -/
def XPs (C : DC) (trs : List (TE × TE)) (s : DSt) (P : List (PyData × PyData) → DSt → Prop) : Prop := ∀ (σ : L2.St) (H : Hp) (Q : List (V × V) → Hp → Prop), Rl C σ H s →
  (∀ ps H' ds s', P ds s' → Rl C σ H' s' → DaAll C.K (Hd (Sof C σ s'.sl) H') (ps.map Prod.fst) (ds.map Prod.fst) → DaAll C.K (Hd (Sof C σ s'.sl) H') (ps.map Prod.snd) (ds.map Prod.snd) → Q ps H') → tPairs trs σ H Q
def RPs (K : KX) (trs : List (TE × TE)) (dp : DK) : Prop := ∀ C : DC, C.K = K → ∀ s P, dp s P → XPs C trs s P
def dPsNil : DK := fun s P => P [] s
def dPsCons (dk dv : DE) (dp : DK) : DK := fun s P => dk s fun x s1 => dv s1 fun y s2 => dp s2 fun ds s3 => P ((x, y) :: ds) s3
theorem rps_nil : RPs K [] dPsNil := fun C hC s P hd σ H Q R q => q [] H [] s hd R .nil .nil
theorem rps_cons {tk tv : TE} {trs : List (TE × TE)} {dk dv : DE} {dp : DK} (h1 : RE K tk dk) (h2 : RE K tv dv) (hr : RPs K trs dp) : RPs K ((tk, tv) :: trs) (dPsCons dk dv dp) := fun C hC s P hd σ H Q R q =>
  h1 C hC s _ hd σ H _ R fun v H1 x s1 hp R1 hv => h2 (C.keep v x) hC s1 _ hp σ H1 _ (R1.keep hv) fun w H2 y s2 hp R2 hw => hr ((C.keep v x).keep w y) hC s2 _ hp σ H2 _ (R2.keep hw) fun ps H3 ds s3 hp R3 k1 k2 => by
    obtain ⟨R4, hw'⟩ := R3.kept
    obtain ⟨R5, hv'⟩ := R4.kept
    exact q ((v, w) :: ps) H3 ((x, y) :: ds) s3 hp R5 (.cons hv' k1) (.cons hw' k2)
def keysD : List (PyData × PyData) → Option (List (L2.Key × PyData))
  | [] => some []
  | (k, d) :: r => match kOf k, keysD r with
    | some k', some r' => some ((k', d) :: r')
    | _, _ => none
theorem keys_da {H : Hp} : ∀ {ps : List (V × V)} {ds : List (PyData × PyData)} {ks : List (L2.Key × PyData)}, DaAll K H (ps.map Prod.fst) (ds.map Prod.fst) → DaAll K H (ps.map Prod.snd) (ds.map Prod.snd) → keysD ds = some ks →
    ∃ kvs : List (L2.Key × V), ps = kvs.map (fun kv => (kV kv.1, kv.2)) ∧ kvs.length = ds.length ∧ Paired (fun (a : L2.Key × V) (b : L2.Key × PyData) => a.1 = b.1 ∧ Da K H a.2 b.2) kvs ks
  | [], [], _, _, _, e => by
    cases e
    exact ⟨[], rfl, rfl, .nil⟩
  | [], _ :: _, _, h, _, _ => by cases h
  | _ :: _, [], _, h, _, _ => by cases h
  | (v, w) :: ps, (x, y) :: ds, ks, h1, h2, e => by
    cases h1 with
    | cons a1 a2 =>
      cases h2 with
      | cons b1 b2 =>
        unfold keysD at e
        cases e1 : kOf x with
        | none => rw [e1] at e; cases e
        | some k' =>
          cases e2 : keysD ds with
          | none => rw [e1, e2] at e; cases e
          | some r' =>
            rw [e1, e2] at e
            cases e
            obtain ⟨kvs, rfl, hl, hp⟩ := keys_da a2 b2 e2
            have e3 := key_v a1 e1
            have e3 : v = kV k' := e3
            subst e3
            exact ⟨(k', w) :: kvs, rfl, by simp [hl], .cons ⟨rfl, b1⟩ hp⟩
theorem upd_del {H : Hp} {L : Addr} {o : HO} : upd (del H L) L o = upd H L o := by
  funext b
  by_cases e : b = L
  · subst e
    rw [upd_same, upd_same]
  · rw [upd_ne e, upd_ne e, del_ne e]
def dDisp (dp : DK) : DK := fun s P => dp s fun ds s1 => ds.length ≤ 15 ∧ ∃ ks, keysD ds = some ks ∧ P (mergeD [] ks) s1
theorem rd_disp {trs : List (TE × TE)} {dp : DK} (h : RPs K trs dp) : RD K (tDisp trs) (dDisp dp) := fun C hC s P hd σ H Q R q p np => by
  obtain ⟨n1, n2⟩ := R.new np
  have nM : ¬ Mu C.W p := fun z => n1 (.inr (.inl z))
  have R1 : Rl ((C.hide p).pin p (.dK [])) σ (upd H p (.dK [])) s := (R.hidden np).pin (.inr rfl) nM upd_same
  refine h ((C.hide p).pin p (.dK [])) hC s _ hd σ _ _ R1 fun ps H2 ds s2 hp R2 k1 k2 => ⟨R2.unpin.2, ?_⟩
  obtain ⟨h15, ks, hk, hp⟩ := hp
  obtain ⟨kvs, e, hl, pr⟩ := keys_da k1 k2 hk
  obtain ⟨R3, hs⟩ := R2.unpin.1.leave (fun z => n1 (.inl z)) nM n2 fun a u z => (R.fz a u z).1
  refine ⟨kvs, e, by omega, ?_⟩
  have hq := q p (mergeK [] kvs) (del H2 p) (mergeD [] ks) s2 hp R3 (if_pos rfl) ((merge_da pr .nil).of hs)
  rw [upd_del] at hq
  exact hq
end DL

set_option Elab.async false
set_option linter.all false
set_option maxRecDepth 100000
set_option maxHeartbeats 4000000
/-! LZ: list(zip(xs, ys)), two lists. -/
namespace LZ
open PySem PyProof.Rows L2
section
variable {prog : Program} {w : World} {A : Around} {E : Value → Shared → Prop} {s : Shared}
/-- the zip before its first pair, or with a pair out that is kept -/
def ZSt (h : Heap) (z TI TO i1 i2 : Addr) : Prop := (IsZip h z TI TO .none ∧ ∃ a b, IsPair h TO a b) ∨ ∃ (T : Addr) (f : Bool) (oT : Obj), IsZipHeld h z TI TO T f ∧ h.get? T = some oT ∧ T ≠ z ∧ T ≠ TO ∧ T ≠ i1 ∧ T ≠ i2
theorem next_item {z TI TO i1 i2 l1 l2 : Addr} {k1 k2 : Nat} {xs ys : Array Value} {x y : Value} {Q : Option Value → Shared → Prop} (D : ZipApart z TI TO i1 i2 l1 l2)
    (hz : ZSt s.heap z TI TO i1 i2) (hTI : IsPair s.heap TI (.ref i1) (.ref i2))
    (h1 : s.heap.IsListIter i1 l1 k1) (h2 : s.heap.IsListIter i2 l2 k2) (hl1 : s.heap.IsList l1 xs) (hl2 : s.heap.IsList l2 ys) (hx : xs[k1]? = some x) (hy : ys[k2]? = some y) (hTO : TO < s.heap.objs.size)
    (hQ : ∀ h', ZSt h' z TI TO i1 i2 → h'.IsListIter i1 l1 (k1 + 1) → h'.IsListIter i2 l2 (k2 + 1) → IsPair h' s.heap.objs.size x y → h'.objs.size = s.heap.objs.size + 1 →
      (∀ c o, c ≠ z → c ≠ TO → c ≠ i1 → c ≠ i2 → s.heap.get? c = some o → h'.get? c = some o) → Q (some (.ref s.heap.objs.size)) { s with heap := h' }) :
    wpAny (model prog w) A (pyNext (.ref z)) Q E s := by
  have hi1 : i1 < s.heap.objs.size := by obtain ⟨_, e, _⟩ := h1; exact Heap.lt_size e
  have hi2 : i2 < s.heap.objs.size := by obtain ⟨_, e, _⟩ := h2; exact Heap.lt_size e
  rcases hz with ⟨hz, a, b, hT⟩ | ⟨T, f, oT, hz, hT, t1, t2, t3, t4⟩
  · have hzl : z < s.heap.objs.size := Heap.lt_size hz
    exact wpAny_pyNext_zip_item D hz hTI hT h1 h2 hl1 hl2 hx hy fun h' a1 a2 a3 a4 a5 a6 hk =>
      hQ h' (.inr ⟨s.heap.objs.size, false, _, a1, a5, Nat.ne_of_gt hzl, Nat.ne_of_gt hTO, Nat.ne_of_gt hi1, Nat.ne_of_gt hi2⟩) a3 a4 a5 a6 hk
  · exact wpAny_pyNext_zip_item_held D hz hT hTI h1 h2 hl1 hl2 hx hy fun h' a1 a3 a4 a5 a6 hk =>
      hQ h' (.inr ⟨T, true, oT, a1, hk T oT t1 t3 t4 hT, t1, t2, t3, t4⟩) a3 a4 a5 a6 fun c o c1 _ c3 c4 e => hk c o c1 c3 c4 e
theorem next_end {z TI TO i1 i2 l1 l2 : Addr} {k1 k2 : Nat} {xs ys : Array Value} {Q : Option Value → Shared → Prop} (hh : A.handled = none) (D : ZipApart z TI TO i1 i2 l1 l2)
    (hz : ZSt s.heap z TI TO i1 i2) (hTI : IsPair s.heap TI (.ref i1) (.ref i2))
    (h1 : s.heap.IsListIter i1 l1 k1) (h2 : s.heap.IsListIter i2 l2 k2) (hl1 : s.heap.IsList l1 xs) (hl2 : s.heap.IsList l2 ys) (hend : xs[k1]? = none ∨ ys[k2]? = none)
    (hQ : ∀ h', (∀ c o, c ≠ z → c ≠ TO → c ≠ i1 → c ≠ i2 → s.heap.get? c = some o → h'.get? c = some o) → Q none { s with heap := h' }) :
    wpAny (model prog w) A (pyNext (.ref z)) Q E s := by
  rcases hz with ⟨hz, a, b, hT⟩ | ⟨T, f, oT, hz, hT, t1, t2, t3, t4⟩
  · exact wpAny_pyNext_zip_end hh D hz hTI hT h1 h2 hl1 hl2 hend hQ
  · exact wpAny_pyNext_zip_end_held hh D hz hT hTI h1 h2 hl1 hl2 hend fun h' hk => hQ h' fun c o c1 _ c3 c4 e => hk c o c1 c3 c4 e
theorem ZSt.at {h h' : Heap} {z TI TO i1 i2 : Addr} (st : ZSt h z TI TO i1 i2) {S : Addr} (hz : z ≠ S) (hTO : TO ≠ S) (hT : ∀ o, h.get? S = some o → ∃ u, h'.get? S = some u) (k : ∀ b o, b ≠ S → h.get? b = some o → h'.get? b = some o) : ZSt h' z TI TO i1 i2 := by
  rcases st with ⟨q1, a, b, q2⟩ | ⟨T, f, oT, q1, q2, t⟩
  · exact .inl ⟨k _ _ hz q1, a, b, k _ _ hTO q2⟩
  · by_cases e : T = S
    · subst e
      obtain ⟨u, hu⟩ := hT _ q2
      exact .inr ⟨T, f, u, k _ _ hz q1, hu, t⟩
    · exact .inr ⟨T, f, oT, k _ _ hz q1, k _ _ e q2, t⟩
theorem nd_push {acc : List Value} {u : Value} (nd : ∀ (j j' : Nat) (v : Value), acc[j]? = some v → acc[j']? = some v → j = j') (hu : ∀ (j : Nat) (v : Value), acc[j]? = some v → v ≠ u) :
    ∀ (j j' : Nat) (v : Value), (acc ++ [u])[j]? = some v → (acc ++ [u])[j']? = some v → j = j' := by
  have key : ∀ (j : Nat) (v : Value), (acc ++ [u])[j]? = some v → (j < acc.length ∧ acc[j]? = some v) ∨ (j = acc.length ∧ v = u) := fun j v h => by
    by_cases hj : j < acc.length
    · rw [List.getElem?_append_left hj] at h
      exact .inl ⟨hj, h⟩
    · rw [List.getElem?_append_right (by omega)] at h
      cases e : j - acc.length with
      | zero =>
        rw [e] at h
        exact .inr ⟨by omega, (Option.some.inj h).symm⟩
      | succ k => rw [e] at h; cases h
  intro j j' v h h'
  rcases key j v h with ⟨a, b⟩ | ⟨a, b⟩ <;> rcases key j' v h' with ⟨a', b'⟩ | ⟨a', b'⟩
  · exact nd j j' v b b'
  · exact absurd b' (hu j v b)
  · exact absurd b (hu j' v b')
  · omega
structure ZL (h0 : Heap) (S z TI TO i1 i2 l1 l2 : Addr) (xs ys : Array Value) (i : Nat) (acc : List Value) (h : Heap) : Prop where
  st : ZSt h z TI TO i1 i2
  ti : IsPair h TI (.ref i1) (.ref i2)
  to : TO < h.objs.size
  h1 : h.IsListIter i1 l1 i
  h2 : h.IsListIter i2 l2 i
  a1 : h.IsList l1 xs
  a2 : h.IsList l2 ys
  s : ∃ c, h.get? S = some { cls := .type "list", dict := none, data := .seq acc.toArray c, slots := #[] }
  len : acc.length = i
  pr : ∀ (j : Nat) (v : Value), acc[j]? = some v → ∃ (p : Addr) (x y : Value), v = Value.ref p ∧ xs[j]? = some x ∧ ys[j]? = some y ∧ IsPair h p x y ∧ (p ≠ S ∧ p ≠ z ∧ p ≠ TO ∧ p ≠ i1 ∧ p ≠ i2) ∧ h0.objs.size ≤ p
  old : ∀ b o, b ≠ S → b ≠ z → b ≠ TO → b ≠ i1 → b ≠ i2 → h0.get? b = some o → h.get? b = some o
  nd : ∀ (j j' : Nat) (v : Value), acc[j]? = some v → acc[j']? = some v → j = j'
  sz : h0.objs.size ≤ h.objs.size
/-- the end: the list stands, its pairs stand -/
structure ZE (h0 : Heap) (S z TO i1 i2 : Addr) (xs ys : Array Value) (acc : List Value) (h : Heap) : Prop where
  s : ∃ c, h.get? S = some { cls := .type "list", dict := none, data := .seq acc.toArray c, slots := #[] }
  len : acc.length = min xs.size ys.size
  pr : ∀ (j : Nat) (v : Value), acc[j]? = some v → ∃ (p : Addr) (x y : Value), v = Value.ref p ∧ xs[j]? = some x ∧ ys[j]? = some y ∧ IsPair h p x y ∧ (p ≠ S ∧ p ≠ z ∧ p ≠ TO ∧ p ≠ i1 ∧ p ≠ i2) ∧ h0.objs.size ≤ p
  old : ∀ b o, b ≠ S → b ≠ z → b ≠ TO → b ≠ i1 → b ≠ i2 → h0.get? b = some o → h.get? b = some o
  nd : ∀ (j j' : Nat) (v : Value), acc[j]? = some v → acc[j']? = some v → j = j'
structure SAp (S z TI TO i1 i2 l1 l2 : Addr) : Prop where
  z : z ≠ S
  TI : TI ≠ S
  TO : TO ≠ S
  i1 : i1 ≠ S
  i2 : i2 ≠ S
  l1 : l1 ≠ S
  l2 : l2 ≠ S
theorem zip_loop {h0 : Heap} {S z TI TO i1 i2 l1 l2 : Addr} {xs ys : Array Value} {res : Value} {Rs : Result → Shared → Prop} (hh : A.handled = none) (D : ZipApart z TI TO i1 i2 l1 l2) (ap : SAp S z TI TO i1 i2 l1 l2) (hx : xs.size ≤ sizeLine)
    (hd : ∀ acc h', ZE h0 S z TO i1 i2 xs ys acc h' → Rs (.ok (.ret res)) { s with heap := h' }) :
    ∀ (m i : Nat) (acc : List Value) (h : Heap), m + i = min xs.size ys.size → ZL h0 S z TI TO i1 i2 l1 l2 xs ys i acc h → codeAny (model prog w) A (.builtin "list.extend.loop" ⟨[.ref S, .ref z, res], []⟩) Rs { s with heap := h } := by
  intro m
  induction m with
  | zero =>
    intro i acc h hm J
    refine codeAny_builtin PySem.F.entry_extend_loop ?_
    rw [Around.under_plainId PySem.F.plain_extend_loop _]
    show wpAny _ A.in1 (pyNext (.ref z) >>= _) _ _ _
    have hend : xs[i]? = none ∨ ys[i]? = none := by
      rcases Nat.le_total xs.size ys.size with q | q
      · exact .inl (by rw [Array.getElem?_eq_none]; omega)
      · exact .inr (by rw [Array.getElem?_eq_none]; omega)
    refine wpAny_bind (next_end (s := { s with heap := h }) hh D J.st J.ti J.h1 J.h2 J.a1 J.a2 hend fun h' hk => wpAny_pure (hd acc h' ?_))
    obtain ⟨c, hc⟩ := J.s
    refine ⟨⟨c, hk _ _ ap.z.symm ap.TO.symm ap.i1.symm ap.i2.symm hc⟩, by rw [J.len]; omega, fun j v hv => ?_, fun b o b1 b2 b3 b4 b5 e => hk b o b2 b3 b4 b5 (J.old b o b1 b2 b3 b4 b5 e), J.nd⟩
    obtain ⟨p, x, y, e1, e2, e3, e4, e5, e6⟩ := J.pr j v hv
    exact ⟨p, x, y, e1, e2, e3, hk _ _ e5.2.1 e5.2.2.1 e5.2.2.2.1 e5.2.2.2.2 e4, e5, e6⟩
  | succ m ih =>
    intro i acc h hm J
    refine codeAny_builtin PySem.F.entry_extend_loop ?_
    rw [Around.under_plainId PySem.F.plain_extend_loop _]
    show wpAny _ A.in1 (pyNext (.ref z) >>= _) _ _ _
    have l1 : i < xs.size := by omega
    have l2 : i < ys.size := by omega
    refine wpAny_bind (next_item (s := { s with heap := h }) D J.st J.ti J.h1 J.h2 J.a1 J.a2 (Array.getElem?_eq_getElem l1) (Array.getElem?_eq_getElem l2) J.to fun h' st' h1' h2' hp hsz hk => ?_)
    show wpAny _ A.in1 (updateSeq S (·.push (.ref h.objs.size)) >>= _) _ _ _
    obtain ⟨c, hc⟩ := J.s
    have hS := hk _ _ ap.z.symm ap.TO.symm ap.i1.symm ap.i2.symm hc
    have lS : S < h.objs.size := Heap.lt_size hc
    refine wpAny_bind (wpAny_updateSeq hS rfl (wpAny_pure ⟨plainId_quiet PySem.F.plain_extend_loop _, ?_⟩) (by rw [List.size_toArray, J.len]; omega) (by show (acc.toArray.push _).size ≤ sizeLine + 1; rw [Array.size_push, List.size_toArray, J.len]; omega))
    have hS2 := Heap.get?_update_self (Obj.mapSeq (·.push (Value.ref h.objs.size))) hS rfl
    have oth : ∀ b o, b ≠ S → h'.get? b = some o → (h'.update S (Obj.mapSeq (·.push (Value.ref h.objs.size)))).get? b = some o := fun b o hb e => (Heap.get?_update_other _ _ (Ne.symm hb)).trans e
    have keep : ∀ b o, b ≠ S → b ≠ z → b ≠ TO → b ≠ i1 → b ≠ i2 → h.get? b = some o → (h'.update S (Obj.mapSeq (·.push (Value.ref h.objs.size)))).get? b = some o := fun b o q1 q2 q3 q4 q5 e => oth b o q1 (hk b o q2 q3 q4 q5 e)
    have usz : (h'.update S (Obj.mapSeq (·.push (Value.ref h.objs.size)))).objs.size = h'.objs.size := (Heap.SameBut.update ..).1
    have lz : z < h.objs.size := by
      rcases J.st with ⟨q, _⟩ | ⟨_, _, _, q, _⟩
      · exact Heap.lt_size q
      · exact Heap.lt_size q
    have li1 : i1 < h.objs.size := by obtain ⟨_, e, _⟩ := J.h1; exact Heap.lt_size e
    have li2 : i2 < h.objs.size := by obtain ⟨_, e, _⟩ := J.h2; exact Heap.lt_size e
    have lto := J.to
    refine ih (i + 1) (acc ++ [.ref h.objs.size]) _ (by omega) ⟨st'.at ap.z ap.TO (fun _ _ => ⟨_, hS2⟩) oth, keep _ _ ap.TI D.TIz D.TITO D.TIi1 D.TIi2 J.ti, by rw [usz, hsz]; exact Nat.lt_succ_of_lt lto, h1'.at fun o e => oth _ o ap.i1 e, h2'.at fun o e => oth _ o ap.i2 e,
      J.a1.at fun o e => keep _ o ap.l1 D.l1z D.l1TO D.l1i1 D.l1i2 e, J.a2.at fun o e => keep _ o ap.l2 D.l2z D.l2TO D.l2i1 D.l2i2 e, ⟨_, by rw [hS2]; simp [Obj.mapSeq]; rfl⟩, by simp [J.len], fun j v hv => ?_, fun b o b1 b2 b3 b4 b5 e => keep b o b1 b2 b3 b4 b5 (J.old b o b1 b2 b3 b4 b5 e), nd_push J.nd fun j v hv e => (by
        obtain ⟨p, x, y, e1, _, _, e4, _⟩ := J.pr j v hv
        rw [e1] at e
        have lp := Heap.lt_size e4
        rw [Value.ref.inj e] at lp
        exact Nat.lt_irrefl _ lp), by rw [usz, hsz]; exact Nat.le_succ_of_le J.sz⟩
    by_cases hj : j < acc.length
    · rw [List.getElem?_append_left hj] at hv
      obtain ⟨p, x, y, e1, e2, e3, e4, e5, e6⟩ := J.pr j v hv
      exact ⟨p, x, y, e1, e2, e3, keep _ _ e5.1 e5.2.1 e5.2.2.1 e5.2.2.2.1 e5.2.2.2.2 e4, e5, e6⟩
    · have ej : j = i := by
        have z1 : j < (acc ++ [Value.ref h.objs.size]).length := by
          rcases Nat.lt_or_ge j (acc ++ [Value.ref h.objs.size]).length with q | q
          · exact q
          · rw [List.getElem?_eq_none q] at hv; cases hv
        have z2 := J.len
        rw [List.length_append, List.length_singleton] at z1
        omega
      subst ej
      rw [List.getElem?_append_right (by rw [J.len]; exact Nat.le_refl _), J.len, Nat.sub_self] at hv
      cases hv
      exact ⟨h.objs.size, _, _, rfl, Array.getElem?_eq_getElem l1, Array.getElem?_eq_getElem l2, oth _ _ (Nat.ne_of_gt lS) hp, ⟨Nat.ne_of_gt lS, Nat.ne_of_gt lz, Nat.ne_of_gt lto, Nat.ne_of_gt li1, Nat.ne_of_gt li2⟩, J.sz⟩
theorem nolen_zip : typeLookup (.type "zip") "__len__" = pure none := by rw [typeLookup_type, builtinLookup_eq_fast]; kernel_rfl
theorem nohint_zip : typeLookup (.type "zip") "__length_hint__" = pure none := by rw [typeLookup_type, builtinLookup_eq_fast]; kernel_rfl
theorem call_list_zip {z TI TO i1 i2 l1 l2 : Addr} {xs ys : Array Value} {a b : Value} {Q : Value → Shared → Prop} (hh : A.handled = none) (D : ZipApart z TI TO i1 i2 l1 l2) (hx : xs.size ≤ sizeLine)
    (hz : IsZip s.heap z TI TO .none) (hTI : IsPair s.heap TI (.ref i1) (.ref i2)) (hTO : IsPair s.heap TO a b) (h1 : s.heap.IsListIter i1 l1 0) (h2 : s.heap.IsListIter i2 l2 0) (hl1 : s.heap.IsList l1 xs) (hl2 : s.heap.IsList l2 ys)
    (hQ : ∀ acc h', ZE s.heap s.heap.objs.size z TO i1 i2 xs ys acc h' → Q (.ref s.heap.objs.size) { s with heap := h' }) :
    wpAny (model prog w) A (call (.type "list") [.ref z]) Q E s := by
  have lz : z < s.heap.objs.size := Heap.lt_size hz
  have lTI : TI < s.heap.objs.size := Heap.lt_size hTI
  have lTO : TO < s.heap.objs.size := Heap.lt_size hTO
  have li1 : i1 < s.heap.objs.size := by obtain ⟨_, e, _⟩ := h1; exact Heap.lt_size e
  have li2 : i2 < s.heap.objs.size := by obtain ⟨_, e, _⟩ := h2; exact Heap.lt_size e
  have ll1 : l1 < s.heap.objs.size := by obtain ⟨_, e, _⟩ := hl1; exact Heap.lt_size e
  have ll2 : l2 < s.heap.objs.size := by obtain ⟨_, e, _⟩ := hl2; exact Heap.lt_size e
  refine callType_codes (Q₁ := fun obj s₁ => obj = .ref s.heap.objs.size ∧ s₁ = { s with heap := s.heap.push { cls := .type "list", data := .seq #[] } }) PySem.F.called_list (PySem.F.typeCall_list_1 _) PySem.F.entry_list_init
    (code_list_new _ ⟨rfl, rfl⟩) fun obj s₁ h₁ => ?_
  obtain ⟨rfl, rfl⟩ := h₁
  have hS : (s.heap.push { cls := .type "list", data := .seq #[] }).get? s.heap.objs.size = some { cls := .type "list", data := .seq #[] } := Heap.get?_push_size _ rfl
  refine ⟨⟨_, hS, rfl⟩, PySem.F.args_list_init_2 _ _, ?_⟩
  show wpAny _ _ (do let old ← Builtin.List.listItems (.ref s.heap.objs.size); Builtin.List.listUpdate (.ref s.heap.objs.size) (fun _ => #[]); letGo old.toList.reverse; Builtin.List.listExtendWith (.ref s.heap.objs.size) (.ref z) .none) _ _ _
  refine wpAny_bind ?_
  unfold Builtin.List.listItems
  refine wpAny_bind (wpAny_seqItems hS rfl (wpAny_pure ?_))
  show wpAny _ _ (updateSeq s.heap.objs.size (fun _ => #[]) >>= fun _ => letGo (#[] : Array Value).toList.reverse >>= fun _ => Builtin.List.listExtendWith (.ref s.heap.objs.size) (.ref z) .none) _ _ _
  refine wpAny_bind (wpAny_updateSeq hS rfl ?_)
  have hS₂ := Heap.get?_update_self (Obj.mapSeq (fun _ => (#[] : Array Value))) hS rfl
  have k₂ : ∀ b o, s.heap.get? b = some o → ((s.heap.push { cls := .type "list", data := .seq #[] }).update s.heap.objs.size (Obj.mapSeq (fun _ => (#[] : Array Value)))).get? b = some o :=
    fun b o e => (Heap.get?_update_other _ _ (Nat.ne_of_gt (Heap.lt_size e))).trans (Heap.get?_push_of_some _ e)
  have z₂ : ((s.heap.push { cls := .type "list", data := .seq #[] }).update s.heap.objs.size (Obj.mapSeq (fun _ => (#[] : Array Value)))).objs.size = s.heap.objs.size + 1 := by rw [(Heap.SameBut.update ..).1, Heap.size_push]
  refine wpAny_bind (wpAny_letGo ?_)
  generalize (s.heap.push { cls := .type "list", data := .seq #[] }).update s.heap.objs.size (Obj.mapSeq (fun _ => (#[] : Array Value))) = hh₂ at hS₂ k₂ z₂
  have hT : Shared.TypeIs { s with heap := hh₂ } (.ref z) "zip" := ⟨_, k₂ _ _ hz, rfl⟩
  unfold Builtin.List.listExtendWith
  refine wpAny_bind (wpAny_typeOf hT ?_)
  have e1 : Builtin.List.listSameRef (.ref s.heap.objs.size) (.ref z) = false := by simp [Builtin.List.listSameRef, Nat.ne_of_gt lz]
  have e2 : (Value.type "zip" == Value.type "list") = false := by decide
  have e3 : (Value.type "zip" == Value.type "tuple") = false := by decide
  simp only [e1, e2, e3, Bool.or_false, Bool.false_eq_true, if_false]
  refine wpAny_bind (wpAny_pyIter_zip (s := { s with heap := hh₂ }) (k₂ _ _ hz) ?_)
  refine wpAny_bind (wpAny_holding ?_)
  unfold Builtin.List.listLengthHint
  refine wpAny_bind (wpAny_specialOf hT nolen_zip ?_)
  show wpAny _ _ (specialOf (Value.ref z) (Str.ofString "__length_hint__") >>= _) _ _ _
  refine wpAny_bind (wpAny_specialOf hT nohint_zip ?_)
  refine wpAny_pure ?_
  show wpAny _ _ (rule "list.extend.makes-room" >>= fun _ => Builtin.List.listTouch (.ref s.heap.objs.size) >>= fun _ =>
    again (.builtin "list.extend.loop" ⟨[.ref s.heap.objs.size, .ref z, .none], []⟩)) _ _ _
  refine wpAny_bind (wpAny_rule ?_)
  refine wpAny_bind ?_
  show wpAny _ _ (updateSeq s.heap.objs.size (·.push .none) >>= fun _ => updateSeq s.heap.objs.size (·.pop)) _ _ _
  refine wpAny_bind (wpAny_updateSeq hS₂ rfl ?_)
  have hS₃ := Heap.get?_update_self (Obj.mapSeq (·.push Value.none)) hS₂ rfl
  refine wpAny_updateSeq hS₃ rfl ?_
  have hS₄ := Heap.get?_update_self (Obj.mapSeq (·.pop)) hS₃ rfl
  have k₄ : ∀ b o, s.heap.get? b = some o → ((hh₂.update s.heap.objs.size (Obj.mapSeq (·.push Value.none))).update s.heap.objs.size (Obj.mapSeq (·.pop))).get? b = some o :=
    fun b o e => (Heap.get?_update_other _ _ (Nat.ne_of_gt (Heap.lt_size e))).trans ((Heap.get?_update_other _ _ (Nat.ne_of_gt (Heap.lt_size e))).trans (k₂ b o e))
  have z₄ : ((hh₂.update s.heap.objs.size (Obj.mapSeq (·.push Value.none))).update s.heap.objs.size (Obj.mapSeq (·.pop))).objs.size = s.heap.objs.size + 1 := by rw [(Heap.SameBut.update ..).1, (Heap.SameBut.update ..).1, z₂]
  refine wpAny_pure ⟨plainId_quiet PySem.F.plain_extend_loop _, zip_loop (s := s) (h0 := s.heap) (A := A.in1) hh D ⟨Nat.ne_of_lt lz, Nat.ne_of_lt lTI, Nat.ne_of_lt lTO, Nat.ne_of_lt li1, Nat.ne_of_lt li2, Nat.ne_of_lt ll1, Nat.ne_of_lt ll2⟩ hx (fun acc h' ze => ⟨rfl, hQ acc h' ze⟩) _ 0 [] _ rfl ?_⟩
  exact ⟨.inl ⟨k₄ _ _ hz, a, b, k₄ _ _ hTO⟩, k₄ _ _ hTI, by rw [z₄]; exact Nat.lt_succ_of_lt lTO, h1.at fun o e => k₄ _ o e, h2.at fun o e => k₄ _ o e, hl1.at fun o e => k₄ _ o e, hl2.at fun o e => k₄ _ o e, ⟨_, hS₄⟩, rfl, (fun j v hv => by simp at hv), fun b o _ _ _ _ _ e => k₄ b o e, (fun j j' v hv => by simp at hv), by rw [z₄]; exact Nat.le_succ _⟩
end
end LZ

set_option Elab.async false
set_option linter.all false
set_option maxRecDepth 100000
set_option maxHeartbeats 4000000
/-! LZP: list(zip(xs, ys)) as an expression. -/
namespace LZ
open PySem PySem.Spec PyProof.Rows L2
variable {X : Cx}
/-- things already laid are tracked -/
theorem takeF {pins : List (Addr × Obj)} {σ : L2.St} {H0 : Hp} {s : Shared} {h' : Heap} {tk : Nat} (G : Addr → HO) (I0 : Inv X pins σ H0 s) : ∀ (L : List Addr) (H1 : Hp), Inv X pins σ H1 { s with heap := h', toks := tk } →
    (∀ a ∈ L, s.heap.objs.size ≤ a ∧ (H1 a = none ∨ H1 a = some (G a)) ∧ ∀ H2, ObjOk X.prog X.w H2 h' a (G a)) →
    ∃ H2, Inv X pins σ H2 { s with heap := h', toks := tk } ∧ (∀ b o, H1 b = some o → H2 b = some o) ∧ (∀ a ∈ L, H2 a = some (G a)) ∧ ∀ b, b ∉ L → H2 b = H1 b
  | [], H1, I1, _ => ⟨H1, I1, fun _ _ e => e, (fun _ h => nomatch h), fun _ _ => rfl⟩
  | a :: L, H1, I1, h => by
    obtain ⟨hb, hnone, ok⟩ := h a (List.mem_cons_self ..)
    rcases hnone with hnone | hnone
    · have I2 : Inv X pins σ (upd H1 a (G a)) { s with heap := h', toks := tk } := I1.take (h' := h') (t' := tk) (fun b ob _ e => e) (I0.fpOk hb hnone) (ok _)
      obtain ⟨H2, I3, g, q, n⟩ := takeF G I0 L (upd H1 a (G a)) I2 fun c hc => by
        obtain ⟨c1, c2, c3⟩ := h c (List.mem_cons_of_mem _ hc)
        refine ⟨c1, ?_, c3⟩
        by_cases e : c = a
        · subst e
          exact .inr upd_same
        · rw [upd_ne e]
          exact c2
      refine ⟨H2, I3, fun b o e => g b o (by rw [upd_ne (ne_of_none e hnone)]; exact e), fun c hc => ?_, fun b hb' => ?_⟩
      · rcases List.mem_cons.mp hc with rfl | hc
        · exact g _ _ upd_same
        · exact q c hc
      · rw [List.mem_cons, not_or] at hb'
        rw [n b hb'.2, upd_ne hb'.1]
    · obtain ⟨H2, I3, g, q, n⟩ := takeF G I0 L H1 I1 fun c hc => h c (List.mem_cons_of_mem _ hc)
      refine ⟨H2, I3, g, fun c hc => ?_, fun b hb' => n b fun z => hb' (List.mem_cons_of_mem _ z)⟩
      rcases List.mem_cons.mp hc with rfl | hc
      · exact g _ _ hnone
      · exact q c hc
theorem vget : ∀ {xs : List V} {its : List Value} {j : Nat} {u : Value}, Vals xs its → its[j]? = some u → ∃ x, xs[j]? = some x ∧ RelV x u
  | _, _, _, _, .nil, h => by simp at h
  | _, _, 0, _, .cons r _, h => by
    cases h
    exact ⟨_, rfl, r⟩
  | _, _, j + 1, _, .cons _ t, h => by
    obtain ⟨x, e, r⟩ := vget (j := j) t (by simpa using h)
    exact ⟨x, by simpa using e, r⟩
/-- list(zip(a, b)) -/
def tListZip (K : PySem.W.Frag) (ta : TA) : TE := fun σ H Q => ta σ H fun vs H1 => ∃ a b xs ys, vs = [.ref a, .ref b] ∧ SqL K H1 a xs ∧ SqL K H1 b ys ∧
  ∀ (ps : List Addr) (H2 : Hp) (p : Addr), (∀ b o, H1 b = some o → H2 b = some o) → H2 p = none → ps.length = min xs.length ys.length →
    (∀ (j : Nat) (t : Addr), ps[j]? = some t → ∃ x y o, xs[j]? = some x ∧ ys[j]? = some y ∧ H2 t = some (.frz o (.tup [x, y])) ∧ o.dict = none ∧ H1 t = none) → Q (.ref p) (upd H2 p (.lst (ps.map V.ref)))
def adr : Value → Addr
  | .ref p => p
  | _ => 0
theorem pe_listZip {e e2 : Expr} {ta : TA} {p p2 pos pos2 : Pos} (hc : X.calm = true) (hg : Gl X "list") (hm : X.mg "list" = none) (hg2 : Gl X "zip") (hm2 : X.mg "zip" = none) (ha : PA X [e, e2] ta)
    (hs : starEach [e, e2] X.env = (false, eval e X.env) :: starEach [e2] X.env := by rfl) (hpl : (backTo pos2 (starEach [e2] X.env)).any (·.1) = false := by rfl)
    (hs1 : starEach [.Call (.Name "zip" p2) [e, e2] [] pos2] X.env = (false, eval (.Call (.Name "zip" p2) [e, e2] [] pos2) X.env) :: starEach [] X.env := by rfl) (hpl1 : (backTo pos (starEach [] X.env)).any (·.1) = false := by rfl) :
    PE X (.Call (.Name "list" p) [.Call (.Name "zip" p2) [e, e2] [] pos2] [] pos) (tListZip X.K ta) := by
  refine ⟨fun pins s σ H Q I h => ?_⟩
  refine wpAny_Call_Name_kw (ld_blt I hg hm (u := .type "list") (by decide +kernel) ?_)
  refine PyProof.Rows.callWith_type1 ?_ hs1 hpl1
  rw [hs1]
  show wpAny _ _ (spliced ((false, eval (.Call (.Name "zip" p2) [e, e2] [] pos2) X.env) :: backTo pos (starEach [] X.env))) _ _ s
  refine Calls.spliced_cons (Call_ (ld_blt I hg2 hm2 PyProof.Rows.boot_zip (PyProof.Rows.callWith_type1 (thn (ha.run pos2 pins s σ H _ I h) fun us s1 ⟨vs, H1, I1, r1, q1⟩ => ?_) hs hpl)))
  obtain ⟨a, b, xs, ys, ex, hqx, hqy, q⟩ := q1
  subst ex
  cases r1 with
  | cons r rr =>
    cases rr with
    | cons r' rr =>
      cases rr
      cases r
      cases r'
      obtain ⟨its, rv, p1, z1⟩ := I1.list hqx
      obtain ⟨its2, rv2, p3, z2⟩ := I1.list hqy
      have la : a < s1.heap.objs.size := p1.lt
      have lb : b < s1.heap.objs.size := p3.lt
      refine call_zip_2 p1.isList p3.isList fun h' hz hTI hTO h1 h2 hsz hk => Calls.spliced_nil ?_
      refine call_list_zip (s := { s1 with heap := h' }) (I1.ok.hd hc) (PySem.W.ktu_apart s1.heap.objs.size a b la lb) (by rw [List.size_toArray, ← rv.length]; exact z1) hz hTI hTO h1 h2 (p1.isList.at fun o e => hk _ o e) (p3.isList.at fun o e => hk _ o e) fun acc h2' ze => ?_
      have hk2 : ∀ c o, s1.heap.get? c = some o → h2'.get? c = some o := fun c o ec => by
        have lc := Heap.lt_size ec
        have le : ∀ k : Nat, c ≠ s1.heap.objs.size + k := fun k => Nat.ne_of_lt (Nat.lt_of_lt_of_le lc (Nat.le_add_right _ _))
        exact ze.old c o (by show c ≠ h'.objs.size; rw [hsz]; exact le 5) (le 4) (le 3) (le 0) (le 1) (hk c o ec)
      have I2 : Inv X pins σ H1 { s1 with heap := h2' } := I1.kept (t' := s1.toks) hk2
      have key : ∀ v, v ∈ acc → ∃ (j : Nat) (t : Addr) (x y : V) (u1 u2 : Value), v = .ref t ∧ acc[j]? = some v ∧ xs[j]? = some x ∧ ys[j]? = some y ∧ RelV x u1 ∧ RelV y u2 ∧ IsPair h2' t u1 u2 ∧ s1.heap.objs.size ≤ t ∧ t ≠ h'.objs.size := fun v hv => by
        obtain ⟨j, hj⟩ := List.mem_iff_getElem?.mp hv
        obtain ⟨t, u1, u2, e1, e2, e3, e4, e5, e6⟩ := ze.pr j v hj
        obtain ⟨x, e7, e8⟩ := vget rv (by simpa using e2)
        obtain ⟨y, e9, e10⟩ := vget rv2 (by simpa using e3)
        exact ⟨j, t, x, y, u1, u2, e1, hj, e7, e9, e8, e10, e4, Nat.le_trans (by rw [hsz]; exact Nat.le_add_right _ _) e6, e5.1⟩
      have key' : ∀ t : Addr, ∃ o : HO, Value.ref t ∈ acc → ∃ (j : Nat) (x y : V) (u1 u2 : Value), o = .frz { cls := .type "tuple", data := .seq #[u1, u2] } (.tup [x, y]) ∧ acc[j]? = some (.ref t) ∧ xs[j]? = some x ∧ ys[j]? = some y ∧ RelV x u1 ∧ RelV y u2 ∧ IsPair h2' t u1 u2 := fun t => by
        by_cases m : Value.ref t ∈ acc
        · obtain ⟨j, t', x, y, u1, u2, e0, e1, e2, e3, e4, e5, e6, _⟩ := key _ m
          cases e0
          exact ⟨_, fun _ => ⟨j, x, y, u1, u2, rfl, e1, e2, e3, e4, e5, e6⟩⟩
        · exact ⟨.lst [], fun z => absurd z m⟩
      obtain ⟨G, hG⟩ := Classical.axiomOfChoice key'
      have mem : ∀ t, t ∈ acc.map adr → Value.ref t ∈ acc := fun t ht => by
        obtain ⟨v, hv, e⟩ := List.mem_map.mp ht
        obtain ⟨_, t', _, _, _, _, e0, _⟩ := key v hv
        subst e0
        cases e
        exact hv
      have lo : ∀ t, t ∈ acc.map adr → s1.heap.objs.size ≤ t ∧ t ≠ h'.objs.size := fun t ht => by
        obtain ⟨_, t', _, _, _, _, e0, _, _, _, _, _, _, e7, e8⟩ := key _ (mem t ht)
        cases e0
        exact ⟨e7, e8⟩
      obtain ⟨H2, I3, g2, g3, g4⟩ := takeF (tk := s1.toks) G I1 (acc.map adr) H1 I2 fun t ht => by
        refine ⟨(lo t ht).1, .inl (I1.hok.fresh (lo t ht).1), fun H3 => ?_⟩
        obtain ⟨j, x, y, u1, u2, e0, e1, e2, e3, e4, e5, e6⟩ := hG t (mem t ht)
        rw [e0]
        exact ⟨e6, by rw [sizeLine_eq]; show 2 ≤ 16777216; decide, [u1, u2], .cons e4 (.cons e5 .nil), ⟨_, e6, rfl, _, rfl⟩⟩
      obtain ⟨c, hS⟩ := ze.s
      have l5 : s1.heap.objs.size ≤ h'.objs.size := by rw [hsz]; exact Nat.le_add_right _ _
      have hnp : H2 h'.objs.size = none := by
        rw [g4 _ fun z => (lo _ z).2 rfl]
        exact I1.hok.fresh l5
      have eacc : acc = (acc.map adr).map Value.ref := by
        rw [List.map_map]
        have e : acc.map (Value.ref ∘ adr) = acc.map id := List.map_congr_left fun v hv => by
          obtain ⟨_, t', _, _, _, _, e0, _⟩ := key v hv
          subst e0
          rfl
        rw [List.map_id] at e
        exact e.symm
      have vacc : Vals ((acc.map adr).map V.ref) acc := by
        have z := vals_refs (acc.map adr)
        rw [← eacc] at z
        exact z
      have hlen := ze.len
      have lx := rv.length
      have ly := rv2.length
      have I4 : Inv X pins σ (upd H2 h'.objs.size (.lst ((acc.map adr).map V.ref))) { s1 with heap := h2' } := I3.take (h' := h2') (t' := s1.toks) (fun b ob _ e => e) (I1.fpOk l5 hnp) ⟨by
        rw [List.length_map, List.length_map, hlen]
        simp only [List.size_toArray]
        omega, acc, c, vacc, hS⟩
      refine ⟨.ref h'.objs.size, _, I4, rfl, q (acc.map adr) H2 _ g2 hnp (by rw [List.length_map, hlen, lx, ly]; simp) fun j t ht => ?_⟩
      have hv : acc[j]? = some (.ref t) := by
        rw [eacc, List.getElem?_map, ht]
        rfl
      have hm : t ∈ acc.map adr := List.mem_of_getElem? ht
      obtain ⟨j', x, y, u1, u2, e0, e1, e2, e3, _⟩ := hG t (mem t hm)
      have ej := ze.nd j j' _ hv e1
      subst ej
      exact ⟨x, y, _, e2, e3, by rw [g3 t hm, e0], rfl, I1.hok.fresh (lo t hm).1⟩
end LZ

set_option Elab.async false
set_option linter.all false
set_option maxRecDepth 100000
set_option maxHeartbeats 4000000
/-! LZT: list(zip(xs, ys)), two tuples. -/
namespace LZT
open PySem PyProof.Rows L2 LZ
section
variable {prog : Program} {w : World} {A : Around} {E : Value → Shared → Prop} {s : Shared}
theorem nextHeld {z TI TO T i1 i2 l1 l2 : Addr} {f : Bool} {oT : Obj} {k1 k2 : Nat} {xs ys : Array Value} {x y : Value} {Q : Value → Shared → Prop} (D : ZipApart z TI TO i1 i2 l1 l2)
    (hz : IsZipHeld s.heap z TI TO T f) (hT : s.heap.get? T = some oT) (hTI : IsPair s.heap TI (.ref i1) (.ref i2)) (h1 : s.heap.IsTupleIter i1 l1 k1) (h2 : s.heap.IsTupleIter i2 l2 k2)
    (hl1 : s.heap.IsTuple l1 xs) (hl2 : s.heap.IsTuple l2 ys) (hx : xs[k1]? = some x) (hy : ys[k2]? = some y)
    (hQ : ∀ h', IsZipHeld h' z TI TO T true → h'.IsTupleIter i1 l1 (k1 + 1) → h'.IsTupleIter i2 l2 (k2 + 1) → IsPair h' s.heap.objs.size x y → h'.objs.size = s.heap.objs.size + 1 → (∀ c o, c ≠ z → c ≠ i1 → c ≠ i2 → s.heap.get? c = some o → h'.get? c = some o) → Q (.ref s.heap.objs.size) { s with heap := h' }) :
    wpAny (model prog w) A (Builtin.«zip.__next__» ⟨[.ref z], []⟩) (fun fin s' => ∃ v, fin = .done (.ret v) ∧ Q v s') E s := by
  show wpAny _ _ (field (.ref z) 2 >>= _) _ _ _; refine wpAny_bind (wpAny_field hz rfl (x := .bool false) rfl ?_)
  show wpAny _ _ (field (.ref z) 3 >>= _) _ _ _; refine wpAny_bind (wpAny_field hz rfl (x := .ref TI) rfl (wpAny_bind (wpAny_seqItems hTI rfl ?_)))
  show wpAny _ _ (Builtin.SmallTypes.ownedTupleIsFree (.ref z) >>= _) _ _ _; refine wpAny_bind (wpAny_tupleHeld_zip hz hT fun g1 hz1 b1 => ?_)
  simp only [Bool.false_eq_true, if_false]; refine wpAny_bind ?_; rw [← Array.forIn_toList]; simp only [List.forIn_cons, List.forIn_nil]
  refine wpAny_bind (wpAny_bind (wpAny_holding ?_)); show wpAny _ _ (Builtin.SmallTypes.nextOf (.ref i1) >>= _) _ _ _
  refine wpAny_bind (RZ.nextOf_tuple_item (s := { s with heap := g1 }) (h1.extBut b1.extBut D.i1z) (hl1.at fun o e => b1.extBut _ _ D.l1z e) hx fun g2 q1 b2 => wpAny_pure (wpAny_pure ?_))
  refine wpAny_bind (wpAny_bind (wpAny_holding ?_)); show wpAny _ _ (Builtin.SmallTypes.nextOf (.ref i2) >>= _) _ _ _
  refine wpAny_bind (RZ.nextOf_tuple_item (s := { s with heap := g2 }) ((h2.extBut b1.extBut D.i2z).extBut b2.extBut D.i12.symm) (hl2.at fun o e => b2.extBut _ _ D.l2i1 (b1.extBut _ _ D.l2z e)) hy fun g3 q2 b3 => wpAny_pure (wpAny_pure (wpAny_pure ?_)))
  show wpAny _ _ (newTuple [x, y] >>= _) _ _ _; refine wpAny_bind (wpAny_newTuple ?_)
  have hsz : g3.objs.size = s.heap.objs.size := by rw [b3.1, b2.1, b1.1]
  have hp : IsPair (g3.push { cls := .type "tuple", data := .seq #[x, y] }) g3.objs.size x y := Heap.get?_push_size _ rfl
  have h4 : (g3.push { cls := .type "tuple", data := .seq #[x, y] }).objs.size = g3.objs.size + 1 := Heap.size_push ..
  refine wpAny_pure ⟨_, rfl, ?_⟩; show Q (.ref g3.objs.size) _
  rw [hsz] at hp h4 ⊢
  refine hQ _ (Heap.get?_push_of_some _ (b3.extBut _ _ D.i2z.symm (b2.extBut _ _ D.i1z.symm hz1))) ((q1.extBut b3.extBut D.i12).at fun o e => Heap.get?_push_of_some _ e) (q2.at fun o e => Heap.get?_push_of_some _ e) hp h4 fun c o c1 c2 c3 e => Heap.get?_push_of_some _ (b3.extBut _ _ c3 (b2.extBut _ _ c2 (b1.extBut _ _ c1 e)))
theorem endHeld {z TI TO T i1 i2 l1 l2 : Addr} {f : Bool} {oT : Obj} {k1 k2 : Nat} {xs ys : Array Value} {Q : Fin → Shared → Prop} (hh : A.handled = none) (D : ZipApart z TI TO i1 i2 l1 l2)
    (hz : IsZipHeld s.heap z TI TO T f) (hT : s.heap.get? T = some oT) (hTI : IsPair s.heap TI (.ref i1) (.ref i2)) (h1 : s.heap.IsTupleIter i1 l1 k1) (h2 : s.heap.IsTupleIter i2 l2 k2)
    (hl1 : s.heap.IsTuple l1 xs) (hl2 : s.heap.IsTuple l2 ys) (hend : xs[k1]? = none ∨ ys[k2]? = none)
    (hE : ∀ h' e, (∀ c o, c ≠ z → c ≠ i1 → c ≠ i2 → s.heap.get? c = some o → h'.get? c = some o) → (∃ o, h'.get? e = some o ∧ o.cls = .type "StopIteration") → E (.ref e) { s with heap := h' }) :
    wpAny (model prog w) A (Builtin.«zip.__next__» ⟨[.ref z], []⟩) Q E s := by
  show wpAny _ _ (field (.ref z) 2 >>= _) _ _ _; refine wpAny_bind (wpAny_field hz rfl (x := .bool false) rfl ?_)
  show wpAny _ _ (field (.ref z) 3 >>= _) _ _ _; refine wpAny_bind (wpAny_field hz rfl (x := .ref TI) rfl (wpAny_bind (wpAny_seqItems hTI rfl ?_)))
  show wpAny _ _ (Builtin.SmallTypes.ownedTupleIsFree (.ref z) >>= _) _ _ _; refine wpAny_bind (wpAny_tupleHeld_zip hz hT fun g1 hz1 b1 => ?_)
  simp only [Bool.false_eq_true, if_false]; refine wpAny_bind ?_; rw [← Array.forIn_toList]; simp only [List.forIn_cons, List.forIn_nil]
  refine wpAny_bind (wpAny_bind (wpAny_holding ?_)); show wpAny _ _ (Builtin.SmallTypes.nextOf (.ref i1) >>= _) _ _ _
  have c1 : g1.IsTuple l1 xs := hl1.at fun o e => b1.extBut _ _ D.l1z e
  cases hx : xs[k1]? with
  | none => exact wpAny_bind (RZ.nextOf_tuple_end (s := { s with heap := g1 }) hh (h1.extBut b1.extBut D.i1z) c1 hx fun g2 e b2 he => hE g2 e (fun c o q1 q2 _ x => b2 _ _ q2 (b1.extBut _ _ q1 x)) he)
  | some x =>
    have hy : ys[k2]? = none := hend.elim (fun q => by rw [hx] at q; cases q) id
    refine wpAny_bind (RZ.nextOf_tuple_item (s := { s with heap := g1 }) (h1.extBut b1.extBut D.i1z) c1 hx fun g2 q1 b2 => wpAny_pure (wpAny_pure ?_))
    refine wpAny_bind (wpAny_bind (wpAny_holding ?_)); show wpAny _ _ (Builtin.SmallTypes.nextOf (.ref i2) >>= _) _ _ _
    exact wpAny_bind (RZ.nextOf_tuple_end (s := { s with heap := g2 }) hh ((h2.extBut b1.extBut D.i2z).extBut b2.extBut D.i12.symm) (hl2.at fun o e => b2.extBut _ _ D.l2i1 (b1.extBut _ _ D.l2z e)) hy fun g3 e b3 he => hE g3 e (fun c o q1 q2 q3 x => b3 _ _ q3 (b2.extBut _ _ q2 (b1.extBut _ _ q1 x))) he)
theorem heldItem {z TI TO T i1 i2 l1 l2 : Addr} {f : Bool} {oT : Obj} {k1 k2 : Nat} {xs ys : Array Value} {x y : Value} {Q : Option Value → Shared → Prop} (D : ZipApart z TI TO i1 i2 l1 l2)
    (hz : IsZipHeld s.heap z TI TO T f) (hT : s.heap.get? T = some oT) (hTI : IsPair s.heap TI (.ref i1) (.ref i2)) (h1 : s.heap.IsTupleIter i1 l1 k1) (h2 : s.heap.IsTupleIter i2 l2 k2)
    (hl1 : s.heap.IsTuple l1 xs) (hl2 : s.heap.IsTuple l2 ys) (hx : xs[k1]? = some x) (hy : ys[k2]? = some y)
    (hQ : ∀ h', IsZipHeld h' z TI TO T true → h'.IsTupleIter i1 l1 (k1 + 1) → h'.IsTupleIter i2 l2 (k2 + 1) → IsPair h' s.heap.objs.size x y → h'.objs.size = s.heap.objs.size + 1 → (∀ c o, c ≠ z → c ≠ i1 → c ≠ i2 → s.heap.get? c = some o → h'.get? c = some o) → Q (some (.ref s.heap.objs.size)) { s with heap := h' }) :
    wpAny (model prog w) A (pyNext (.ref z)) Q E s := by
  have ty : s.TypeIs (.ref z) "zip" := ⟨_, hz, rfl⟩
  unfold pyNext
  exact wpAny_bind (wpAny_attempt (wpAny_callSpecial?_slot (name := Str.ofString "__next__") ty F.slot_zip_next (wpAny_call_entry F.slot_zip_next ty F.entry_zip_next (nextHeld D hz hT hTI h1 h2 hl1 hl2 hx hy fun h' a1 a3 a4 a5 a6 a7 => wpAny_pure (hQ h' a1 a3 a4 a5 a6 a7)) (F.args_zip_next_1 _))))
theorem heldEnd {z TI TO T i1 i2 l1 l2 : Addr} {f : Bool} {oT : Obj} {k1 k2 : Nat} {xs ys : Array Value} {Q : Option Value → Shared → Prop} (hh : A.handled = none) (D : ZipApart z TI TO i1 i2 l1 l2)
    (hz : IsZipHeld s.heap z TI TO T f) (hT : s.heap.get? T = some oT) (hTI : IsPair s.heap TI (.ref i1) (.ref i2)) (h1 : s.heap.IsTupleIter i1 l1 k1) (h2 : s.heap.IsTupleIter i2 l2 k2)
    (hl1 : s.heap.IsTuple l1 xs) (hl2 : s.heap.IsTuple l2 ys) (hend : xs[k1]? = none ∨ ys[k2]? = none)
    (hQ : ∀ h', (∀ c o, c ≠ z → c ≠ i1 → c ≠ i2 → s.heap.get? c = some o → h'.get? c = some o) → Q none { s with heap := h' }) :
    wpAny (model prog w) A (pyNext (.ref z)) Q E s := by
  have ty : s.TypeIs (.ref z) "zip" := ⟨_, hz, rfl⟩
  unfold pyNext
  refine wpAny_bind (wpAny_attempt (wpAny_callSpecial?_slot (name := Str.ofString "__next__") ty F.slot_zip_next (wpAny_call_entry F.slot_zip_next ty F.entry_zip_next (endHeld hh D hz hT hTI h1 h2 hl1 hl2 hend fun h' e hk he => ?_) (F.args_zip_next_1 _))))
  obtain ⟨o, ho, hc⟩ := he; exact wpAny_bind (wpAny_isInstance (T := "StopIteration") (b := true) ⟨o, ho, hc⟩ isSubtype_stop (wpAny_pure (hQ _ hk)))
theorem next_item {z TI TO i1 i2 l1 l2 : Addr} {k1 k2 : Nat} {xs ys : Array Value} {x y : Value} {Q : Option Value → Shared → Prop} (D : ZipApart z TI TO i1 i2 l1 l2)
    (hz : ZSt s.heap z TI TO i1 i2) (hTI : IsPair s.heap TI (.ref i1) (.ref i2))
    (h1 : s.heap.IsTupleIter i1 l1 k1) (h2 : s.heap.IsTupleIter i2 l2 k2) (hl1 : s.heap.IsTuple l1 xs) (hl2 : s.heap.IsTuple l2 ys) (hx : xs[k1]? = some x) (hy : ys[k2]? = some y) (hTO : TO < s.heap.objs.size)
    (hQ : ∀ h', ZSt h' z TI TO i1 i2 → h'.IsTupleIter i1 l1 (k1 + 1) → h'.IsTupleIter i2 l2 (k2 + 1) → IsPair h' s.heap.objs.size x y → h'.objs.size = s.heap.objs.size + 1 →
      (∀ c o, c ≠ z → c ≠ TO → c ≠ i1 → c ≠ i2 → s.heap.get? c = some o → h'.get? c = some o) → Q (some (.ref s.heap.objs.size)) { s with heap := h' }) :
    wpAny (model prog w) A (pyNext (.ref z)) Q E s := by
  have hi1 : i1 < s.heap.objs.size := by obtain ⟨_, e, _⟩ := h1; exact Heap.lt_size e
  have hi2 : i2 < s.heap.objs.size := by obtain ⟨_, e, _⟩ := h2; exact Heap.lt_size e
  rcases hz with ⟨hz, a, b, hT⟩ | ⟨T, f, oT, hz, hT, t1, t2, t3, t4⟩
  · have hzl : z < s.heap.objs.size := Heap.lt_size hz
    exact RZ.pyNext_zipT_item D hz hTI hT h1 h2 hl1 hl2 hx hy fun h' a1 a2 a3 a4 a5 a6 hk =>
      hQ h' (.inr ⟨s.heap.objs.size, false, _, a1, a5, Nat.ne_of_gt hzl, Nat.ne_of_gt hTO, Nat.ne_of_gt hi1, Nat.ne_of_gt hi2⟩) a3 a4 a5 a6 hk
  · exact heldItem D hz hT hTI h1 h2 hl1 hl2 hx hy fun h' a1 a3 a4 a5 a6 hk =>
      hQ h' (.inr ⟨T, true, oT, a1, hk T oT t1 t3 t4 hT, t1, t2, t3, t4⟩) a3 a4 a5 a6 fun c o c1 _ c3 c4 e => hk c o c1 c3 c4 e
theorem next_end {z TI TO i1 i2 l1 l2 : Addr} {k1 k2 : Nat} {xs ys : Array Value} {Q : Option Value → Shared → Prop} (hh : A.handled = none) (D : ZipApart z TI TO i1 i2 l1 l2)
    (hz : ZSt s.heap z TI TO i1 i2) (hTI : IsPair s.heap TI (.ref i1) (.ref i2))
    (h1 : s.heap.IsTupleIter i1 l1 k1) (h2 : s.heap.IsTupleIter i2 l2 k2) (hl1 : s.heap.IsTuple l1 xs) (hl2 : s.heap.IsTuple l2 ys) (hend : xs[k1]? = none ∨ ys[k2]? = none)
    (hQ : ∀ h', (∀ c o, c ≠ z → c ≠ TO → c ≠ i1 → c ≠ i2 → s.heap.get? c = some o → h'.get? c = some o) → Q none { s with heap := h' }) :
    wpAny (model prog w) A (pyNext (.ref z)) Q E s := by
  rcases hz with ⟨hz, a, b, hT⟩ | ⟨T, f, oT, hz, hT, t1, t2, t3, t4⟩
  · exact RZ.pyNext_zipT_end hh D hz hTI hT h1 h2 hl1 hl2 hend hQ
  · exact heldEnd hh D hz hT hTI h1 h2 hl1 hl2 hend fun h' hk => hQ h' fun c o c1 _ c3 c4 e => hk c o c1 c3 c4 e
structure ZL (h0 : Heap) (S z TI TO i1 i2 l1 l2 : Addr) (xs ys : Array Value) (i : Nat) (acc : List Value) (h : Heap) : Prop where
  st : ZSt h z TI TO i1 i2
  ti : IsPair h TI (.ref i1) (.ref i2)
  to : TO < h.objs.size
  h1 : h.IsTupleIter i1 l1 i
  h2 : h.IsTupleIter i2 l2 i
  a1 : h.IsTuple l1 xs
  a2 : h.IsTuple l2 ys
  s : ∃ c, h.get? S = some { cls := .type "list", dict := none, data := .seq acc.toArray c, slots := #[] }
  len : acc.length = i
  pr : ∀ (j : Nat) (v : Value), acc[j]? = some v → ∃ (p : Addr) (x y : Value), v = Value.ref p ∧ xs[j]? = some x ∧ ys[j]? = some y ∧ IsPair h p x y ∧ (p ≠ S ∧ p ≠ z ∧ p ≠ TO ∧ p ≠ i1 ∧ p ≠ i2) ∧ h0.objs.size ≤ p
  old : ∀ b o, b ≠ S → b ≠ z → b ≠ TO → b ≠ i1 → b ≠ i2 → h0.get? b = some o → h.get? b = some o
  nd : ∀ (j j' : Nat) (v : Value), acc[j]? = some v → acc[j']? = some v → j = j'
  sz : h0.objs.size ≤ h.objs.size
theorem zip_loop {h0 : Heap} {S z TI TO i1 i2 l1 l2 : Addr} {xs ys : Array Value} {res : Value} {Rs : Result → Shared → Prop} (hh : A.handled = none) (D : ZipApart z TI TO i1 i2 l1 l2) (ap : SAp S z TI TO i1 i2 l1 l2) (hx : xs.size ≤ sizeLine)
    (hd : ∀ acc h', ZE h0 S z TO i1 i2 xs ys acc h' → Rs (.ok (.ret res)) { s with heap := h' }) :
    ∀ (m i : Nat) (acc : List Value) (h : Heap), m + i = min xs.size ys.size → ZL h0 S z TI TO i1 i2 l1 l2 xs ys i acc h → codeAny (model prog w) A (.builtin "list.extend.loop" ⟨[.ref S, .ref z, res], []⟩) Rs { s with heap := h } := by
  intro m
  induction m with
  | zero =>
    intro i acc h hm J
    refine codeAny_builtin PySem.F.entry_extend_loop ?_
    rw [Around.under_plainId PySem.F.plain_extend_loop _]
    show wpAny _ A.in1 (pyNext (.ref z) >>= _) _ _ _
    have hend : xs[i]? = none ∨ ys[i]? = none := by
      rcases Nat.le_total xs.size ys.size with q | q
      · exact .inl (by rw [Array.getElem?_eq_none]; omega)
      · exact .inr (by rw [Array.getElem?_eq_none]; omega)
    refine wpAny_bind (next_end (s := { s with heap := h }) hh D J.st J.ti J.h1 J.h2 J.a1 J.a2 hend fun h' hk => wpAny_pure (hd acc h' ?_))
    obtain ⟨c, hc⟩ := J.s
    refine ⟨⟨c, hk _ _ ap.z.symm ap.TO.symm ap.i1.symm ap.i2.symm hc⟩, by rw [J.len]; omega, fun j v hv => ?_, fun b o b1 b2 b3 b4 b5 e => hk b o b2 b3 b4 b5 (J.old b o b1 b2 b3 b4 b5 e), J.nd⟩
    obtain ⟨p, x, y, e1, e2, e3, e4, e5, e6⟩ := J.pr j v hv
    exact ⟨p, x, y, e1, e2, e3, hk _ _ e5.2.1 e5.2.2.1 e5.2.2.2.1 e5.2.2.2.2 e4, e5, e6⟩
  | succ m ih =>
    intro i acc h hm J
    refine codeAny_builtin PySem.F.entry_extend_loop ?_
    rw [Around.under_plainId PySem.F.plain_extend_loop _]
    show wpAny _ A.in1 (pyNext (.ref z) >>= _) _ _ _
    have l1 : i < xs.size := by omega
    have l2 : i < ys.size := by omega
    refine wpAny_bind (next_item (s := { s with heap := h }) D J.st J.ti J.h1 J.h2 J.a1 J.a2 (Array.getElem?_eq_getElem l1) (Array.getElem?_eq_getElem l2) J.to fun h' st' h1' h2' hp hsz hk => ?_)
    show wpAny _ A.in1 (updateSeq S (·.push (.ref h.objs.size)) >>= _) _ _ _
    obtain ⟨c, hc⟩ := J.s
    have hS := hk _ _ ap.z.symm ap.TO.symm ap.i1.symm ap.i2.symm hc
    have lS : S < h.objs.size := Heap.lt_size hc
    refine wpAny_bind (wpAny_updateSeq hS rfl (wpAny_pure ⟨plainId_quiet PySem.F.plain_extend_loop _, ?_⟩) (by rw [List.size_toArray, J.len]; omega) (by show (acc.toArray.push _).size ≤ sizeLine + 1; rw [Array.size_push, List.size_toArray, J.len]; omega))
    have hS2 := Heap.get?_update_self (Obj.mapSeq (·.push (Value.ref h.objs.size))) hS rfl
    have oth : ∀ b o, b ≠ S → h'.get? b = some o → (h'.update S (Obj.mapSeq (·.push (Value.ref h.objs.size)))).get? b = some o := fun b o hb e => (Heap.get?_update_other _ _ (Ne.symm hb)).trans e
    have keep : ∀ b o, b ≠ S → b ≠ z → b ≠ TO → b ≠ i1 → b ≠ i2 → h.get? b = some o → (h'.update S (Obj.mapSeq (·.push (Value.ref h.objs.size)))).get? b = some o := fun b o q1 q2 q3 q4 q5 e => oth b o q1 (hk b o q2 q3 q4 q5 e)
    have usz : (h'.update S (Obj.mapSeq (·.push (Value.ref h.objs.size)))).objs.size = h'.objs.size := (Heap.SameBut.update ..).1
    have lz : z < h.objs.size := by
      rcases J.st with ⟨q, _⟩ | ⟨_, _, _, q, _⟩
      · exact Heap.lt_size q
      · exact Heap.lt_size q
    have li1 : i1 < h.objs.size := by obtain ⟨_, e, _⟩ := J.h1; exact Heap.lt_size e
    have li2 : i2 < h.objs.size := by obtain ⟨_, e, _⟩ := J.h2; exact Heap.lt_size e
    have lto := J.to
    refine ih (i + 1) (acc ++ [.ref h.objs.size]) _ (by omega) ⟨st'.at ap.z ap.TO (fun _ _ => ⟨_, hS2⟩) oth, keep _ _ ap.TI D.TIz D.TITO D.TIi1 D.TIi2 J.ti, by rw [usz, hsz]; exact Nat.lt_succ_of_lt lto, h1'.at fun o e => oth _ o ap.i1 e, h2'.at fun o e => oth _ o ap.i2 e,
      J.a1.at fun o e => keep _ o ap.l1 D.l1z D.l1TO D.l1i1 D.l1i2 e, J.a2.at fun o e => keep _ o ap.l2 D.l2z D.l2TO D.l2i1 D.l2i2 e, ⟨_, by rw [hS2]; simp [Obj.mapSeq]; rfl⟩, by simp [J.len], fun j v hv => ?_, fun b o b1 b2 b3 b4 b5 e => keep b o b1 b2 b3 b4 b5 (J.old b o b1 b2 b3 b4 b5 e), nd_push J.nd fun j v hv e => (by
        obtain ⟨p, x, y, e1, _, _, e4, _⟩ := J.pr j v hv
        rw [e1] at e
        have lp := Heap.lt_size e4
        rw [Value.ref.inj e] at lp
        exact Nat.lt_irrefl _ lp), by rw [usz, hsz]; exact Nat.le_succ_of_le J.sz⟩
    by_cases hj : j < acc.length
    · rw [List.getElem?_append_left hj] at hv
      obtain ⟨p, x, y, e1, e2, e3, e4, e5, e6⟩ := J.pr j v hv
      exact ⟨p, x, y, e1, e2, e3, keep _ _ e5.1 e5.2.1 e5.2.2.1 e5.2.2.2.1 e5.2.2.2.2 e4, e5, e6⟩
    · have ej : j = i := by
        have z1 : j < (acc ++ [Value.ref h.objs.size]).length := by
          rcases Nat.lt_or_ge j (acc ++ [Value.ref h.objs.size]).length with q | q
          · exact q
          · rw [List.getElem?_eq_none q] at hv; cases hv
        have z2 := J.len
        rw [List.length_append, List.length_singleton] at z1
        omega
      subst ej
      rw [List.getElem?_append_right (by rw [J.len]; exact Nat.le_refl _), J.len, Nat.sub_self] at hv
      cases hv
      exact ⟨h.objs.size, _, _, rfl, Array.getElem?_eq_getElem l1, Array.getElem?_eq_getElem l2, oth _ _ (Nat.ne_of_gt lS) hp, ⟨Nat.ne_of_gt lS, Nat.ne_of_gt lz, Nat.ne_of_gt lto, Nat.ne_of_gt li1, Nat.ne_of_gt li2⟩, J.sz⟩
theorem call_list_zip {z TI TO i1 i2 l1 l2 : Addr} {xs ys : Array Value} {a b : Value} {Q : Value → Shared → Prop} (hh : A.handled = none) (D : ZipApart z TI TO i1 i2 l1 l2) (hx : xs.size ≤ sizeLine)
    (hz : IsZip s.heap z TI TO .none) (hTI : IsPair s.heap TI (.ref i1) (.ref i2)) (hTO : IsPair s.heap TO a b) (h1 : s.heap.IsTupleIter i1 l1 0) (h2 : s.heap.IsTupleIter i2 l2 0) (hl1 : s.heap.IsTuple l1 xs) (hl2 : s.heap.IsTuple l2 ys)
    (hQ : ∀ acc h', ZE s.heap s.heap.objs.size z TO i1 i2 xs ys acc h' → Q (.ref s.heap.objs.size) { s with heap := h' }) :
    wpAny (model prog w) A (call (.type "list") [.ref z]) Q E s := by
  have lz : z < s.heap.objs.size := Heap.lt_size hz
  have lTI : TI < s.heap.objs.size := Heap.lt_size hTI
  have lTO : TO < s.heap.objs.size := Heap.lt_size hTO
  have li1 : i1 < s.heap.objs.size := by obtain ⟨_, e, _⟩ := h1; exact Heap.lt_size e
  have li2 : i2 < s.heap.objs.size := by obtain ⟨_, e, _⟩ := h2; exact Heap.lt_size e
  have ll1 : l1 < s.heap.objs.size := by obtain ⟨_, e, _⟩ := hl1; exact Heap.lt_size e
  have ll2 : l2 < s.heap.objs.size := by obtain ⟨_, e, _⟩ := hl2; exact Heap.lt_size e
  refine callType_codes (Q₁ := fun obj s₁ => obj = .ref s.heap.objs.size ∧ s₁ = { s with heap := s.heap.push { cls := .type "list", data := .seq #[] } }) PySem.F.called_list (PySem.F.typeCall_list_1 _) PySem.F.entry_list_init
    (code_list_new _ ⟨rfl, rfl⟩) fun obj s₁ h₁ => ?_
  obtain ⟨rfl, rfl⟩ := h₁
  have hS : (s.heap.push { cls := .type "list", data := .seq #[] }).get? s.heap.objs.size = some { cls := .type "list", data := .seq #[] } := Heap.get?_push_size _ rfl
  refine ⟨⟨_, hS, rfl⟩, PySem.F.args_list_init_2 _ _, ?_⟩
  show wpAny _ _ (do let old ← Builtin.List.listItems (.ref s.heap.objs.size); Builtin.List.listUpdate (.ref s.heap.objs.size) (fun _ => #[]); letGo old.toList.reverse; Builtin.List.listExtendWith (.ref s.heap.objs.size) (.ref z) .none) _ _ _
  refine wpAny_bind ?_
  unfold Builtin.List.listItems
  refine wpAny_bind (wpAny_seqItems hS rfl (wpAny_pure ?_))
  show wpAny _ _ (updateSeq s.heap.objs.size (fun _ => #[]) >>= fun _ => letGo (#[] : Array Value).toList.reverse >>= fun _ => Builtin.List.listExtendWith (.ref s.heap.objs.size) (.ref z) .none) _ _ _
  refine wpAny_bind (wpAny_updateSeq hS rfl ?_)
  have hS₂ := Heap.get?_update_self (Obj.mapSeq (fun _ => (#[] : Array Value))) hS rfl
  have k₂ : ∀ b o, s.heap.get? b = some o → ((s.heap.push { cls := .type "list", data := .seq #[] }).update s.heap.objs.size (Obj.mapSeq (fun _ => (#[] : Array Value)))).get? b = some o :=
    fun b o e => (Heap.get?_update_other _ _ (Nat.ne_of_gt (Heap.lt_size e))).trans (Heap.get?_push_of_some _ e)
  have z₂ : ((s.heap.push { cls := .type "list", data := .seq #[] }).update s.heap.objs.size (Obj.mapSeq (fun _ => (#[] : Array Value)))).objs.size = s.heap.objs.size + 1 := by rw [(Heap.SameBut.update ..).1, Heap.size_push]
  refine wpAny_bind (wpAny_letGo ?_)
  generalize (s.heap.push { cls := .type "list", data := .seq #[] }).update s.heap.objs.size (Obj.mapSeq (fun _ => (#[] : Array Value))) = hh₂ at hS₂ k₂ z₂
  have hT : Shared.TypeIs { s with heap := hh₂ } (.ref z) "zip" := ⟨_, k₂ _ _ hz, rfl⟩
  unfold Builtin.List.listExtendWith
  refine wpAny_bind (wpAny_typeOf hT ?_)
  have e1 : Builtin.List.listSameRef (.ref s.heap.objs.size) (.ref z) = false := by simp [Builtin.List.listSameRef, Nat.ne_of_gt lz]
  have e2 : (Value.type "zip" == Value.type "list") = false := by decide
  have e3 : (Value.type "zip" == Value.type "tuple") = false := by decide
  simp only [e1, e2, e3, Bool.or_false, Bool.false_eq_true, if_false]
  refine wpAny_bind (wpAny_pyIter_zip (s := { s with heap := hh₂ }) (k₂ _ _ hz) ?_)
  refine wpAny_bind (wpAny_holding ?_)
  unfold Builtin.List.listLengthHint
  refine wpAny_bind (wpAny_specialOf hT nolen_zip ?_)
  show wpAny _ _ (specialOf (Value.ref z) (Str.ofString "__length_hint__") >>= _) _ _ _
  refine wpAny_bind (wpAny_specialOf hT nohint_zip ?_)
  refine wpAny_pure ?_
  show wpAny _ _ (rule "list.extend.makes-room" >>= fun _ => Builtin.List.listTouch (.ref s.heap.objs.size) >>= fun _ =>
    again (.builtin "list.extend.loop" ⟨[.ref s.heap.objs.size, .ref z, .none], []⟩)) _ _ _
  refine wpAny_bind (wpAny_rule ?_)
  refine wpAny_bind ?_
  show wpAny _ _ (updateSeq s.heap.objs.size (·.push .none) >>= fun _ => updateSeq s.heap.objs.size (·.pop)) _ _ _
  refine wpAny_bind (wpAny_updateSeq hS₂ rfl ?_)
  have hS₃ := Heap.get?_update_self (Obj.mapSeq (·.push Value.none)) hS₂ rfl
  refine wpAny_updateSeq hS₃ rfl ?_
  have hS₄ := Heap.get?_update_self (Obj.mapSeq (·.pop)) hS₃ rfl
  have k₄ : ∀ b o, s.heap.get? b = some o → ((hh₂.update s.heap.objs.size (Obj.mapSeq (·.push Value.none))).update s.heap.objs.size (Obj.mapSeq (·.pop))).get? b = some o :=
    fun b o e => (Heap.get?_update_other _ _ (Nat.ne_of_gt (Heap.lt_size e))).trans ((Heap.get?_update_other _ _ (Nat.ne_of_gt (Heap.lt_size e))).trans (k₂ b o e))
  have z₄ : ((hh₂.update s.heap.objs.size (Obj.mapSeq (·.push Value.none))).update s.heap.objs.size (Obj.mapSeq (·.pop))).objs.size = s.heap.objs.size + 1 := by rw [(Heap.SameBut.update ..).1, (Heap.SameBut.update ..).1, z₂]
  refine wpAny_pure ⟨plainId_quiet PySem.F.plain_extend_loop _, zip_loop (s := s) (h0 := s.heap) (A := A.in1) hh D ⟨Nat.ne_of_lt lz, Nat.ne_of_lt lTI, Nat.ne_of_lt lTO, Nat.ne_of_lt li1, Nat.ne_of_lt li2, Nat.ne_of_lt ll1, Nat.ne_of_lt ll2⟩ hx (fun acc h' ze => ⟨rfl, hQ acc h' ze⟩) _ 0 [] _ rfl ?_⟩
  exact ⟨.inl ⟨k₄ _ _ hz, a, b, k₄ _ _ hTO⟩, k₄ _ _ hTI, by rw [z₄]; exact Nat.lt_succ_of_lt lTO, h1.at fun o e => k₄ _ o e, h2.at fun o e => k₄ _ o e, hl1.at fun o e => k₄ _ o e, hl2.at fun o e => k₄ _ o e, ⟨_, hS₄⟩, rfl, (fun j v hv => by simp at hv), fun b o _ _ _ _ _ e => k₄ b o e, (fun j j' v hv => by simp at hv), by rw [z₄]; exact Nat.le_succ _⟩
end
end LZT

set_option Elab.async false
set_option linter.all false
set_option maxRecDepth 100000
set_option maxHeartbeats 4000000
/-! LZPT: list(zip(a, b)) of two tuples. -/
namespace LZ
open PySem PySem.Spec PyProof.Rows L2
variable {X : Cx}

/-- list(zip(a, b)) -/
def tListZipT (K : PySem.W.Frag) (ta : TA) : TE := fun σ H Q => ta σ H fun vs H1 => ∃ a b xs ys, vs = [.ref a, .ref b] ∧ SqT K H1 a xs ∧ SqT K H1 b ys ∧
  ∀ (ps : List Addr) (H2 : Hp) (p : Addr), (∀ b o, H1 b = some o → H2 b = some o) → H2 p = none → ps.length = min xs.length ys.length →
    (∀ (j : Nat) (t : Addr), ps[j]? = some t → ∃ x y o, xs[j]? = some x ∧ ys[j]? = some y ∧ H2 t = some (.frz o (.tup [x, y])) ∧ o.dict = none ∧ H1 t = none) → Q (.ref p) (upd H2 p (.lst (ps.map V.ref)))
theorem pe_listZipT {e e2 : Expr} {ta : TA} {p p2 pos pos2 : Pos} (hc : X.calm = true) (hg : Gl X "list") (hm : X.mg "list" = none) (hg2 : Gl X "zip") (hm2 : X.mg "zip" = none) (ha : PA X [e, e2] ta)
    (hs : starEach [e, e2] X.env = (false, eval e X.env) :: starEach [e2] X.env := by rfl) (hpl : (backTo pos2 (starEach [e2] X.env)).any (·.1) = false := by rfl)
    (hs1 : starEach [.Call (.Name "zip" p2) [e, e2] [] pos2] X.env = (false, eval (.Call (.Name "zip" p2) [e, e2] [] pos2) X.env) :: starEach [] X.env := by rfl) (hpl1 : (backTo pos (starEach [] X.env)).any (·.1) = false := by rfl) :
    PE X (.Call (.Name "list" p) [.Call (.Name "zip" p2) [e, e2] [] pos2] [] pos) (tListZipT X.K ta) := by
  refine ⟨fun pins s σ H Q I h => ?_⟩
  refine wpAny_Call_Name_kw (ld_blt I hg hm (u := .type "list") (by decide +kernel) ?_)
  refine PyProof.Rows.callWith_type1 ?_ hs1 hpl1
  rw [hs1]
  show wpAny _ _ (spliced ((false, eval (.Call (.Name "zip" p2) [e, e2] [] pos2) X.env) :: backTo pos (starEach [] X.env))) _ _ s
  refine Calls.spliced_cons (Call_ (ld_blt I hg2 hm2 PyProof.Rows.boot_zip (PyProof.Rows.callWith_type1 (thn (ha.run pos2 pins s σ H _ I h) fun us s1 ⟨vs, H1, I1, r1, q1⟩ => ?_) hs hpl)))
  obtain ⟨a, b, xs, ys, ex, hqx, hqy, q⟩ := q1
  subst ex
  cases r1 with
  | cons r rr =>
    cases rr with
    | cons r' rr =>
      cases rr
      cases r
      cases r'
      obtain ⟨its, rv, p1, z1⟩ := I1.tuple hqx
      obtain ⟨its2, rv2, p3, z2⟩ := I1.tuple hqy
      have la : a < s1.heap.objs.size := (by obtain ⟨_, e, _⟩ := id p1; exact Heap.lt_size e)
      have lb : b < s1.heap.objs.size := (by obtain ⟨_, e, _⟩ := id p3; exact Heap.lt_size e)
      refine RZ.call_zipT (show s1.heap.IsTuple a its.toArray from p1) (show s1.heap.IsTuple b its2.toArray from p3) fun h' hz hTI hTO h1 h2 hsz hk => Calls.spliced_nil ?_
      refine LZT.call_list_zip (s := { s1 with heap := h' }) (I1.ok.hd hc) (PySem.W.ktu_apart s1.heap.objs.size a b la lb) (by rw [List.size_toArray, ← rv.length]; exact z1) hz hTI hTO h1 h2 ((show s1.heap.IsTuple a its.toArray from p1).at fun o e => hk _ o e) ((show s1.heap.IsTuple b its2.toArray from p3).at fun o e => hk _ o e) fun acc h2' ze => ?_
      have hk2 : ∀ c o, s1.heap.get? c = some o → h2'.get? c = some o := fun c o ec => by
        have lc := Heap.lt_size ec
        have le : ∀ k : Nat, c ≠ s1.heap.objs.size + k := fun k => Nat.ne_of_lt (Nat.lt_of_lt_of_le lc (Nat.le_add_right _ _))
        exact ze.old c o (by show c ≠ h'.objs.size; rw [hsz]; exact le 5) (le 4) (le 3) (le 0) (le 1) (hk c o ec)
      have I2 : Inv X pins σ H1 { s1 with heap := h2' } := I1.kept (t' := s1.toks) hk2
      have key : ∀ v, v ∈ acc → ∃ (j : Nat) (t : Addr) (x y : V) (u1 u2 : Value), v = .ref t ∧ acc[j]? = some v ∧ xs[j]? = some x ∧ ys[j]? = some y ∧ RelV x u1 ∧ RelV y u2 ∧ IsPair h2' t u1 u2 ∧ s1.heap.objs.size ≤ t ∧ t ≠ h'.objs.size := fun v hv => by
        obtain ⟨j, hj⟩ := List.mem_iff_getElem?.mp hv
        obtain ⟨t, u1, u2, e1, e2, e3, e4, e5, e6⟩ := ze.pr j v hj
        obtain ⟨x, e7, e8⟩ := vget rv (by simpa using e2)
        obtain ⟨y, e9, e10⟩ := vget rv2 (by simpa using e3)
        exact ⟨j, t, x, y, u1, u2, e1, hj, e7, e9, e8, e10, e4, Nat.le_trans (by rw [hsz]; exact Nat.le_add_right _ _) e6, e5.1⟩
      have key' : ∀ t : Addr, ∃ o : HO, Value.ref t ∈ acc → ∃ (j : Nat) (x y : V) (u1 u2 : Value), o = .frz { cls := .type "tuple", data := .seq #[u1, u2] } (.tup [x, y]) ∧ acc[j]? = some (.ref t) ∧ xs[j]? = some x ∧ ys[j]? = some y ∧ RelV x u1 ∧ RelV y u2 ∧ IsPair h2' t u1 u2 := fun t => by
        by_cases m : Value.ref t ∈ acc
        · obtain ⟨j, t', x, y, u1, u2, e0, e1, e2, e3, e4, e5, e6, _⟩ := key _ m
          cases e0
          exact ⟨_, fun _ => ⟨j, x, y, u1, u2, rfl, e1, e2, e3, e4, e5, e6⟩⟩
        · exact ⟨.lst [], fun z => absurd z m⟩
      obtain ⟨G, hG⟩ := Classical.axiomOfChoice key'
      have mem : ∀ t, t ∈ acc.map adr → Value.ref t ∈ acc := fun t ht => by
        obtain ⟨v, hv, e⟩ := List.mem_map.mp ht
        obtain ⟨_, t', _, _, _, _, e0, _⟩ := key v hv
        subst e0
        cases e
        exact hv
      have lo : ∀ t, t ∈ acc.map adr → s1.heap.objs.size ≤ t ∧ t ≠ h'.objs.size := fun t ht => by
        obtain ⟨_, t', _, _, _, _, e0, _, _, _, _, _, _, e7, e8⟩ := key _ (mem t ht)
        cases e0
        exact ⟨e7, e8⟩
      obtain ⟨H2, I3, g2, g3, g4⟩ := takeF (tk := s1.toks) G I1 (acc.map adr) H1 I2 fun t ht => by
        refine ⟨(lo t ht).1, .inl (I1.hok.fresh (lo t ht).1), fun H3 => ?_⟩
        obtain ⟨j, x, y, u1, u2, e0, e1, e2, e3, e4, e5, e6⟩ := hG t (mem t ht)
        rw [e0]
        exact ⟨e6, by rw [sizeLine_eq]; show 2 ≤ 16777216; decide, [u1, u2], .cons e4 (.cons e5 .nil), ⟨_, e6, rfl, _, rfl⟩⟩
      obtain ⟨c, hS⟩ := ze.s
      have l5 : s1.heap.objs.size ≤ h'.objs.size := by rw [hsz]; exact Nat.le_add_right _ _
      have hnp : H2 h'.objs.size = none := by
        rw [g4 _ fun z => (lo _ z).2 rfl]
        exact I1.hok.fresh l5
      have eacc : acc = (acc.map adr).map Value.ref := by
        rw [List.map_map]
        have e : acc.map (Value.ref ∘ adr) = acc.map id := List.map_congr_left fun v hv => by
          obtain ⟨_, t', _, _, _, _, e0, _⟩ := key v hv
          subst e0
          rfl
        rw [List.map_id] at e
        exact e.symm
      have vacc : Vals ((acc.map adr).map V.ref) acc := by
        have z := vals_refs (acc.map adr)
        rw [← eacc] at z
        exact z
      have hlen := ze.len
      have lx := rv.length
      have ly := rv2.length
      have I4 : Inv X pins σ (upd H2 h'.objs.size (.lst ((acc.map adr).map V.ref))) { s1 with heap := h2' } := I3.take (h' := h2') (t' := s1.toks) (fun b ob _ e => e) (I1.fpOk l5 hnp) ⟨by
        rw [List.length_map, List.length_map, hlen]
        simp only [List.size_toArray]
        omega, acc, c, vacc, hS⟩
      refine ⟨.ref h'.objs.size, _, I4, rfl, q (acc.map adr) H2 _ g2 hnp (by rw [List.length_map, hlen, lx, ly]; simp) fun j t ht => ?_⟩
      have hv : acc[j]? = some (.ref t) := by
        rw [eacc, List.getElem?_map, ht]
        rfl
      have hm : t ∈ acc.map adr := List.mem_of_getElem? ht
      obtain ⟨j', x, y, u1, u2, e0, e1, e2, e3, _⟩ := hG t (mem t hm)
      have ej := ze.nd j j' _ hv e1
      subst ej
      exact ⟨x, y, _, e2, e3, by rw [g3 t hm, e0], rfl, I1.hok.fresh (lo t hm).1⟩
end LZ

set_option Elab.async false
set_option linter.all false
set_option maxRecDepth 100000
set_option maxHeartbeats 4000000
/-! DLn: list(zip(xs, ys)). -/
namespace DL
open PySem PySem.Spec PyProof.Rows L2 GG DD PT
variable {K : KX}
theorem DaAll.ofGet {H : Hp} : ∀ {vs : List V} {ds : List PyData}, vs.length = ds.length → (∀ (j : Nat) (v : V) (d : PyData), vs[j]? = some v → ds[j]? = some d → Da K H v d) → DaAll K H vs ds
  | [], [], _, _ => .nil
  | [], _ :: _, h, _ => by cases h
  | _ :: _, [], h, _ => by cases h
  | v :: vs, d :: ds, h, k => .cons (k 0 v d rfl rfl) (DaAll.ofGet (by simpa using h) fun j v' d' e e' => k (j + 1) v' d' (by simpa using e) (by simpa using e'))
theorem DaAll.at {H : Hp} : ∀ {vs : List V} {ds : List PyData} {j : Nat} {v : V} {d : PyData}, DaAll K H vs ds → vs[j]? = some v → ds[j]? = some d → Da K H v d
  | _, _, 0, _, _, .cons h _, e, e' => by
    cases e
    cases e'
    exact h
  | _, _, j + 1, _, _, .cons _ t, e, e' => DaAll.at (j := j) t (by simpa using e) (by simpa using e')
  | _, _, _, _, _, .nil, e, _ => by simp at e
def dListZip (d1 d2 : DE) : DA := fun s P => d1 s fun x s1 => d2 s1 fun y s2 => match x, y with
  | .list a, .list b => P (List.zipWith (fun p q => PyData.tuple [p, q]) a b) s2
  | _, _ => False
theorem rf_listZip {t1 t2 : TE} {d1 d2 : DE} (h1 : RE K t1 d1) (h2 : RE K t2 d2) : RF K (LZ.tListZip K (tCons t1 (tCons t2 tNil))) (dListZip d1 d2) := fun C hC s P hd σ H Q R q =>
  rd_cons (h1 C hC s _ hd σ H _ R fun v H1 d s1 hd1 R1 hv => rd_cons (h2 (C.keep v d) hC s1 _ hd1 σ H1 _ (R1.keep hv) fun w H2 e s2 hp R2 hw => rd_nil (by
    obtain ⟨R3, hv3⟩ := R2.kept
    subst hC
    split at hp
    · obtain ⟨a, vs, rfl, k1, k2⟩ := da_list hv3
      obtain ⟨b, us, rfl, k3, k4⟩ := da_list hw
      refine ⟨a, b, vs, us, rfl, sq k1, sq k3, fun ps H3 p sm np hl hps => ?_⟩
      refine q p (ps.map V.ref) H3 _ s2 hp (R3.ext sm) np (DaAll.ofGet (by simp [hl, k2.len, k4.len]) fun j v' d' e e' => ?_)
      rw [List.getElem?_map] at e
      obtain ⟨t, ht, e⟩ := Option.map_eq_some_iff.mp e
      subst e
      obtain ⟨x, y, o, e1, e2, e3, e4, e5⟩ := hps j t ht
      rw [List.getElem?_zipWith] at e'
      split at e'
      · rename_i da db f1 f2
        cases e'
        have g1 := (k2.of (hdS sm)).at e1 f1
        have g2 := (k4.of (hdS sm)).at e2 f2
        exact .tup (.inl ⟨o, by rw [hd_ne (R3.new e5).1]; exact e3, e4⟩) (.cons g1 (.cons g2 .nil))
      · cases e'
    · exact hp.elim)))
end DL

set_option Elab.async false
set_option linter.all false
set_option maxRecDepth 100000
set_option maxHeartbeats 4000000
/-! DLo: xs[i] of a list or a tuple. -/
namespace DL
open PySem PySem.Spec PyProof.Rows L2 GG DD PT
variable {K : KX}
def oIxQ : D2 := fun d e P => match d, e with
  | .list a, .int i => ∃ x, atI a i = some x ∧ P x
  | .tuple a, .int i => ∃ x, atI a i = some x ∧ P x
  | _, _ => False
theorem ro_ixQ : RO K (rIx K) oIxQ := fun S H x y d e P Q T hx hy h q => by
  unfold oIxQ at h
  split at h
  · exact .inl (ro_ixL S H x y _ _ P Q T hx hy h q)
  · exact .inr (.inl (ro_ixU S H x y _ _ P Q T hx hy h q))
  · exact h.elim
end DL

set_option Elab.async false
set_option linter.all false
set_option maxRecDepth 100000
set_option maxHeartbeats 4000000
/-! DK0: a law's deck: what _law_deck and _law_draw promise, for any law. -/
namespace DL
open PySem PySem.Spec PyProof.Rows L2 GG DD PT
def intsD (cs : List Int) : List PyData := cs.map PyData.int
theorem dp_intsD {K : PySem.W.Frag} {H : Hp} : ∀ cs : List Int, DpAll K H (cs.map V.int) (intsD cs)
  | [] => .nil
  | c :: cs => .cons (.int c) (dp_intsD cs)
theorem shaped_ints : ∀ cs : List Int, SeqAt.shaped (PyData.list (intsD cs)) = true := by
  have h1 : ∀ cs : List Int, PyData.canLayAll0 (intsD cs) = true := by
    intro cs
    induction cs with
    | nil => simp only [intsD, List.map_nil, PyData.canLayAll0]
    | cons c cs ih =>
      have ih' : PyData.canLayAll0 (cs.map PyData.int) = true := ih
      simp only [intsD, List.map_cons, PyData.canLayAll0, PyData.canLay0, ih', Bool.and_self]
  have h2 : ∀ cs : List Int, PyData.depthAll (intsD cs) = 0 := by
    intro cs
    induction cs with
    | nil => simp only [intsD, List.map_nil, PyData.depthAll]
    | cons c cs ih =>
      have ih' : PyData.depthAll (cs.map PyData.int) = 0 := ih
      simp only [intsD, List.map_cons, PyData.depthAll, PyData.depth, ih', Nat.max_self]
  intro cs
  unfold SeqAt.shaped
  simp only [PyData.canLay0, PyData.depth, h1, h2, Bool.true_and]
  decide
theorem eqv_ints_nil : ∀ cs : List Int, PyData.eqv (.list (intsD cs)) (.list []) = cs.isEmpty
  | [] => by simp only [intsD, List.map_nil, PyData.eqv, PyData.eqvAll, List.isEmpty_nil]
  | c :: cs => by simp only [intsD, List.map_cons, PyData.eqv, PyData.eqvAll, List.isEmpty_cons]
def spDeckH (K : PySem.W.Frag) : Sp := fun vs H Q _ => ∃ (a : Addr) (ns : List Int), vs = [.ref a] ∧ SqL K H a (ns.map V.int) ∧ ns.length ≤ 63 ∧ ∀ H' p l, Same H H' → Deck H' p l 0 → H p = none → H l = none → Q (.ref p) H'
def spDrawH : Sp := fun vs H Q _ => ∃ (p l : Addr) (n : Nat) (lim : Int), vs = [.ref p, .int lim] ∧ Deck H p l n ∧ n < 1000000 ∧ 1 ≤ lim ∧ lim < 1000000 ∧ ∀ H' v, Deck H' p l (n + 1) → But p l H H' → 0 ≤ v → v < lim → Q (.int v) H'
/-- a draw: any int below the limit -/
def F_draw : FD := fun as n P => match as with
  | [.deck, .dat (.int L)] => n < 1000000 ∧ 1 ≤ L ∧ L < 1000000 ∧ ∀ v, 0 ≤ v → v < L → P (.int v) (n + 1)
  | _ => False
theorem draw_of {K : PySem.W.Frag} {vs : List V} {H : Hp} {Q : VK} (h : spOf K 2 F_draw vs H Q E0) : spDrawH vs H Q E0 := by
  obtain ⟨hl, W, S0, n, as, P, T, dk, hm, ha, hF, q⟩ := h
  unfold F_draw at hF
  split at hF
  · rename_i L
    cases ha with
    | cons h1 h2 =>
      obtain ⟨p, l, rfl, rfl⟩ := h1
      cases h2 with
      | cons h3 h4 =>
        cases h4
        cases h3
        refine ⟨p, l, n, L, rfl, dk, hF.1, hF.2.1, hF.2.2.1, fun H' v hD hB h0 h1 => ?_⟩
        exact q _ H' _ _ (hF.2.2.2 v h0 h1) hD (fun b o hb e => hB b o (fun z => hb (.inl z)) (fun z => hb (.inr z)) e) (.int v)
  · exact hF.elim
section
variable {P : Program} {w : World} {K : PySem.W.Frag} {mg : Str → Option Value} {base : Heap} {k : Nat} {f : Addr} {fd : FuncData} {ps : List Str} {sp sp' : Sp}
theorem weak (F : Fg P w K mg base k f fd ps sp) (hs : ∀ vs H Q, sp' vs H Q E0 → sp vs H Q E0) : Fg P w K mg base k f fd ps sp' :=
  ⟨fun vs H Q h => F.size vs H Q (hs vs H Q h), fun A o s H a us vs Q r e b v h => F.go A o s H a us vs Q r e b v (hs vs H Q h)⟩
end
end DL

set_option Elab.async false
set_option linter.all false
set_option maxRecDepth 100000
set_option maxHeartbeats 4000000
/-! LB: a law's body: its deck is made first, the rest is told by data. -/
namespace DL
open PySem PySem.Spec PyProof.Rows L2 GG DD PT
def spLaw (K : PySem.W.Frag) : Sp := fun vs H Q _ => ∃ (a : Addr) (ns : List Int), vs = [.ref a] ∧ SqL K H a (ns.map V.int) ∧ ns.length ≤ 63 ∧ ∀ H', Q (.bl true) H'
theorem un_at {j : Nat} : ∀ {i : Nat} {dv : DV}, (List.replicate j DV.un)[i]? = some dv → dv = .un ∧ i < j := fun {i dv} h => by
  have h1 := List.eq_of_mem_replicate (List.mem_of_getElem? h)
  have h2 := (List.getElem?_eq_some_iff.mp h).1
  rw [List.length_replicate] at h2
  exact ⟨h1, h2⟩
theorem rl_deck {K : PySem.W.Frag} {H : Hp} {p l a : Addr} (m : Nat) (hD : Deck H p l 0) :
    Rl (DC.base ⟨K, some (p, l), fun _ => False, H, fun _ _ => False, fun _ _ => False⟩) (some (.ref a) :: some (.ref p) :: List.replicate m none) H ⟨.un :: .deck :: List.replicate m .un, 0⟩ := by
  have no : ∀ (i : Nat) (dv : DV), (DV.un :: DV.deck :: List.replicate m DV.un)[i]? = some dv → isOwn dv = true → False := fun i dv h ho => by
    match i, h with
    | 0, h => cases h; cases ho
    | 1, h => cases h; cases ho
    | i + 2, h =>
      have := (un_at (i := i) (by simpa using h)).1
      subst this
      cases ho
  refine ⟨by simp, fun i dv h => ?_, fun i j a dv ev h1 _ h3 => (no i dv h1 h3).elim, fun i a dv h1 h2 => (no i dv h1 h2).elim, hD, ButW.refl _ _, fun b hb => hb.elim, fun _ _ h => h.elim, fun _ _ h => h.elim⟩
  match i, h with
  | 0, h => cases h; exact ⟨_, rfl, trivial⟩
  | 1, h => cases h; exact ⟨_, rfl, p, l, rfl, rfl⟩
  | i + 2, h =>
    obtain ⟨rfl, hi⟩ := un_at (i := i) (by simpa using h)
    exact ⟨none, by simp [hi], trivial⟩
section
variable {P : Program} {w : World} {K : PySem.W.Frag} {mg : Str → Option Value} {base : Heap} {k : Nat} {f : Addr} {fd : FuncData}
theorem ok_law_of {x qual sc : Str} {st : Stmt} {N : List Str} (m : Nat) {d : DS} (F : L2.Fun K x qual st f fd) (S : FnScope N [sc] (defScope st)) (hN : N.length = m + 2)
    (hd : d { nx := fun _ => False, rt := fun v _ => v = .bool true } ⟨.un :: .deck :: List.replicate m .un, 0⟩)
    (body : ∀ (cdv : Value) (A : Around) (outer : List Env) (s : Shared) (H : Hp), Rm k (A.deeper (envOfC qual (defScope st) s.heap.objs.size f cdv)) →
      ∃ tr, PSs (cxOf CX0 P w K mg base N qual (defScope st) f cdv A outer s H E0).nox (defBody st) (tSeq (tAsg (tCall (spDeckH K) [] E0 (tCons (tVar 0) tNil)) (gName 1)) tr) ∧ ∀ W B H0 G0 Z0, RS ⟨K, W, B, H0, G0, Z0⟩ tr d) :
    Fg P w K mg base (k + 1) f fd [sc] (spLaw K) := by
  refine okg F S (fun vs H Q h => ?_) fun cdv A outer s H vs Q hr h => ?_
  · obtain ⟨a, ns, rfl, _⟩ := h
    rfl
  · obtain ⟨a, ns, rfl, hS, hl, q⟩ := h
    obtain ⟨tr, h1, h2⟩ := body cdv A outer s H hr
    refine ⟨_, h1, ?_⟩
    unfold L2.start
    rw [hN]
    refine rd_seq (rd_set (rd_call (rd_cons (rd_var (v := .ref a) rfl (rd_nil ⟨a, ns, rfl, hS, hl, fun H1 p l s1 hD np nl => ?_⟩)))))
    refine h2 _ _ _ _ _ (DC.base ⟨K, some (p, l), fun _ => False, H1, fun _ _ => False, fun _ _ => False⟩) rfl _ _ hd (some (.ref a) :: some (.ref p) :: List.replicate m none) H1 _ (rl_deck m hD) ⟨fun _ _ _ z => z.elim, fun σ v H' d' s' hp R hv => ?_, fun _ _ _ z => z.elim, fun _ _ _ z => z.elim⟩
    subst hp
    cases hv
    exact q H'
end
end DL
namespace DL
open PySem PySem.Spec PyProof.Rows L2 GG DD PT
section
variable {P : Program} {w : World} {K : PySem.W.Frag} {mg : Str → Option Value} {base : Heap} {k : Nat} {f : Addr} {fd : FuncData} {ps : List Str}
/-- a def that may not be called any more -/
theorem fg_none (m : Nat) : Fg P w K mg base k f fd ps (spOf K m fun _ _ _ => False) :=
  ⟨fun vs H Q h => by
    obtain ⟨_, _, _, _, _, _, _, _, _, _, hF, _⟩ := h
    exact hF.elim, fun A o s H a us vs Q r e b v h => by
    obtain ⟨_, _, _, _, _, _, _, _, _, _, hF, _⟩ := h
    exact hF.elim⟩
/-- a def that calls itself: level by level -/
theorem fg_rec {m l : Nat} {F : Nat → FD} (h0 : F 0 = fun _ _ _ => False) (step : ∀ j, Fg P w K mg base (l + j) f fd ps (spOf K m (F j)) → Fg P w K mg base (l + j + 1) f fd ps (spOf K m (F (j + 1)))) : ∀ j, Fg P w K mg base (l + j) f fd ps (spOf K m (F j))
  | 0 => by
    rw [h0]
    exact fg_none m
  | j + 1 => step j (fg_rec h0 step j)
end
end DL
namespace DL
open PySem PySem.Spec PyProof.Rows L2 GG DD PT
theorem kb {K : PySem.W.Frag} {x qual : Str} {st : Stmt} {f : Addr} {fd : FuncData} {ps ks : List Str} {π : List Nat} (F : Fun K x qual st f fd)
    (h : ∀ (kV doc pm : Value) (an : Option Addr) (cdv ct : Value) (us : List Value), us.length = ks.length → bindArgs (PySem.W.fnOf x qual (defArgs st) (defBody st) (defScope st) .none kV doc pm an cdv ct) ⟨[], ks.zip us⟩ = pure (ps.zip (permL π us))) :
    ∀ (s : Shared) (ws : List Value), ws.length = ks.length → BindsTo s fd ⟨[], ks.zip ws⟩ (ps.zip (permL π ws)) := by
  obtain ⟨oc, od, kV, doc, pm, an, cdv, ct, osl, rfl, lk, hcd⟩ := F.ex
  exact fun s ws hl => .of_eq (h kV doc pm an cdv ct ws hl)
end DL

set_option Elab.async false
set_option linter.all false
set_option maxRecDepth 100000
set_option maxHeartbeats 4000000
/-! PL: the data functions stepped through, one layer each; loops and comprehensions by what is left; data whose repr can be taken. -/
namespace DL
open PySem PySem.Spec PyProof.Rows L2 GG DD PT
section
variable {P : PyData → DSt → Prop} {PA : List PyData → DSt → Prop} {PT' : Bool → DSt → Prop} {PX : List DV → DSt → Prop} {PO : PyData → Prop} {s : DSt} {E : DEnds} {i j m : Nat} {d e : PyData} {de df da db dc : DE} {dl dm : DA} {c c2 : DT} {a b : DS} {x : DX} {F : FD} {r r' : D2}
/-! ### statements -/
theorem w_seq (h : a { E with nx := b E } s) : dSeq a b E s := h
theorem w_next (h : E.nx s) : dNext E s := h
theorem w_set (h : de s fun d s1 => E.nx ⟨s1.sl.set i (.dat d), s1.n⟩) : dSet de i E s := h
theorem w_setO (h : dl s fun ds s1 => i < s1.sl.length ∧ E.nx ⟨s1.sl.set i (.own ds), s1.n⟩) : dSetO dl i E s := h
theorem w_if (h : c s fun b' s1 => if b' = true then a E s1 else b E s1) : dIf c a b E s := h
theorem w_ret (h : de s E.rt) : dRet de E s := h
theorem w_drop (h : de s fun _ s1 => E.nx s1) : dDrop de E s := h
theorem w_fzO {ds : List PyData} (e : s.sl[i]? = some (.own ds)) (h : b E ⟨s.sl.set i (.dat (.list ds)), s.n⟩) : dFreeze i b E s := by unfold dFreeze; rw [e]; exact h
theorem w_fzD {kvs : List (PyData × PyData)} (e : s.sl[i]? = some (.owd kvs)) (h : b E ⟨s.sl.set i (.dat (.dict kvs)), s.n⟩) : dFreeze i b E s := by unfold dFreeze; rw [e]; exact h
theorem w_fz (e : s.sl[i]? = some (.dat d)) (h : b E s) : dFreeze i b E s := by unfold dFreeze; rw [e]; exact h
theorem w_par (h : dl s fun ds s1 => match ds with
  | [d, e] => E.nx ⟨(s1.sl.set i (.dat d)).set j (.dat e), s1.n⟩
  | _ => False) : dPar i j dl E s := h
theorem w_parL (h : dl s fun ds s1 => de s1 fun d s2 => i < s2.sl.length ∧ E.nx ⟨(s2.sl.set i (.own ds)).set j (.dat d), s2.n⟩) : dParL i j dl de E s := h
theorem w_parR (h : de s fun d s1 => dl s1 fun ds s2 => i ≠ j ∧ j < s2.sl.length ∧ E.nx ⟨(s2.sl.set i (.dat d)).set j (.own ds), s2.n⟩) : dParR i j de dl E s := h
theorem w_parLL (h : dl s fun ds s1 => dm s1 fun es s2 => i < s2.sl.length ∧ j < s2.sl.length ∧ E.nx ⟨(s2.sl.set i (.own ds)).set j (.own es), s2.n⟩) : dParLL i j dl dm E s := h
theorem w_asg {g : DG} (h : de s fun d s1 => g d E.nx s1) : dAsg de g E s := h
def appK (i : Nat) (E : DEnds) (d : PyData) (s1 : DSt) : Prop := match s1.sl[i]? with
  | some (.own ds) => ds.length < 1000000 ∧ E.nx ⟨s1.sl.set i (.own (ds ++ [d])), s1.n⟩
  | _ => False
theorem w_app (h0 : isOwnL s.sl[i]?) (h : de s fun d s1 => appK i E d s1) : dApp i de E s := ⟨h0, h⟩
theorem w_appK {ds : List PyData} (e : s.sl[i]? = some (.own ds)) (h1 : ds.length < 1000000) (h : E.nx ⟨s.sl.set i (.own (ds ++ [d])), s.n⟩) : appK i E d s := by
  unfold appK
  rw [e]
  exact ⟨h1, h⟩
def popK (i : Nat) (P : PyData → DSt → Prop) (d : PyData) (s1 : DSt) : Prop := match s1.sl[i]?, d with
  | some (.own ds), .int k => -(2 ^ 63) ≤ k ∧ k < 2 ^ 63 ∧ ∃ j x, seqIndex? k ds.length = some j ∧ ds[j]? = some x ∧ P x ⟨s1.sl.set i (.own (ds.eraseIdx j)), s1.n⟩
  | _, _ => False
theorem w_popAt (h0 : isOwnL s.sl[i]?) (h : de s fun d s1 => popK i P d s1) : dPopAt i de s P := ⟨h0, h⟩
theorem w_popK {ds : List PyData} {k : Nat} (e : s.sl[i]? = some (.own ds)) (h1 : ds.length < 1000000) (hx : ds[k]? = some d) (h : P d ⟨s.sl.set i (.own (ds.eraseIdx k)), s.n⟩) : popK i P (.int (k : Nat)) s := by
  unfold popK
  rw [e]
  have hk : k < ds.length := (List.getElem?_eq_some_iff.mp hx).1
  have ei : ixN ds.length (k : Int) = some k := by
    unfold ixN
    rw [if_pos (by omega), if_pos (by omega)]
    simp
  exact ⟨by omega, by omega, k, d, (ixN_seq ei).1, hx, h⟩
theorem w_vsNil {neg : Bool} (h : dListVar i s fun ds s1 => PyData.hasDictAll ds = false ∧ SeqAt.shaped (.list ds) = true ∧ P (.bool (if neg then !ds.isEmpty else ds.isEmpty)) s1) : dVsNil neg i s P := h
def inK (neg : Bool) (i : Nat) (P : PyData → DSt → Prop) (kd : PyData) (s1 : DSt) : Prop := match kOf kd with
  | some k => dDictVar i s1 fun kvs s2 => P (.bool (if neg then !(dgetD kvs k).isSome else (dgetD kvs k).isSome)) s2
  | none => False
theorem w_dIn {neg : Bool} (h : de s fun kd s1 => inK neg i P kd s1) : dDIn neg de i s P := h
theorem w_inK {neg : Bool} {kvs : List (PyData × PyData)} {k : L2.Key} (ek : kOf d = some k) (e : s.sl[i]? = some (.dat (.dict kvs))) (hh : headK kvs = true) (h : P (.bool (if neg then !(dgetD kvs k).isSome else (dgetD kvs k).isSome)) s) : inK neg i P d s := by
  unfold inK
  rw [ek]
  show dDictVar i s _
  unfold dDictVar
  rw [e]
  exact ⟨hh, h⟩
theorem w_inKO {neg : Bool} {kvs : List (PyData × PyData)} {k : L2.Key} (ek : kOf d = some k) (e : s.sl[i]? = some (.owd kvs)) (h : P (.bool (if neg then !(dgetD kvs k).isSome else (dgetD kvs k).isSome)) s) : inK neg i P d s := by
  unfold inK
  rw [ek]
  show dDictVar i s _
  unfold dDictVar
  rw [e]
  exact h
def getK (i : Nat) (P : PyData → DSt → Prop) (kd : PyData) (s1 : DSt) : Prop := match kOf kd with
  | some k => dDictVar i s1 fun kvs s2 => ∃ d, dgetD kvs k = some d ∧ P d s2
  | none => False
theorem w_dGet (h0 : hasV s.sl[i]?) (h : de s fun kd s1 => getK i P kd s1) : dDGet i de s P := ⟨h0, h⟩
theorem w_getK {kvs : List (PyData × PyData)} {k : L2.Key} {x : PyData} (ek : kOf d = some k) (e : s.sl[i]? = some (.dat (.dict kvs))) (hh : headK kvs = true) (hx : dgetD kvs k = some x) (h : P x s) : getK i P d s := by
  unfold getK
  rw [ek]
  show dDictVar i s _
  unfold dDictVar
  rw [e]
  exact ⟨hh, x, hx, h⟩
theorem w_getKO {kvs : List (PyData × PyData)} {k : L2.Key} {x : PyData} (ek : kOf d = some k) (e : s.sl[i]? = some (.owd kvs)) (hx : dgetD kvs k = some x) (h : P x s) : getK i P d s := by
  unfold getK
  rw [ek]
  show dDictVar i s _
  unfold dDictVar
  rw [e]
  exact ⟨x, hx, h⟩
def putK' (i : Nat) (E : DEnds) (d kd : PyData) (s2 : DSt) : Prop := match kOf kd, s2.sl[i]? with
  | some k, some (.owd kvs) => kvs.length < 1000000 ∧ E.nx ⟨s2.sl.set i (.owd (dputD kvs k d)), s2.n⟩
  | _, _ => False
theorem w_dPut (h : df s fun d s1 => isOwnD s1.sl[i]? ∧ de s1 fun kd s2 => putK' i E d kd s2) : dDPut i de df E s := h
theorem w_putK {kvs : List (PyData × PyData)} {k : L2.Key} {kd : PyData} (ek : kOf kd = some k) (e : s.sl[i]? = some (.owd kvs)) (hl : kvs.length < 1000000) (h : E.nx ⟨s.sl.set i (.owd (dputD kvs k d)), s.n⟩) : putK' i E d kd s := by
  unfold putK'
  rw [ek, e]
  exact ⟨hl, h⟩
/-! what a dict tells -/
theorem get_map (k k' : L2.Key) (d : PyData) : ∀ kvs : List (PyData × PyData), dgetD (kvs.map fun p => if kOf p.1 = some k then (p.1, d) else p) k' = if k = k' then (dgetD kvs k).map (fun _ => d) else dgetD kvs k'
  | [] => by
    show none = _
    split <;> rfl
  | p :: r => by
    have ih := get_map k k' d r
    rw [List.map_cons]
    by_cases e : kOf p.1 = some k
    · rw [if_pos e]
      show (if kOf p.1 = some k' then some d else dgetD _ k') = _
      by_cases e2 : k = k'
      · subst e2
        rw [if_pos e, if_pos rfl]
        show _ = (if kOf p.1 = some k then some p.2 else dgetD r k).map _
        rw [if_pos e]
        rfl
      · have e3 : ¬ kOf p.1 = some k' := fun z => e2 (Option.some.inj (e.symm.trans z))
        rw [if_neg e3, ih, if_neg e2, if_neg e2]
        show _ = (if kOf p.1 = some k' then some p.2 else dgetD r k')
        rw [if_neg e3]
    · rw [if_neg e]
      show (if kOf p.1 = some k' then some p.2 else dgetD _ k') = _
      rw [ih]
      by_cases e2 : k = k'
      · subst e2
        rw [if_neg e, if_pos rfl, if_pos rfl]
        show _ = (if kOf p.1 = some k then some p.2 else dgetD r k).map _
        rw [if_neg e]
      · rw [if_neg e2, if_neg e2]
        rfl
theorem get_append (k : L2.Key) (b : List (PyData × PyData)) : ∀ a : List (PyData × PyData), dgetD (a ++ b) k = (dgetD a k).or (dgetD b k)
  | [] => rfl
  | p :: r => by
    show (if kOf p.1 = some k then some p.2 else dgetD (r ++ b) k) = (if kOf p.1 = some k then some p.2 else dgetD r k).or _
    by_cases e : kOf p.1 = some k
    · rw [if_pos e, if_pos e]
      rfl
    · rw [if_neg e, if_neg e]
      exact get_append k b r
theorem get_put (kvs : List (PyData × PyData)) (k k' : L2.Key) (d : PyData) : dgetD (dputD kvs k d) k' = if k = k' then some d else dgetD kvs k' := by
  unfold dputD
  by_cases h : (dgetD kvs k).isSome = true
  · rw [if_pos h, get_map]
    by_cases e : k = k'
    · rw [if_pos e, if_pos e]
      obtain ⟨x, hx⟩ := Option.isSome_iff_exists.mp h
      rw [hx]
      rfl
    · rw [if_neg e, if_neg e]
  · rw [if_neg h, get_append]
    have hn : dgetD kvs k = none := by
      cases e : dgetD kvs k with
      | none => rfl
      | some x => rw [e] at h; exact absurd rfl h
    show (dgetD kvs k').or (if kOf (keyD k) = some k' then some d else none) = _
    rw [kOf_keyD]
    by_cases e : k = k'
    · subst e
      rw [hn, if_pos rfl, if_pos rfl]
      rfl
    · rw [if_neg (fun z => e (Option.some.inj z)), if_neg e]
      cases dgetD kvs k' <;> rfl
theorem put_len (kvs : List (PyData × PyData)) (k : L2.Key) (d : PyData) : (dputD kvs k d).length ≤ kvs.length + 1 := by
  unfold dputD
  split
  · rw [List.length_map]
    omega
  · rw [List.length_append]
    exact Nat.le_refl _
/-- the last value of a key -/
def lastD (k : L2.Key) : List (L2.Key × PyData) → Option PyData → Option PyData
  | [], o => o
  | p :: r, o => lastD k r (if p.1 = k then some p.2 else o)
theorem get_merge (k : L2.Key) : ∀ (more : List (L2.Key × PyData)) (kvs : List (PyData × PyData)), dgetD (mergeD kvs more) k = lastD k more (dgetD kvs k)
  | [], _ => rfl
  | p :: r, kvs => by
    show dgetD (mergeD (dputD kvs p.1 p.2) r) k = lastD k r (if p.1 = k then some p.2 else dgetD kvs k)
    rw [get_merge k r, get_put]
theorem merge_len : ∀ (more : List (L2.Key × PyData)) (kvs : List (PyData × PyData)), (mergeD kvs more).length ≤ kvs.length + more.length
  | [], _ => Nat.le_refl _
  | p :: r, kvs => by
    have h1 := merge_len r (dputD kvs p.1 p.2)
    have h2 := put_len kvs p.1 p.2
    show (mergeD (dputD kvs p.1 p.2) r).length ≤ _
    rw [List.length_cons]
    omega
theorem w_for {g : DG} (h : dl s fun items s1 => dLoop g b E items s1) : dFor dl g b E s := h
/-! ### targets -/
theorem w_gdN {N : DSt → Prop} (h : N ⟨s.sl.set i (.dat d), s.n⟩) : gdN i d N s := h
theorem w_gdTup {n : Nat} {g : DGs} {ds : List PyData} {N : DSt → Prop} (hl : ds.length = n) (h : g ds N s) : gdTup n g (.tuple ds) N s := ⟨hl, h⟩
theorem w_gdNil {N : DSt → Prop} (h : N s) : gdNil [] N s := ⟨rfl, h⟩
theorem w_gdCons {g : DG} {gs : DGs} {ds : List PyData} {N : DSt → Prop} (h : g d (fun s1 => gs ds N s1) s) : gdCons g gs (d :: ds) N s := h
/-! ### expressions -/
theorem w_c (h : P d s) : dC d s P := h
theorem w_var (e : s.sl[i]? = some (.dat d)) (h : P d s) : dVar i s P := by unfold dVar; rw [e]; exact h
theorem w_listO {ds : List PyData} (e : s.sl[i]? = some (.own ds)) (h : PA ds s) : dListVar i s PA := by unfold dListVar; rw [e]; exact h
theorem w_listD {ds : List PyData} (e : s.sl[i]? = some (.dat (.list ds))) (h : PA ds s) : dListVar i s PA := by unfold dListVar; rw [e]; exact h
theorem w_asL (h : de s fun d s1 => match d with
  | .list ds => PA ds s1
  | _ => False) : dAsL de s PA := h
theorem w_asU (h : de s fun d s1 => match d with
  | .tuple ds => PA ds s1
  | _ => False) : dAsU de s PA := h
theorem w_newL (h : dl s fun ds s1 => P (.list ds) s1) : dNewL dl s P := h
theorem w_nil (h : PA [] s) : dNil s PA := h
theorem w_cons (h : de s fun d s1 => dl s1 fun ds s2 => PA (d :: ds) s2) : dCons de dl s PA := h
theorem w_tup (h : dl s fun ds s1 => ds.length ≤ 1000000 ∧ P (.tuple ds) s1) : dTup dl s P := h
theorem w_lst (h : dl s fun ds s1 => ds.length ≤ 1000000 ∧ PA ds s1) : dLst dl s PA := h
theorem w_op (h : da s fun d s1 => db s1 fun e s2 => r d e fun f => P f s2) : dOp r da db s P := h
theorem w_lenL (h : dl s fun ds s1 => P (.int ds.length) s1) : dLenL dl s P := h
theorem w_lenD (h : de s fun d s1 => match d with
  | .list ds => P (.int ds.length) s1
  | .tuple ds => P (.int ds.length) s1
  | _ => False) : dLenD de s P := h
theorem w_tupOf (h : dl s fun ds s1 => P (.tuple ds) s1) : dTupOf dl s P := h
theorem w_ifE (h : c s fun b s1 => if b = true then da s1 P else db s1 P) : dIfE c da db s P := h
theorem w_cat (h : da s fun d s1 => db s1 fun e s2 => match d, e with
  | .list a, .list b => a.length + b.length ≤ 1000000 ∧ PA (a ++ b) s2
  | _, _ => False) : dCat da db s PA := h
theorem w_rep (h : da s fun d s1 => db s1 fun e s2 => match d, e with
  | .list a, .int k => -(2 ^ 63) ≤ k ∧ k < 2 ^ 63 ∧ a.length * k.toNat ≤ 1000000 ∧ PA (List.replicate k.toNat a).flatten s2
  | _, _ => False) : dRep da db s PA := h
theorem w_call (h : x s fun as s1 => as.length = m ∧ F as s1.n fun d n' => P d ⟨s1.sl, n'⟩) : dCall m F x s P := h
theorem w_callP {π : List Nat} {n : Nat} (h : x s fun as s1 => as.length = n ∧ (permL π as).length = m ∧ F (permL π as) s1.n fun d n' => P d ⟨s1.sl, n'⟩) : dCallP m F π n x s P := h
theorem w_xNil (h : PX [] s) : xNil s PX := h
theorem w_xCons (h : de s fun d s1 => x s1 fun ds s2 => PX (.dat d :: ds) s2) : xCons de x s PX := h
theorem w_xDeck (e : s.sl[i]? = some .deck) (h : x s fun ds s2 => PX (.deck :: ds) s2) : xDeck i x s PX := by unfold xDeck; rw [e]; exact h
theorem w_ixVarD (e : s.sl[i]? = some (.dat d)) (h : db s fun e s1 => match e with
  | .int k => dListVar i s1 fun a s2 => ∃ x, atI a k = some x ∧ P x s2
  | _ => False) : dIxVar i db s P := ⟨by rw [e]; trivial, h⟩
theorem w_ixVarO {ds : List PyData} (e : s.sl[i]? = some (.own ds)) (h : db s fun e s1 => match e with
  | .int k => dListVar i s1 fun a s2 => ∃ x, atI a k = some x ∧ P x s2
  | _ => False) : dIxVar i db s P := ⟨by rw [e]; trivial, h⟩
theorem w_all (h : dl s fun ds s1 => ∃ bs, boolsD ds = some bs ∧ P (.bool (bs.all id)) s1) : dAll dl s P := h
theorem w_reprA (h : de s fun d s1 => Shows d ∧ P (.str d.shown) s1) : dReprA de s P := h
theorem w_isi {n : String} (h : de s fun d s1 => ∃ b, isaB (tyD d) n = some b ∧ P (.bool b) s1) : dIsi n de s P := h
theorem w_andV (h : da s fun d s1 => match d with
  | .bool c => if c = true then db s1 P else P (.bool false) s1
  | _ => False) : dAndV da db s P := h
theorem w_newD {dk : DK} (h : dk s fun kvs s1 => P (.dict kvs) s1) : dNewD dk s P := h
theorem w_dict0 {PK : List (PyData × PyData) → DSt → Prop} (h : PK [] s) : dDict0 s PK := h
theorem w_rng1 (h : de s fun d s1 => match d with
  | .int j => -(2 ^ 62) ≤ j ∧ j < 2 ^ 62 ∧ PA (rngD 0 j.toNat) s1
  | _ => False) : dRng1 de s PA := h
theorem w_comp {g : DG} {t : DT} {vs : List Nat} (h : dl s fun items s1 => items.length ≤ 1000 ∧ noOwnB s1.sl vs = true ∧ dLc g t de (wipeD s1.sl vs) items [] s1.n fun acc n => PA acc ⟨s1.sl, n⟩) : dComp dl g t de vs s PA := h
theorem w_enum (h : de s fun d s1 => match d with
  | .list ds => PA (enumD ds) s1
  | _ => False) : dEnum de s PA := h
/-! ### tests -/
theorem w_B (h : de s fun d s1 => match d with
  | .bool c => PT' c s1
  | _ => False) : dB de s PT' := h
theorem w_and (h : c s fun b s1 => if b = true then c2 s1 PT' else PT' false s1) : dAnd c c2 s PT' := h
theorem w_or (h : c s fun b s1 => if b = true then PT' true s1 else c2 s1 PT') : dOr c c2 s PT' := h
theorem w_not (h : c s fun b s1 => PT' (!b) s1) : dNot c s PT' := h
theorem w_yes (h : PT' true s) : dYes s PT' := h
theorem w_T {c : Bool} {x y : Prop} (e : c = true) (h : x) : if c = true then x else y := by rw [if_pos e]; exact h
theorem w_F {c : Bool} {x y : Prop} (e : c = false) (h : y) : if c = true then x else y := by rw [if_neg (by rw [e]; decide)]; exact h
theorem w_ite {c : Bool} {x y : Prop} (h1 : c = true → x) (h2 : c = false → y) : if c = true then x else y := by
  cases c with
  | true => exact w_T rfl (h1 rfl)
  | false => exact w_F rfl (h2 rfl)
/-! ### operations -/
theorem w_I0 {g : Int → Int → Int} {p q : Int} (h : PO (.int (g p q))) : oI0 g (.int p) (.int q) PO := h
theorem w_B0 {g : Int → Int → Bool} {p q : Int} (h : PO (.bool (g p q))) : oB0 g (.int p) (.int q) PO := h
theorem w_eqI {p q : Int} (h : PO (.bool (decide (p = q)))) : oEq false (.int p) (.int q) PO := by
  refine ⟨rfl, ?_⟩
  have e : decide (V.int p = V.int q) = decide (p = q) := decide_eq_decide.mpr ⟨fun z => V.int.inj z, fun z => by rw [z]⟩
  show PO (.bool (decide (V.int p = V.int q)))
  rw [e]
  exact h
theorem w_neI {p q : Int} (h : PO (.bool (!decide (p = q)))) : oEq true (.int p) (.int q) PO := by
  refine ⟨rfl, ?_⟩
  have e : decide (V.int p = V.int q) = decide (p = q) := decide_eq_decide.mpr ⟨fun z => V.int.inj z, fun z => by rw [z]⟩
  show PO (.bool (!decide (V.int p = V.int q)))
  rw [e]
  exact h
theorem w_eqS {p q : Str} (h : PO (.bool (decide (p = q)))) : oEq false (.str p) (.str q) PO := by
  refine ⟨rfl, ?_⟩
  have e : decide (V.str p = V.str q) = decide (p = q) := decide_eq_decide.mpr ⟨fun z => V.str.inj z, fun z => by rw [z]⟩
  show PO (.bool (decide (V.str p = V.str q)))
  rw [e]
  exact h
theorem w_neS {p q : Str} (h : PO (.bool (!decide (p = q)))) : oEq true (.str p) (.str q) PO := by
  refine ⟨rfl, ?_⟩
  have e : decide (V.str p = V.str q) = decide (p = q) := decide_eq_decide.mpr ⟨fun z => V.str.inj z, fun z => by rw [z]⟩
  show PO (.bool (!decide (V.str p = V.str q)))
  rw [e]
  exact h
theorem w_ixU {ds : List PyData} {k : Int} (e : atI ds k = some d) (h : PO d) : oIxU (.tuple ds) (.int k) PO := ⟨d, e, h⟩
theorem w_ixL {ds : List PyData} {k : Int} (e : atI ds k = some d) (h : PO d) : oIxL (.list ds) (.int k) PO := ⟨d, e, h⟩
theorem w_catU {ds es : List PyData} (e : ds.length + es.length ≤ 1000000) (h : PO (.tuple (ds ++ es))) : oCatU (.tuple ds) (.tuple es) PO := ⟨e, h⟩
theorem w_eqMt {ds : List PyData} (h : PO (.bool ds.isEmpty)) : oEqMt (.tuple ds) (.tuple []) PO := h
theorem w_eqMtL {ds : List PyData} (h : PO (.bool ds.isEmpty)) : oEqMtL (.list ds) (.list []) PO := h
theorem w_isN (h : PO (.bool (isNoneD d))) : oIsN false d .none PO := h
theorem w_notN (h : PO (.bool (!isNoneD d))) : oIsN true d .none PO := h
theorem rep_one (x : PyData) (k : Nat) : (List.replicate k [x]).flatten = List.replicate k x := by
  induction k with
  | zero => rfl
  | succ k ih => rw [List.replicate_succ, List.flatten_cons, ih, List.replicate_succ]; rfl
theorem w_rep1 {k : Nat} (hk : k ≤ 1000) (h : PO (.tuple (List.replicate k d))) : oRepU (.tuple [d]) (.int (k : Nat)) PO := by
  refine ⟨by omega, by omega, by simp, ?_⟩
  rw [Int.toNat_natCast, rep_one]
  exact h
end
theorem not_dec_f {p : Prop} [Decidable p] (h : (!decide p) = false) : p := by
  by_cases hp : p
  · exact hp
  · rw [decide_eq_false hp] at h
    cases h
theorem not_dec_t {p : Prop} [Decidable p] (h : (!decide p) = true) : ¬ p := fun hp => by
  rw [decide_eq_true hp] at h
  cases h
theorem not_f {b : Bool} (h : (!b) = false) : b = true := by
  cases b with
  | true => rfl
  | false => cases h
theorem not_t {b : Bool} (h : (!b) = true) : b = false := by
  cases b with
  | true => cases h
  | false => rfl
/-! ### loops by what is left -/
theorem loop_rem {g : DG} {b : DS} {E : DEnds} (J : List PyData → DSt → Prop)
    (step : ∀ d ds s, J (d :: ds) s → ∀ N : DSt → Prop, (∀ s2, J ds s2 → N s2) → g d (fun s1 => b { nx := N, rt := E.rt, ct := N, bk := E.nx } s1) s)
    (fin : ∀ s, J [] s → E.nx s) : ∀ (items : List PyData) (s : DSt), J items s → dLoop g b E items s
  | [], s, h => fin s h
  | d :: ds, s, h => step d ds s h _ fun s2 h2 => loop_rem J step fin ds s2 h2
theorem lc_rem {g : DG} {t : DT} {e : DE} {base : List DV} {P : List PyData → Nat → Prop} (J : List PyData → List PyData → Nat → Prop)
    (step : ∀ d ds acc n, J (d :: ds) acc n → ∀ (Y : PyData → Nat → Prop) (Z : Nat → Prop), (∀ y n', J ds (acc ++ [y]) n' → Y y n') → (∀ n', J ds acc n' → Z n') →
      g d (fun s1 => t s1 fun b s2 => if b = true then e s2 fun y s3 => s3.sl = s1.sl ∧ Y y s3.n else s2.sl = s1.sl ∧ Z s2.n) ⟨base, n⟩)
    (fin : ∀ acc n, J [] acc n → P acc n) : ∀ (items acc : List PyData) (n : Nat), J items acc n → dLc g t e base items acc n P
  | [], acc, n, h => fin acc n h
  | d :: ds, acc, n, h => step d ds acc n h (fun y n' => dLc g t e base ds (acc ++ [y]) n' P) (fun n' => dLc g t e base ds acc n' P)
      (fun y n' h2 => lc_rem J step fin ds _ n' h2) (fun n' h2 => lc_rem J step fin ds _ n' h2)
/-- each item gives its image; no draw -/
theorem lc_map {g : DG} {t : DT} {e : DE} {base : List DV} {P : List PyData → Nat → Prop} {n : Nat} {items : List PyData} (f : PyData → PyData)
    (step : ∀ d, d ∈ items → ∀ (Y : PyData → Nat → Prop) (Z : Nat → Prop), Y (f d) n →
      g d (fun s1 => t s1 fun b s2 => if b = true then e s2 fun y s3 => s3.sl = s1.sl ∧ Y y s3.n else s2.sl = s1.sl ∧ Z s2.n) ⟨base, n⟩)
    (fin : P (items.map f) n) : dLc g t e base items [] n P := by
  refine lc_rem (fun ds acc m => (∀ d, d ∈ ds → d ∈ items) ∧ acc ++ ds.map f = items.map f ∧ m = n) (fun d ds acc m h Y Z hY hZ => ?_) (fun acc m h => ?_) items [] n ⟨fun _ h => h, rfl, rfl⟩
  · obtain ⟨h1, h2, rfl⟩ := h
    refine step d (h1 d List.mem_cons_self) Y Z (hY _ _ ⟨fun x hx => h1 x (List.mem_cons_of_mem _ hx), ?_, rfl⟩)
    rw [← h2, List.map_cons, List.append_assoc]
    rfl
  · obtain ⟨_, h2, rfl⟩ := h
    rw [List.map_nil, List.append_nil] at h2
    rw [h2]
    exact fin
/-- the items that pass; no draw -/
theorem lc_filter {g : DG} {t : DT} {e : DE} {base : List DV} {P : List PyData → Nat → Prop} {n : Nat} {items : List PyData} (p : PyData → Bool)
    (step : ∀ d, d ∈ items → ∀ (Y : PyData → Nat → Prop) (Z : Nat → Prop), (p d = true → Y d n) → (p d = false → Z n) →
      g d (fun s1 => t s1 fun b s2 => if b = true then e s2 fun y s3 => s3.sl = s1.sl ∧ Y y s3.n else s2.sl = s1.sl ∧ Z s2.n) ⟨base, n⟩)
    (fin : P (items.filter p) n) : dLc g t e base items [] n P := by
  refine lc_rem (fun ds acc m => (∀ d, d ∈ ds → d ∈ items) ∧ acc ++ ds.filter p = items.filter p ∧ m = n) (fun d ds acc m h Y Z hY hZ => ?_) (fun acc m h => ?_) items [] n ⟨fun _ h => h, rfl, rfl⟩
  · obtain ⟨h1, h2, rfl⟩ := h
    refine step d (h1 d List.mem_cons_self) Y Z (fun hp => hY _ _ ⟨fun x hx => h1 x (List.mem_cons_of_mem _ hx), ?_, rfl⟩) (fun hp => hZ _ ⟨fun x hx => h1 x (List.mem_cons_of_mem _ hx), ?_, rfl⟩)
    · rw [← h2, List.filter_cons_of_pos hp, List.append_assoc]
      rfl
    · rw [← h2, List.filter_cons_of_neg (by rw [hp]; decide)]
  · obtain ⟨_, h2, rfl⟩ := h
    rw [List.filter_nil, List.append_nil] at h2
    rw [h2]
    exact fin
/-- each item gives something that keeps R, with at most k draws each -/
theorem lc_all {g : DG} {t : DT} {e : DE} {base : List DV} {P : List PyData → Nat → Prop} {n : Nat} {items : List PyData} (R : PyData → Prop) (k : Nat)
    (step : ∀ d, d ∈ items → ∀ m, n ≤ m → m + k ≤ n + k * items.length → ∀ (Y : PyData → Nat → Prop) (Z : Nat → Prop), (∀ y m', R y → m ≤ m' → m' ≤ m + k → Y y m') →
      g d (fun s1 => t s1 fun b s2 => if b = true then e s2 fun y s3 => s3.sl = s1.sl ∧ Y y s3.n else s2.sl = s1.sl ∧ Z s2.n) ⟨base, m⟩)
    (fin : ∀ ys m, ys.length = items.length → (∀ y, y ∈ ys → R y) → n ≤ m → m ≤ n + k * items.length → P ys m) : dLc g t e base items [] n P := by
  refine lc_rem (fun ds acc m => (∀ d, d ∈ ds → d ∈ items) ∧ acc.length + ds.length = items.length ∧ (∀ y, y ∈ acc → R y) ∧ n ≤ m ∧ m + k * ds.length ≤ n + k * items.length) (fun d ds acc m h Y Z hY hZ => ?_) (fun acc m h => ?_) items [] n ⟨fun _ h => h, by simp, (fun y h => by cases h), Nat.le_refl _, Nat.le_refl _⟩
  · obtain ⟨h1, h2, h3, h4, h5⟩ := h
    rw [List.length_cons, Nat.mul_add, Nat.mul_one] at h5
    rw [List.length_cons] at h2
    refine step d (h1 d List.mem_cons_self) m h4 (by omega) Y Z fun y m' hR a1 a2 => hY _ _ ⟨fun x hx => h1 x (List.mem_cons_of_mem _ hx), ?_, fun z hz => ?_, by omega, by omega⟩
    · rw [List.length_append, List.length_singleton]
      omega
    · rcases List.mem_append.mp hz with hz | hz
      · exact h3 z hz
      · rw [List.mem_singleton.mp hz]
        exact hR
  · obtain ⟨_, h2, h3, h4, h5⟩ := h
    exact fin acc m (by simpa using h2) h3 h4 (by simpa using h5)
theorem w_slD {P : List PyData → DSt → Prop} {s : DSt} {de : DE} {d1 d2 : DO} (h : de s fun d s1 => d1 s1 fun lo s2 => d2 s2 fun hi s3 => match d with
  | .list ds => P (cutD ds lo hi) s3
  | _ => False) : dSlD de d1 d2 s P := h
theorem w_slU {P : PyData → DSt → Prop} {s : DSt} {de : DE} {d1 d2 : DO} (h : de s fun d s1 => d1 s1 fun lo s2 => d2 s2 fun hi s3 => match d with
  | .tuple ds => P (.tuple (cutD ds lo hi)) s3
  | _ => False) : dSlU de d1 d2 s P := h
theorem w_noP {P : Option Int → DSt → Prop} {s : DSt} (h : P none s) : dNoP s P := h
theorem w_part {P : Option Int → DSt → Prop} {s : DSt} {de : DE} (h : de s fun d s1 => match d with
  | .int i => P (some i) s1
  | _ => False) : dPart de s P := h
theorem w_listZip {P : List PyData → DSt → Prop} {s : DSt} {d1 d2 : DE} (h : d1 s fun x s1 => d2 s1 fun y s2 => match x, y with
  | .list a, .list b => P (List.zipWith (fun p q => PyData.tuple [p, q]) a b) s2
  | _, _ => False) : dListZip d1 d2 s P := h
theorem w_sortSI {P : List PyData → DSt → Prop} {s : DSt} {dl : DA} (h : dl s fun ds s1 => ds.all isSI = true ∧ ∀ es : List PyData, es.Perm ds → P es s1) : dSortSI dl s P := h
theorem w_listRng {P : List PyData → DSt → Prop} {s : DSt} {de : DE} (h : de s fun d s1 => match d with
  | .int j => 0 ≤ j ∧ j ≤ 1000 ∧ P (upToD j.toNat) s1
  | _ => False) : dListRng de s P := h
theorem w_setD {E : DEnds} {s : DSt} {i : Nat} {dl : DK} (h : dl s fun kvs s1 => i < s1.sl.length ∧ E.nx ⟨s1.sl.set i (.owd kvs), s1.n⟩) : dSetD dl i E s := h
theorem w_dictL {P : List (PyData × PyData) → DSt → Prop} {s : DSt} {dl : DA} (h : dl s fun ds s1 => ∃ prs, pairsD ds = some prs ∧ P (mergeD [] prs) s1) : dDictL dl s P := h
theorem w_dictU {P : List (PyData × PyData) → DSt → Prop} {s : DSt} {de : DE} (h : de s fun d s1 => match d with
  | .tuple ds => ∃ prs, pairsD ds = some prs ∧ P (mergeD [] prs) s1
  | _ => False) : dDictU de s P := h
theorem w_disp {P : List (PyData × PyData) → DSt → Prop} {s : DSt} {dp : DK} (h : dp s fun ds s1 => ds.length ≤ 15 ∧ ∃ ks, keysD ds = some ks ∧ P (mergeD [] ks) s1) : dDisp dp s P := h
theorem w_psNil {P : List (PyData × PyData) → DSt → Prop} {s : DSt} (h : P [] s) : dPsNil s P := h
theorem w_psCons {P : List (PyData × PyData) → DSt → Prop} {s : DSt} {dk dv : DE} {dp : DK} (h : dk s fun x s1 => dv s1 fun y s2 => dp s2 fun ds s3 => P ((x, y) :: ds) s3) : dPsCons dk dv dp s P := h
theorem cut_to {xs : List PyData} (k : Nat) : cutD xs none (some (k : Int)) = xs.take k := by
  unfold cutD
  rw [HT.sIx_nat, HT.sIx_none, List.drop_zero, Nat.sub_zero]
  rcases Nat.le_total k xs.length with h | h
  · rw [Nat.min_eq_left h]
  · rw [Nat.min_eq_right h, List.take_of_length_le (Nat.le_refl _), List.take_of_length_le h]
theorem cut_from {xs : List PyData} (k : Nat) : cutD xs (some (k : Int)) none = xs.drop k := by
  unfold cutD
  rw [HT.sIx_nat, HT.sIx_none]
  rcases Nat.le_total k xs.length with h | h
  · rw [Nat.min_eq_left h]
    exact List.take_of_length_le (by rw [List.length_drop]; omega)
  · rw [Nat.min_eq_right h, List.drop_eq_nil_of_le h, List.drop_length, List.take_nil]
/-- some items give something; no draw -/
theorem lc_fm {g : DG} {t : DT} {e : DE} {base : List DV} {P : List PyData → Nat → Prop} {n : Nat} {items : List PyData} (f : PyData → Option PyData)
    (step : ∀ d, d ∈ items → ∀ (Y : PyData → Nat → Prop) (Z : Nat → Prop), (∀ y, f d = some y → Y y n) → (f d = none → Z n) →
      g d (fun s1 => t s1 fun b s2 => if b = true then e s2 fun y s3 => s3.sl = s1.sl ∧ Y y s3.n else s2.sl = s1.sl ∧ Z s2.n) ⟨base, n⟩)
    (fin : P (items.filterMap f) n) : dLc g t e base items [] n P := by
  refine lc_rem (fun ds acc m => (∀ d, d ∈ ds → d ∈ items) ∧ acc ++ ds.filterMap f = items.filterMap f ∧ m = n) (fun d ds acc m h Y Z hY hZ => ?_) (fun acc m h => ?_) items [] n ⟨fun _ h => h, rfl, rfl⟩
  · obtain ⟨h1, h2, rfl⟩ := h
    refine step d (h1 d List.mem_cons_self) Y Z (fun y hp => hY _ _ ⟨fun x hx => h1 x (List.mem_cons_of_mem _ hx), ?_, rfl⟩) (fun hp => hZ _ ⟨fun x hx => h1 x (List.mem_cons_of_mem _ hx), ?_, rfl⟩)
    · rw [← h2, List.filterMap_cons_some hp, List.append_assoc]
      rfl
    · rw [← h2, List.filterMap_cons_none hp]
  · obtain ⟨_, h2, rfl⟩ := h
    rw [List.filterMap_nil, List.append_nil] at h2
    rw [h2]
    exact fin
/-- some items give something that keeps R, with at most k draws each -/
theorem lc_some {g : DG} {t : DT} {e : DE} {base : List DV} {P : List PyData → Nat → Prop} {n : Nat} {items : List PyData} (R : PyData → Prop) (k : Nat)
    (step : ∀ d, d ∈ items → ∀ m, n ≤ m → m + k ≤ n + k * items.length → ∀ (Y : PyData → Nat → Prop) (Z : Nat → Prop), (∀ y m', R y → m ≤ m' → m' ≤ m + k → Y y m') → (∀ m', m ≤ m' → m' ≤ m + k → Z m') →
      g d (fun s1 => t s1 fun b s2 => if b = true then e s2 fun y s3 => s3.sl = s1.sl ∧ Y y s3.n else s2.sl = s1.sl ∧ Z s2.n) ⟨base, m⟩)
    (fin : ∀ ys m, ys.length ≤ items.length → (∀ y, y ∈ ys → R y) → n ≤ m → m ≤ n + k * items.length → P ys m) : dLc g t e base items [] n P := by
  refine lc_rem (fun ds acc m => (∀ d, d ∈ ds → d ∈ items) ∧ acc.length + ds.length ≤ items.length ∧ (∀ y, y ∈ acc → R y) ∧ n ≤ m ∧ m + k * ds.length ≤ n + k * items.length) (fun d ds acc m h Y Z hY hZ => ?_) (fun acc m h => ?_) items [] n ⟨fun _ h => h, by simp, (fun y h => by cases h), Nat.le_refl _, Nat.le_refl _⟩
  · obtain ⟨h1, h2, h3, h4, h5⟩ := h
    rw [List.length_cons, Nat.mul_add, Nat.mul_one] at h5
    rw [List.length_cons] at h2
    refine step d (h1 d List.mem_cons_self) m h4 (by omega) Y Z (fun y m' hR a1 a2 => hY _ _ ⟨fun x hx => h1 x (List.mem_cons_of_mem _ hx), ?_, fun z hz => ?_, by omega, by omega⟩) fun m' a1 a2 => hZ _ ⟨fun x hx => h1 x (List.mem_cons_of_mem _ hx), by omega, h3, by omega, by omega⟩
    · rw [List.length_append, List.length_singleton]
      omega
    · rcases List.mem_append.mp hz with hz | hz
      · exact h3 z hz
      · rw [List.mem_singleton.mp hz]
        exact hR
  · obtain ⟨_, h2, h3, h4, h5⟩ := h
    exact fin acc m (by simpa using h2) h3 h4 (by simpa using h5)
/-! ### ints -/
abbrev natsD (l : List Nat) : List PyData := l.map fun f => .int (f : Nat)
theorem nats_ints (l : List Nat) : natsD l = intsD (l.map fun f : Nat => (f : Int)) := by
  unfold natsD intsD
  rw [List.map_map]
  rfl
theorem noDict_nats : ∀ l : List Nat, PyData.hasDictAll (natsD l) = false
  | [] => by simp only [natsD, List.map_nil, PyData.hasDictAll]
  | x :: l => by
    have ih : PyData.hasDictAll (l.map fun f => PyData.int (f : Nat)) = false := noDict_nats l
    simp only [natsD, List.map_cons, PyData.hasDictAll, PyData.hasDict, ih, Bool.or_self]
theorem shaped_nats (l : List Nat) : SeqAt.shaped (.list (natsD l)) = true := by
  rw [nats_ints]
  exact shaped_ints _
theorem nats_of : ∀ {ys : List PyData} {L : Nat}, (∀ y, y ∈ ys → ∃ v : Nat, v < L ∧ y = .int (v : Nat)) → ∃ fs : List Nat, ys = natsD fs ∧ fs.length = ys.length ∧ ∀ f, f ∈ fs → f < L
  | [], _, _ => ⟨[], rfl, rfl, fun f hf => absurd hf List.not_mem_nil⟩
  | y :: ys, L, h => by
    obtain ⟨v, hv, rfl⟩ := h y List.mem_cons_self
    obtain ⟨fs, rfl, h2, h3⟩ := nats_of (fun z hz => h z (List.mem_cons_of_mem _ hz))
    refine ⟨v :: fs, rfl, by simp, fun f hf => ?_⟩
    rcases List.mem_cons.mp hf with rfl | hf
    · exact hv
    · exact h3 f hf
theorem rng_len (lo : Int) (n : Nat) : (rngD lo n).length = n := by unfold rngD; simp
theorem rng_mem {n : Nat} {d : PyData} (h : d ∈ rngD 0 n) : ∃ v : Nat, v < n ∧ d = .int (v : Nat) := by
  unfold rngD at h
  obtain ⟨k, hk, rfl⟩ := List.mem_map.mp h
  exact ⟨k, List.mem_range.mp hk, by rw [Int.zero_add]⟩
theorem upTo_nats (n : Nat) : upToD n = natsD (List.range n) := rfl
theorem mem_erase {α : Type} {l : List α} {v : Nat} (hv : v < l.length) {x : α} (h : x ∈ l) : x = l[v] ∨ x ∈ l.eraseIdx v := by
  rw [List.eraseIdx_eq_take_drop_succ]
  rw [← List.take_append_drop v l, List.drop_eq_getElem_cons hv] at h
  rcases List.mem_append.mp h with h | h
  · exact .inr (List.mem_append_left _ h)
  · rcases List.mem_cons.mp h with h | h
    · exact .inl h
    · exact .inr (List.mem_append_right _ h)
theorem of_erase {α : Type} {l : List α} {v : Nat} {x : α} (h : x ∈ l.eraseIdx v) : x ∈ l := List.mem_of_mem_eraseIdx h
/-! ### calls of draws -/
theorem w_draw {n L : Nat} {P : PyData → Nat → Prop} (hn : n < 1000000) (h1 : 1 ≤ L) (h2 : L < 1000000) (h : ∀ v : Nat, v < L → P (.int (v : Nat)) (n + 1)) : F_draw [.deck, .dat (.int (L : Nat))] n P := by
  refine ⟨hn, by omega, by omega, fun v h0 hv => ?_⟩
  obtain ⟨k, rfl⟩ := Int.eq_ofNat_of_zero_le h0
  exact h k (by omega)
/-! ### isinstance -/
def isTup : PyData → Bool
  | .tuple _ => true
  | _ => false
def isStrD : PyData → Bool
  | .str _ => true
  | _ => false
theorem isa_tup (d : PyData) : isaB (tyD d) "tuple" = some (isTup d) := by cases d <;> kernel_rfl
theorem isa_str (d : PyData) : isaB (tyD d) "str" = some (isStrD d) := by cases d <;> kernel_rfl
/-! ### data whose repr can be taken -/
structure Val (D W : Nat) (d : PyData) : Prop where
  sh : d.showable = true
  lv : d.leavesShort 40 = true
  dp : d.depth ≤ D
  wt : d.weight ≤ W
theorem Val.shows {D W : Nat} {d : PyData} (h : Val D W d) (hD : D ≤ 60) (hW : W ≤ 399000) : Shows d :=
  ⟨h.sh, Nat.le_trans h.dp hD, by
    have z := PyData.shown_le 40 (by decide) d h.lv
    have y := h.wt
    rw [sizeLine_eq]
    omega⟩
theorem Val.mono {D W D' W' : Nat} {d : PyData} (h : Val D W d) (hD : D ≤ D') (hW : W ≤ W') : Val D' W' d := ⟨h.sh, h.lv, Nat.le_trans h.dp hD, Nat.le_trans h.wt hW⟩
structure Vals' (D W : Nat) (ds : List PyData) : Prop where
  sh : PyData.showableAll ds = true
  lv : PyData.leavesShortAll 40 ds = true
  dp : PyData.depthAll ds ≤ D
  wt : PyData.weightAll ds ≤ W
theorem vals_nil {D W : Nat} : Vals' D W [] := ⟨by simp only [PyData.showableAll], by simp only [PyData.leavesShortAll], by simp only [PyData.depthAll]; omega, by simp only [PyData.weightAll]; omega⟩
theorem vals_cons {D W V : Nat} {d : PyData} {ds : List PyData} (h : Val D V d) (hs : Vals' D W ds) : Vals' D (V + 1 + W) (d :: ds) :=
  ⟨by simp only [PyData.showableAll, h.sh, hs.sh, Bool.and_self], by simp only [PyData.leavesShortAll, h.lv, hs.lv, Bool.and_self], by simp only [PyData.depthAll]; exact Nat.max_le.mpr ⟨h.dp, hs.dp⟩, by
    simp only [PyData.weightAll]
    have := h.wt
    have := hs.wt
    omega⟩
theorem vals_mono {D W D' W' : Nat} {ds : List PyData} (h : Vals' D W ds) (hD : D ≤ D') (hW : W ≤ W') : Vals' D' W' ds := ⟨h.sh, h.lv, Nat.le_trans h.dp hD, Nat.le_trans h.wt hW⟩
theorem val_tup {D W : Nat} {ds : List PyData} (h : Vals' D W ds) : Val (D + 1) W (.tuple ds) :=
  ⟨by simp only [PyData.showable, h.sh], by simp only [PyData.leavesShort, h.lv], by simp only [PyData.depth]; have := h.dp; omega, by simp only [PyData.weight]; exact h.wt⟩
theorem val_lst {D W : Nat} {ds : List PyData} (h : Vals' D W ds) : Val (D + 1) W (.list ds) :=
  ⟨by simp only [PyData.showable, h.sh], by simp only [PyData.leavesShort, h.lv], by simp only [PyData.depth]; have := h.dp; omega, by simp only [PyData.weight]; exact h.wt⟩
theorem vals_of_tup {D W : Nat} {ds : List PyData} (h : Val (D + 1) W (.tuple ds)) : Vals' D W ds :=
  ⟨by simpa only [PyData.showable] using h.sh, by simpa only [PyData.leavesShort] using h.lv, by have := h.dp; simp only [PyData.depth] at this; omega, by simpa only [PyData.weight] using h.wt⟩
theorem vals_append {D W V : Nat} : ∀ {ds es : List PyData}, Vals' D W ds → Vals' D V es → Vals' D (W + V) (ds ++ es)
  | [], es, _, h => vals_mono h (Nat.le_refl _) (by omega)
  | d :: ds, es, h, k => by
    have h1 := h.sh
    have h2 := h.lv
    have h3 := h.dp
    have h4 := h.wt
    simp only [PyData.showableAll, Bool.and_eq_true] at h1
    simp only [PyData.leavesShortAll, Bool.and_eq_true] at h2
    simp only [PyData.depthAll] at h3
    simp only [PyData.weightAll] at h4
    have z := vals_append (W := W - d.weight - 1) (⟨h1.2, h2.2, Nat.le_trans (Nat.le_max_right _ _) h3, by omega⟩ : Vals' D (W - d.weight - 1) ds) k
    exact vals_mono (vals_cons (V := d.weight) ⟨h1.1, h2.1, Nat.le_trans (Nat.le_max_left _ _) h3, Nat.le_refl _⟩ z) (Nat.le_refl _) (by omega)
/-- each of them -/
theorem vals_all {D V : Nat} : ∀ {ds : List PyData}, (∀ d, d ∈ ds → Val D V d) → Vals' D (ds.length * (V + 1)) ds
  | [], _ => vals_nil
  | d :: ds, h => by
    have z := vals_cons (h d List.mem_cons_self) (vals_all fun x hx => h x (List.mem_cons_of_mem _ hx))
    refine vals_mono z (Nat.le_refl _) ?_
    rw [List.length_cons, Nat.add_mul]
    omega
theorem vals_mem {D W : Nat} : ∀ {ds : List PyData}, Vals' D W ds → ∀ d, d ∈ ds → Val D W d
  | [], _, d, h => by cases h
  | x :: ds, h, d, hd => by
    have h1 := h.sh
    have h2 := h.lv
    have h3 := h.dp
    have h4 := h.wt
    simp only [PyData.showableAll, Bool.and_eq_true] at h1
    simp only [PyData.leavesShortAll, Bool.and_eq_true] at h2
    simp only [PyData.depthAll] at h3
    simp only [PyData.weightAll] at h4
    rcases List.mem_cons.mp hd with rfl | hd
    · exact ⟨h1.1, h2.1, Nat.le_trans (Nat.le_max_left _ _) h3, by omega⟩
    · exact vals_mem ⟨h1.2, h2.2, Nat.le_trans (Nat.le_max_right _ _) h3, by omega⟩ d hd
theorem val_none {D W : Nat} : Val D W .none := ⟨by simp only [PyData.showable], by simp only [PyData.leavesShort], by simp only [PyData.depth]; omega, by simp only [PyData.weight]; omega⟩
theorem val_bool {D W : Nat} (b : Bool) : Val D W (.bool b) := ⟨by simp only [PyData.showable], by simp only [PyData.leavesShort], by simp only [PyData.depth]; omega, by simp only [PyData.weight]; omega⟩
end DL
namespace DL
open PySem PySem.Spec PyProof.Rows L2 GG DD PT
theorem vals_uncons {D W : Nat} {d : PyData} {ds : List PyData} (h : Vals' D W (d :: ds)) : Val D d.weight d ∧ Vals' D (W - d.weight - 1) ds ∧ d.weight + 1 ≤ W := by
  have h1 := h.sh
  have h2 := h.lv
  have h3 := h.dp
  have h4 := h.wt
  simp only [PyData.showableAll, Bool.and_eq_true] at h1
  simp only [PyData.leavesShortAll, Bool.and_eq_true] at h2
  simp only [PyData.depthAll] at h3
  simp only [PyData.weightAll] at h4
  exact ⟨⟨h1.1, h2.1, Nat.le_trans (Nat.le_max_left _ _) h3, Nat.le_refl _⟩, ⟨h1.2, h2.2, Nat.le_trans (Nat.le_max_right _ _) h3, by omega⟩, by omega⟩
theorem vals_split {D : Nat} : ∀ {xs ys : List PyData} {W : Nat}, Vals' D W (xs ++ ys) → ∃ a b, Vals' D a xs ∧ Vals' D b ys ∧ a + b ≤ W
  | [], ys, W, h => ⟨0, W, vals_nil, h, by omega⟩
  | x :: xs, ys, W, h => by
    obtain ⟨h1, h2, h3⟩ := vals_uncons h
    obtain ⟨a, b, h4, h5, h6⟩ := vals_split (xs := xs) h2
    exact ⟨_, b, vals_cons h1 h4, h5, by omega⟩
/-- at one place -/
theorem vals_at {D W k : Nat} {ds : List PyData} (h : Vals' D W ds) (hk : k < ds.length) : ∃ a b c, Vals' D a (ds.take k) ∧ Val D b ds[k] ∧ Vals' D c (ds.drop (k + 1)) ∧ a + b + 1 + c ≤ W := by
  have e : ds = ds.take k ++ ds[k] :: ds.drop (k + 1) := by rw [← List.drop_eq_getElem_cons hk, List.take_append_drop]
  rw [e] at h
  obtain ⟨a, b, h1, h2, h3⟩ := vals_split h
  obtain ⟨h4, h5, h6⟩ := vals_uncons h2
  exact ⟨a, _, _, h1, h4, h5, by omega⟩
theorem val_depth_pos {D W : Nat} {ds : List PyData} (h : Val D W (.tuple ds)) : ∃ D', D = D' + 1 := by
  have := h.dp
  simp only [PyData.depth] at this
  exact ⟨D - 1, by omega⟩
theorem depth_at : ∀ {ds : List PyData} {k : Nat} (hk : k < ds.length), ds[k].depth ≤ PyData.depthAll ds
  | d :: ds, 0, _ => by
    simp only [PyData.depthAll, List.getElem_cons_zero]
    exact Nat.le_max_left _ _
  | d :: ds, k + 1, h => by
    simp only [PyData.depthAll, List.getElem_cons_succ]
    exact Nat.le_trans (depth_at (by simpa using h)) (Nat.le_max_right _ _)
/-- a tuple is no longer than its weight -/
theorem vals_len {D : Nat} : ∀ {W : Nat} {ds : List PyData}, Vals' D W ds → ds.length ≤ W
  | W, [], _ => Nat.zero_le _
  | W, d :: ds, h => by
    obtain ⟨_, h2, h3⟩ := vals_uncons h
    have := vals_len h2
    rw [List.length_cons]
    omega
theorem val_str {D W : Nat} {x : Str} (h : (PyData.str x).leavesShort 40 = true) (hw : x.cps.size ≤ W) : Val D W (.str x) := ⟨by simp only [PyData.showable], h, by simp only [PyData.depth]; omega, by simp only [PyData.weight]; exact hw⟩
theorem val_dict1 {D W V : Nat} {k x : PyData} (hk : Val D V k) (h : Val D W x) : Val (D + 1) (V + W + 2) (.dict [(k, x)]) :=
  ⟨by simp only [PyData.showable, PyData.showableKv, hk.sh, h.sh, Bool.and_self], by simp only [PyData.leavesShort, PyData.leavesShortKv, hk.lv, h.lv, Bool.and_self], by
    have h1 := hk.dp
    have h2 := h.dp
    simp only [PyData.depth, PyData.depthKv]
    omega, by
    have h1 := hk.wt
    have h2 := h.wt
    simp only [PyData.weight, PyData.weightKv]
    omega⟩
end DL
namespace DL
open PySem PySem.Spec PyProof.Rows L2 GG DD PT
def AllV (D W : Nat) (ds : List PyData) : Prop := ∀ d, d ∈ ds → Val D W d
theorem av_nil {D W : Nat} : AllV D W [] := fun d h => absurd h List.not_mem_nil
theorem av_cons {D W : Nat} {d : PyData} {ds : List PyData} (h : Val D W d) (t : AllV D W ds) : AllV D W (d :: ds) := fun x hx => by
  rcases List.mem_cons.mp hx with rfl | hx
  · exact h
  · exact t x hx
theorem av_app {D W : Nat} {ds es : List PyData} (h : AllV D W ds) (t : AllV D W es) : AllV D W (ds ++ es) := fun x hx => (List.mem_append.mp hx).elim (h x) (t x)
theorem vN : Val 0 0 .none := val_none
theorem vB (b : Bool) : Val 0 0 (.bool b) := val_bool b
theorem vI0 : Val 0 0 (.int 0) := ⟨by decide, by decide, by decide, by decide⟩
theorem vT0 : Val 1 0 (.tuple []) := val_tup vals_nil
theorem vL0 : Val 1 0 (.list []) := val_lst vals_nil
theorem vD0 : Val 1 0 (.dict []) := ⟨by simp only [PyData.showable, PyData.showableKv], by simp only [PyData.leavesShort, PyData.leavesShortKv], by simp only [PyData.depth, PyData.depthKv]; omega, by simp only [PyData.weight, PyData.weightKv]; omega⟩
theorem vT1 {D A : Nat} {a : PyData} (h : Val D A a) : Val (D + 1) (A + 1) (.tuple [a]) := val_tup (vals_cons (W := 0) h vals_nil)
theorem vL1 {D A : Nat} {a : PyData} (h : Val D A a) : Val (D + 1) (A + 1) (.list [a]) := val_lst (vals_cons (W := 0) h vals_nil)
theorem vals2 {D A D' B : Nat} {a b : PyData} (h : Val D A a) (k : Val D' B b) : Vals' (max D D') (A + B + 2) [a, b] :=
  vals_mono (vals_cons (h.mono (Nat.le_max_left _ _) (Nat.le_refl _)) (vals_cons (W := 0) (k.mono (Nat.le_max_right _ _) (Nat.le_refl _)) vals_nil)) (Nat.le_refl _) (by omega)
theorem vT2 {D A D' B : Nat} {a b : PyData} (h : Val D A a) (k : Val D' B b) : Val (max D D' + 1) (A + B + 2) (.tuple [a, b]) := val_tup (vals2 h k)
theorem vL2 {D A D' B : Nat} {a b : PyData} (h : Val D A a) (k : Val D' B b) : Val (max D D' + 1) (A + B + 2) (.list [a, b]) := val_lst (vals2 h k)
theorem vals_rep {D A k m : Nat} {a : PyData} (hk : k ≤ m) (h : Val D A a) : Vals' D (m * (A + 1)) (List.replicate k a) := by
  have z := vals_all (D := D) (V := A) (ds := List.replicate k a) fun d hd => by
    rw [List.eq_of_mem_replicate hd]
    exact h
  rw [List.length_replicate] at z
  exact vals_mono z (Nat.le_refl _) (Nat.mul_le_mul_right _ hk)
theorem vTn {D A k m : Nat} {a : PyData} (hk : k ≤ m) (h : Val D A a) : Val (D + 1) (m * (A + 1)) (.tuple (List.replicate k a)) := val_tup (vals_rep hk h)
theorem vLn {D A k m : Nat} {a : PyData} (hk : k ≤ m) (h : Val D A a) : Val (D + 1) (m * (A + 1)) (.list (List.replicate k a)) := val_lst (vals_rep hk h)
end DL
namespace DL
open PySem PySem.Spec PyProof.Rows L2 GG DD PT
/-- each item gives something that keeps R, with at most k draws each -/
theorem lc_each {g : DG} {t : DT} {e : DE} {base : List DV} {P : List PyData → Nat → Prop} {n : Nat} {items : List PyData} (R : PyData → Prop) (k : Nat)
    (step : ∀ d, d ∈ items → ∀ m, m + k ≤ n + k * items.length → ∀ (Y : PyData → Nat → Prop) (Z : Nat → Prop), (∀ y m', R y → m' ≤ m + k → Y y m') →
      g d (fun s1 => t s1 fun b s2 => if b = true then e s2 fun y s3 => s3.sl = s1.sl ∧ Y y s3.n else s2.sl = s1.sl ∧ Z s2.n) ⟨base, m⟩)
    (fin : ∀ ys m, ys.length = items.length → (∀ y, y ∈ ys → R y) → m ≤ n + k * items.length → P ys m) : dLc g t e base items [] n P := by
  refine lc_rem (fun ds acc m => (∀ d, d ∈ ds → d ∈ items) ∧ acc.length + ds.length = items.length ∧ (∀ y, y ∈ acc → R y) ∧ m + k * ds.length ≤ n + k * items.length) (fun d ds acc m h Y Z hY hZ => ?_) (fun acc m h => ?_) items [] n ⟨fun _ h => h, by simp, (fun y h => by cases h), Nat.le_refl _⟩
  · obtain ⟨h1, h2, h3, h5⟩ := h
    rw [List.length_cons, Nat.mul_add, Nat.mul_one] at h5
    rw [List.length_cons] at h2
    refine step d (h1 d List.mem_cons_self) m (by omega) Y Z fun y m' hR a2 => hY _ _ ⟨fun x hx => h1 x (List.mem_cons_of_mem _ hx), ?_, fun z hz => ?_, by omega⟩
    · rw [List.length_append, List.length_singleton]
      omega
    · rcases List.mem_append.mp hz with hz | hz
      · exact h3 z hz
      · rw [List.mem_singleton.mp hz]
        exact hR
  · obtain ⟨_, h2, h3, h5⟩ := h
    exact fin acc m (by simpa using h2) h3 (by simpa using h5)
end DL

set_option Elab.async false
set_option linter.all false
set_option maxRecDepth 100000
set_option maxHeartbeats 4000000
/-! TK: dicts with tuple keys read by any tuple; setdefault there; two readings of one expression. -/
namespace TK
open PySem PySem.Spec PyProof.Rows L2
section
variable {X : Cx} {e : Expr}
def tOr2 (t u : TE) : TE := fun σ H Q => t σ H Q ∨ u σ H Q
theorem pe_or2 {t u : TE} (h : PE X e t) (h' : PE X e u) : PE X e (tOr2 t u) := ⟨fun pins s σ H Q I q => q.elim (h.run pins s σ H Q I) (h'.run pins s σ H Q I)⟩
def iOr2 (t u : TI) : TI := fun σ H R => t σ H R ∨ u σ H R
theorem pi_or2 {tg : Expr} {t u : TI} (h : PI X tg e t) (h' : PI X tg e u) : PI X tg e (iOr2 t u) := ⟨fun pins s σ H Q I q => q.elim (h.run pins s σ H Q I) (h'.run pins s σ H Q I)⟩
end
section
variable {X : Cx} {pins : List (Addr × Obj)} {σ : L2.St} {H : Hp} {s : Shared} {a b : Addr} {v : V} {u r : Value} {A : Around} {E : Value → Shared → Prop} {kvs : List (List Key × V)} {k : List Key}
theorem key_ofQ (I : Inv X pins σ H s) (e : SqT X.K H b (k.map kV)) : (tupleKind (mixKind X.prog X.w)).is s.heap k b := by
  obtain ⟨its, rv, ⟨o, ho, hc, n, hd⟩, _⟩ := I.tuple e
  exact ⟨o, its.toArray, n, ho, hc, hd, by simpa using items_are rv⟩
/-- d[t], there, t any tuple -/
theorem dt_getItem {Q : Value → Shared → Prop} (hu : A.units + 1 < cLine) (I : Inv X pins σ H s) (e : Rd H a (.dT kvs)) (eb : SqT X.K H b (k.map kV)) (l : valV kvs k = some v) (h : ∀ w' s', Inv X pins σ H s' → RelV v w' → Q w' s') :
    wpAny (model X.prog X.w) A (getItem (.ref a) (.ref b)) Q E s := by
  obtain ⟨z, hd, xs, rel, dd⟩ := dt_rd I.hok e
  obtain ⟨w', hw, rw'⟩ := RelO.some_of (v := v) (o := (atKey xs k).map (·.2)) (by rw [← l]; exact rel.val k)
  obtain ⟨p, hp, hp2⟩ := Option.map_eq_some_iff.mp hw
  refine wpAny_getItem_heap (tupleKind_room_in1 hu) (key_ofQ I eb) dd hp ?_
  rw [hp2]
  exact h w' _ (I.tok _) rw'
/-- d[t] = v: t a tuple that may be kept, or a key that is there -/
theorem dt_setItem {Q : Unit → Shared → Prop} (hu : A.units + 1 < cLine) (I : Inv X pins σ H s) (e : H a = some (.dT kvs)) (eb : H b = some (.tup (k.map kV)) ∨ (SqT X.K H b (k.map kV) ∧ (valV kvs k).isSome = true)) (hl : kvs.length < sizeLine) (rv : RelV v r) (h : ∀ s', Inv X pins σ (upd H a (.dT (putK kvs k v))) s' → Q () s') :
    wpAny (model X.prog X.w) A (setItem (.ref a) (.ref b) r) Q E s := by
  obtain ⟨z, hd, xs, rel, dd⟩ := dt_of I.hok e
  have hz : xs.length ≤ sizeLine := by rw [← Paired.length rel]; exact z
  have hl2 : (putK kvs k v).length ≤ sizeLine := by have := length_putK kvs k v; omega
  have hk : (tupleKind (mixKind X.prog X.w)).is s.heap k b := eb.elim (fun q => key_of I.hok q) fun q => key_ofQ I q.1
  have hput : KT H (putK kvs k v) (storedH xs k b r) := by
    rcases eb with q | ⟨_, q⟩
    · exact rel.put k q rv
    · have e1 : (kvs.any fun kv => decide (kv.1 = k)) = true := by rw [valV_any]; exact q
      have e2 : (atKey xs k).isSome = true := by
        have := (rel.val k).isSome_eq
        rw [Option.isSome_map] at this
        rw [← this]
        exact q
      unfold putK storedH
      rw [if_pos e1, if_pos e2]
      exact rel.repl k rv
  refine wpAny_setItem_heap (hsz := hz) (tupleKind_room_in1 hu) hk dd fun h' dd' hs => h _ ?_
  obtain ⟨q, es, ep, hq, h2, h3, h4, _, h5⟩ := dd'
  refine d_write I (by rw [e]; exact True.intro) hs ⟨q, hq⟩ ⟨hl2, hd, _, hput.keeps fun c ys ec => ?_, q, es, ep, hq, h2, h3, h4, h5⟩
  rw [upd_ne (ne_of ec e (fun z => nomatch z))]
  exact ec
/-- d.setdefault(t, x) -/
theorem dt_setd {d : V} {Q : Value → Shared → Prop} (hu : A.units + 1 < cLine) (I : Inv X pins σ H s) (e : H a = some (.dT kvs)) (eb : H b = some (.tup (k.map kV))) (rd : RelV d r) (hl : kvs.length < sizeLine)
    (h1 : ∀ v, valV kvs k = some v → ∀ (w' : Value) (s' : Shared), Inv X pins σ H s' → RelV v w' → Q w' s') (h2 : valV kvs k = none → ∀ (w' : Value) (s' : Shared), Inv X pins σ (upd H a (.dT (putK kvs k d))) s' → RelV d w' → Q w' s') :
    wpAny (model X.prog X.w) A (call (.builtin "dict.setdefault") [.ref a, .ref b, r]) Q E s := by
  obtain ⟨z, hd, xs, rel, dd⟩ := dt_of I.hok e
  have hz : xs.length ≤ sizeLine := by rw [← Paired.length rel]; exact z
  have hl2 : (putK kvs k d).length ≤ sizeLine := by have := length_putK kvs k d; omega
  refine call_setdefault_heap (hsz := hz) (tupleKind_room_in1 hu) (key_of I.hok eb) hd dd (fun p hp => ?_) fun hn h' dd' hs => ?_
  · have q := rel.val k
    rw [hp] at q
    cases q0 : valV kvs k with
    | none =>
      rw [q0] at q
      exact (show False from q).elim
    | some v0 =>
      rw [q0] at q
      exact h1 v0 q0 _ _ (I.tok _) q
  · have q := rel.val k
    rw [hn] at q
    cases q0 : valV kvs k with
    | some v0 =>
      rw [q0] at q
      exact (show False from q).elim
    | none =>
      refine h2 q0 _ _ ?_ rd
      obtain ⟨q, es, ep, hq, h2, h3, h4, _, h5⟩ := dd'
      refine d_write I (by rw [e]; exact True.intro) hs ⟨q, hq⟩ ⟨hl2, hd, _, (rel.put k eb rd).keeps fun c ys ec => ?_, q, es, ep, hq, h2, h3, h4, h5⟩
      rw [upd_ne (ne_of ec e (fun z => nomatch z))]
      exact ec
end
/-! ### readings -/
/-- d[t] -/
def tDGetT (K : PySem.W.Frag) (td ty : TE) : TE := fun σ H Q => td σ H fun x H1 => ty σ H1 fun y H2 => ∃ a b kvs k v, x = .ref a ∧ y = .ref b ∧ Rd H2 a (.dT kvs) ∧ SqT K H2 b (k.map kV) ∧ valV kvs k = some v ∧ Q v H2
/-- d[t] = v -/
def sDPutT (K : PySem.W.Frag) (td ty tv : TE) : TS := fun D σ H => tv σ H fun v H1 => td σ H1 fun x H2 => ty σ H2 fun y H3 => ∃ a b kvs k, x = .ref a ∧ y = .ref b ∧ H3 a = some (.dT kvs) ∧ (H3 b = some (.tup (k.map kV)) ∨ (SqT K H3 b (k.map kV) ∧ (valV kvs k).isSome = true)) ∧ kvs.length < sizeLine ∧ D.nx σ (upd H3 a (.dT (putK kvs k v)))
/-- d.setdefault(t, z) -/
def tDSetdT (td ty tx : TE) : TE := fun σ H Q => td σ H fun x H1 => ∃ a, x = .ref a ∧ IsD H1 a ∧ ty σ H1 fun y H2 => tx σ H2 fun z H3 => ∃ (kvs : List (List Key × V)) (k : List Key) (b : Addr), H3 a = some (.dT kvs) ∧ y = .ref b ∧ H3 b = some (.tup (k.map kV)) ∧ kvs.length < sizeLine ∧
  (∀ v, valV kvs k = some v → Q v H3) ∧ (valV kvs k = none → Q z (upd H3 a (.dT (putK kvs k z))))
section
variable {X : Cx} {o i e f value : Expr} {pos pos' apos cpos : Pos} {td ty tv tx : TE}
theorem pe_dgetT (hu : X.A.units + 1 < cLine) (ho : PE X o td) (hi : PE X i ty) (hs : NoSl i) : PE X (.Subscript o i pos) (tDGetT X.K td ty) := by
  refine ⟨fun pins s σ H Q I h => ?_⟩
  refine subD_of PySem.F.slot_dict_getitem.lookup hs (thn (ho.run pins s σ H _ I h) fun u s1 ⟨x, H1, I1, rx, q1⟩ => thn (hi.run pins s1 σ H1 _ I1 q1) fun iv s2 ⟨y, H2, I2, ry, a, b, kvs, k, v, ex, ey, g, eb, l, q2⟩ => ?_)
  subst ex
  subst ey
  obtain rfl : u = Value.ref a := rx
  obtain rfl : iv = Value.ref b := ry
  obtain ⟨_, _, xs, _, dd⟩ := dt_rd I2.hok g
  exact ⟨dd.typeIs, dt_getItem hu I2 g eb l fun w' s3 I3 rw' => ⟨v, H2, I3, rw', q2⟩⟩
theorem ps_dputT (hu : X.A.units + 1 < cLine) (ho : PE X o td) (hi : PE X i ty) (hv : PE X value tv) (hs : swapsWith value (some (.Subscript o i pos')) pos.line X.env = pure false) :
    PS X (.Assign [.Subscript o i pos'] value pos) (sDPutT X.K td ty tv) := by
  refine ⟨fun pins s σ H D I h => ?_⟩
  refine wpAny_Assign_Subscript (thn (hv.run pins s σ H _ I h) fun r s1 ⟨v, H1, I1, rv, q1⟩ => thn (ho.run pins s1 σ H1 _ I1 q1) fun u s2 ⟨x, H2, I2, rx, q2⟩ => thn (hi.run pins s2 σ H2 _ I2 q2) fun iv s3 ⟨y, H3, I3, ry, a, b, kvs, k, ex, ey, g, eb, hl, q3⟩ => ?_) hs
  subst ex
  subst ey
  obtain rfl : u = Value.ref a := rx
  obtain rfl : iv = Value.ref b := ry
  exact dt_setItem hu I3 g eb hl rv fun s4 I4 => ⟨σ, _, I4, q3⟩
theorem pe_dsetdT (hu : X.A.units + 1 < cLine) (ho : PE X o td) (he : PE X e ty) (hf : PE X f tx) (m : M2 X o "setdefault" apos e f cpos) : PE X (.Call (.Attribute o "setdefault" apos) [e, f] [] cpos) (tDSetdT td ty tx) := by
  refine ⟨fun pins s σ H Q I h => ?_⟩
  refine wpAny_Call_method m.base m.few m.line PySem.F.plainAttrs_dict PySem.F.slot_dict_setdefault PySem.F.type_dict_setdefault (thn (ho.run pins s σ H _ I h) fun u s1 ⟨x, H1, I1, rx, a, ex, d, q1⟩ => ?_)
  subst ex
  obtain rfl : u = Value.ref a := rx
  obtain ⟨t1, t2, _⟩ := isD_at I1 d
  refine ⟨t1, t2, ?_⟩
  rw [m.trees]
  refine Calls.callWith_builtin rfl (Calls.evalArgs_plain (Calls.spliced_cons (thn (he.run pins s1 σ H1 _ I1 q1) fun iv s2 ⟨y, H2, I2, ry, q2⟩ =>
    Calls.spliced_cons (thn (hf.run pins s2 σ H2 _ I2 q2) fun fv s3 ⟨z, H3, I3, rz, kvs, k, b, ea, ey, eb, hl, q3, q4⟩ => Calls.spliced_nil ?_))))
  subst ey
  obtain rfl : iv = Value.ref b := ry
  exact dt_setd hu I3 ea eb rz hl (fun v hv w' s4 I4 rw' => ⟨v, _, I4, rw', q3 v hv⟩) fun hn w' s4 I4 rw' => ⟨z, _, I4, rw', q4 hn⟩
end
end TK

set_option Elab.async false
set_option linter.all false
set_option maxRecDepth 100000
set_option maxHeartbeats 4000000
/-! SD: x = {k: v for ..}. -/
namespace SD
open PySem PySem.Spec PyProof.Rows L2
section
variable {X : Cx}
theorem ps_setDc {i : Nat} {y : Str} {py : Pos} {kx vx tg iter : Expr} {ifs : List Expr} {scope : Scope} {own : List (Str × Nat)} {pos spos : Pos} {wi : TI} {g : TG} {tt : TT} {tk tv : TE} (hc : X.calm = true) (hN : X.N.Nodup) (hy : X.N[i]? = some y) (hyl : X.env.scope.names.lookup y = some .local)
    (hsw : swapsWith (.DictComp kx vx [⟨tg, iter, ifs, 0⟩] scope pos) (some (.Name y py)) spos.line X.env = pure true) (hi : PI X tg iter wi) (ok : BlkOk X.N X.env.scope scope own)
    (hg : ∀ (s : Shared) (H : Hp) (C : Addr) (cl : List (Str × Addr)) (fp : List Addr), PG (X.blk s H scope (compEnvC scope cl C X.env) fp) tg g) (ht : ∀ (s : Shared) (H : Hp) (C : Addr) (cl : List (Str × Addr)) (fp : List Addr), PTs (X.blk s H scope (compEnvC scope cl C X.env) fp) ifs tt)
    (hk : ∀ (s : Shared) (H : Hp) (C : Addr) (cl : List (Str × Addr)) (fp : List Addr), PE (X.blk s H scope (compEnvC scope cl C X.env) fp) kx tk)
    (he : ∀ (s : Shared) (H : Hp) (C : Addr) (cl : List (Str × Addr)) (fp : List Addr), PE (X.blk s H scope (compEnvC scope cl C X.env) fp) vx tv) (hs : ∀ x, foldedSetIterable iter X.env x = pure x := by intro _; rfl) :
    PS X (.Assign [.Name y py] (.DictComp kx vx [⟨tg, iter, ifs, 0⟩] scope pos) spos) (tAsg (tDc wi g tt tk tv (own.map (·.2))) (gName i)) := by
  refine ⟨fun pins s σ H D I h => ?_⟩
  rw [exec_Assign_Name_used _ _ _ _ hsw]
  refine wpAny_bind (wpAny_standAt (wpAny_bind ?_))
  show wpAny _ X.A (do let _ ← comprehension (.DictComp kx vx [⟨tg, iter, ifs, 0⟩] scope pos) scope X.env (firstIterPos [⟨tg, iter, ifs, 0⟩] pos) newDict false (eval iter X.env) (some (assign (.Name y py) X.env))) _ _ s
  have h : tDc wi g tt tk tv (own.map (·.2)) σ H (fun x H1 => gName i x σ H1 D.nx) := h
  refine wpAny_bind (thn (dc_core (Qf := fun _ s' => SP X pins D .next s') hc hN I hi ok hg ht hk he hs h fun L C s' m H' I' q hn f => ?_) fun _ s' hq => wpAny_pure (wpAny_pure hq))
  show wpAny _ _ (assign (.Name y py) X.env (.ref L)) _ _ _
  refine wpAny_assign_Name (store_ok2 (v := V.ref L) I' hN hy (.inl hyl) rfl (fun s2 I2 ⟨a, sb, ha⟩ => ?_) (.inr hyl))
  obtain ⟨f0, f1, f2, f3, f4, f5⟩ := f
  have haC : C ≠ a := by
    rcases ha with z | z
    · rw [z]; exact f1
    · exact fun e => f4 y a z e.symm
  refine ⟨m, hn.sameBut sb haC, fun h3 sb3 => ?_⟩
  exact ⟨_, H', I2.turned (t' := s2.toks) (fun b o hb e => (sb3.2 b hb).trans e) f0 f1 f3 f4 f5, q⟩
theorem sw_trueD {kx vx : Expr} {gs : List Comprehension} {scope : Scope} {pos py : Pos} {y : Str} {l : Nat} {env : Env} (hk : env.scope.kind = .function) (hy : env.scope.names.lookup y = some .local) (hl : (py.line == pos.line) = true)
    (ha : (scope.names.any fun (n, k) => n == y && (k == .local || k == .cell)) = false) : swapsWith (.DictComp kx vx gs scope pos) (some (.Name y py)) l env = pure true := by
  have ky : env.kindOf y = some .local := hy
  have hb : env.blockKind = .function := by unfold Env.blockKind; rw [hk]; rfl
  unfold swapsWith
  simp only [hb, ky, ha, Expr.pos, hl]
  rfl
end
end SD

set_option Elab.async false
set_option linter.all false
set_option maxRecDepth 100000
set_option maxHeartbeats 4000000
/-! DLp: dict comprehensions told by data. -/
namespace DL
open PySem PySem.Spec PyProof.Rows L2 GG DD PT
variable {K : KX}
theorem kv_split {H : Hp} : ∀ {es : List (L2.Key × V)} {ds : List (PyData × PyData)}, DaKv K H es ds → (es.map fun p => keyD p.1) = ds.map (·.1) ∧ DaAll K H (es.map (·.2)) (ds.map (·.2))
  | _, _, .nil => ⟨rfl, .nil⟩
  | _, _, .cons h t => by
    obtain ⟨h1, h2⟩ := kv_split t
    exact ⟨by rw [List.map_cons, List.map_cons, h1], .cons h h2⟩
theorem kv_join {H : Hp} : ∀ {es : List (L2.Key × V)} {ds : List (PyData × PyData)}, (es.map fun p => keyD p.1) = ds.map (·.1) → DaAll K H (es.map (·.2)) (ds.map (·.2)) → DaKv K H es ds
  | [], [], _, _ => .nil
  | [], _ :: _, h, _ => by cases h
  | _ :: _, [], h, _ => by cases h
  | (k, v) :: es, (x, d) :: ds, h, h2 => by
    rw [List.map_cons, List.map_cons] at h
    obtain ⟨h3, h4⟩ := List.cons.inj h
    have h3 : keyD k = x := h3
    subst h3
    cases h2 with
    | cons h5 h6 => exact .cons h5 (kv_join h4 h6)
def dDc (g : DG) (t : DT) (ek ev : DE) (base : List DV) : List PyData → List (PyData × PyData) → Nat → (List (PyData × PyData) → Nat → Prop) → Prop
  | [], acc, n, P => P acc n
  | d :: ds, acc, n, P => g d (fun s1 => t s1 fun b s2 => if b = true then ek s2 fun kd s3 => ev s3 fun y s4 => s4.sl = s1.sl ∧ ∃ k, kOf kd = some k ∧ dDc g t ek ev base ds (dputD acc k y) s4.n P else s2.sl = s1.sl ∧ dDc g t ek ev base ds acc s2.n P) ⟨base, n⟩
def dDcomp (di : DA) (g : DG) (t : DT) (ek ev : DE) (vs : List Nat) : DK := fun s P => di s fun items s1 => items.length ≤ 1000 ∧ noOwnB s1.sl vs = true ∧ dDc g t ek ev (wipeD s1.sl vs) items [] s1.n fun acc n => P acc ⟨s1.sl, n⟩
theorem putD_len (kvs : List (PyData × PyData)) (k : L2.Key) (d : PyData) : (dputD kvs k d).length ≤ kvs.length + 1 := by
  unfold dputD
  split
  · rw [List.length_map]
    omega
  · rw [List.length_append]
    exact Nat.le_refl _
theorem rd_dcomp {w : Bool} {wi : TI} {g : TG} {tt : TT} {tk te : TE} {vs : List Nat} {di : DA} {dg : DG} {dt : DT} {dk de : DE} (hi : RI w K wi di) (hg : RGv w K vs g dg) (hgw : GW vs dg) (ht : RT K tt dt) (hk : RE K tk dk) (he : RE K te de) : RD K (tDc wi g tt tk te vs) (dDcomp di dg dt dk de vs) := fun C hC s P hd σ H Q R q => by
  refine hi C hC s _ hd σ H _ R fun J H1 items s1 G' Z' hp R1 hZ' ok => ?_
  obtain ⟨hlen, no, hp⟩ := hp
  have no := noOwn_of no
  have hv := slots_hv R1
  generalize hC1 : (C.more G').more (outG σ s1.sl vs) = C1
  have cK : C1.K = C.K := by rw [← hC1]; rfl
  have cG : ∀ v d, G' v d → C1.G v d := fun v d z => by rw [← hC1]; exact .inl (.inr z)
  have cO : ∀ v d, outG σ s1.sl vs v d → C1.G v d := fun v d z => by rw [← hC1]; exact .inr z
  have R1' : Rl C1 σ H1 s1 := by rw [← hC1]; exact R1.more (out_da R1 vs)
  have cB : ∀ {H' : Hp} {s' : DSt}, Rl C1 σ H' s' → Rl C σ H' s' := fun {H' s'} z => by
    rw [← hC1] at z
    exact z.less.less
  have cW : C1.W = C.W := by rw [← hC1]; rfl
  have cS : Sof C1 σ s1.sl = Sof C σ s1.sl := by rw [← hC1]; rfl
  have cZ : ∀ a o, Z' a o → C1.Z a o := fun a o z => by rw [← hC1]; exact hZ' a o z
  clear hC1
  have idem : wipe (wipe σ vs) vs = wipe σ vs := by
    apply List.ext_getElem?
    intro j
    rw [wipe_get, wipe_get, wipe_length]
    by_cases e : j ∈ vs
    · rw [if_pos e, if_pos e]
    · rw [if_neg e, if_neg e]
  have idemD : wipeD (wipeD s1.sl vs) vs = wipeD s1.sl vs := by
    apply List.ext_getElem?
    intro j
    rw [wipeD_get, wipeD_get, wipeD_len]
    by_cases e : j ∈ vs
    · rw [if_pos e, if_pos e]
    · rw [if_neg e, if_neg e]
  intro L nL
  obtain ⟨n1, n2⟩ := R1'.new nL
  have nZ : ∀ u, ¬ C1.Z L u := fun u z => n1 (.inl (R1'.fz L u z).1)
  refine ⟨fun i m H' => i + m = items.length ∧ ∃ es ds n', H' L = some (.dK es) ∧ ds.length ≤ i ∧ Rl (C1.hide L) (wipe σ vs) H' ⟨wipeD s1.sl vs, n'⟩ ∧ DaKv C.K (Hd (Sof (C1.hide L) (wipe σ vs) (wipeD s1.sl vs)) H') es ds ∧ dDc dg dt dk de (wipeD s1.sl vs) (items.drop i) ds n' fun acc n => P acc ⟨s1.sl, n⟩,
    ⟨items.length, Nat.zero_add _, [], [], s1.n, upd_same, Nat.zero_le _, ((R1'.wiped vs).1).hidden nL, .nil, hp⟩, fun i m H' ⟨em, es, ds, n', e1, hdl, R2, hda, h⟩ => ?_⟩
  by_cases hm : m = 0
  · subst hm
    have e' : i = items.length := by omega
    subst e'
    rw [List.drop_length] at h
    refine .inl ⟨(ok (C1.hide L) cK (fun v d z => cG v d z) cZ (wipe σ vs) H' ⟨_, n'⟩ R2).1, ?_⟩
    obtain ⟨R3, hs3⟩ := R2.leave (fun z => n1 (.inl z)) (fun z => n1 (.inr (.inl z))) n2 fun a u z => (R1'.fz a u z).1
    obtain ⟨R4, hs4⟩ := R3.unwiped R1.len no cO (cW ▸ hv)
    have hq := q L es (del H' L) ds ⟨s1.sl, n'⟩ h (cB R4) (if_pos rfl) (by
      have z := (hda.of hs3).of hs4
      rw [cS] at z
      exact z)
    rw [del_upd e1] at hq
    exact hq
  · have hlt : i < items.length := by omega
    obtain ⟨d, hd⟩ : ∃ d, items[i]? = some d := ⟨_, List.getElem?_eq_getElem hlt⟩
    obtain ⟨k1, k2⟩ := (ok (C1.hide L) cK cG cZ (wipe σ vs) H' ⟨_, n'⟩ R2).2 i d hd
    refine .inr ⟨k1, fun H2 => ∃ es ds n', H2 L = some (.dK es) ∧ ds.length ≤ i + 1 ∧ Rl (C1.hide L) (wipe σ vs) H2 ⟨wipeD s1.sl vs, n'⟩ ∧ DaKv C.K (Hd (Sof (C1.hide L) (wipe σ vs) (wipeD s1.sl vs)) H2) es ds ∧ dDc dg dt dk de (wipeD s1.sl vs) (items.drop (i + 1)) ds n' fun acc n => P acc ⟨s1.sl, n⟩, fun H2 k => ⟨m - 1, by omega, by omega, k⟩, fun x H2 hy => ?_⟩
    obtain ⟨R3, s23, hx⟩ := k2 x H2 hy
    have e : items.drop i = d :: items.drop (i + 1) := by
      rw [List.drop_eq_getElem_cons hlt]
      rw [List.getElem?_eq_getElem hlt] at hd
      rw [Option.some.inj hd]
    rw [e] at h
    have h' := hgw.w d _ _ h
    obtain ⟨hkeys, hvals⟩ := kv_split (hda.of (hdS s23))
    generalize hC2 : ((C1.hide L).pin L (.dK es)).more (pairG (es.map (·.2)) (ds.map (·.2))) = C2
    have cK2 : C2.K = K := by rw [← hC2]; exact cK.trans hC
    have R3k : Rl C2 (wipe σ vs) H2 ⟨wipeD s1.sl vs, n'⟩ := by
      rw [← hC2]
      refine (R3.pin (.inr rfl) (fun z => n1 (.inr (.inl z))) (s23 _ _ e1)).more ?_
      have z := pair_da hvals
      rw [← cK] at z
      exact z
    have down : ∀ {H4 : Hp} {δ : List DV} {m : Nat}, Rl C2 (wipe σ vs) H4 ⟨δ, m⟩ → Rl (C1.hide L) (wipe σ vs) H4 ⟨δ, m⟩ ∧ H4 L = some (.dK es) ∧ DaKv C.K (Hd (Sof (C1.hide L) (wipe σ vs) δ) H4) es ds := fun {H4 δ m} z => by
      rw [← hC2] at z
      refine ⟨z.less.unpin.1, z.less.unpin.2, kv_join hkeys ?_⟩
      have z2 := da_pair hvals.len fun x y w => z.gh x y (.inr w)
      have z3 : DaAll C1.K (Hd (Sof (C1.hide L) (wipe σ vs) δ) H4) (es.map (·.2)) (ds.map (·.2)) := z2
      rw [cK] at z3
      exact z3
    have cS2 : ∀ (τ : L2.St) (δ : List DV), Sof C2 τ δ = Sof (C1.hide L) τ δ := fun τ δ => by rw [← hC2]; rfl
    have cx2 : Sof C2 (wipe σ vs) (wipeD s1.sl vs) = Sof (C1.hide L) (wipe σ vs) (wipeD s1.sl vs) := cS2 _ _
    have cKx : C2.K = C.K := cK2.trans hC.symm
    have hx2 : DaF w C2.K (Sof C2 (wipe σ vs) (wipeD s1.sl vs)) H2 x d := by
      rw [cx2, cKx, ← cK]
      exact hx
    clear hC2
    refine hg C2 cK2 d _ ⟨_, n'⟩ h' (wipe σ vs) H2 x _ R3k hx2 fun σ2 s2 hn R4 hw => ?_
    obtain ⟨hn, hwD⟩ := hn
    have hwD : wipeD s2.sl vs = wipeD s1.sl vs := hwD.trans idemD
    have hww : wipe σ2 vs = wipe σ vs := hw.trans idem
    refine ⟨hww, ?_⟩
    have back : ∀ {H4 : Hp} {s4 : DSt}, Rl C2 σ2 H4 s4 → s4.sl = s2.sl → Rl C2 (wipe σ vs) H4 ⟨wipeD s1.sl vs, s4.n⟩ ∧ Same (Hd (Sof C2 σ2 s4.sl) H4) (Hd (Sof C2 (wipe σ vs) (wipeD s1.sl vs)) H4) := fun {H4 s4} R5 e5 => by
      have w := R5.wiped vs
      rw [hww, e5, hwD] at w
      rw [e5]
      exact w
    refine ht C2 cK2 s2 _ hn σ2 H2 _ R4 fun b H3 s3 hb R5 => ?_
    cases b with
    | false =>
      refine pF (by decide) ?_
      have hb' : s3.sl = s2.sl ∧ dDc dg dt dk de (wipeD s1.sl vs) (items.drop (i + 1)) ds s3.n fun acc n => P acc ⟨s1.sl, n⟩ := by simpa using hb
      obtain ⟨R6, hs6⟩ := back R5 hb'.1
      obtain ⟨R7, eL, hacc⟩ := down R6
      exact ⟨es, ds, s3.n, eL, by omega, R7, hacc, hb'.2⟩
    | true =>
      refine pT rfl ?_
      have hb' := hb
      rw [if_pos rfl] at hb'
      refine hk C2 cK2 s3 _ hb' σ2 H3 _ R5 fun yk H4 kd s4 hk4 R6 hkd => ?_
      refine he C2 cK2 s4 _ hk4 σ2 H4 _ R6 fun z H5 dz s5 hz5 R7 hzd => ?_
      obtain ⟨hsl, k, ek, hrest⟩ := hz5
      have evk := key_v hkd ek
      subst evk
      obtain ⟨R8, hs8⟩ := back R7 hsl
      obtain ⟨R9, eL, hacc⟩ := down R8
      have hL : Sof (C1.hide L) (wipe σ vs) (wipeD s1.sl vs) L := sof_hide.mpr (.inr rfl)
      have hzd2 := hzd.of hs8
      rw [cx2, cKx] at hzd2
      have hel : es.length = ds.length := hacc.len
      refine ⟨es, k, rfl, eL, by have := sz6; omega, putK es k z, dputD ds k dz, s5.n, upd_same, by have := putD_len ds k dz; omega, R9.hmut (fun z => n1 (.inr (.inl z))) n2 nZ, (put_da hacc hzd2).of (hd_upd hL), hrest⟩
end DL

set_option Elab.async false
set_option linter.all false
set_option maxRecDepth 100000
set_option maxHeartbeats 4000000
/-! DLq: two readings of one expression; lists of dicts, their length; starred items; split; int of a truth; dicts with tuple keys. -/
namespace DL
open PySem PySem.Spec PyProof.Rows L2 GG DD PT TK StX
variable {K : KX}
def dOr2 (d e : DE) : DE := fun s P => d s P ∨ e s P
theorem re_or2 {t u : TE} {d e : DE} (h1 : RE K t d) (h2 : RE K u e) : RE K (tOr2 t u) (dOr2 d e) := fun C hC s P hd σ H Q R q =>
  hd.elim (fun h => .inl (h1 C hC s P h σ H Q R q)) fun h => .inr (h2 C hC s P h σ H Q R q)
def dOr2A (d e : DA) : DA := fun s P => d s P ∨ e s P
theorem ri_or2 {w : Bool} {t u : TI} {d e : DA} (h1 : RI w K t d) (h2 : RI w K u e) : RI w K (iOr2 t u) (dOr2A d e) := fun C hC s P hd σ H Q R q =>
  hd.elim (fun h => .inl (h1 C hC s P h σ H Q R q)) fun h => .inr (h2 C hC s P h σ H Q R q)
/-- list(x), x a list or a tuple -/
def dListQ (de : DE) : DA := fun s P => de s fun d s1 => match d with
  | .list ds => P ds s1
  | .tuple ds => P ds s1
  | _ => False
theorem rf_listQ {te : TE} {de : DE} (h : RE K te de) : RF K (tCB (rLo K) (tCons te tNil)) (dListQ de) := fun C hC s P hd σ H Q R q =>
  rd_cb (rd_cons (h C hC s _ hd σ H _ R fun v H1 d s1 hp R1 hv => by
    cases d with
    | list ds =>
      obtain ⟨a, vs, rfl, k1, k2⟩ := da_list hv
      exact rd_nil ⟨a, vs, rfl, .inl (sq k1), fun p np => q p _ H1 _ s1 hp R1 np k2⟩
    | tuple ds =>
      obtain ⟨a, vs, rfl, k1, k2⟩ := da_tup hv
      exact rd_nil ⟨a, vs, rfl, .inr (hC ▸ k1), fun p np => q p _ H1 _ s1 hp R1 np k2⟩
    | _ => exact hp.elim))
/-! ### dicts: their keys, their length -/
def rKeysL : List V → Hp → VK → Prop := fun xs H Q => ∃ (a : Addr) (kvs : List (L2.Key × V)), xs = [.ref a] ∧ Rd H a (.dK kvs) ∧ ∀ p, H p = none → Q (.ref p) (upd H p (.lst (kvs.map fun kv => kV kv.1)))
theorem keys_of {H : Hp} : ∀ {es : List (L2.Key × V)} {ds : List (PyData × PyData)}, DaKv K H es ds → ∀ H', DaAll K H' (es.map fun kv => kV kv.1) (ds.map (·.1))
  | _, _, .nil, _ => .nil
  | _, _, .cons (k := k) h t, H' => .cons (by cases k with
    | inl i => exact .int i
    | inr x => exact .str x) (keys_of t H')
def dListDict (i : Nat) : DA := fun s P => hasV s.sl[i]? ∧ dDictVar i s fun kvs s1 => P (kvs.map (·.1)) s1
theorem rf_listDict {i : Nat} : RF K (tCB rKeysL (tCons (tVar i) tNil)) (dListDict i) := fun C hC s P hd σ H Q R q => by
  obtain ⟨v0, e0⟩ := has_at R hd.1
  obtain ⟨a, es, kvs, h1, hp, h2, h3⟩ := dict_at R hd.2
  exact rd_cb (rd_cons (rd_var h1 (rd_nil ⟨a, es, rfl, .inl h2, fun p np => q p _ H _ s hp R np (keys_of h3 _)⟩)))
def rLenDK : List V → Hp → VK → Prop := fun xs H Q => ∃ (a : Addr) (kvs : List (L2.Key × V)), xs = [V.ref a] ∧ H a = some (.dK kvs) ∧ Q (.int kvs.length) H
def dLenDict (i : Nat) : DE := fun s P => hasV s.sl[i]? ∧ dDictVar i s fun kvs s1 => P (.int kvs.length) s1
theorem re_lenDict {i : Nat} : RE K (tCB rLenDK (tCons (tVar i) tNil)) (dLenDict i) := fun C hC s P hd σ H Q R q => by
  obtain ⟨a, es, kvs, h1, hp, h2, h3⟩ := dict_at R hd.2
  refine rd_cb (rd_cons (rd_var h1 (rd_nil ⟨a, es, rfl, h2, ?_⟩)))
  rw [h3.len]
  exact q _ H _ s hp R (.int _)
/-! ### starred items -/
def dStar (dl da : DA) : DA := fun s P => dl s fun xs s1 => da s1 fun ys s2 => P (xs ++ ys) s2
theorem ra_starL {te : TE} {ta : TA} {dl da : DA} (h : RL K te dl) (h2 : RA K ta da) : RA K (tStar K te ta) (dStar dl da) := fun C hC s P hd σ H Q R q =>
  h C hC s _ hd σ H _ R fun a vs H1 ds s1 hp R1 e hv => ⟨a, vs, rfl, .inr (sq e), h2 (C.more (pairG vs ds)) hC s1 _ hp σ H1 _ (R1.more (pair_da hv)) fun us H2 es s2 hp2 R2 hu => q _ H2 _ s2 hp2 R2.less ((da_pair hv.len fun x y z => R2.gh x y (.inr z)).append hu)⟩
/-! ### texts -/
def dSplit (de df : DE) : DA := fun s P => de s fun d s1 => match d with
  | .str a => df s1 fun e s2 => match e with
    | .str b => (b.length == 0) = false ∧ a.length ≤ 1000000 ∧ P ((Txt.split a b).map .str) s2
    | _ => False
  | _ => False
def rSplitS : V → List V → Hp → VK → Prop := fun x xs H Q => ∃ a b, x = .str a ∧ xs = [.str b] ∧ (b.length == 0) = false ∧ a.length + 2 ≤ sizeLine ∧ rNewStrs (Txt.split a b) H Q
theorem rf_split {te tf : TE} {de df : DE} (h1 : RE K te de) (h2 : RE K tf df) : RF K (tM1 rSplitS te tf) (dSplit de df) := fun C hC s P hd σ H Q R q =>
  h1 C hC s _ hd σ H _ R fun v H1 d s1 hd1 R1 hv => by
    cases d with
    | str a =>
      cases hv
      refine ⟨⟨a, rfl⟩, h2 C hC s1 _ hd1 σ H1 _ R1 fun w H2 e s2 hp R2 hw => ?_⟩
      cases e with
      | str b =>
        cases hw
        exact ⟨a, b, rfl, rfl, hp.1, Nat.le_trans (Nat.add_le_add_right hp.2.1 2) (by decide), fun p np => q p _ H2 _ s2 hp.2.2 R2 np (da_strs _)⟩
      | _ => exact hp.elim
    | _ => exact hd1.elim
/-! ### int(b) -/
def rIntB : List V → Hp → VK → Prop := fun xs H Q => (∃ i, xs = [.int i] ∧ Q (.int i) H) ∨ ∃ k, xs = [.bl k] ∧ Q (.int (if k then 1 else 0)) H
def dIntB (de : DE) : DE := fun s P => de s fun d s1 => match d with
  | .int i => P (.int i) s1
  | .bool b => P (.int (if b then 1 else 0)) s1
  | _ => False
theorem re_intB {te : TE} {de : DE} (h : RE K te de) : RE K (tCB rIntB (tCons te tNil)) (dIntB de) := fun C hC s P hd σ H Q R q =>
  rd_cb (rd_cons (h C hC s _ hd σ H _ R fun v H1 d s1 hp R1 hv => by
    cases d with
    | int i =>
      cases hv
      exact rd_nil (.inl ⟨i, rfl, q _ H1 _ s1 hp R1 (.int _)⟩)
    | bool b =>
      cases hv
      exact rd_nil (.inr ⟨b, rfl, q _ H1 _ s1 hp R1 (.int _)⟩)
    | _ => exact hp.elim))
/-- xs + ys, xs a list in a slot -/
def dCatVar (i : Nat) (db : DE) : DA := fun s P => (match s.sl[i]? with
  | some (.dat _) => True
  | some (.own _) => True
  | _ => False) ∧ db s fun e s1 => match e with
  | .list b => dListVar i s1 fun a s2 => a.length + b.length ≤ 1000000 ∧ P (a ++ b) s2
  | _ => False
theorem rf_catVar {i : Nat} {tb : TE} {db : DE} (h : RE K tb db) : RF K (tOp rCat (tVar i) tb) (dCatVar i db) := fun C hC s P hd σ H Q R q => by
  have hsl : ∃ v, σ[i]? = some (some v) := by
    have h0 := hd.1
    split at h0
    · rename_i e
      obtain ⟨sl, h1, v, rfl, h3⟩ := R.slots i _ e
      exact ⟨v, h1⟩
    · rename_i e
      obtain ⟨sl, h1, a, vs, rfl, h3⟩ := R.slots i _ e
      exact ⟨_, h1⟩
    · exact h0.elim
  obtain ⟨v, e⟩ := hsl
  exact rd_op (rd_var e (h C hC s _ hd.2 σ H _ R fun w H1 d s1 hp R1 hw => by
    cases d with
    | list es =>
      obtain ⟨b, us, rfl, k3, k4⟩ := da_list hw
      obtain ⟨a, vs, ds, e1, ⟨hl, hp⟩, e3, e4⟩ := list_at R1 hp
      rw [e] at e1
      cases e1
      exact ⟨a, b, vs, us, rfl, rfl, e3, k3, by rw [e4.len, k4.len]; exact Nat.le_trans hl sz6, fun p np => q p _ H1 _ s1 hp R1 np (e4.append k4)⟩
    | _ => exact hp.elim))
end DL

set_option Elab.async false
set_option linter.all false
set_option maxRecDepth 100000
set_option maxHeartbeats 4000000
/-! DLs: dicts with tuple keys told by data; such a dict walked. -/
namespace DL
open PySem PySem.Spec PyProof.Rows L2 GG DD PT TK
variable {K : KX}
def kTs : List PyData → Option (List L2.Key)
  | [] => some []
  | d :: r => match kOf d, kTs r with
    | some k, some ks => some (k :: ks)
    | _, _ => none
def kT : PyData → Option (List L2.Key)
  | .tuple ds => kTs ds
  | _ => none
theorem kTs_map : ∀ k : List L2.Key, kTs (k.map keyD) = some k
  | [] => rfl
  | x :: k => by
    rw [List.map_cons]
    unfold kTs
    rw [kOf_keyD, kTs_map k]
theorem kT_map (k : List L2.Key) : kT (.tuple (k.map keyD)) = some k := kTs_map k
theorem keyT_v {H : Hp} : ∀ {vs : List V} {ds : List PyData} {k : List L2.Key}, DaAll K H vs ds → kTs ds = some k → vs = k.map kV
  | _, _, _, .nil, e => by cases e; rfl
  | _, _, k, .cons (d := d) (ds := ds) h t, e => by
    unfold kTs at e
    cases e1 : kOf d with
    | none => rw [e1] at e; cases e
    | some x =>
      cases e2 : kTs ds with
      | none => rw [e1, e2] at e; cases e
      | some xs =>
        rw [e1, e2] at e
        cases e
        rw [List.map_cons, key_v h e1, keyT_v t e2]
def dgetT : List (PyData × PyData) → List L2.Key → Option PyData
  | [], _ => none
  | p :: r, k => if kT p.1 = some k then some p.2 else dgetT r k
def dputT (kvs : List (PyData × PyData)) (k : List L2.Key) (d : PyData) : List (PyData × PyData) :=
  if (dgetT kvs k).isSome = true then kvs.map (fun p => if kT p.1 = some k then (p.1, d) else p) else kvs ++ [(.tuple (k.map keyD), d)]
theorem getT_da {H : Hp} (k : List L2.Key) : ∀ {es : List (List L2.Key × V)} {kvs : List (PyData × PyData)}, DaKt K H es kvs → (valV es k = none ∧ dgetT kvs k = none) ∨ ∃ v d, valV es k = some v ∧ dgetT kvs k = some d ∧ Da K H v d
  | _, _, .nil => .inl ⟨rfl, rfl⟩
  | _, _, .cons (k := k') (v := v) (r := r) (d := d) (ds := ds) h t => by
    by_cases e : k' = k
    · refine .inr ⟨v, d, valV_pos (p := (k', v)) e, ?_, h⟩
      unfold dgetT
      rw [kT_map, e, if_pos rfl]
    · have e2 : ¬ kT (.tuple (k'.map keyD)) = some k := fun z => e (by rw [kT_map] at z; exact Option.some.inj z)
      have e3 : dgetT ((.tuple (k'.map keyD), d) :: ds) k = dgetT ds k := by
        show (if kT (.tuple (k'.map keyD)) = some k then some d else dgetT ds k) = _
        rw [if_neg e2]
      rw [valV_neg (p := (k', v)) e, e3]
      exact getT_da k t
theorem putT_map {H : Hp} (k : List L2.Key) {v : V} {d : PyData} (hd : Da K H v d) : ∀ {es : List (List L2.Key × V)} {kvs : List (PyData × PyData)}, DaKt K H es kvs → DaKt K H (es.map fun kv => if kv.1 = k then (kv.1, v) else kv) (kvs.map fun p => if kT p.1 = some k then (p.1, d) else p)
  | _, _, .nil => .nil
  | _, _, .cons (k := k') (v := v') (d := d') h t => by
    rw [List.map_cons, List.map_cons]
    by_cases e : k' = k
    · have e2 : kT (.tuple (k'.map keyD)) = some k := by rw [kT_map, e]
      show DaKt K H ((if k' = k then (k', v) else (k', v')) :: _) ((if kT (.tuple (k'.map keyD)) = some k then (.tuple (k'.map keyD), d) else (.tuple (k'.map keyD), d')) :: _)
      rw [if_pos e, if_pos e2]
      exact .cons hd (putT_map k hd t)
    · have e2 : ¬ kT (.tuple (k'.map keyD)) = some k := fun z => e (by rw [kT_map] at z; exact Option.some.inj z)
      show DaKt K H ((if k' = k then (k', v) else (k', v')) :: _) ((if kT (.tuple (k'.map keyD)) = some k then (.tuple (k'.map keyD), d) else (.tuple (k'.map keyD), d')) :: _)
      rw [if_neg e, if_neg e2]
      exact .cons h (putT_map k hd t)
theorem DaKt.append {H : Hp} : ∀ {es fs : List (List L2.Key × V)} {a b : List (PyData × PyData)}, DaKt K H es a → DaKt K H fs b → DaKt K H (es ++ fs) (a ++ b)
  | _, _, _, _, .nil, h => h
  | _, _, _, _, .cons h t, k => .cons h (t.append k)
theorem DaKt.len {H : Hp} : ∀ {es : List (List L2.Key × V)} {a : List (PyData × PyData)}, DaKt K H es a → es.length = a.length
  | _, _, .nil => rfl
  | _, _, .cons _ t => by rw [List.length_cons, List.length_cons, t.len]
theorem putT_da {H : Hp} {es : List (List L2.Key × V)} {kvs : List (PyData × PyData)} {k : List L2.Key} {v : V} {d : PyData} (h : DaKt K H es kvs) (hd : Da K H v d) : DaKt K H (putK es k v) (dputT kvs k d) := by
  unfold putK dputT
  rw [valV_any]
  rcases getT_da k h with ⟨e1, e2⟩ | ⟨v', d', e1, e2, _⟩
  · rw [e1, e2, if_neg (by decide), if_neg (by decide)]
    exact h.append (.cons hd .nil)
  · rw [e1, e2, if_pos (show (some v').isSome = true from rfl), if_pos (show (some d').isSome = true from rfl)]
    exact putT_map k hd h
/-! ### such dicts in slots -/
def dTupVar (i : Nat) (s : DSt) (P : List (PyData × PyData) → DSt → Prop) : Prop := match s.sl[i]? with
  | some (.dat (.dict kvs)) => headK kvs = false ∧ P kvs s
  | some (.owt kvs) => P kvs s
  | some (.lkd _ _ kvs) => P kvs s
  | _ => False
theorem headK_dic {H : Hp} {es : List (L2.Key × V)} {kvs : List (PyData × PyData)} (h : DaKv K H es kvs) (e : headK kvs = false) : False := by
  cases h with
  | nil => cases e
  | cons h t =>
    rename_i k _ _ _ _
    cases k <;> cases e
theorem tdict_at {C : DC} {σ : L2.St} {H : Hp} {s : DSt} (R : Rl C σ H s) {i : Nat} {P : List (PyData × PyData) → DSt → Prop} (h : dTupVar i s P) : ∃ a es kvs, σ[i]? = some (some (V.ref a)) ∧ P kvs s ∧ Rd H a (.dT es) ∧ DaKt C.K (Hd (Sof C σ s.sl) H) es kvs := by
  unfold dTupVar at h
  split at h
  · rename_i kvs e
    obtain ⟨sl, h1, v, rfl, h3⟩ := R.slots i _ e
    cases h3 with
    | dic h4 h5 => exact (headK_dic h5 h.1).elim
    | dct h4 hn h5 => exact ⟨_, _, kvs, h1, h.2, .inl (hd_some h4).2, h5⟩
  · rename_i kvs e
    obtain ⟨sl, h1, a, es, rfl, h4, h5⟩ := R.slots i _ e
    exact ⟨a, es, kvs, h1, h, .inl h4, h5⟩
  · rename_i a o kvs e
    obtain ⟨sl, h1, rfl, hZ, od, es, rfl, h5⟩ := R.slots i _ e
    exact ⟨a, es, kvs, h1, h, .inr ⟨od, (R.fz _ _ hZ).2.2⟩, h5⟩
  · exact h.elim
def hasVT : Option DV → Prop
  | some (.dat _) => True
  | some (.owt _) => True
  | some (.lkd _ _ _) => True
  | _ => False
theorem hasT_at {C : DC} {σ : L2.St} {H : Hp} {s : DSt} (R : Rl C σ H s) {i : Nat} (h : hasVT s.sl[i]?) : ∃ v, σ[i]? = some (some v) := by
  cases e : s.sl[i]? with
  | none => rw [e] at h; exact h.elim
  | some dv =>
    obtain ⟨sl, h1, h2⟩ := R.slots i _ e
    cases dv with
    | dat d =>
      obtain ⟨v, rfl, _⟩ := h2
      exact ⟨v, h1⟩
    | owt d =>
      obtain ⟨a, vs, rfl, _⟩ := h2
      exact ⟨_, h1⟩
    | lkd a o d =>
      obtain ⟨rfl, _⟩ := h2
      exact ⟨_, h1⟩
    | _ => rw [e] at h; exact h.elim
/-- d[t]: d in slot i -/
def dDGetT (i : Nat) (dk : DE) : DE := fun s P => hasVT s.sl[i]? ∧ dk s fun kd s1 => match kT kd with
  | some k => dTupVar i s1 fun kvs s2 => ∃ d, dgetT kvs k = some d ∧ P d s2
  | none => False
theorem re_dGetT {ty : TE} {dk : DE} {i : Nat} (h : RE K ty dk) : RE K (tDGetT K (tVar i) ty) (dDGetT i dk) := fun C hC s P hd σ H Q R q => by
  obtain ⟨v0, e0⟩ := hasT_at R hd.1
  refine ⟨v0, e0, h C hC s _ hd.2 σ H _ R fun v H1 d s1 hp R1 hv => ?_⟩
  cases e : kT d with
  | none => rw [e] at hp; exact hp.elim
  | some k =>
    rw [e] at hp
    cases d with
    | tuple ds =>
      obtain ⟨b, vs, rfl, kb1, kb2⟩ := da_tup hv
      have ev := keyT_v kb2 e
      subst ev
      obtain ⟨a, es, kvs, h1, ⟨x, hx, hp⟩, h2, h3⟩ := tdict_at R1 hp
      rw [e0] at h1
      cases h1
      rcases getT_da k h3 with ⟨_, e2⟩ | ⟨w, d', e1, e2, hw⟩
      · rw [e2] at hx
        cases hx
      · rw [e2] at hx
        cases hx
        exact ⟨a, b, es, k, w, rfl, rfl, h2, hC ▸ kb1, e1, q w H1 _ s1 hp R1 hw⟩
    | _ => cases e
/-- {} as such a dict of one's own -/
def dSetT (i : Nat) : DS := fun E s => i < s.sl.length ∧ E.nx ⟨s.sl.set i (.owt []), s.n⟩
theorem rs_setT {i : Nat} : RS K (tAsg tDNewT (gName i)) (dSetT i) := fun C hC E s hd σ H D R o =>
  fun p np => o.nx _ _ _ hd.2 (R.setOwn np hd.1 rfl fun S' hs => ⟨p, [], rfl, upd_same, .nil⟩)
def isOwt : Option DV → Prop
  | some (.owt _) => True
  | _ => False
theorem owt_at {C : DC} {σ : L2.St} {H : Hp} {s : DSt} (R : Rl C σ H s) {i : Nat} (h : isOwt s.sl[i]?) : ∃ v, σ[i]? = some (some v) := hasT_at R (by
  cases e : s.sl[i]? with
  | none => rw [e] at h; exact h.elim
  | some dv =>
    rw [e] at h
    cases dv <;> first | exact h.elim | exact True.intro)
/-- d[a, b] = v: a key that is made here -/
def dDPutN (i : Nat) (da : DA) (dv : DE) : DS := fun E s => dv s fun d s1 => isOwt s1.sl[i]? ∧ da s1 fun ks s2 => ks.length ≤ 1000000 ∧ match kTs ks, s2.sl[i]? with
  | some k, some (.owt kvs) => kvs.length < 1000000 ∧ E.nx ⟨s2.sl.set i (.owt (dputT kvs k d)), s2.n⟩
  | _, _ => False
theorem rs_dPutN {ta : TA} {tv : TE} {da : DA} {dv : DE} {i : Nat} (h1 : RA K ta da) (h2 : RE K tv dv) : RS K (sDPutT K (tVar i) (tTup ta) tv) (dDPutN i da dv) := fun C hC E s hd σ H D R o =>
  h2 C hC s _ hd σ H _ R fun v H1 d s1 hp R1 hv => by
    obtain ⟨ho, hp⟩ := hp
    obtain ⟨v0, e0⟩ := owt_at R1 ho
    refine ⟨v0, e0, h1 (C.keep v d) hC s1 _ hp σ H1 _ (R1.keep hv) fun ys H2 ks s2 hp2 R2 hy => ?_⟩
    obtain ⟨hl, hp2⟩ := hp2
    obtain ⟨R3, hv3⟩ := R2.kept
    refine ⟨by rw [hy.len]; exact Nat.le_trans hl sz6, fun b nb => ?_⟩
    cases e : kTs ks with
    | none => rw [e] at hp2; exact hp2.elim
    | some k =>
      cases e2 : s2.sl[i]? with
      | none => rw [e, e2] at hp2; exact hp2.elim
      | some fv =>
        cases fv with
        | owt kvs =>
          rw [e, e2] at hp2
          have ev := keyT_v hy e
          subst ev
          have R4 := R3.ext (same_upd (o := .tup (k.map kV)) nb)
          obtain ⟨sl, q1, a, es, rfl, q2, q3⟩ := R4.slots i _ e2
          rw [e0] at q1
          cases q1
          have hv4 := hv3.of (R3.kp (o := .tup (k.map kV)) nb)
          exact ⟨a, b, es, k, rfl, rfl, q2, .inl upd_same, by rw [q3.len]; exact Nat.lt_of_lt_of_le hp2.1 sz6, o.nx _ _ _ hp2.2 (R4.mut e2 rfl rfl e0 fun hs => ⟨a, _, rfl, upd_same, (putT_da q3 hv4).of hs⟩)⟩
        | _ => rw [e, e2] at hp2; exact hp2.elim
/-- d[t] = v: the key is there -/
def dDPutO (i : Nat) (dk dv : DE) : DS := fun E s => dv s fun d s1 => isOwt s1.sl[i]? ∧ dk s1 fun kd s2 => match kT kd, s2.sl[i]? with
  | some k, some (.owt kvs) => (dgetT kvs k).isSome = true ∧ kvs.length < 1000000 ∧ E.nx ⟨s2.sl.set i (.owt (dputT kvs k d)), s2.n⟩
  | _, _ => False
theorem rs_dPutO {ty tv : TE} {dk dv : DE} {i : Nat} (h1 : RE K ty dk) (h2 : RE K tv dv) : RS K (sDPutT K (tVar i) ty tv) (dDPutO i dk dv) := fun C hC E s hd σ H D R o =>
  h2 C hC s _ hd σ H _ R fun v H1 d s1 hp R1 hv => by
    obtain ⟨ho, hp⟩ := hp
    obtain ⟨v0, e0⟩ := owt_at R1 ho
    refine ⟨v0, e0, h1 (C.keep v d) hC s1 _ hp σ H1 _ (R1.keep hv) fun y H2 kd s2 hp2 R2 hy => ?_⟩
    obtain ⟨R3, hv3⟩ := R2.kept
    cases e : kT kd with
    | none => rw [e] at hp2; exact hp2.elim
    | some k =>
      cases e2 : s2.sl[i]? with
      | none => rw [e, e2] at hp2; exact hp2.elim
      | some fv =>
        cases fv with
        | owt kvs =>
          rw [e, e2] at hp2
          cases kd with
          | tuple ds =>
            obtain ⟨b, vs, rfl, kb1, kb2⟩ := da_tup hy
            have ev := keyT_v kb2 e
            subst ev
            obtain ⟨sl, q1, a, es, rfl, q2, q3⟩ := R3.slots i _ e2
            rw [e0] at q1
            cases q1
            have hs : (valV es k).isSome = true := by
              rcases getT_da k q3 with ⟨_, e4⟩ | ⟨w, d', e3, _, _⟩
              · have hg : (dgetT kvs k).isSome = true := hp2.1
                rw [e4] at hg
                cases hg
              · rw [e3]
                rfl
            exact ⟨a, b, es, k, rfl, rfl, q2, .inr ⟨hC ▸ kb1, hs⟩, by rw [q3.len]; exact Nat.lt_of_lt_of_le hp2.2.1 sz6, o.nx _ _ _ hp2.2.2 (R3.mut e2 rfl rfl e0 fun hs => ⟨a, _, rfl, upd_same, (putT_da q3 hv3).of hs⟩)⟩
          | _ => cases e
        | _ => rw [e, e2] at hp2; exact hp2.elim
/-! ### such a dict walked: it is locked meanwhile -/
section
variable {C : DC} {σ : L2.St} {H : Hp} {s : DSt}
theorem Rl.lock (R : Rl C σ H s) {i : Nat} {a : Addr} {es : List (List L2.Key × V)} {kvs : List (PyData × PyData)} (od : Obj) (h0 : s.sl[i]? = some (.owt kvs)) (e0 : σ[i]? = some (some (V.ref a))) (eH : H a = some (.dT es)) (hd : DaKt C.K (Hd (Sof C σ s.sl) H) es kvs) :
    Rl ((C.hide a).pin a (.frz od (.dT es))) σ (upd H a (.frz od (.dT es))) ⟨s.sl.set i (.lkd a (.frz od (.dT es)) kvs), s.n⟩ := by
  have hi : i < s.sl.length := (List.getElem?_eq_some_iff.mp h0).1
  obtain ⟨f1, f2, f3⟩ := R.fr i a _ h0 rfl e0
  have key : ∀ {j : Nat} {fv : DV}, (s.sl.set i (.lkd a (.frz od (.dT es)) kvs))[j]? = some fv → (j = i ∧ fv = .lkd a (.frz od (.dT es)) kvs) ∨ (j ≠ i ∧ s.sl[j]? = some fv) := fun {j fv} h1 => by
    by_cases e : i = j
    · subst e
      rw [List.getElem?_set, if_pos rfl, if_pos hi] at h1
      cases h1
      exact .inl ⟨rfl, rfl⟩
    · rw [List.getElem?_set_ne e] at h1
      exact .inr ⟨fun z => e z.symm, h1⟩
  have sa : Sof C σ s.sl a := .inr (.inr ⟨i, _, h0, rfl, e0⟩)
  have sub : ∀ b, Sof ((C.hide a).pin a (.frz od (.dT es))) σ (s.sl.set i (.lkd a (.frz od (.dT es)) kvs)) b → Sof C σ s.sl b := fun b h => by
    rcases h with (h | h) | h | ⟨j, fv, h1, h2, h3⟩
    · exact .inl h
    · exact h ▸ sa
    · exact .inr (.inl h)
    · rcases key h1 with ⟨_, rfl⟩ | ⟨_, h1⟩
      · cases h2
      · exact .inr (.inr ⟨j, fv, h1, h2, h3⟩)
  have hs : Same (Hd (Sof C σ s.sl) H) (Hd (Sof ((C.hide a).pin a (.frz od (.dT es))) σ (s.sl.set i (.lkd a (.frz od (.dT es)) kvs))) (upd H a (.frz od (.dT es)))) := fun b u e => by
    obtain ⟨h1, h3⟩ := hd_some e
    have hb : b ≠ a := fun z => h1 (z ▸ sa)
    rw [hd_ne (fun z => h1 (sub b z)), upd_ne hb]
    exact h3
  have own_ne : ∀ {j : Nat} {fv : DV} {c : Addr}, j ≠ i → s.sl[j]? = some fv → isOwn fv = true → σ[j]? = some (some (V.ref c)) → c ≠ a := fun {j fv c} hj h1 h2 h3 z => by
    subst z
    exact hj (R.nd j i c fv _ h1 h0 h2 rfl h3 e0)
  refine ⟨by rw [List.length_set]; exact R.len, fun j fv h1 => ?_, fun j k c fv gv h1 h2 h3 h4 h5 h6 => ?_, fun j c fv h1 h2 h3 => ?_, R.dk.upd f3, fun b u hb hu => ?_, fun b hb => ?_, fun x y z => (R.gh x y z).of hs, fun b u h => ?_⟩
  · rcases key h1 with ⟨rfl, rfl⟩ | ⟨hj, h1⟩
    · exact ⟨_, e0, rfl, .inr ⟨rfl, rfl⟩, od, es, rfl, hd.of hs⟩
    · obtain ⟨sl, e1, e2⟩ := R.slots j fv h1
      exact ⟨sl, e1, e2.move (C' := (C.hide a).pin a (.frz od (.dT es))) rfl rfl hs (fun c hc ec u hu => by rw [upd_ne (own_ne hj h1 hc (ec ▸ e1))]; exact hu) fun b u z => .inl z⟩
  · rcases key h1 with ⟨_, rfl⟩ | ⟨_, h1⟩
    · cases h3
    · rcases key h2 with ⟨_, rfl⟩ | ⟨_, h2⟩
      · cases h4
      · exact R.nd j k c fv gv h1 h2 h3 h4 h5 h6
  · rcases key h1 with ⟨_, rfl⟩ | ⟨hj, h1⟩
    · cases h2
    · obtain ⟨g1, g2, g3⟩ := R.fr j c fv h1 h2 h3
      exact ⟨g1, fun z => z.elim g2 (own_ne hj h1 h2 h3), g3⟩
  · have hba : b ≠ a := fun z => by
      subst z
      have hu' : C.H0 b = some u := hu
      rw [f1] at hu'
      cases hu'
    rw [upd_ne hba]
    exact R.but b u hb hu
  · by_cases e : b = a
    · subst e
      exact ⟨_, upd_same⟩
    · rw [upd_ne e]
      exact R.tk b (hb.elim id fun z => absurd z e)
  · rcases h with h | ⟨rfl, rfl⟩
    · obtain ⟨g1, g2, g3⟩ := R.fz b u h
      exact ⟨.inl g1, g2, by rw [upd_ne (fun z : b = a => f2 (z ▸ g1))]; exact g3⟩
    · exact ⟨.inr rfl, f3, upd_same⟩
def noLkB (δ : List DV) : Bool := δ.all fun dv => !isLk dv
theorem Rl.unlock {a : Addr} {od : Obj} {es : List (List L2.Key × V)} (R : Rl ((C.hide a).pin a (.frz od (.dT es))) σ H s) {i : Nat} {kvs : List (PyData × PyData)} (h0 : s.sl[i]? = some (.lkd a (.frz od (.dT es)) kvs)) (hn : noLkB (s.sl.set i .un) = true)
    (f1 : C.H0 a = none) (f2 : ¬ C.S0 a) (f3 : ¬ Mu C.W a) (hZ : ∀ b u, C.Z b u → C.S0 b) : Rl C σ (upd H a (.dT es)) ⟨s.sl.set i (.owt kvs), s.n⟩ := by
  have hi : i < s.sl.length := (List.getElem?_eq_some_iff.mp h0).1
  obtain ⟨sl0, e0, e1, _, od', es', e2, hda⟩ := R.slots i _ h0
  subst e1
  have e3 : es' = es := by cases e2; rfl
  subst e3
  have key : ∀ {j : Nat} {fv : DV}, (s.sl.set i (.owt kvs))[j]? = some fv → (j = i ∧ fv = .owt kvs) ∨ (j ≠ i ∧ s.sl[j]? = some fv ∧ isLk fv = false) := fun {j fv} h1 => by
    by_cases e : i = j
    · subst e
      rw [List.getElem?_set, if_pos rfl, if_pos hi] at h1
      cases h1
      exact .inl ⟨rfl, rfl⟩
    · rw [List.getElem?_set_ne e] at h1
      have h2 : (s.sl.set i .un)[j]? = some fv := by rw [List.getElem?_set_ne e]; exact h1
      have z := List.all_eq_true.mp hn fv (List.mem_of_getElem? h2)
      exact .inr ⟨fun z => e z.symm, h1, by cases hl : isLk fv with
        | false => rfl
        | true => rw [hl] at z; cases z⟩
  have sub : ∀ b, Sof C σ (s.sl.set i (.owt kvs)) b → Sof ((C.hide a).pin a (.frz od (.dT es'))) σ s.sl b := fun b h => by
    rcases h with h | h | ⟨j, fv, h1, h2, h3⟩
    · exact .inl (.inl h)
    · exact .inr (.inl h)
    · rcases key h1 with ⟨rfl, rfl⟩ | ⟨_, h1, _⟩
      · rw [e0] at h3
        cases h3
        exact .inl (.inr rfl)
      · exact .inr (.inr ⟨j, fv, h1, h2, h3⟩)
  have sa : Sof ((C.hide a).pin a (.frz od (.dT es'))) σ s.sl a := .inl (.inr rfl)
  have hs : Same (Hd (Sof ((C.hide a).pin a (.frz od (.dT es'))) σ s.sl) H) (Hd (Sof C σ (s.sl.set i (.owt kvs))) (upd H a (.dT es'))) := fun b u e => by
    obtain ⟨h1, h3⟩ := hd_some e
    have hb : b ≠ a := fun z => h1 (z ▸ sa)
    rw [hd_ne (fun z => h1 (sub b z)), upd_ne hb]
    exact h3
  have own_ne : ∀ {j : Nat} {fv : DV} {c : Addr}, s.sl[j]? = some fv → isOwn fv = true → σ[j]? = some (some (V.ref c)) → c ≠ a := fun {j fv c} h1 h2 h3 z => (R.fr j c fv h1 h2 h3).2.1 (.inr z)
  refine ⟨by rw [List.length_set]; exact R.len, fun j fv h1 => ?_, fun j k c fv gv h1 h2 h3 h4 h5 h6 => ?_, fun j c fv h1 h2 h3 => ?_, R.dk.upd f3, fun b u hb hu => ?_, fun b hb => ?_, fun x y z => (R.gh x y z).of hs, fun b u h => ?_⟩
  · rcases key h1 with ⟨rfl, rfl⟩ | ⟨hj, h1, hl⟩
    · exact ⟨_, e0, a, es', rfl, upd_same, hda.of hs⟩
    · obtain ⟨sl, e1, e2⟩ := R.slots j fv h1
      refine ⟨sl, e1, ?_⟩
      cases fv with
      | lkd _ _ _ => cases hl
      | un => trivial
      | dat d =>
        obtain ⟨v, q1, q2⟩ := e2
        exact ⟨v, q1, q2.of hs⟩
      | own ds =>
        obtain ⟨b, vs, q1, q2, q3⟩ := e2
        exact ⟨b, vs, q1, by rw [upd_ne (own_ne h1 rfl (q1 ▸ e1))]; exact q2, q3.of hs⟩
      | arg b ds =>
        obtain ⟨vs, q1, q2, q3⟩ := e2
        exact ⟨vs, q1, by rw [upd_ne (own_ne h1 rfl (q1 ▸ e1))]; exact q2, q3.of hs⟩
      | owd ds =>
        obtain ⟨b, vs, q1, q2, q3⟩ := e2
        exact ⟨b, vs, q1, by rw [upd_ne (own_ne h1 rfl (q1 ▸ e1))]; exact q2, q3.of hs⟩
      | owt ds =>
        obtain ⟨b, vs, q1, q2, q3⟩ := e2
        exact ⟨b, vs, q1, by rw [upd_ne (own_ne h1 rfl (q1 ▸ e1))]; exact q2, q3.of hs⟩
      | deck => exact e2
      | exc _ => first | exact e2 | cases hl
  · rcases key h1 with ⟨rfl, rfl⟩ | ⟨hj, g1, _⟩
    · rw [e0] at h5
      cases h5
      rcases key h2 with ⟨rfl, rfl⟩ | ⟨hk, h2, _⟩
      · rfl
      · exact absurd rfl (own_ne h2 h4 h6)
    · rcases key h2 with ⟨rfl, rfl⟩ | ⟨hk, g2, _⟩
      · rw [e0] at h6
        cases h6
        exact absurd rfl (own_ne g1 h3 h5)
      · exact R.nd j k c fv gv g1 g2 h3 h4 h5 h6
  · rcases key h1 with ⟨rfl, rfl⟩ | ⟨hj, h1, _⟩
    · rw [e0] at h3
      cases h3
      exact ⟨f1, f2, f3⟩
    · obtain ⟨g1, g2, g3⟩ := R.fr j c fv h1 h2 h3
      exact ⟨g1, fun z => g2 (.inl z), g3⟩
  · have hba : b ≠ a := fun z => by
      subst z
      rw [f1] at hu
      cases hu
    rw [upd_ne hba]
    exact R.but b u hb hu
  · have e : b ≠ a := fun z => f2 (z ▸ hb)
    rw [upd_ne e]
    exact R.tk b (.inl hb)
  · obtain ⟨g1, g2, g3⟩ := R.fz b u (.inl h)
    have hb : C.S0 b := hZ b u h
    exact ⟨hb, g2, by rw [upd_ne (fun z : b = a => f2 (z ▸ hb))]; exact g3⟩
end
/-- the keys of the locked dict in slot i -/
def dKeysT (i : Nat) : DA := fun s P => match s.sl[i]? with
  | some (.lkd _ _ kvs) => P (kvs.map (·.1)) s
  | _ => False
theorem kt_at {H : Hp} : ∀ {es : List (List L2.Key × V)} {ds : List (PyData × PyData)} {j : Nat} {d : PyData}, DaKt K H es ds → (ds.map (·.1))[j]? = some d → ∃ p, es[j]? = some p ∧ d = .tuple (p.1.map keyD)
  | _, _, _, _, .nil, e => by simp at e
  | _, _, 0, _, .cons h _, e => by
    simp at e
    subst e
    exact ⟨_, rfl, rfl⟩
  | _, _, j + 1, d, .cons _ t, e => by
    obtain ⟨p, h1, h2⟩ := kt_at (j := j) (d := d) t (by simpa using e)
    exact ⟨p, by simpa using h1, h2⟩
theorem da_keys {H : Hp} : ∀ k : List L2.Key, DaAll K H (k.map kV) (k.map keyD)
  | [] => .nil
  | .inl i :: k => .cons (.int i) (da_keys k)
  | .inr x :: k => .cons (.str x) (da_keys k)
theorem ri_keysT {i : Nat} : RI true K (iKeys (tVar i)) (dKeysT i) := fun C hC s P hd σ H R0 R q => by
  unfold dKeysT at hd
  split at hd
  · rename_i a o kvs e
    obtain ⟨sl, h1, rfl, hZ, od, es, rfl, h5⟩ := R.slots i _ e
    have eH := (R.fz _ _ hZ).2.2
    refine rd_var h1 ⟨a, od, rfl, .inr ⟨es, eH, q _ H _ s (fun _ _ => False) (fun b u => b = a ∧ u = .frz od (.dT es)) hd (R.more fun _ _ z => z.elim) (fun b u z => by
      obtain ⟨rfl, rfl⟩ := z
      exact hZ) ?_⟩⟩
    intro C' hK hG hZ' σ' H' s' R'
    have eH' := (R'.fz _ _ (hZ' _ _ ⟨rfl, rfl⟩)).2.2
    have hl : es.length = (kvs.map (·.1)).length := by rw [List.length_map]; exact h5.len
    refine ⟨⟨eH', by rw [hl]; exact Nat.le_refl _⟩, fun j d hj => ?_⟩
    obtain ⟨p, hp1, rfl⟩ := kt_at h5 hj
    refine ⟨⟨eH', (List.getElem?_eq_some_iff.mp hp1).1⟩, fun x H2 hy => ?_⟩
    obtain ⟨rfl, k, v, q2, e1, rfl, e2⟩ := hy
    rw [hp1] at e1
    cases e1
    exact ⟨R', Same.refl _, .inr ⟨rfl, q2, _, _, rfl, rfl, .inl (.inl e2), da_keys _⟩⟩
  · exact hd.elim
/-- for .. in d: d in slot i, one's own -/
def dForT (i : Nat) (g : DG) (b : DS) : DS := fun E s => match s.sl[i]? with
  | some (.owt kvs) => noLkB s.sl = true ∧ ∀ a o, dFor (dKeysT i) g b { nx := fun s2 => s2.sl[i]? = some (.lkd a o kvs) ∧ noLkB (s2.sl.set i .un) = true ∧ E.nx ⟨s2.sl.set i (.owt kvs), s2.n⟩, rt := fun _ _ => False } ⟨s.sl.set i (.lkd a o kvs), s.n⟩
  | _ => False
theorem rs_forT {i : Nat} {g : TG} {tb : TS} {dg : DG} {db : DS} (hg : RG true K g dg) (hb : RS K tb db) : RS K (tLock (tFor (iKeys (tVar i)) g tb)) (dForT i dg db) := fun C hC E s hd σ H D R o => by
  unfold dForT at hd
  split at hd
  · rename_i kvs e
    obtain ⟨sl, h1, a, es, rfl, h4, h5⟩ := R.slots i _ e
    obtain ⟨f1, f2, f3⟩ := R.fr i a _ e rfl h1
    refine ⟨a, .dT es, h4, True.intro, fun od => ?_⟩
    refine rs_for (K := K) (ri_keysT (i := i)) hg hb ((C.hide a).pin a (.frz od (.dT es))) hC _ _ (hd.2 a (.frz od (.dT es))) σ _ _ (R.lock od e h1 h4 h5) ⟨fun σ' H' s' hp R' => ?_, fun σ' v H' d' s' hp R' hv => hp.elim, fun _ _ _ z => z.elim, fun _ _ _ z => z.elim⟩
    obtain ⟨z1, z2, z3⟩ := hp
    refine ⟨(R'.fz _ _ (.inr ⟨rfl, rfl⟩)).2.2, o.nx _ _ _ z3 (R'.unlock z1 z2 f1 f2 f3 fun b u z => (R.fz b u z).1)⟩
  · exact hd.elim
end DL

set_option Elab.async false
set_option linter.all false
set_option maxRecDepth 100000
set_option maxHeartbeats 4000000
/-! DLt: rows that are a tuple or a dict; a, b = {}, a new list; a call that lengthens its caller's list. -/
namespace DL
open PySem PySem.Spec PyProof.Rows L2 GG DD PT TK
section
variable {X : Cx} {o i e tg : Expr} {pos : Pos} {td ty te : TE}
theorem pe_rowsq (hu : X.A.units + 1 < cLine) (ho : PE X o td) (hi : PE X i ty) (hs : PlainIx i) (hs2 : NoSl i) : PE X (.Subscript o i pos) (tOr2 (tOp (rIxT X.K) td ty) (tDGet td ty)) := pe_or2 (pe_ix ix_tup ho hi hs) (pe_dget hu ho hi hs2)
theorem pi_seq (he : PE X e te) : PI X tg e (iOr2 (iTup X.K te) (iList X.K te)) := pi_or2 (pi_tup he) (pi_list he)
end
variable {K : KX}
/-- a, b = {}, a new list -/
def dPar0L (i j : Nat) (dl : DA) : DS := fun E s => i < s.sl.length ∧ j < s.sl.length ∧ i ≠ j ∧ dl ⟨s.sl, s.n⟩ fun ds s2 => s2.sl = s.sl ∧ E.nx ⟨(s2.sl.set i (.owd [])).set j (.own ds), s2.n⟩
/-- the dict is made first: it is nobody's yet -/
theorem rs_par0L {i j : Nat} {tf : TE} {dl : DA} (h2 : RF K tf dl) : RS K (tPar i j (tCons tDNewK (tCons tf tNil))) (dPar0L i j dl) := fun C hC E s hd σ H D R o => by
  obtain ⟨hi, hj, hij, hd⟩ := hd
  intro a na
  obtain ⟨n1, n2⟩ := R.new na
  have R2 := (R.hidden (o := .dK []) na).pin (L := a) (.inr rfl) (fun z => n1 (.inr (.inl z))) upd_same
  refine h2 ((C.hide a).pin a (.dK [])) hC s _ hd σ _ _ R2 fun b us H2 es s2 hp R3 nb hu => ⟨_, _, rfl, ?_⟩
  obtain ⟨R4, e4⟩ := R3.unpin
  obtain ⟨hsl, hnx⟩ := hp
  obtain ⟨R5, hs5⟩ := R4.leave (fun z => n1 (.inl z)) (fun z => n1 (.inr (.inl z))) n2 fun b u z => (R.fz b u z).1
  have hu5 : DaAll C.K (Hd (Sof C σ s2.sl) (del H2 a)) us es := (show DaAll C.K (Hd (Sof (C.hide a) σ s2.sl) H2) us es from hu).of hs5
  have nb5 : del H2 a b = none := by
    by_cases z : b = a
    · rw [z]
      exact if_pos rfl
    · rw [del_ne z]
      exact nb
  have hab : b ≠ a := fun z => by
    rw [z, e4] at nb
    cases nb
  -- first the dict, then the list
  have R6 := (R5.more (pair_da hu5)).setOwn (i := i) (a := a) (o := .dK []) (dv := .owd []) (if_pos rfl) (by rw [hsl]; exact hi) rfl fun S' hs => ⟨a, [], rfl, upd_same, .nil⟩
  have e6 : upd (del H2 a) a (.dK []) = H2 := del_upd e4
  rw [e6] at R6
  have hu6 : DaAll C.K (Hd (Sof C (σ.set i (some (V.ref a))) (s2.sl.set i (.owd []))) H2) us es := da_pair hu.len fun x y z => R6.gh x y (.inr z)
  exact o.nx _ _ _ hnx (R6.less.setOwn nb (by rw [List.length_set, hsl]; exact hj) rfl fun S' hs => ⟨b, us, rfl, upd_same, hu6.of hs⟩)
end DL

set_option Elab.async false
set_option linter.all false
set_option maxRecDepth 100000
set_option maxHeartbeats 4000000
/-! DLu: list(zip(xs, ys)) of tuples; [..] != []; a, b, c = .. -/
namespace EMT
open PySem PySem.Spec PyProof.Rows L2 GG PT
variable {X : Cx}
def rNeMtL (K : PySem.W.Frag) : R2 := fun x y H Q => ∃ a b xs, x = .ref a ∧ y = .ref b ∧ SqL K H a xs ∧ SqL K H b [] ∧ Q (.bl !xs.isEmpty) H
theorem op_neMtL (hu : X.A.units + 64 < cLine) : OpR X (compareOp .NotEq) (rNeMtL X.K) := by
  intro pins s σ H x y v u Q I rx ry h
  obtain ⟨a, b, xs, rfl, rfl, ha, hb, q⟩ := h
  cases (show v = Value.ref a from rx)
  cases (show u = Value.ref b from ry)
  obtain ⟨its, rv, pl, _⟩ := I.list ha
  obtain ⟨its2, rv2, pl2, _⟩ := I.list hb
  cases rv2
  cases xs with
  | nil =>
    cases rv
    exact SeqAt.RcNeAt.lists (e := fun _ => true) pl.isList pl2.isList rfl (by omega) (fun j _ h2 => absurd h2 (Nat.not_lt_zero _)) _ _ _ _ ⟨.bl false, H, I, rfl, q⟩
  | cons x r =>
    cases rv
    exact SeqAt.RcNeAt.lists_lengths pl.isList pl2.isList (by simp) (by omega) _ _ _ _ ⟨.bl true, H, I, rfl, q⟩
end EMT
namespace DL
open PySem PySem.Spec PyProof.Rows L2 GG DD PT
variable {K : KX}
def dListZipT (d1 d2 : DE) : DA := fun s P => d1 s fun x s1 => d2 s1 fun y s2 => match x, y with
  | .tuple a, .tuple b => P (List.zipWith (fun p q => PyData.tuple [p, q]) a b) s2
  | _, _ => False
theorem rf_listZipT {t1 t2 : TE} {d1 d2 : DE} (h1 : RE K t1 d1) (h2 : RE K t2 d2) : RF K (LZ.tListZipT K (tCons t1 (tCons t2 tNil))) (dListZipT d1 d2) := fun C hC s P hd σ H Q R q =>
  rd_cons (h1 C hC s _ hd σ H _ R fun v H1 d s1 hd1 R1 hv => rd_cons (h2 (C.keep v d) hC s1 _ hd1 σ H1 _ (R1.keep hv) fun w H2 e s2 hp R2 hw => rd_nil (by
    obtain ⟨R3, hv3⟩ := R2.kept
    subst hC
    split at hp
    · obtain ⟨a, vs, rfl, k1, k2⟩ := da_tup hv3
      obtain ⟨b, us, rfl, k3, k4⟩ := da_tup hw
      refine ⟨a, b, vs, us, rfl, k1, k3, fun ps H3 p sm np hl hps => ?_⟩
      refine q p (ps.map V.ref) H3 _ s2 hp (R3.ext sm) np (DaAll.ofGet (by simp [hl, k2.len, k4.len]) fun j v' d' e e' => ?_)
      rw [List.getElem?_map] at e
      obtain ⟨t, ht, e⟩ := Option.map_eq_some_iff.mp e
      subst e
      obtain ⟨x, y, o, e1, e2, e3, e4, e5⟩ := hps j t ht
      rw [List.getElem?_zipWith] at e'
      split at e'
      · rename_i da db f1 f2
        cases e'
        have g1 := (k2.of (hdS sm)).at e1 f1
        have g2 := (k4.of (hdS sm)).at e2 f2
        exact .tup (.inl ⟨o, by rw [hd_ne (R3.new e5).1]; exact e3, e4⟩) (.cons g1 (.cons g2 .nil))
      · cases e'
    · exact hp.elim)))

def oNeMtL : D2 := fun d e P => match d, e with
  | .list ds, .list [] => P (.bool !ds.isEmpty)
  | _, _ => False
theorem ro_neMtL : RO K (EMT.rNeMtL K) oNeMtL := fun S H x y d e P Q _ hx hy h q => by
  unfold oNeMtL at h
  split at h
  · obtain ⟨a, vs, rfl, k1, k2⟩ := da_list hx
    obtain ⟨b, us, rfl, k3, k4⟩ := da_list hy
    cases k4
    refine ⟨a, b, vs, rfl, rfl, sq k1, sq k3, q _ H _ h (Same.refl _) ?_⟩
    cases k2 with
    | nil => exact .bl _
    | cons _ _ => exact .bl _
  · exact h.elim
/-- a, b, c = x, y, z -/
def dPar3 (i j l : Nat) (da : DA) : DS := fun E s => da s fun ds s1 => match ds with
  | [d, e, f] => E.nx ⟨((s1.sl.set i (.dat d)).set j (.dat e)).set l (.dat f), s1.n⟩
  | _ => False
theorem rs_par3 {i j l : Nat} {ta : TA} {da : DA} (h : RA K ta da) : RS K (tPar3 i j l ta) (dPar3 i j l da) := fun C hC E s hd σ H D R o =>
  h C hC s _ hd σ H _ R fun vs H1 ds s1 hp R1 hv => by
    match ds, hp, hv with
    | [d, e, f], hp, .cons (v := v) h1 (.cons (v := w) h2 (.cons (v := x) h3 .nil)) =>
      have R2 := ((R1.keep (v := x) h3).keep (v := w) h2).set (i := i) h1
      obtain ⟨R3, h4⟩ := R2.kept
      have R4 := R3.set (i := j) h4
      obtain ⟨R5, h5⟩ := R4.kept
      exact ⟨v, w, x, rfl, o.nx _ H1 _ hp (R5.set h5)⟩
/-- a, b, c = x, y, a new list -/
def dPar3R (i j l : Nat) (de df : DE) (dl : DA) : DS := fun E s => de s fun d s1 => df s1 fun e s2 => dl s2 fun ds s3 => i ≠ j ∧ i ≠ l ∧ j ≠ l ∧ l < s3.sl.length ∧ E.nx ⟨((s3.sl.set i (.dat d)).set j (.dat e)).set l (.own ds), s3.n⟩
theorem rs_par3R {i j l : Nat} {te tf tg : TE} {de df : DE} {dl : DA} (h : RE K te de) (h2 : RE K tf df) (h3 : RF K tg dl) : RS K (tPar3 i j l (tCons te (tCons tf (tCons tg tNil)))) (dPar3R i j l de df dl) := fun C hC E s hd σ H D R o =>
  h C hC s _ hd σ H _ R fun v H1 d s1 hd1 R1 hv => h2 (C.keep v d) hC s1 _ hd1 σ H1 _ (R1.keep hv) fun w H2 e s2 hd2 R2 hw => h3 ((C.keep v d).keep w e) hC s2 _ hd2 σ H2 _ (R2.keep hw) fun a vs H3 ds s3 hp R3 na hx => by
    refine ⟨_, _, _, rfl, ?_⟩
    obtain ⟨R4, hw4⟩ := R3.kept
    obtain ⟨R5, hv5⟩ := R4.kept
    have R6 := ((R5.keep (v := w) (d := e) hw4).keep (v := v) (d := d) hv5).set (i := i) hv5
    obtain ⟨R7, _⟩ := R6.kept
    obtain ⟨R8, hw8⟩ := R7.kept
    have R9 := (R8.keep (v := w) (d := e) hw8).set (i := j) hw8
    obtain ⟨R10, _⟩ := R9.kept
    have hs : Same (Hd (Sof C σ s3.sl) H3) (Hd (Sof C ((σ.set i (some v)).set j (some w)) ((s3.sl.set i (.dat d)).set j (.dat e))) H3) := hd_mono fun b z => sof_set (s := s3) rfl b (sof_set (s := ⟨s3.sl.set i (.dat d), s3.n⟩) rfl b z)
    have hx' : DaAll C.K (Hd (Sof C ((σ.set i (some v)).set j (some w)) ((s3.sl.set i (.dat d)).set j (.dat e))) H3) vs ds := (show DaAll C.K (Hd (Sof C σ s3.sl) H3) vs ds from hx).of hs
    exact o.nx _ _ _ hp.2.2.2.2 (R10.setOwn na (by rw [List.length_set, List.length_set]; exact hp.2.2.2.1) rfl fun S' hs' => ⟨a, vs, rfl, upd_same, hx'.of hs'⟩)
/-- (a, b) = a new list, a new list, by a tuple in between -/
def dTupLL (i j : Nat) (dl dm : DA) : DS := fun E s => i ≠ j ∧ dParLL i j dl dm E s
theorem rs_tupLL {i j : Nat} {te tf : TE} {dl dm : DA} (h : RF K te dl) (h2 : RF K tf dm) : RS K (tAsg (tTupP (tCons te (tCons tf tNil))) (gTup K 2 (gCons (gName i) (gCons (gName j) gNil)))) (dTupLL i j dl dm) := fun C hC E s hd σ H D R o =>
  rd_tupP (rd_cons (h C hC s _ hd.2 σ H _ R fun a vs H1 ds s1 hd1 R1 na hv => by
    obtain ⟨n1, n2⟩ := R1.new na
    have R2 := (R1.hidden (o := .lst vs) na).pin (L := a) (.inr rfl) (fun z => n1 (.inr (.inl z))) upd_same
    have hs : Same (Hd (Sof C σ s1.sl) H1) (Hd (Sof (C.hide a) σ s1.sl) (upd H1 a (.lst vs))) := fun b u e => by
      obtain ⟨z1, z3⟩ := hd_some e
      have hb : b ≠ a := ne_of_none z3 na
      rw [hd_ne (fun z => (sof_hide.mp z).elim z1 hb), upd_ne hb]
      exact z3
    have R2' := R2.more (pair_da (hv.of hs))
    refine rd_cons (h2 (((C.hide a).pin a (.lst vs)).more (pairG vs ds)) hC s1 _ hd1 σ _ _ R2' fun b us H2 es s2 hp R3 nb hu => rd_nil ⟨by show 2 ≤ sizeLine; decide, fun p ob np _ => rd_gnn (.inl (.inr ⟨ob, upd_same⟩)) ?_⟩)
    have hk := same_upd (o := .frz ob (.tup [.ref a, .ref b])) np
    obtain ⟨R4, e4⟩ := R3.less.unpin
    have hds : DaAll C.K (Hd (Sof (C.hide a) σ s2.sl) H2) vs ds := da_pair hv.len fun x y z => R3.gh x y (.inr z)
    have hus : DaAll C.K (Hd (Sof (C.hide a) σ s2.sl) H2) us es := hu
    obtain ⟨m1, m2⟩ := R4.new nb
    have hab : b ≠ a := fun z => by
      rw [z, e4] at nb
      cases nb
    have hs2 : Same (Hd (Sof (C.hide a) σ s2.sl) H2) (Hd (Sof ((C.hide a).hide b) σ s2.sl) (upd H2 b (.lst us))) := fun c u e => by
      obtain ⟨z1, z3⟩ := hd_some e
      have hb : c ≠ b := ne_of_none z3 nb
      rw [hd_ne (fun z => (sof_hide.mp z).elim z1 hb), upd_ne hb]
      exact z3
    have R5 := (R4.hidden (o := .lst us) nb).ext hk
    have v5 := (hds.of hs2).of (hdS hk)
    have u5 := (hus.of hs2).of (hdS hk)
    have R6 := R5.more (pair_da v5)
    have R7 := Rl.adopt (C := (C.hide a).more (pairG vs ds)) (i := j) R6 (fun z => z.elim (fun z => m1 (.inl (.inl z))) hab) (fun z => m1 (.inr (.inl z))) m2 (fun c u z => .inl ((R1.fz c u z).1)) (hk _ _ upd_same) u5 hp.2.1
    have v7 : DaAll C.K (Hd (Sof (C.hide a) (σ.set j (some (V.ref b))) (s2.sl.set j (.own es))) (upd (upd H2 b (.lst us)) p (.frz ob (.tup [.ref a, .ref b])))) vs ds := da_pair hv.len fun x y z => R7.gh x y (.inr z)
    have R8 := Rl.adopt (C := C) (i := i) R7.less (fun z => n1 (.inl z)) (fun z => n1 (.inr (.inl z))) n2 (fun b u z => (R1.fz b u z).1) (hk _ _ (by rw [upd_ne (fun z => hab z.symm)]; exact e4)) v7 (by
      show i < (s2.sl.set j (.own es)).length
      rw [List.length_set]
      exact hp.1)
    have c1 : (s2.sl.set i (.own ds)).set j (.own es) = (s2.sl.set j (.own es)).set i (.own ds) := List.set_comm _ _ hd.1
    have c2 : (σ.set i (some (V.ref a))).set j (some (V.ref b)) = (σ.set j (some (V.ref b))).set i (some (V.ref a)) := List.set_comm _ _ hd.1
    have hnx := hp.2.2
    rw [c1] at hnx
    rw [c2]
    exact o.nx _ _ _ hnx R8))
end DL

set_option Elab.async false
set_option linter.all false
set_option maxRecDepth 100000
set_option maxHeartbeats 4000000
/-! DLv: a def that changes a list of its caller's (its last argument); x in a list of one's own. -/
namespace DL
open PySem PySem.Spec PyProof.Rows L2 GG DD PT
variable {K : KX}
theorem ArgsOk.get {K : PySem.W.Frag} {W : Wo} {S : Addr → Prop} {H : Hp} : ∀ {vs : List V} {as : List DV} {i : Nat} {dv : DV}, ArgsOk K W S H vs as → as[i]? = some dv → ∃ v, vs[i]? = some v ∧ ArgOk K W S H v dv
  | _, _, _, _, .nil, e => by simp at e
  | _, _, 0, _, .cons h _, e => by
    simp at e
    subst e
    exact ⟨_, rfl, h⟩
  | _, _, i + 1, dv, .cons _ t, e => by
    obtain ⟨v, h1, h2⟩ := ArgsOk.get (i := i) (dv := dv) t (by simpa using e)
    exact ⟨v, by simpa using h1, h2⟩
/-- what such a def does: its other arguments, the list, the draws so far, what is wished -/
abbrev FM := List DV → List PyData → Nat → (PyData → List PyData → Nat → Prop) → Prop
def spMut (K : PySem.W.Frag) (m : Nat) (F : FM) : Sp := fun vs H Q _ => vs.length = m ∧ ∃ (W : Wo) (S0 : Addr → Prop) (n : Nat) (us0 : List V) (a : Addr) (us : List V) (as : List DV) (ds : List PyData) (P : PyData → List PyData → Nat → Prop),
  vs = us0 ++ [.ref a] ∧ Taken H S0 ∧ DkOk W H n ∧ (∀ b, Mu W b → S0 b) ∧ S0 a ∧ ¬ Mu W a ∧ H a = some (.lst us) ∧ ArgsOk K W S0 H us0 as ∧ DaAll K (Hd S0 H) us ds ∧ F as ds n P ∧
  ∀ v H' d ds' n' us', P d ds' n' → DkOk W H' n' → (∀ b o, ¬ Mu W b → b ≠ a → H b = some o → H' b = some o) → H' a = some (.lst us') → DaAll K (Hd S0 H') us' ds' → Da K (Hd S0 H') v d → Q v H'
theorem get_app3 {A : Type} {as : List A} {x y : A} {m i : Nat} {z : A} (h : (as ++ (x :: List.replicate m y))[i]? = some z) : (i < as.length ∧ as[i]? = some z) ∨ (i = as.length ∧ z = x) ∨ (as.length < i ∧ i < as.length + 1 + m ∧ z = y) := by
  by_cases h1 : i < as.length
  · rw [List.getElem?_append_left h1] at h
    exact .inl ⟨h1, h⟩
  · rw [List.getElem?_append_right (by omega)] at h
    cases e : i - as.length with
    | zero =>
      rw [e] at h
      simp at h
      exact .inr (.inl ⟨by omega, h.symm⟩)
    | succ k =>
      rw [e] at h
      simp at h
      obtain ⟨h2, h3⟩ := List.getElem?_eq_some_iff.mp h
      simp at h2 h3
      exact .inr (.inr ⟨by omega, by omega, h3.symm⟩)
theorem rl_startM {K : PySem.W.Frag} {W : Wo} {S0 : Addr → Prop} {H : Hp} {n : Nat} {vs : List V} {as : List DV} {a : Addr} {us : List V} {ds : List PyData} (m : Nat) (T : Taken H S0) (dk : DkOk W H n) (hm : ∀ b, Mu W b → S0 b) (h0 : S0 a) (h1 : ¬ Mu W a) (eH : H a = some (.lst us)) (ha : ArgsOk K W S0 H vs as) (hd : DaAll K (Hd S0 H) us ds) :
    Rl (DC.base ⟨K, W, fun b => S0 b ∧ b ≠ a, del H a, fun _ _ => False, fun _ _ => False⟩) ((vs ++ [V.ref a]).map some ++ List.replicate m none) H ⟨as ++ (.arg a ds :: List.replicate m .un), n⟩ := by
  have hl := ha.len
  have es : (vs ++ [V.ref a]).map some ++ List.replicate m none = vs.map some ++ (some (V.ref a) :: List.replicate m none) := by simp
  rw [es]
  have own : ∀ {i : Nat} {dv : DV}, (as ++ (.arg a ds :: List.replicate m .un))[i]? = some dv → isOwn dv = true → i = as.length ∧ dv = .arg a ds := fun {i dv} h ho => by
    rcases get_app3 h with ⟨_, h⟩ | h | ⟨_, _, rfl⟩
    · obtain ⟨v, _, z⟩ := ha.get h
      cases dv <;> first | exact z.elim | cases ho
    · exact h
    · cases ho
  have at_a : (vs.map some ++ (some (V.ref a) :: List.replicate m none))[as.length]? = some (some (V.ref a)) := by
    rw [List.getElem?_append_right (by simp [hl]), List.length_map, hl, Nat.sub_self]
    rfl
  have ad : ∀ {i : Nat} {dv : DV} {b : Addr}, (as ++ (.arg a ds :: List.replicate m .un))[i]? = some dv → isOwn dv = true → (vs.map some ++ (some (V.ref a) :: List.replicate m none))[i]? = some (some (V.ref b)) → b = a := fun {i dv b} h ho e => by
    obtain ⟨rfl, _⟩ := own h ho
    rw [at_a] at e
    cases e
    rfl
  have sub : ∀ b, Sof (DC.base ⟨K, W, fun b => S0 b ∧ b ≠ a, del H a, fun _ _ => False, fun _ _ => False⟩) (vs.map some ++ (some (V.ref a) :: List.replicate m none)) (as ++ (.arg a ds :: List.replicate m .un)) b → S0 b := fun b h => by
    rcases h with h | h | ⟨i, dv, g1, g2, g3⟩
    · exact h.1
    · exact hm b h
    · rw [ad g1 g2 g3]
      exact h0
  have hs := hd_mono (H := H) sub
  refine ⟨by simp [hl], fun i dv h => ?_, fun i j b dv ev g1 g2 g3 g4 _ _ => (own g1 g3).1.trans (own g2 g4).1.symm, fun i b dv g1 g2 g3 => ?_, dk, fun b o hb e => ?_, fun b hb => T b hb.1, fun _ _ h => h.elim, fun _ _ h => h.elim⟩
  · rcases get_app3 h with ⟨hi, h⟩ | ⟨rfl, rfl⟩ | ⟨h2, h3, rfl⟩
    · obtain ⟨v, g1, g2⟩ := ha.get h
      refine ⟨some v, by rw [List.getElem?_append_left (by simp [hl, hi]), List.getElem?_map, g1]; rfl, ?_⟩
      cases dv with
      | dat d => exact ⟨v, rfl, Da.of g2 hs⟩
      | deck =>
        obtain ⟨p, l, e1, e2⟩ := g2
        exact ⟨p, l, e1, by rw [e2]⟩
      | _ => exact g2.elim
    · exact ⟨_, at_a, us, rfl, eH, hd.of hs⟩
    · refine ⟨none, ?_, trivial⟩
      rw [List.getElem?_append_right (by simp [hl]; omega), List.length_map, hl]
      cases e : i - as.length with
      | zero => omega
      | succ k =>
        rw [List.getElem?_cons_succ]
        have hk : k < m := by omega
        simp [hk]
  · rw [ad g1 g2 g3]
    exact ⟨if_pos rfl, fun z => z.2 rfl, h1⟩
  · by_cases e2 : b = a
    · subst e2
      have e3 : del H b b = none := if_pos rfl
      rw [show ((DC.base ⟨K, W, fun c => S0 c ∧ c ≠ b, del H b, fun _ _ => False, fun _ _ => False⟩) : DC).H0 = del H b from rfl, e3] at e
      cases e
    · exact (del_ne e2).symm.trans e
/-- such a def's body, by data -/
def bodyM (d : DS) (m : Nat) : FM := fun as ds n P => ∀ a, d { nx := fun s => ∃ ds', s.sl[as.length]? = some (.arg a ds') ∧ P .none ds' s.n, rt := fun v s => ∃ ds', s.sl[as.length]? = some (.arg a ds') ∧ P v ds' s.n } ⟨as ++ (.arg a ds :: List.replicate m .un), n⟩
theorem body_okM {K : PySem.W.Frag} {d : DS} {N : List Str} {k : Nat} {vs : List V} {H : Hp} {Q : VK} {X : TS → Prop} (h : ∀ W B H0 G0 Z0, ∃ t, X t ∧ RS ⟨K, W, B, H0, G0, Z0⟩ t d) (hsp : spMut K k (bodyM d (N.length - k)) vs H Q E0) : ∃ t, X t ∧ t { nx := fun _ H' => Q .non H', rt := Q } (L2.start N vs) H := by
  obtain ⟨hl, W, S0, n, us0, a, us, as, ds, P, rfl, T, dk, hm, h0, h1, eH, ha, hda, hF, q⟩ := hsp
  obtain ⟨t, hX, h⟩ := h W (fun b => S0 b ∧ b ≠ a) (del H a) (fun _ _ => False) (fun _ _ => False)
  refine ⟨t, hX, ?_⟩
  unfold L2.start
  rw [hl]
  have fin : ∀ {σ : L2.St} {H' : Hp} {s : DSt} {ds' : List PyData} {v : V} {d : PyData}, s.sl[as.length]? = some (.arg a ds') → P d ds' s.n → Rl (DC.base ⟨K, W, fun b => S0 b ∧ b ≠ a, del H a, fun _ _ => False, fun _ _ => False⟩) σ H' s →
      Da K (Hd (Sof (DC.base ⟨K, W, fun b => S0 b ∧ b ≠ a, del H a, fun _ _ => False, fun _ _ => False⟩) σ s.sl) H') v d → Q v H' := fun {σ H' s ds' v d} e hp R hv => by
    obtain ⟨sl, g1, us', rfl, g2, g3⟩ := R.slots _ _ e
    have hs := hd_mono (S := Sof (DC.base ⟨K, W, fun b => S0 b ∧ b ≠ a, del H a, fun _ _ => False, fun _ _ => False⟩) σ s.sl) (S' := S0) (H := H') fun b hb => by
      by_cases z : b = a
      · subst z
        exact .inr (.inr ⟨_, _, e, rfl, g1⟩)
      · exact .inl ⟨hb, z⟩
    exact q v H' d ds' s.n us' hp R.dk (fun b o nb nz e => R.but b o nb ((del_ne nz).trans e)) g2 (DaAll.of g3 hs) (hv.of hs)
  refine h (DC.base ⟨K, W, fun b => S0 b ∧ b ≠ a, del H a, fun _ _ => False, fun _ _ => False⟩) rfl _ _ (hF a) _ H _ (rl_startM _ T dk hm h0 h1 eH ha hda) ⟨fun σ H' s ⟨ds', e, hp⟩ R => fin e hp R .non, fun σ v H' d s ⟨ds', e, hp⟩ R hv => fin e hp R hv, fun _ _ _ h => h.elim, fun _ _ _ h => h.elim⟩
section
variable {P : Program} {w : World} {K : PySem.W.Frag} {mg : Str → Option Value} {base : Heap} {k : Nat} {f : Addr} {fd : FuncData} {ps : List Str}
theorem okdM {x qual : Str} {st : Stmt} {N : List Str} {d : DS} {m : Nat} (hm : ps.length = m) (F : L2.Fun K x qual st f fd) (S : FnScope N ps (defScope st))
    (body : ∀ (cdv : Value) (A : Around) (outer : List Env) (s : Shared) (H : Hp), Rm k (A.deeper (envOfC qual (defScope st) s.heap.objs.size f cdv)) → ∀ W B H0 G0 Z0,
      ∃ t, PSs (cxOf CX0 P w K mg base N qual (defScope st) f cdv A outer s H E0).nox (defBody st) t ∧ RS ⟨K, W, B, H0, G0, Z0⟩ t d) :
    Fg P w K mg base (k + 1) f fd ps (spMut K m (bodyM d (N.length - m))) :=
  okg F S (fun vs H Q h => by rw [h.1]; exact hm.symm) fun cdv A outer s H vs Q hr h => body_okM (body cdv A outer s H hr) h
end
/-! ### the call of such a def -/
def isOwnA : Option DV → Prop
  | some (.own _) => True
  | some (.arg _ _) => True
  | _ => False
theorem ownA_at {C : DC} {σ : L2.St} {H : Hp} {s : DSt} (R : Rl C σ H s) {i : Nat} (h : isOwnA s.sl[i]?) : ∃ a, σ[i]? = some (some (V.ref a)) := by
  cases e : s.sl[i]? with
  | none => rw [e] at h; exact h.elim
  | some dv =>
    rw [e] at h
    obtain ⟨sl, h1, h2⟩ := R.slots i _ e
    cases dv with
    | own ds =>
      obtain ⟨a, vs, rfl, _⟩ := h2
      exact ⟨a, h1⟩
    | arg b ds =>
      obtain ⟨vs, rfl, _⟩ := h2
      exact ⟨b, h1⟩
    | _ => exact h.elim
def RM (K : KX) (i : Nat) (ta : TA) (dx : DX) : Prop := ∀ C : DC, C.K = K → ∀ s P, dx s P → ∀ (σ : L2.St) (H : Hp) (Q : List V → Hp → Prop), Rl C σ H s →
  (∀ vs H' as s' a, P as s' → Rl C σ H' s' → ArgsOk C.K C.W (Sof C σ s'.sl) H' vs as → σ[i]? = some (some (V.ref a)) → Q (vs ++ [.ref a]) H') → ta σ H Q
def xLast (i : Nat) : DX := fun s P => isOwnA s.sl[i]? ∧ P [] s
theorem rm_last {i : Nat} : RM K i (tCons (tVar i) tNil) (xLast i) := fun C _ s P h σ H Q R q => by
  obtain ⟨a, e⟩ := ownA_at R h.1
  exact rd_cons (rd_var e (rd_nil (q [] H [] s a h.2 R .nil e)))
theorem rm_cons {i : Nat} {te : TE} {ta : TA} {de : DE} {da : DX} (h1 : RE K te de) (h2 : RM K i ta da) : RM K i (tCons te ta) (xCons de da) := fun C hC s P hd σ H Q R q =>
  rd_cons (h1 C hC s _ hd σ H _ R fun v H1 d s1 hd1 R1 hv => h2 (C.keep v d) hC s1 _ hd1 σ H1 _ (R1.keep hv) fun vs H2 ds s2 a hp R2 hvs e => by
    obtain ⟨R3, hv3⟩ := R2.kept
    exact q (v :: vs) H2 (.dat d :: ds) s2 a hp R3 (.cons hv3 hvs) e)
theorem rm_deck {i j : Nat} {ta : TA} {da : DX} (h2 : RM K i ta da) : RM K i (tCons (tVar j) ta) (xDeck j da) := fun C hC s P hd σ H Q R q => by
  unfold xDeck at hd
  split at hd
  · rename_i e
    obtain ⟨sl, h1, p, l, hW, rfl⟩ := R.slots j _ e
    exact rd_cons (rd_var h1 (h2 C hC s _ hd σ H _ R fun vs H2 ds s2 a hp R2 hvs ea => q (.ref p :: vs) H2 (.deck :: ds) s2 a hp R2 (.cons ⟨p, l, hW, rfl⟩ hvs) ea))
  · exact hd.elim
theorem upd_upd {H : Hp} {a : Addr} {x y : HO} (h : H a = some y) : upd (upd H a x) a y = H := funext fun b => by
  by_cases e : b = a
  · subst e
    rw [upd_same, h]
  · rw [upd_ne e, upd_ne e]
/-- the list goes on, by what a called def did to it -/
theorem Rl.called {C : DC} {σ : L2.St} {H H' : Hp} {s : DSt} (R : Rl C σ H s) {i n' : Nat} {a : Addr} {us us' : List V} {ds' : List PyData} {dv ev : DV} (e : s.sl[i]? = some dv) (ho : isOwn dv = true) (hv : ev = .own ds' ∨ ev = .arg a ds') (h1 : σ[i]? = some (some (V.ref a))) (eH : H a = some (.lst us))
    (dk : DkOk C.W H' n') (bt : ∀ b o, ¬ Mu C.W b → b ≠ a → H b = some o → H' b = some o) (e' : H' a = some (.lst us')) (hd : DaAll C.K (Hd (Sof C σ s.sl) H') us' ds') : Rl C σ H' ⟨s.sl.set i ev, n'⟩ := by
  obtain ⟨f1, f2, f3⟩ := R.fr i a dv e ho h1
  have R2 : Rl C σ (upd H' a (.lst us)) ⟨s.sl, n'⟩ := R.step (fun b o nb eb => by
    by_cases z : b = a
    · subst z
      rw [upd_same]
      rw [eH] at eb
      exact eb
    · rw [upd_ne z]
      exact bt b o nb z eb) (dk.upd f3)
  have sa : Sof C σ s.sl a := .inr (.inr ⟨i, _, e, ho, h1⟩)
  have ho2 : isOwn ev = true := by rcases hv with rfl | rfl <;> rfl
  have hs1 : Same (Hd (Sof C σ s.sl) H') (Hd (Sof C σ s.sl) (upd H' a (.lst us))) := fun b u z => by
    obtain ⟨z1, z2⟩ := hd_some z
    have hb : b ≠ a := fun w => z1 (by rw [w]; exact sa)
    rw [hd_ne z1, upd_ne hb]
    exact z2
  have R3 := R2.mut (o := .lst us') (ev := ev) e ho ho2 h1 fun hs => by
    rcases hv with rfl | rfl
    · exact ⟨a, us', rfl, upd_same, (hd.of hs1).of hs⟩
    · exact ⟨us', rfl, upd_same, (hd.of hs1).of hs⟩
  rw [upd_upd e'] at R3
  exact R3
/-- f(.., x): x in slot i, one's own, may be changed -/
def dCallM (i m : Nat) (F : FM) (da : DX) : DS := fun E s => da s fun as s1 => as.length + 1 = m ∧ match s1.sl[i]? with
  | some (.own ds) => F as ds s1.n fun _ ds' n' => E.nx ⟨s1.sl.set i (.own ds'), n'⟩
  | some (.arg a ds) => F as ds s1.n fun _ ds' n' => E.nx ⟨s1.sl.set i (.arg a ds'), n'⟩
  | _ => False
theorem rs_callM {i m : Nat} {F : FM} {ta : TA} {da : DX} (h : RM K i ta da) : RS K (tDrop (tCall (spMut K m F) [] E0 ta)) (dCallM i m F da) := fun C hC E s hd σ H D R o => by
  refine rd_call (h C hC s _ hd σ H _ R fun vs H1 as s1 a hp R1 hv ea => ?_)
  subst hC
  obtain ⟨hl, hp⟩ := hp
  cases e : s1.sl[i]? with
  | none => rw [e] at hp; exact hp.elim
  | some dv =>
    rw [e] at hp
    cases dv with
    | own ds =>
      obtain ⟨sl, g1, b, us, rfl, g2, g3⟩ := R1.slots i _ e
      rw [ea] at g1
      cases g1
      refine ⟨by rw [List.append_nil, List.length_append, hv.len]; exact hl, C.W, Sof C σ s1.sl, s1.n, vs, a, us, as, ds, _, by rw [List.append_nil], R1.taken, R1.dk, fun b hb => .inr (.inl hb), .inr (.inr ⟨i, _, e, rfl, ea⟩), (R1.fr i a _ e rfl ea).2.2, g2, hv, g3, hp, fun v H' d ds' n' us' hP hD hB e' hda hv' => ?_⟩
      exact o.nx _ _ _ hP (R1.called e rfl (.inl rfl) ea g2 hD hB e' hda)
    | arg b ds =>
      obtain ⟨sl, g1, us, rfl, g2, g3⟩ := R1.slots i _ e
      rw [ea] at g1
      cases g1
      refine ⟨by rw [List.append_nil, List.length_append, hv.len]; exact hl, C.W, Sof C σ s1.sl, s1.n, vs, _, us, as, ds, _, by rw [List.append_nil], R1.taken, R1.dk, fun b hb => .inr (.inl hb), .inr (.inr ⟨i, _, e, rfl, ea⟩), (R1.fr i _ _ e rfl ea).2.2, g2, hv, g3, hp, fun v H' d ds' n' us' hP hD hB e' hda hv' => ?_⟩
      exact o.nx _ _ _ hP (R1.called e rfl (.inr rfl) ea g2 hD hB e' hda)
    | _ => exact hp.elim
/-! ### lists that may be one's own -/
/-- x.append(e), x an argument -/
def dAppA (i : Nat) (de : DE) : DS := fun E s => (match s.sl[i]? with
  | some (.arg _ _) => True
  | _ => False) ∧ de s fun d s1 => match s1.sl[i]? with
  | some (.arg a ds) => ds.length < 1000000 ∧ E.nx ⟨s1.sl.set i (.arg a (ds ++ [d])), s1.n⟩
  | _ => False
theorem rs_appA {i : Nat} {te : TE} {de : DE} (h : RE K te de) : RS K (tDrop (tBM K "list" rAppend (tVar i) (tCons te tNil))) (dAppA i de) := fun C hC E s hd σ H D R o => by
  obtain ⟨h0, hd⟩ := hd
  split at h0
  · rename_i a0 ds0 e0
    obtain ⟨sl, h1, vs, rfl, h2, _⟩ := R.slots i _ e0
    refine ⟨_, h1, ty_list h2, h C hC s _ hd σ H _ R fun v H1 d s1 hp R1 hv => rd_nil ?_⟩
    cases e : s1.sl[i]? with
    | none => rw [e] at hp; exact hp.elim
    | some dv =>
      cases dv with
      | arg b ds =>
        rw [e] at hp
        obtain ⟨sl, k1, us, rfl, k2, k3⟩ := R1.slots i _ e
        rw [h1] at k1
        cases k1
        exact ⟨_, us, v, rfl, rfl, k2, by rw [k3.len]; exact Nat.lt_of_lt_of_le hp.1 sz6, o.nx _ _ _ hp.2 (R1.mut e rfl rfl h1 fun hs => ⟨us ++ [v], rfl, upd_same, (k3.append (.cons hv .nil)).of hs⟩)⟩
      | _ => rw [e] at hp; exact hp.elim
  · exact h0.elim
/-- x in xs, x flat, xs a list in a slot -/
def dInVar (neg : Bool) (de : DE) (i : Nat) : DE := fun s P => de s fun d s1 => match flatD d with
  | some x => dListVar i s1 fun ds s2 => ∃ vs, flatsD ds = some vs ∧ flatV x = true ∧ vs.all flatV = true ∧ P (.bool (if neg then !inV x vs else inV x vs)) s2
  | none => False
theorem re_inVar {neg : Bool} {i : Nat} {te : TE} {de : DE} (h : RE K te de) : RE K (tOp (rIn K neg) te (tVar i)) (dInVar neg de i) := fun C hC s P hd σ H Q R q =>
  rd_op (h C hC s _ hd σ H _ R fun v H1 d s1 hp R1 hv => by
    cases e1 : flatD d with
    | none => rw [e1] at hp; exact hp.elim
    | some x =>
      rw [e1] at hp
      obtain ⟨a, us, ds, h1, ⟨vs, e2, g1, g2, hP⟩, h4, h5⟩ := list_at R1 hp
      subst hC
      have e3 := flats_da h5 e2
      subst e3
      have e4 := flat_v hv e1
      subst e4
      exact rd_var h1 ⟨a, us, rfl, .inl (sq h4), g1, g2, q _ H1 _ s1 hP R1 (.bl _)⟩)
end DL

set_option Elab.async false
set_option linter.all false
set_option maxRecDepth 100000
set_option maxHeartbeats 4000000
/-! EQS: two lists of texts compared, of whatever signs. -/
namespace EQS
open PySem PySem.Spec PyProof.Rows L2 GG PT
variable {X : Cx}
def rEqSs (K : PySem.W.Frag) : R2 := fun x y H Q => ∃ (a b : Addr) (xs ys : List Str), x = .ref a ∧ y = .ref b ∧ SqL K H a (xs.map V.str) ∧ SqL K H b (ys.map V.str) ∧ Q (.bl (decide (xs = ys))) H
theorem strs_get {xs : List Str} {us : List Value} (r : Vals (xs.map V.str) us) {j : Nat} (hj : j < us.length) : ∃ x t, xs[j]? = some x ∧ us[j] = Value.str x t := by
  have hl := r.length
  rw [List.length_map] at hl
  have e : xs[j]? = some (xs[j]'(by omega)) := List.getElem?_eq_getElem (by omega)
  obtain ⟨u, h1, t, h2⟩ := r.get (i := j) (x := V.str (xs[j]'(by omega))) (by rw [List.getElem?_map, e]; rfl)
  rw [List.getElem?_eq_getElem hj] at h1
  cases h1
  exact ⟨_, t, e, h2⟩
def eAt (xs ys : List Str) (j : Nat) : Bool := xs.getD j "" == ys.getD j ""
theorem all_eAt {xs ys : List Str} (hl : xs.length = ys.length) : (List.range xs.length).all (eAt xs ys) = decide (xs = ys) := by
  by_cases h : xs = ys
  · subst h
    rw [decide_eq_true rfl, List.all_eq_true]
    intro j _
    exact beq_self_eq_true _
  · rw [decide_eq_false h]
    cases e : (List.range xs.length).all (eAt xs ys) with
    | false => rfl
    | true =>
      rw [List.all_eq_true] at e
      refine absurd (List.ext_getElem hl fun j h1 h2 => ?_) h
      have z := e j (List.mem_range.mpr h1)
      unfold eAt at z
      rw [List.getD_eq_getElem?_getD, List.getD_eq_getElem?_getD, List.getElem?_eq_getElem h1, List.getElem?_eq_getElem h2] at z
      exact eq_of_beq z
theorem op_eqSs (hu : X.A.units + 64 < cLine) : OpR X (compareOp .Eq) (rEqSs X.K) := by
  intro pins s σ H x y v u Q I rx ry h
  obtain ⟨a, b, xs, ys, rfl, rfl, ha, hb, q⟩ := h
  cases (show v = Value.ref a from rx)
  cases (show u = Value.ref b from ry)
  obtain ⟨its, rv, pl, _⟩ := I.list ha
  obtain ⟨its2, rv2, pl2, _⟩ := I.list hb
  have l1 := rv.length
  have l2 := rv2.length
  rw [List.length_map] at l1 l2
  by_cases hl : xs.length = ys.length
  · refine SeqAt.eq_listAt (e := eAt xs ys) pl.isList pl2.isList (by simp; omega) (by omega) (fun j h1 h2 => ?_) ?_
    · have h1' : j < its.length := by simpa using h1
      have h2' : j < its2.length := by simpa using h2
      obtain ⟨x, t, e1, e2⟩ := strs_get rv h1'
      obtain ⟨y, t', e3, e4⟩ := strs_get rv2 h2'
      have z1 : its.toArray[j] = Value.str x t := by simpa using e2
      have z2 : its2.toArray[j] = Value.str y t' := by simpa using e4
      rw [z1, z2]
      have ee : eAt xs ys j = (x == y) := by
        unfold eAt
        rw [List.getD_eq_getElem?_getD, List.getD_eq_getElem?_getD, e1, e3]
        rfl
      rw [ee]
      exact SeqAt.EqAt.str_str x t y t'
    · have e : (List.range its.toArray.size).all (eAt xs ys) = decide (xs = ys) := by
        rw [List.size_toArray, ← l1]
        exact all_eAt hl
      rw [e]
      exact ⟨.bl _, H, I, rfl, q⟩
  · refine SeqAt.eq_list_lengthsAt pl.isList pl2.isList ?_ (by omega) ?_
    · rw [List.size_toArray, List.size_toArray, ← l1, ← l2]
      simpa using hl
    · have e : decide (xs = ys) = false := decide_eq_false fun z => hl (by rw [z])
      rw [e] at q
      exact ⟨.bl false, H, I, rfl, q⟩
end EQS
namespace DL
open PySem PySem.Spec PyProof.Rows L2 GG DD PT
variable {K : KX}
def oEqSs : D2 := fun d e P => match d, e with
  | .list ds, .list es => ∃ xs ys, strsD ds = some xs ∧ strsD es = some ys ∧ P (.bool (decide (xs = ys)))
  | _, _ => False
theorem ro_eqSs : RO K (EQS.rEqSs K) oEqSs := fun S H x y d e P Q _ hx hy h q => by
  unfold oEqSs at h
  split at h
  · obtain ⟨xs, ys, e1, e2, hp⟩ := h
    obtain ⟨a, vs, rfl, k1, k2⟩ := da_list hx
    obtain ⟨b, us, rfl, k3, k4⟩ := da_list hy
    have z1 := strs_da k2 e1
    have z2 := strs_da k4 e2
    subst z1
    subst z2
    exact ⟨a, b, xs, ys, rfl, rfl, sq k1, sq k3, q _ H _ hp (Same.refl _) (.bl _)⟩
  · exact h.elim
end DL

set_option Elab.async false
set_option linter.all false
set_option maxRecDepth 100000
set_option maxHeartbeats 4000000
/-! LBM: a def that calls itself and changes a list of its caller's. -/
namespace DL
open PySem PySem.Spec PyProof.Rows L2 GG DD PT
section
variable {P : Program} {w : World} {K : PySem.W.Frag} {mg : Str → Option Value} {base : Heap} {f : Addr} {fd : FuncData} {ps : List Str} {k : Nat}
theorem fg_noneM (m : Nat) : Fg P w K mg base k f fd ps (spMut K m fun _ _ _ _ => False) :=
  ⟨fun vs H Q h => by
    obtain ⟨_, _, _, _, _, _, _, _, _, _, _, _, _, _, _, _, _, _, _, hF, _⟩ := h
    exact hF.elim, fun A o s H a us vs Q r e b v h => by
    obtain ⟨_, _, _, _, _, _, _, _, _, _, _, _, _, _, _, _, _, _, _, hF, _⟩ := h
    exact hF.elim⟩
theorem fg_recM {m l : Nat} {F : Nat → FM} (h0 : F 0 = fun _ _ _ _ => False) (step : ∀ j, Fg P w K mg base (l + j) f fd ps (spMut K m (F j)) → Fg P w K mg base (l + j + 1) f fd ps (spMut K m (F (j + 1)))) : ∀ j, Fg P w K mg base (l + j) f fd ps (spMut K m (F j))
  | 0 => by
    rw [h0]
    exact fg_noneM m
  | j + 1 => step j (fg_recM h0 step j)
end
end DL

set_option Elab.async false
set_option linter.all false
set_option maxRecDepth 100000
set_option maxHeartbeats 4000000
/-! KX: exceptions of the program's own as values: made, read, asked for their class; over ValueError and over KeyError. -/
namespace KX
open PySem PySem.Spec L2 GG
open PySem.HandSPX (excO)

abbrev keTail : List Value := [.type "KeyError", .type "LookupError", .type "Exception", .type "BaseException", .type "object"]
abbrev veTail : List Value := [.type "ValueError", .type "Exception", .type "BaseException", .type "object"]

/-- what making and initialising lean on: the __new__ of nB, the __init__ of iB -/
structure Ways (nB newId iB initId : String) (tail : List Value) : Prop where
  nKind : builtinKind newId = some .builtinFn
  nSplit : splitId newId = some (nB, "__new__")
  nRow : Manifest.signature? newId = some ⟨.any, nB, nB, .cls, [⟨"args", .varPos, false⟩, ⟨"kwargs", .varKw, false⟩]⟩
  nStar : (nB != "*") = true
  ends : newId.endsWith ".__new__" = true
  owner : newId.dropRight 8 = nB
  entry : entryFor table newId = some Builtin.«BaseException.__new__»
  quiet : newId.startsWith "lifetime." = false
  canon : Manifest.canonical newId = Manifest.canonical "BaseException.__new__"
  iSlot : Slot iB "__init__" initId
  iEntry : entryFor table initId = some Builtin.«BaseException.__init__»
  iSplit : splitId initId = some (iB, "__init__")
  iKind : builtinKind initId = some .slot
  iRow : Manifest.signature? initId = some ⟨.positional, "*", iB, .self, [⟨"args", .varPos, false⟩]⟩
  iStar : (iB != "*") = true
  hasN : tail.contains (.type nB) = true
  hasI : tail.contains (.type iB) = true
  noA : tail.contains (.type "AttributeError") = false
  noN : tail.contains (.type "NameError") = false
  hasO : tail.contains (.type "object") = true
  passes : ∀ self, PySem.refuseLoop self "__setattr__" tail = pure ()
theorem ways_VE : Ways "ValueError" "ValueError.__new__" "ValueError" "ValueError.__init__" veTail :=
  let F := PySem.F.excBase_ValueError
  ⟨F.newKind, F.newSplit, F.newRow, F.noStar, F.ends, F.owner, F.entry, F.quiet, F.canon, F.init, F.initEntry, F.initSplit, F.initKind, F.initRow, F.noStar, F.hasB, F.hasB, F.noAttr, F.noName, by decide +kernel, PySem.F.store_ValueError.passes⟩
theorem ways_KE : Ways "LookupError" "LookupError.__new__" "KeyError" "KeyError.__init__" keTail :=
  let F := PySem.F.excBase_LookupError
  ⟨F.newKind, F.newSplit, F.newRow, F.noStar, F.ends, F.owner, F.entry, F.quiet, F.canon,
    .of (owner := "KeyError") (n := "__init__") (by rw [typeLookup_type, builtinLookup_eq_fast]; kernel_rfl) (by decide +kernel) (by decide +kernel) (by decide +kernel) (by first | exact .inl (by decide +kernel) | exact .inr (by decide +kernel)) (by rw [isSubtype_type]; kernel_rfl),
    entryFor_alias (id' := "BaseException.__init__") (by rw [fastTable_eq_tree]; kernel_rfl) (by first | rfl | decide +kernel) (by decide +kernel) (by rw [fastTable_eq_tree]; kernel_rfl),
    by kernel_rfl, by kernel_rfl, by kernel_rfl, by decide +kernel, by decide +kernel, by decide +kernel, by decide +kernel, by decide +kernel, by decide +kernel, fun self => by kernel_rfl⟩

/-- own classes, then the tail -/
inductive Own (tail : List Value) : List Value → Prop
  | base : Own tail tail
  | more {c : Addr} {r : List Value} : Own tail r → Own tail (.ref c :: r)
theorem Own.has {tail l : List Value} (h : Own tail l) (X : String) : l.contains (.type X) = tail.contains (.type X) := by
  induction h with
  | base => rfl
  | more _ ih => rw [List.contains_cons, ih]; rfl
theorem Own.pass {tail l : List Value} (h : Own tail l) (self : Value) (p : PySem.refuseLoop self "__setattr__" tail = pure ()) : PySem.refuseLoop self "__setattr__" l = pure () := by
  induction h with
  | base => exact p
  | more _ ih => rw [PySem.refuseLoop_ref]; exact ih

/-! ### C(..): type.__call__, the new exception, the own __init__ -/
section
variable {M : Model} {A : Around} {E : Value → Shared → Prop} {h : Heap} {g : Array GenState} {d : Drawn} {t : Nat} {os : OsState}
variable {nm q : Str} {C N : Addr} {bs bm tail : List Value} {hdct : Bool} {sn : List Str} {sub : List Value} {ab : Bool} {col : Option Bool} {dd : Option Addr} {k0 k1 k2 k3 k5 : Option Value} {nB newId iB initId : String}
theorem chk_new (W : Ways nB newId iB initId tail) (O : Own tail bm) {rest : List Value} {kw : List (Str × Value)} {Q : Unit → Shared → Prop} (hC : h.get? C = some (excClassObj nm q C N bs bm hdct sn sub ab col dd k0 k1 k2 k3 k5 newId)) (hq : Q () ⟨h, g, d, t, os⟩) :
    wpAny M A (checkBuiltinCall newId ⟨.ref C :: rest, kw⟩) Q E ⟨h, g, d, t, os⟩ := by
  have hin : (Value.ref C :: bm).contains (.type nB) = true := by rw [List.contains_cons, O.has, W.hasN, Bool.or_true]
  have hs := W.nStar
  simp only [checkBuiltinCall, W.nKind, W.nSplit, W.nRow]
  repeat (first | refine wpAny_loadPart_at hC ?_ | (refine wpAny_isSubtype_exc hC ?_; rw [hin]) | refine wpAny_staticBase_exc hC ?_ | refine wpAny_madeBy_exc hC ?_ | simp only [bne_self_eq_false, Bool.false_eq_true, if_false] | wp_step)
  exact hq
theorem chk_init (W : Ways nB newId iB initId tail) (O : Own tail bm) {e : Addr} {oe : Obj} {rest : List Value} {Q : Unit → Shared → Prop} (hC : h.get? C = some (excClassObj nm q C N bs bm hdct sn sub ab col dd k0 k1 k2 k3 k5 newId))
    (he : h.get? e = some oe) (hcls : oe.cls = .ref C) (hq : Q () ⟨h, g, d, t, os⟩) : wpAny M A (checkBuiltinCall initId ⟨.ref e :: rest, []⟩) Q E ⟨h, g, d, t, os⟩ := by
  have hin : (Value.ref C :: bm).contains (.type iB) = true := by rw [List.contains_cons, O.has, W.hasI, Bool.or_true]
  have hs := W.iStar
  simp only [checkBuiltinCall, W.iKind, W.iSplit, W.iRow]
  repeat (first | (with_reducible refine wpAny_loadPart_at he ?_; rw [hcls]) | with_reducible refine wpAny_loadPart_at hC ?_ | (with_reducible refine wpAny_isSubtype_exc hC ?_; rw [hin]) | wp_step)
  refine wpAny_onRaise ?_
  have hchk : ∀ (a b : String) (n : Nat), Bind.check ⟨.positional, "*", iB, .self, [⟨"args", .varPos, false⟩]⟩ a b n (List.map (fun x => x.fst) ({ pos := Value.ref e :: rest } : Args).kw) = pure () := fun a b n => check_star_args _ _ _ _ _ _
  rw [hchk]
  exact wpAny_pure hq
end
section
variable {prog : Program} {w : World} {A : Around} {E : Value → Shared → Prop} {R : Result → Shared → Prop} {h : Heap} {g : Array GenState} {d : Drawn} {t : Nat} {os : OsState}
variable {nm q : Str} {C N : Addr} {bs bm tail : List Value} {hdct : Bool} {sn : List Str} {sub : List Value} {ab : Bool} {col : Option Bool} {dd : Option Addr} {k0 k1 k2 k3 k5 : Option Value} {nB newId iB initId : String}
/-- the two objects of a new exception: its arguments, itself -/
abbrev laid (h : Heap) (C : Addr) (rest : List Value) : Heap := (h.push (PySem.W.kdv_tup rest)).push (excO C h.objs.size)
theorem run_new (W : Ways nB newId iB initId tail) (O : Own tail bm) {rest : List Value} {kw : List (Str × Value)} (hC : h.get? C = some (excClassObj nm q C N bs bm hdct sn sub ab col dd k0 k1 k2 k3 k5 newId))
    (hq : R (.ok (.ret (.ref (h.objs.size + 1)))) ⟨laid h C rest, g, d, t, os⟩) (hrest : rest.length ≤ sizeLine) : codeAny (model prog w) A (.builtin newId ⟨.ref C :: rest, kw⟩) R ⟨h, g, d, t, os⟩ := by
  have hends := W.ends
  have hB : (Value.ref C :: bm).contains (.type nB) = true := by rw [List.contains_cons, O.has, W.hasN, Bool.or_true]
  have hA : (Value.ref C :: bm).contains (.type "AttributeError") = false := by rw [List.contains_cons, O.has, W.noA]; rfl
  have hN : (Value.ref C :: bm).contains (.type "NameError") = false := by rw [List.contains_cons, O.has, W.noN]; rfl
  refine codeAny_builtinAt W.entry ?_
  unfold Builtin.«BaseException.__new__»
  refine wpAt_bind ?_
  show wpAt _ _ _ (stack >>= _) _ _ _
  refine wpAt_bind (wpAt_stack fun p below => wpAt_of_wpAny ?_)
  wp_walk
  refine wpAt_of_wpAny ?_
  rw [W.owner]
  repeat (first | with_reducible refine wpAny_madeHere_exc W.canon hC ?_ | with_reducible refine wpAny_loadPart_at hC ?_ | (with_reducible refine wpAny_isSubtype_exc hC ?_; first | rw [hB] | rw [hA] | rw [hN]) | wp_step)
  show R _ _
  rw [Heap.size_push]
  exact hq
/-- the class called: init is what the class gives for __init__ (a def of its own, or a built-in one) -/
theorem run_type (W : Ways nB newId iB initId tail) (O : Own tail bm) {rest : List Value} {kw : List (Str × Value)} {fI : Value} {Q : Fin → Shared → Prop} (hC : h.get? C = some (excClassObj nm q C N bs bm hdct sn sub ab col dd k0 k1 k2 k3 k5 newId))
    (hi : PySem.W.Looks (model prog w) h (typeLookup (.ref C) "__init__") (some fI)) (hb : ∀ self, PySem.W.Looks (model prog w) h (bindSpecial fI self) (fI, [self])) (hrest : rest.length ≤ sizeLine)
    (hq : codeAny (model prog w) A (.call fI ⟨.ref (h.objs.size + 1) :: rest, kw⟩)
      (fun r s' => match r with | .ok (.ret v) => v = .none ∧ Q (.done (.ret (.ref (h.objs.size + 1)))) s' | .ok _ => False | .error e => E e s') ⟨laid h C rest, g, d, t, os⟩) :
    wpAny (model prog w) A (Builtin.«type.__call__» ⟨.ref C :: rest, kw⟩) Q E ⟨h, g, d, t, os⟩ := by
  repeat (first | with_reducible refine wpAny_loadPart_at hC ?_ | with_reducible refine wpAny_madeBy_exc hC ?_ | wp_step)
  refine codeAny_call_builtin_code (Code.quiet_builtin _ W.quiet) (chk_new W O hC ?_)
  refine run_new W O hC ?_ hrest
  show wpAny _ _ _ _ _ _
  have kp : ∀ b o, h.get? b = some o → (laid h C rest).get? b = some o := fun b o e => Heap.get?_push_of_some _ (Heap.get?_push_of_some _ e)
  have hC₁ := kp _ _ hC
  have hget : (laid h C rest).get? (h.objs.size + 1) = some (excO C h.objs.size) := by heap_get
  have hcC : (Value.ref C :: bm).contains (.ref C) = true := by simp
  have i1 := hi.keeps kp
  have b1 := (hb (.ref (h.objs.size + 1))).keeps kp
  unfold isInstance
  repeat (first | with_reducible refine wpAny_loadPart_at hget ?_ | (with_reducible refine wpAny_isSubtype_exc hC₁ ?_; rw [hcC]) | wp_step)
  show wpAny _ _ (typeLookup (.ref C) _) _ _ _
  refine i1.at ?_
  refine wpAny_holding (wpAny_bind (b1.at ?_))
  refine wpAny_bind (wpAny_call (codeAny_mono hq fun r s' z => ?_))
  rcases r with e | (v | _ | _ | _) <;> first | exact z | exact z.elim | skip
  obtain ⟨rfl, z⟩ := z
  first
    | exact wpAny_pure (wpAny_pure z)
    | (wp_walk; exact z)
theorem run_call (W : Ways nB newId iB initId tail) (O : Own tail bm) {rest : List Value} {kw : List (Str × Value)} {fI : Value} (hC : h.get? C = some (excClassObj nm q C N bs bm hdct sn sub ab col dd k0 k1 k2 k3 k5 newId))
    (hi : PySem.W.Looks (model prog w) h (typeLookup (.ref C) "__init__") (some fI)) (hb : ∀ self, PySem.W.Looks (model prog w) h (bindSpecial fI self) (fI, [self])) (hrest : rest.length ≤ sizeLine)
    (hq : codeAny (model prog w) (A.under (.builtin "type.__call__" ⟨.ref C :: rest, kw⟩)) (.call fI ⟨.ref (h.objs.size + 1) :: rest, kw⟩) (PySem.W.InitBack (h.objs.size + 1) R) ⟨laid h C rest, g, d, t, os⟩) :
    codeAny (model prog w) A (.call (.ref C) ⟨rest, kw⟩) R ⟨h, g, d, t, os⟩ := by
  have f1 := tc_lookup
  have f2 := tc_bind (.ref C)
  have hTy : (⟨h, g, d, t, os⟩ : Shared).TypeIs (.ref C) "type" := ⟨_, hC, rfl⟩
  refine codeAny_of_tree ?_
  show wpAny _ _ (callAny (.ref C) _) _ _ _
  repeat (any_goals (first | assumption | with_reducible refine wpAny_loadPart_at hC ?_ | wp_step))
  refine ⟨rfl, ?_⟩
  refine codeAny_call_builtin_at (Code.quiet_builtin _ (by decide +kernel)) entry_typeCall (wpAny_check_type_call_sub hC (run_type W O hC hi hb hrest ?_))
  refine codeAny_mono hq fun r s' z => ?_
  rcases r with e | (v | _ | _ | _) <;> exact z
/-- the base's __init__ on a new exception: its arguments are laid anew -/
theorem run_init (W : Ways nB newId iB initId tail) (O : Own tail bm) {e t0 : Addr} {rest : List Value} (hC : h.get? C = some (excClassObj nm q C N bs bm hdct sn sub ab col dd k0 k1 k2 k3 k5 newId)) (he : h.get? e = some (excO C t0)) (hrest : rest.length ≤ sizeLine)
    (hq : ∀ h' t1, (∀ b o, b ≠ e → h.get? b = some o → h'.get? b = some o) → h'.get? e = some (excO C t1) → R (.ok (.ret .none)) ⟨h', g, d, t, os⟩) :
    codeAny (model prog w) A (.call (.builtin initId) ⟨.ref e :: rest, []⟩) R ⟨h, g, d, t, os⟩ := by
  refine codeAny_call_builtin W.iSlot.plain W.iEntry (chk_init W O hC he rfl ?_)
  wp_walk
  refine hq _ h.objs.size (fun b o hb ho => ?_) ?_
  · rw [Heap.get?_update_other _ _ (Ne.symm hb)]
    exact Heap.get?_push_of_some _ ho
  · rw [Heap.get?_update_self _ (Heap.get?_push_of_some _ he) rfl]
    rfl
end
end KX

set_option Elab.async false
set_option linter.all false
set_option maxRecDepth 100000
set_option maxHeartbeats 4000000
/-! KY: the rules over KX: C(), C(e), C(f = e) as values, C.__init__(self, e), self.f = e, e.f, isinstance(e, D). -/
namespace KX
open PySem PySem.Spec L2 GG Builtin Builtin.ObjectAttr
open PySem.HandSPX (excO)
/-- what the written part says of an own exception class -/
structure Xc (K : PySem.W.Frag) (newId : String) (tail : List Value) (C : Addr) : Prop where
  cls : ∃ nm q N bs bm sn sub ab col dd k0 k1 k2 k3 k5, K.lookup C = some (excClassObj nm q C N bs bm true sn sub ab col dd k0 k1 k2 k3 k5 newId) ∧ Own tail bm
  kC : PySem.W.keepIn K (.ref C) = true
  sa : PySem.W.findIn K (.ref C) "__setattr__" = some (some (.builtin "object.__setattr__"))
  ga : PySem.W.findIn K (.ref C) "__getattribute__" = some (some (.builtin "BaseException.__getattribute__"))
  gg : PySem.W.findIn K (.ref C) "__getattr__" = some none
  exC : PySem.W.subIn K (.ref C) (.type "BaseException") = some true
  dC : PySem.W.hasDictIn K C = true
  cC : PySem.W.findIn K (.ref C) "__class__" = some (some (.builtin "object.__class__"))
  mC : PySem.W.mroIn K C (.type "object") = some true
section
variable {prog : Program} {w : World} {A : Around} {E : Value → Shared → Prop} {R : Result → Shared → Prop} {hp : Heap} {g : Array GenState} {d : Drawn} {t : Nat} {os : OsState} {nB newId iB initId : String} {tail : List Value}
/-- object.__setattr__ on an own exception without a dict -/
theorem osa0 (W : Ways nB newId iB initId tail) {K : PySem.W.Frag} {name : Str} {tk : Tok} {v : Value} {x C : Addr} {fv : Array Value} {cd : ClassData} {bm : List Value}
    (X : K.In hp) (hx : hp.get? x = some { cls := .ref C, data := .fields fv }) (hcd : PySem.W.clsIn K C = some cd) (hm : cd.mro = .ref C :: bm) (O : Own tail bm) (hh : cd.hasDict = true) (ha : PySem.W.findIn K (.ref C) name = some none)
    (hq : ∀ h' tk' dx, (∀ b o, b ≠ x → hp.get? b = some o → h'.get? b = some o) → hp.objs.size ≤ dx → dx ≠ x → h'.get? x = some { cls := .ref C, dict := some dx, data := .fields fv } →
      h'.Ns1 dx (fun y => if y = name then some v else none) → R (.ok (.ret .none)) ⟨h', g, d, tk', os⟩) :
    codeAny (model prog w) A (.call (.builtin "object.__setattr__") ⟨[.ref x, .str name tk, v], []⟩) R ⟨hp, g, d, t, os⟩ := by
  have I : PySem.W.InstAt hp x { cls := .ref C, data := .fields fv } C none := ⟨hx, rfl, rfl, trivial⟩
  have SF := F.store_object
  have O' : Own tail cd.mro := by rw [hm]; exact .more O
  have hob : cd.mro.contains (.type "object") = true := (O'.has "object").trans W.hasO
  have hxs : x ≠ hp.objs.size := Nat.ne_of_lt (Heap.lt_size hx)
  have sub : PySem.W.Looks (model prog w) hp (isInstance (.ref x) (.type "object")) true := I.type.andThen (PySem.W.looks_mroIn X (by unfold PySem.W.mroIn; rw [hcd, Option.bind_some, if_neg (by rw [hm]; exact fun z => Bool.noConfusion z), hob]))
  refine codeAny_call_builtin SF.slot.plain SF.entry (@PySem.W.check_slot (model prog w) _ _ ⟨hp, g, d, t, os⟩ "object.__setattr__" "object" "__setattr__" (.ref x) [.str name tk, v] [] _ SF.kind SF.split sub (SF.args (.ref x) (.str name tk) v) ?_)
  have hmr : PySem.W.Looks (model prog w) hp (mroOf (.ref C)) cd.mro := (PySem.W.looks_clsIn X hcd).andThen .now
  have L3 : PySem.W.Looks (model prog w) hp (storeTaker? none) none := .now
  have hcls : PySem.W.Looks (model prog w) hp (classData C) cd := PySem.W.looks_clsIn X hcd
  rw [PySem.W.osa_eq, refuse_eq]
  refine wpAny_bind (wpAny_bind (I.type.at (wpAny_bind (hmr.at ?_))))
  rw [O'.pass _ (W.passes _)]
  refine wpAny_pure (wpAny_bind (I.type.at (wpAny_bind ((PySem.W.looks_findIn X ha).at (wpAny_bind (L3.at ?_))))))
  show wpAny _ _ (storeInOwnDict (.ref x) (.ref C) (.str name tk) name v false) _ _ _
  obtain ⟨nm, bs, mro, ns, qn, hd, sn, sb, ab, col, del⟩ := cd
  dsimp only at hh
  subst hh
  unfold storeInOwnDict ownDictForStores
  repeat (first | with_reducible refine PySem.HandSPX.store_in_new ?_ ?_ | with_reducible refine wpAny_loadPart_at hx ?_ | with_reducible refine hcls.at ?_ | wp_step)
  · exact ⟨_, #[], _, (Heap.get?_update_ne _ _ _ _ hxs.symm).trans (Heap.get?_push_at rfl rfl), rfl, fun e he => absurd he (by simp), fun _ => rfl⟩
  · intro h' tk' hn' hs
    have hx₁ : (hp.push { cls := .type "dict", data := .dict #[] }).get? x = some { cls := .ref C, data := .fields fv } := Heap.get?_push_of_some _ hx
    refine hq h' tk' hp.objs.size (fun b o hb ho => ?_) (Nat.le_refl _) hxs.symm ?_ hn'
    · exact (hs.2 b (Nat.ne_of_lt (Heap.lt_size ho))).trans ((Heap.get?_update_ne _ _ _ _ hb).trans (Heap.get?_push_of_some _ ho))
    · exact (hs.2 x hxs).trans (Heap.get?_update_self _ hx₁ rfl)
end
end KX
namespace KX
open PySem PySem.Spec PyProof.Rows L2 GG
open PySem.HandSPX (excO)
section
variable {X : Cx} {pins : List (Addr × Obj)} {σ : L2.St} {H : Hp} {s : Shared} {a C dx : Addr} {f : Str} {y : V} {u : Value} {fs : List (Str × V)} {nB newId iB initId : String} {tail : List Value}
/-- an exception gets its dict -/
theorem inv_dict {t1 : Addr} {h' : Heap} {tk' : Nat} (I : Inv X pins σ H s) (e : H a = some (exo a C none)) (k : ∀ b o, b ≠ a → s.heap.get? b = some o → h'.get? b = some o) (dn : s.heap.objs.size ≤ dx) (dne : dx ≠ a)
    (hx : h'.get? a = some { cls := .ref C, dict := some dx, data := .fields #[.ref t1, .none, .none, .none, .bool false, .none] }) {mA : Str → Option Value} (hn : h'.Ns1 dx mA) (r : ∀ g, RelO (fs.lookup g) (mA g)) :
    H dx = none ∧ Inv X pins σ (upd (upd H dx (exd dx fs)) a (exo a C (some dx))) { s with heap := h', toks := tk' } := by
  have hnd : H dx = none := I.hok.fresh dn
  have lt : ∀ {b : Addr} {o : Obj}, s.heap.get? b = some o → b ≠ dx := fun {b o} q => Nat.ne_of_lt (Nat.lt_of_lt_of_le (Heap.lt_size q) dn)
  have na : ∀ {b : Addr}, H b = none → b ≠ a := fun {b} n z => by
    rw [z, e] at n
    cases n
  have far : ∀ {b : Addr} {o : HO}, H b = some o → exo a C none ≠ o → upd (upd H dx (exd dx fs)) a (exo a C (some dx)) b = some o := fun {b o} q ne => by
    rw [upd_ne (at_ne e q ne), upd_ne (ne_of_none q hnd)]
    exact q
  refine ⟨hnd, I.un (t' := tk') {
    keep := fun b o q n _ _ => k b o (na n) q
    slot := fun b o q n _ _ => ⟨o.slots, k b o (na n) q⟩
    free := fun b o q n _ => by rw [upd_ne (na n), upd_ne (lt q)]; exact n
    there := fun b o q _ => by
      by_cases hb : b = a
      · rw [hb]
        exact ⟨_, hx⟩
      · exact ⟨o, k b o hb q⟩
    tups := fun b xs q => far q exo_tup
    frzs := fun b o v q => far q exo_frz
    tbls := fun b ps q => ⟨#[], by rw [far q exo_tbl]; simp⟩ } fun b o q => ?_⟩
  by_cases hb : b = a
  · subst hb
    rw [upd_same] at q
    cases q
    exact exo_ok hx
  · rw [upd_ne hb] at q
    by_cases hd : b = dx
    · subst hd
      rw [upd_same] at q
      cases q
      exact exd_ok hn r
    · rw [upd_ne hd] at q
      refine (I.hok b o q).stay (fun c v hc z => k c v ?_ z) (fun c hc => far hc exo_own) (fun c xs hc => far hc exo_tup)
      rcases hc with hc | hc
      · rw [hc]
        exact hb
      · exact at_ne e hc exo_own
/-- self.f = y on an exception without a dict -/
theorem put_new {A : Around} {Q : Unit → Shared → Prop} {E : Value → Shared → Prop} (W : Ways nB newId iB initId tail) (T : Xc X.K newId tail C) (I : Inv X pins σ H s) (e : H a = some (exo a C none)) (hno : PySem.W.findIn X.K (.ref C) f = some none) (ry : RelV y u)
    (h : ∀ dx s', H dx = none → dx ≠ a → Inv X pins σ (upd (upd H dx (exd dx [(f, y)])) a (exo a C (some dx))) s' → Q () s') : wpAny (model X.prog X.w) A (setAttr (.ref a) f u) Q E s := by
  obtain ⟨nm, q, N, bs, bm, sn, sub, ab, col, dd, k0, k1, k2, k3, k5, hC, hO⟩ := T.cls
  have hcl : PySem.W.clsIn X.K C = some { name := nm, bases := bs, mro := .ref C :: bm, ns := N, qualname := q, hasDict := true, slotNames := sn, subclasses := sub, abstract := ab, collection := col, hasDel := false } := by unfold PySem.W.clsIn; rw [hC] <;> rfl
  obtain ⟨t1, ho⟩ := exo_at I.hok e
  obtain ⟨hp, g, d, t, os⟩ := s
  refine PySem.W.set_plain I.kIn (ox := { cls := .ref C, dict := none, data := .fields #[.ref t1, .none, .none, .none, .bool false, .none] }) (od := none) ⟨ho, rfl, rfl, trivial⟩ T.sa ?_
  refine osa0 W I.kIn ho hcl rfl hO rfl hno (fun h' tk' dx k dn dne hx hn => ?_)
  obtain ⟨z, J⟩ := inv_dict (tk' := tk') (fs := [(f, y)]) I e k dn dne hx hn (relO_put (fs := []) ry fun g => True.intro)
  exact h dx _ z dne J
/-- the base's __init__ on a new exception -/
theorem init_go {us : List Value} {A : Around} {Q : Value → Shared → Prop} {E : Value → Shared → Prop} (W : Ways nB newId iB initId tail) (T : Xc X.K newId tail C) (I : Inv X pins σ H s) (e : H a = some (exo a C none)) (hl : us.length ≤ sizeLine) (h : ∀ s', Inv X pins σ H s' → Q .none s') :
    wpAny (model X.prog X.w) A (call (.builtin initId) (.ref a :: us)) Q E s := by
  obtain ⟨nm, q, N, bs, bm, sn, sub, ab, col, dd, k0, k1, k2, k3, k5, hC, hO⟩ := T.cls
  obtain ⟨t1, ho⟩ := exo_at I.hok e
  obtain ⟨hp, g, d, t, os⟩ := s
  refine wpAny_call (run_init W hO (I.kIn _ _ hC) ho hl fun h' t2 k hx => ?_)
  have J := I.write (t' := t) (x := a) (e := a) (o := exo a C none) (by rw [e]; exact True.intro) (.inl rfl) k ⟨_, hx⟩ (exo_ok hx)
  have same : upd H a (exo a C none) = H := by
    funext b
    by_cases hb : b = a
    · rw [hb, upd_same, e]
    · rw [upd_ne hb]
  rw [same] at J
  exact h _ J
end

/-! ### rules -/
/-- B.__init__(self, ..), B an own exception class or a built-in one -/
def tBI (K : PySem.W.Frag) (newId : String) (tail : List Value) (ta : TA) : TE := fun σ H Q => ta σ H fun vs H1 => ∃ (a C : Addr) (ws : List V), vs = .ref a :: ws ∧ ws.length ≤ 1000 ∧ Xc K newId tail C ∧ H1 a = some (exo a C none) ∧ Q .non H1
/-- self.f = e, the first field of a new exception -/
def tPut (K : PySem.W.Frag) (newId : String) (tail : List Value) (f : Str) (to te : TE) : TS := fun D σ H => te σ H fun y H1 => to σ H1 fun x H2 => ∃ a C : Addr, x = .ref a ∧ Xc K newId tail C ∧ PySem.W.findIn K (.ref C) f = some none ∧
  H2 a = some (exo a C none) ∧ ∀ dx, H2 dx = none → dx ≠ a → D.nx σ (upd (upd H2 dx (exd dx [(f, y)])) a (exo a C (some dx)))
section
variable {X : Cx} {o e : Expr} {es : List Expr} {to te : TE} {ta : TA} {f x : Str} {p p' p1 p2 pos : Pos} {nB newId iB initId : String} {tail : List Value}
theorem bi_tail {pins : List (Addr × Obj)} {σ : L2.St} {H : Hp} {s : Shared} {Q : VK} (W : Ways nB newId iB initId tail) (ha : PA X (e :: es) ta) (I : Inv X pins σ H s) (h : tBI X.K newId tail ta σ H Q)
    (he : starEach (e :: es) X.env = (false, eval e X.env) :: starEach es X.env) (hpl : (backTo pos (starEach es X.env)).any (·.1) = false) :
    wpAny (model X.prog X.w) X.A (callWith pos (Value.builtin initId) [] (backTo pos (starEach (e :: es) X.env)) []) (EP X pins σ Q) X.xe s := by
  refine PyProof.Rows.callWith_method1 (thn (ha.run pos pins _ σ H _ I h) fun us s1 ⟨vs, H1, I1, r1, a, C, ws, ev, hl, T, ea, q⟩ => ?_) he hpl
  subst ev
  cases r1 with
  | @cons _ u0 _ ur ra rw' =>
    obtain rfl : u0 = Value.ref a := ra
    have hlen : ur.length ≤ sizeLine := by
      rw [← Paired.length rw', sizeLine_eq]
      omega
    exact init_go W T I1 ea hlen fun s' J => ⟨.non, H1, J, rfl, q⟩
/-- B a class of the text -/
theorem pe_bi {C0 : Addr} {pl : Sem Bool} (W : Ways nB newId iB initId tail) (hg : Gl X x) (hm : X.mg x = some (.ref C0)) (sp : PySem.W.specialIn X.K (.ref C0) "__getattribute__" = some (some (.builtin "type.__getattribute__")))
    (rd : PySem.W.readsIn X.K C0 (.type "type") = true) (fc : PySem.W.findCls X.K (.ref C0) (.type "type") "__init__" = some (.val (.builtin initId))) (hdd : PySem.W.handedIn (.builtin initId) = true) (ha : PA X (e :: es) ta) (hdb : (x == ("__debug__" : Str)) = false := by decide)
    (hc : eval (.Call (.Attribute (.Name x p1) "__init__" p2) (e :: es) [] pos) X.env = (do
      let ov ← eval (.Name x p1) X.env
      standAt p2.atName
      let (f, first) ← holding [ov] (getMethod ov "__init__" pl)
      callWith pos f first (backTo pos (starEach (e :: es) X.env)) (backToKw pos (keywordEach [] X.env))) := by rfl)
    (he : starEach (e :: es) X.env = (false, eval e X.env) :: starEach es X.env := by rfl) (hpl : (backTo pos (starEach es X.env)).any (·.1) = false := by rfl) :
    PE X (.Call (.Attribute (.Name x p1) "__init__" p2) (e :: es) [] pos) (tBI X.K newId tail ta) := by
  refine ⟨fun pins s σ H Q I h => ?_⟩
  refine PySem.W.methodCall_KW (ld_glob I hg hm ?_ hdb) hc
  refine PySem.W.method_cls I.kIn sp (PySem.W.cls_value I.kIn rd fc hdd ?_)
  exact bi_tail W ha (I.tok _) h he hpl
/-- B a built-in class -/
theorem pe_biT {T : String} {pl : Sem Bool} (W : Ways nB newId iB initId tail) (hg : Gl X x) (hm : X.mg x = none) (hv : bootBuiltins x = some (.type T)) (ty : typeOf (.type T) = pure (.type "type")) (st : Manifest.isStub T = false)
    (fc : PySem.W.findCls X.K (.type T) (.type "type") "__init__" = some (.val (.builtin initId))) (hdd : PySem.W.handedIn (.builtin initId) = true) (ha : PA X (e :: es) ta) (hn : x ≠ "__name__" := by decide) (hdb : (x == ("__debug__" : Str)) = false := by decide)
    (hc : eval (.Call (.Attribute (.Name x p1) "__init__" p2) (e :: es) [] pos) X.env = (do
      let ov ← eval (.Name x p1) X.env
      standAt p2.atName
      let (f, first) ← holding [ov] (getMethod ov "__init__" pl)
      callWith pos f first (backTo pos (starEach (e :: es) X.env)) (backToKw pos (keywordEach [] X.env))) := by rfl)
    (he : starEach (e :: es) X.env = (false, eval e X.env) :: starEach es X.env := by rfl) (hpl : (backTo pos (starEach es X.env)).any (·.1) = false := by rfl) :
    PE X (.Call (.Attribute (.Name x p1) "__init__" p2) (e :: es) [] pos) (tBI X.K newId tail ta) := by
  refine ⟨fun pins s σ H Q I h => ?_⟩
  refine PySem.W.methodCall_KW (ld_blt I hg hm hv ?_ hn hdb) hc
  obtain ⟨m, fr⟩ := I.fr
  refine PySem.W.method_type fr I.ok.mod.kin ty st fc hdd ?_
  exact bi_tail W ha (I.tok _) h he hpl
theorem ps_put (W : Ways nB newId iB initId tail) (ho : PE X o to) (he : PE X e te) (hs : swapsWith e (some (.Attribute o f p')) pos.line X.env = pure false := by rfl) : PS X (.Assign [.Attribute o f p'] e pos) (tPut X.K newId tail f to te) := by
  refine ⟨fun pins s σ H D I h => ?_⟩
  refine plainObj_wpAny_Assign_Attribute (thn (he.run pins s σ H _ I h) fun v s1 ⟨y, H1, I1, r1, q1⟩ => thn (ho.run pins s1 σ H1 _ I1 q1) fun u s2 ⟨x, H2, I2, r2, a, C, ex, T, hno, ea, q⟩ => ?_) hs
  subst ex
  obtain rfl : u = Value.ref a := r2
  exact put_new W T I2 ea hno r1 fun dx s' n ne J => ⟨σ, _, J, q dx n ne⟩
end
end KX

set_option Elab.async false
set_option linter.all false
set_option maxRecDepth 100000
set_option maxHeartbeats 4000000
/-! KZ: own exceptions as values: C(), C(e), C(f = e); e.f; isinstance(e, D). -/
namespace KX
open PySem PySem.Spec PyProof.Rows L2 GG
open PySem.HandSPX (excO)
theorem upd_shadow {H : Hp} {a d : Addr} {o u z : HO} (h : d ≠ a) : upd (upd (upd H a o) d z) a u = upd (upd H d z) a u := by
  funext b
  unfold upd
  by_cases e : b = a
  · rw [if_pos e, if_pos e]
  · rw [if_neg e, if_neg e, if_neg e]
/-- a new exception, without a dict -/
def tMk0 (C : Addr) : TE := fun _ H Q => ∀ a, H a = none → Q (.ref a) (upd H a (exo a C none))
/-- a new exception whose own __init__ keeps a field -/
def tMk1 (C : Addr) (f : Str) (ta : TA) : TE := fun σ H Q => ta σ H fun vs H1 => ∃ v, vs = [v] ∧ ∀ a d, H1 a = none → H1 d = none → d ≠ a → Q (.ref a) (upd (upd H1 d (exd d [(f, v)])) a (exo a C (some d)))
/-- the promise of such an __init__ -/
def spI (K : PySem.W.Frag) (newId : String) (tail : List Value) (f : Str) : Sp := fun vs H Q _ => ∃ (a C : Addr) (v : V), vs = [.ref a, v] ∧ Xc K newId tail C ∧ PySem.W.findIn K (.ref C) f = some none ∧ H a = some (exo a C none) ∧
  ∀ d, H d = none → d ≠ a → Q .non (upd (upd H d (exd d [(f, v)])) a (exo a C (some d)))
section
variable {X : Cx} {C fI : Addr} {k : Nat} {fd : FuncData} {f x n : Str} {p pos : Pos} {e : Expr} {es : List Expr} {kws : List Keyword} {ta te : TA} {tx : TE} {nB newId iB initId : String} {tail : List Value}
theorem pe_mk0 (W : Ways nB newId iB initId tail) (T : Xc X.K newId tail C) (iC : PySem.W.findIn X.K (.ref C) "__init__" = some (some (.builtin initId))) (hg : Gl X x) (hm : X.mg x = some (.ref C)) (hdb : (x == ("__debug__" : Str)) = false := by decide) :
    PE X (.Call (.Name x p) [] [] pos) (tMk0 C) := by
  refine ⟨fun pins s σ H Q I h => ?_⟩
  refine wpAny_Call_Name_kw (ld_glob I hg hm ?_ hdb)
  refine PySem.W.callWith_K0 I.kIn T.kC ?_
  obtain ⟨nm, q, N, bs, bm, sn, sub, ab, col, dd, k0, k1, k2, k3, k5, hC, hO⟩ := T.cls
  obtain ⟨hp, g, d, t, os⟩ := s
  have hC' := I.kIn _ _ hC
  have hsz : hp.objs.size ≤ hp.objs.size + 1 := Nat.le_succ _
  have kk : ∀ b o, hp.get? b = some o → (laid hp C []).get? b = some o := fun b o e => Heap.get?_push_of_some _ (Heap.get?_push_of_some _ e)
  have hget : (laid hp C []).get? (hp.objs.size + 1) = some (excO C hp.objs.size) := by heap_get
  refine wpAny_call (run_call (kw := []) W hO hC' (PySem.W.looks_findIn I.kIn iC) (fun self => PySem.W.Looks.of_pure (W.iSlot.bind self)) (Nat.zero_le _) ?_)
  refine run_init W hO (kk _ _ hC') hget (Nat.zero_le _) fun h' t1 k hx => ?_
  refine ⟨rfl, .ref (hp.objs.size + 1), _, I.laid (t' := t) (a := hp.objs.size + 1) (o := exo (hp.objs.size + 1) C none) (h' := h') (fun b o z => ?_) hsz (exo_ok hx), rfl, h _ (I.hok.fresh hsz)⟩
  exact k b o (Nat.ne_of_lt (Nat.lt_succ_of_lt (Heap.lt_size z))) (kk b o z)

/-- the class called with values and keywords, its __init__ a def of the text -/
theorem run_mk {pins : List (Addr × Obj)} {σ : L2.St} {H : Hp} {s : Shared} {Q : VK} {us : List Value} {kw : List (Str × Value)} {v : V} {u : Value} {ps : List Str} (W : Ways nB newId iB initId tail) (T : Xc X.K newId tail C)
    (iC : PySem.W.findIn X.K (.ref C) "__init__" = some (some (.ref fI))) (tI : PySem.W.typeIn X.K (.ref fI) = some (.type "function")) (nF : PySem.W.findIn X.K (.ref C) f = some none)
    (F : FnOk X.prog X.w X.K X.mg X.base CX0 k fI fd ps (spI X.K newId tail f)) (hr : Room (k + 1) X.A) (hu : us.length ≤ 10)
    (hb : ∀ (s : Shared) (a : Value), BindsTo s fd ⟨a :: us, kw⟩ (ps.zip [a, u])) (I : Inv X pins σ H s) (r : RelV v u) (h : ∀ a d, H a = none → H d = none → d ≠ a → Q (.ref a) (upd (upd H d (exd d [(f, v)])) a (exo a C (some d)))) :
    wpAny (model X.prog X.w) X.A (call (.ref C) us kw) (EP X pins σ Q) X.xe s := by
  obtain ⟨nm, q, N, bs, bm, sn, sub, ab, col, dd, k0, k1, k2, k3, k5, hC, hO⟩ := T.cls
  obtain ⟨hp, g, d, t, os⟩ := s
  have hC' := I.kIn _ _ hC
  have hsz : hp.objs.size ≤ hp.objs.size + 1 := Nat.le_succ _
  have hn : H (hp.objs.size + 1) = none := I.hok.fresh hsz
  have kk : ∀ b o, hp.get? b = some o → (laid hp C us).get? b = some o := fun b o e => Heap.get?_push_of_some _ (Heap.get?_push_of_some _ e)
  have hget : (laid hp C us).get? (hp.objs.size + 1) = some (excO C hp.objs.size) := by heap_get
  have I2 : Inv X pins σ (upd H (hp.objs.size + 1) (exo (hp.objs.size + 1) C none)) ⟨laid hp C us, g, d, t, os⟩ := I.laid (t' := t) (a := hp.objs.size + 1) (o := exo (hp.objs.size + 1) C none) (h' := laid hp C us) kk hsz (exo_ok hget)
  have r2 : Vals [V.ref (hp.objs.size + 1), v] [Value.ref (hp.objs.size + 1), u] := .cons rfl (.cons r .nil)
  have hsp : spI X.K newId tail f [V.ref (hp.objs.size + 1), v] (upd H (hp.objs.size + 1) (exo (hp.objs.size + 1) C none)) (fun z H2 => z = .non ∧ Q (.ref (hp.objs.size + 1)) H2) E0 := by
    refine ⟨_, C, v, rfl, T, nF, upd_same, fun d' hd hne => ⟨rfl, ?_⟩⟩
    rw [upd_shadow hne]
    rw [upd_ne hne] at hd
    exact h _ d' hn hd hne
  refine wpAny_call (run_call (kw := kw) W hO hC' (PySem.W.looks_findIn I.kIn iC) (fun self => PySem.W.bind_fn I.kIn self tI) (Nat.le_trans hu (by decide)) ?_)
  refine codeAny_mono (F.run _ X.stack _ _ ⟨Value.ref (hp.objs.size + 1) :: us, kw⟩ [Value.ref (hp.objs.size + 1), u] _ _ E0 (hr.make C us kw) (I2.env0.make C us kw) (hb _ _) r2 hsp) fun r s' hq => ?_
  cases r with
  | error er => exact False.elim hq
  | ok fl =>
    cases fl with
    | ret z =>
      obtain ⟨v', H', I3, rv, ev, q3⟩ := I2.after hq
      subst ev
      exact ⟨rv, ⟨V.ref (hp.objs.size + 1), H', I3, rfl, q3⟩⟩
    | next => exact False.elim hq
    | brk => exact False.elim hq
    | cont => exact False.elim hq
/-- C(e) -/
theorem pe_mk1 (W : Ways nB newId iB initId tail) (T : Xc X.K newId tail C) (iC : PySem.W.findIn X.K (.ref C) "__init__" = some (some (.ref fI))) (tI : PySem.W.typeIn X.K (.ref fI) = some (.type "function")) (nF : PySem.W.findIn X.K (.ref C) f = some none)
    (F : FnOk X.prog X.w X.K X.mg X.base CX0 k fI fd ["self", n] (spI X.K newId tail f)) (hr : Room (k + 1) X.A) (hb : ∀ (s : Shared) (a u : Value), BindsTo s fd ⟨[a, u], []⟩ [("self", a), (n, u)]) (hg : Gl X x) (hm : X.mg x = some (.ref C)) (ha : PA X [e] ta)
    (hdb : (x == ("__debug__" : Str)) = false := by decide) (he : starEach [e] X.env = (false, eval e X.env) :: starEach [] X.env := by rfl) (hpl : (backTo pos (starEach [] X.env)).any (·.1) = false := by rfl) :
    PE X (.Call (.Name x p) [e] [] pos) (tMk1 C f ta) := by
  refine ⟨fun pins s σ H Q I h => ?_⟩
  refine wpAny_Call_Name_kw (ld_glob I hg hm ?_ hdb)
  refine PySem.W.callWith_K (h₀ := X.base) I.ok.mod.kin T.kC (thn (ha.run pos pins s σ H _ I h) fun us s1 ⟨vs, H1, I1, r, v, ev, q⟩ => ⟨I1.kIn, ?_⟩) he hpl
  subst ev
  obtain ⟨u, rfl, ru⟩ := vals1 r
  exact run_mk W T iC tI nF F hr (show 1 ≤ 10 by decide) (fun s a => hb s a u) I1 ru q
/-- C(n = e) -/
theorem pe_mk1k {np : Pos} (W : Ways nB newId iB initId tail) (T : Xc X.K newId tail C) (iC : PySem.W.findIn X.K (.ref C) "__init__" = some (some (.ref fI))) (tI : PySem.W.typeIn X.K (.ref fI) = some (.type "function")) (nF : PySem.W.findIn X.K (.ref C) f = some none)
    (F : FnOk X.prog X.w X.K X.mg X.base CX0 k fI fd ["self", n] (spI X.K newId tail f)) (hr : Room (k + 1) X.A) (hb : ∀ (s : Shared) (a u : Value), BindsTo s fd ⟨[a], [(n, u)]⟩ [("self", a), (n, u)]) (hg : Gl X x) (hm : X.mg x = some (.ref C)) (he1 : PE X e tx)
    (hdb : (x == ("__debug__" : Str)) = false := by decide) :
    PE X (.Call (.Name x p) [] [⟨some n, e, np⟩] pos) (tMk1 C f (tCons tx tNil)) := by
  refine ⟨fun pins s σ H Q I h => ?_⟩
  refine wpAny_Call_Name_kw (ld_glob I hg hm ?_ hdb)
  refine PySem.W.callWith_KW0 (h₀ := X.base) I.ok.mod.kin T.kC (by rfl) (thn ((pk_cons he1 pk_nil).run pos pins s σ H _ I h) fun us s1 ⟨vs, H1, I1, r, v, ev, q⟩ => ⟨I1.kIn, ?_⟩) (by rfl)
  subst ev
  obtain ⟨u, rfl, ru⟩ := vals1 r
  show wpAny _ _ (call (.ref C) [] [(n, u)]) _ _ _
  exact run_mk (us := []) (kw := [(n, u)]) W T iC tI nF F hr (Nat.zero_le _) (fun s a => hb s a u) I1 ru q

/-! ### e.f, isinstance(e, D) -/
def tXat (K : PySem.W.Frag) (f : Str) (te : TE) : TE := fun σ H Q => te σ H fun x H1 => ∃ (a C d : Addr) (newId : String) (tail : List Value) (fs : List (Str × V)) (v : V), x = .ref a ∧ Xc K newId tail C ∧ PySem.W.findIn K (.ref C) f = some none ∧
  H1 a = some (exo a C (some d)) ∧ H1 d = some (exd d fs) ∧ fs.lookup f = some v ∧ Q v H1
theorem pe_xat {te : TE} (he : PE X e te) (hb : attributeBase e n X.env (eval e X.env) = eval e X.env := by rfl) : PE X (.Attribute e n pos) (tXat X.K n te) := by
  refine ⟨fun pins s σ H Q I h => ?_⟩
  refine attr_of hb (thn (he.run pins s σ H _ I h) fun u s1 hh => ?_)
  obtain ⟨x, H1, I1, rx, a, C, d, newId, tail, fs, v, ex, T, hno, ea, ed, l, q⟩ := hh
  subst ex
  obtain rfl : u = Value.ref a := rx
  obtain ⟨t1, ha⟩ := exo_at I1.hok ea
  obtain ⟨mA, hns, hr⟩ := exd_at I1.hok ed
  obtain ⟨od, ho, hl⟩ := lookIn_ns hns
  obtain ⟨w, hw, rw'⟩ := RelO.some_of (v := v) (o := mA n) (by rw [← l]; exact hr n)
  have J : PySem.W.InstAt s1.heap a _ C (some od) := ⟨ha, rfl, by unfold PySem.W.notCls; rfl, ho⟩
  exact HandSPX.exc_get I1.kIn J T.ga T.gg T.exC (PySem.W.findObj_own T.dC hno rfl (by rw [hl, hw])) (handed_of rw') ⟨v, H1, I1.tok _, rw', q⟩
/-- the class of the exception at a -/
def IsX (K : PySem.W.Frag) (H : Hp) (a C : Addr) : Prop := (∃ newId tail, Xc K newId tail C) ∧ (H a = some (exo a C none) ∨ ∃ d fs, H a = some (exo a C (some d)) ∧ H d = some (exd d fs))
structure ClsRead (K : PySem.W.Frag) : Prop where
  gs : PySem.W.specialIn K (.builtin "object.__class__") "__get__" = some (some (.builtin "getset_descriptor.__get__"))
  tk : PySem.W.takesIn K (.builtin "object.__class__") = some true
def rIsX (K : PySem.W.Frag) : List V → Hp → VK → Prop := fun xs H Q => ∃ (a C : Addr) (c : V) (cv : Value) (b : Bool), xs = [.ref a, c] ∧ (∀ u, RelV c u → u = cv) ∧ IsX K H a C ∧ PySem.W.kitOne K (.ref C) cv = some b ∧ Q (.bl b) H
theorem call_isX (G : ClsRead X.K) : CallR X (.builtin "isinstance") (rIsX X.K) := by
  intro pins s σ H xs us Q I r h
  obtain ⟨a, C, c, cv, b, rfl, hcv, ⟨⟨newId, tail, T⟩, ho⟩, e, q⟩ := h
  cases r with
  | cons rx rr =>
    cases rr with
    | cons rt rr =>
      cases rr
      cases rx
      have ec := hcv _ rt
      subst ec
      have hcl : (PySem.W.clsIn X.K C).isSome = true := by
        obtain ⟨nm, q, N, bs, bm, sn, sub, ab, col, dd, k0, k1, k2, k3, k5, hC, _⟩ := T.cls
        unfold PySem.W.clsIn
        rw [hC] <;> rfl
      have J : ∃ ox od, PySem.W.InstAt s.heap a ox C od := by
        rcases ho with ho | ⟨d, fs, ho, hd⟩
        · obtain ⟨t1, ha⟩ := exo_at I.hok ho
          exact ⟨_, none, ha, rfl, rfl, trivial⟩
        · obtain ⟨t1, ha⟩ := exo_at I.hok ho
          obtain ⟨mA, hns, _⟩ := exd_at I.hok hd
          obtain ⟨od, ho', _⟩ := lookIn_ns hns
          exact ⟨_, some od, ha, rfl, rfl, ho'⟩
      obtain ⟨ox, od, J⟩ := J
      exact PySem.W.kia_one (PySem.W.kitx_exc hcl T.ga T.gg T.exC T.cC G.gs G.tk T.mC) I.kIn J e (fun z => nomatch z) fun tk => ⟨.bl b, H, I.kept (t' := tk) fun _ _ z => z, rfl, q⟩
end
end KX

set_option Elab.async false
set_option linter.all false
set_option maxRecDepth 100000
set_option maxHeartbeats 4000000
/-! CK: what the head tells of the error classes, as one truth that the kernel works out. -/
namespace KX
open PySem PySem.Spec L2 GG
def ownB (tail : List Value) : List Value → Bool
  | .ref c :: r => ownB tail r
  | l => l == tail
theorem own_of {tail : List Value} : ∀ {l : List Value}, ownB tail l = true → Own tail l
  | [], h => by
    have e : ([] : List Value) = tail := beq_iff_eq.mp h
    rw [← e]
    exact .base
  | v :: r, h => by
    cases v with
    | ref c => exact .more (own_of h)
    | _ =>
      have e := beq_iff_eq.mp h
      rw [e]
      exact .base
def clsOk (K : PySem.W.Frag) (newId : String) (tail : List Value) (C : Addr) : Bool := match K.lookup C with
  | some ⟨cl, _, .cls cd, sl⟩ => (match cd.mro, sl.toList with
    | .ref C' :: bm, [_, _, _, _, some (.builtin n), _] => cl == .type "type" && C' == C && n == newId && !cd.hasDel && cd.hasDict && ownB tail bm
    | _, _ => false)
  | _ => false
theorem clsOk_of {K : PySem.W.Frag} {newId : String} {tail : List Value} {C : Addr} (q : clsOk K newId tail C = true) : ∃ nm q N bs bm sn sub ab col dd k0 k1 k2 k3 k5, K.lookup C = some (excClassObj nm q C N bs bm true sn sub ab col dd k0 k1 k2 k3 k5 newId) ∧ Own tail bm := by
  unfold clsOk at q
  split at q
  · rename_i cl dd cd sl ho
    split at q
    · rename_i C' bm k0 k1 k2 k3 n k5 hm hs
      simp only [Bool.and_eq_true, beq_iff_eq, Bool.not_eq_true'] at q
      obtain ⟨⟨⟨⟨⟨rfl, rfl⟩, rfl⟩, hdel⟩, hdd⟩, ht⟩ := q
      obtain ⟨nm, bs, mro, ns, qn, hd, sn, sub, ab, col, del⟩ := cd
      dsimp only at hm hdel hdd
      subst hm hdel hdd
      have hsl : sl = #[k0, k1, k2, k3, some (.builtin n), k5] := by
        obtain ⟨l⟩ := sl
        simp only at hs
        rw [hs]
      subst hsl
      exact ⟨nm, qn, ns, bs, bm, sn, sub, ab, col, dd, k0, k1, k2, k3, k5, ho, own_of ht⟩
    · cases q
  · cases q
def xcOk (K : PySem.W.Frag) (newId : String) (tail : List Value) (C : Addr) : Bool := clsOk K newId tail C && (PySem.W.keepIn K (.ref C) && (PySem.W.findIn K (.ref C) "__setattr__" == some (some (.builtin "object.__setattr__")) && (PySem.W.findIn K (.ref C) "__getattribute__" == some (some (.builtin "BaseException.__getattribute__")) && (PySem.W.findIn K (.ref C) "__getattr__" == some none &&
  (PySem.W.subIn K (.ref C) (.type "BaseException") == some true && (PySem.W.hasDictIn K C && (PySem.W.findIn K (.ref C) "__class__" == some (some (.builtin "object.__class__")) && PySem.W.mroIn K C (.type "object") == some true)))))))
theorem xc_of {K : PySem.W.Frag} {newId : String} {tail : List Value} {C : Addr} (q : xcOk K newId tail C = true) : Xc K newId tail C := by
  unfold xcOk at q
  simp only [Bool.and_eq_true, beq_iff_eq] at q
  obtain ⟨h0, h1, h2, h3, h4, h5, h6, h7, h8⟩ := q
  exact ⟨clsOk_of h0, h1, h2, h3, h4, h5, h6, h7, h8⟩
end KX

set_option Elab.async false
set_option linter.all false
set_option maxRecDepth 100000
set_option maxHeartbeats 4000000
/-! EXI: an own __init__ of the text's exception classes keeps its promise. -/
namespace EXI
open PySem PySem.Spec PyProof.Rows L2 GG KX
section
variable {P : Program} {w : World} {K : PySem.W.Frag} {mg : Str → Option Value} {base : Heap}
theorem init_VE {nB newId iB initId : String} {tail : List Value} {fI C0 : Addr} {fd : FuncData} {st : Stmt} {qual f : Str} {p1 p2 p3 p4 p5 p6 p7 p8 p9 p10 : Pos} (W : Ways nB newId iB initId tail) (F : L2.Fun K "__init__" qual st fI fd) (S : FnScope ["self", f] ["self", f] (defScope st))
    (hb : defBody st = [.Expr (.Call (.Attribute (.Name "RoundCallsError" p1) "__init__" p2) [.Name "self" p3, .Name f p4] [] p5) p6, .Assign [.Attribute (.Name "self" p7) f p8] (.Name f p9) p10])
    (hx : (defScope st).names.lookup ("RoundCallsError" : Str) = some .globalImplicit) (hs : (defScope st).names.lookup ("self" : Str) = some .local) (hf : (defScope st).names.lookup f = some .local) (hd : (f == ("__debug__" : Str)) = false) (hcd : (f == ("__classdict__" : Str)) = false)
    (how : (mg "RoundCallsError" = some (.ref C0) ∧ PySem.W.specialIn K (.ref C0) "__getattribute__" = some (some (.builtin "type.__getattribute__")) ∧ PySem.W.readsIn K C0 (.type "type") = true ∧ PySem.W.findCls K (.ref C0) (.type "type") "__init__" = some (.val (.builtin initId))))
    (hc : ∀ env : Env, ∃ pl : Sem Bool, eval (.Call (.Attribute (.Name "RoundCallsError" p1) "__init__" p2) [.Name "self" p3, .Name f p4] [] p5) env = (do
      let ov ← eval (.Name "RoundCallsError" p1) env
      standAt p2.atName
      let (g, first) ← holding [ov] (getMethod ov "__init__" pl)
      callWith p5 g first (backTo p5 (starEach [.Name "self" p3, .Name f p4] env)) (backToKw p5 (keywordEach [] env))))
    (hdd : PySem.W.handedIn (.builtin initId) = true) : FnOk P w K mg base CX0 1 fI fd ["self", f] (spI K newId tail f) := by
  refine F.ok S (fun vs H Q E h => ?_) (fun cdv A outer s H vs Q E hr h => ?_)
  · obtain ⟨a, C, v, rfl, _⟩ := h
    rfl
  · obtain ⟨a, C, v, rfl, T, hno, ha, q⟩ := h
    have q2 : ∀ (sg : L2.St), sg = [some (.ref a), some v] → tPut K newId tail f (tVar 0) (tVar 1) { nx := fun _ H' => Q .non H', rt := Q } sg H := fun sg e => by
      subst e
      exact ⟨v, rfl, .ref a, rfl, a, C, rfl, T, hno, ha, fun dx n ne => q dx n ne⟩
    rw [hb]
    obtain ⟨pl, hc⟩ := hc (cxOf CX0 P w K mg base ["self", f] qual (defScope st) fI cdv A outer s H E).nox.env
    obtain ⟨hm, h1, h2, h3⟩ := how
    refine ⟨_, pss_cons (ps_expr (pe_bi (pl := pl) (hc := hc) W hx hm h1 h2 h3 hdd (pa_cons (pv 0 rfl (.inl hs)) (pa_cons (pv 1 rfl (.inl hf) hd hcd) pa_nil)))) (pss_one (ps_put W (pv 0 rfl (.inl hs)) (pv 1 rfl (.inl hf) hd hcd))), ?_⟩
    exact ⟨.ref a, rfl, v, rfl, a, C, [v], rfl, (by show 1 ≤ 1000; decide), T, ha, q2 _ rfl⟩
end
end EXI

set_option Elab.async false
set_option linter.all false
set_option maxRecDepth 100000
set_option maxHeartbeats 4000000
/-! EXG: promises of defs that may raise; own exceptions raised, caught, read. -/
namespace GG
open PySem PySem.Spec PyProof.Rows L2
/-- a def keeps a promise wherever no repr runs around; it may raise -/
structure Fgx (P : Program) (w : World) (K : PySem.W.Frag) (mg : Str → Option Value) (base : Heap) (k : Nat) (f : Addr) (fd : FuncData) (ps : List Str) (sp : Sp) : Prop where
  size : ∀ vs H Q E, sp vs H Q E → vs.length = ps.length
  go : ∀ (A : Around) (outer : List Env) (s : Shared) (H : Hp) (args : Args) (us : List Value) (vs : List V) (Q : VK) (E : XK), Rm k A → Env0 P w K mg base A outer s H → BindsTo s fd args (ps.zip us) → Vals vs us → sp vs H Q E →
    codeAny (model P w) A (.call (.ref f) args) (CR (L2.CX P w) outer P w H s Q E) s
section
variable {P : Program} {w : World} {K : PySem.W.Frag} {mg : Str → Option Value} {base : Heap} {j k : Nat} {f : Addr} {fd : FuncData} {ps : List Str} {sp : Sp}
theorem Fgx.mono (F : Fgx P w K mg base j f fd ps sp) (h : j ≤ k) : Fgx P w K mg base k f fd ps sp := ⟨F.size, fun A o s H a us vs Q E r => F.go A o s H a us vs Q E (r.mono h)⟩
theorem okgx {x qual : Str} {st : Stmt} {N : List Str} (F : L2.Fun K x qual st f fd) (S : FnScope N ps (defScope st)) (size : ∀ vs H Q E, sp vs H Q E → vs.length = ps.length)
    (body : ∀ (cdv : Value) (A : Around) (outer : List Env) (s : Shared) (H : Hp) (vs : List V) (Q : VK) (E : XK), Rm k (A.deeper (envOfC qual (defScope st) s.heap.objs.size f cdv)) → sp vs H Q E →
      ∃ t, PSs (cxOf (L2.CX P w) P w K mg base N qual (defScope st) f cdv A outer s H E) (defBody st) t ∧ t { nx := fun _ H' => Q .non H', rt := Q } (start N vs) H) :
    Fgx P w K mg base (k + 1) f fd ps sp := by
  obtain ⟨oc, od, kV, doc, pm, an, cdv, ct, osl, rfl, lk, hcd⟩ := F.ex
  refine ⟨size, fun A outer s H args us vs Q E hr e0 hb r hsp => ?_⟩
  have hl := size _ _ _ _ hsp
  have keep : ∀ b o, base.get? b = some o → s.heap.get? b = some o := fun b o e => (e0.bs b o e).1
  have KX : K.In s.heap := e0.mod.kin.keeps keep
  have lim : s.heap.NoLimit := e0.mod.nolimit.keeps keep
  have hkind : ∀ y ∈ ps.zip us, (defScope st).names.lookup y.1 = some .local ∨ ((defScope st).names.lookup y.1 = some .cell ∧ ((cellsFrom (s.heap.objs.size + 1) (defScope st).names []).lookup y.1).isSome = true) := by
    rintro ⟨n, v⟩ hy
    rcases S.par n (List.of_mem_zip hy).1 with q | q
    · exact .inl q
    · exact .inr ⟨q, PySem.W.cellsFrom_some _ _ _ (.inl q)⟩
  refine codeAny_call_function hr.room.depth (KX _ _ lk) rfl S.co S.gen rfl (PySem.W.codeRec_of KX hcd) (hb _ _ _ _ ?_)
  refine wpAny_newFunctionEnv_cells S.kind hkind fun env he s1 x => ?_
  subst he
  refine ⟨lim.keeps x.toInCall.keep, codeAny_func ?_⟩
  obtain ⟨t, ht, hq⟩ := body cdv A outer s H vs Q E (hr.deep _) hsp
  have I := inv_start (CX := L2.CX P w) (E := E) S hr.room.hd e0 hl r x
  refine wpAny_mono (ht.run [] s1 (start N vs) H _ I hq) (fun fl s' hs => ?_) fun e s' hs => hs
  have fin : ∀ {σ' : L2.St} {H' : Hp} {v : V} {u : Value}, Inv (cxOf (L2.CX P w) P w K mg base N qual (defScope st) f cdv A outer s H E) [] σ' H' s' → RelV v u → Q v H' → CE outer P w H s Q u s' :=
    fun {σ' H' v u} J rv q => ⟨v, H', J.os, J.bare, J.base, J.hok, rv, q⟩
  cases fl with
  | ret u => obtain ⟨v, σ', H', J, rv, q⟩ := hs; exact fin J rv q
  | next => obtain ⟨σ', H', J, q⟩ := hs; exact fin (v := V.non) (u := Value.none) J rfl q
  | brk => obtain ⟨_, _, _, q⟩ := hs; exact q.elim
  | cont => obtain ⟨_, _, _, q⟩ := hs; exact q.elim
end
/-! ### calls -/
structure DfX (P : Program) (w : World) (K : PySem.W.Frag) (mg : Str → Option Value) (base : Heap) (k : Nat) (nm : Str) (ps : List Str) (sp : Sp) : Prop where
  ex : ∃ f fd, Fgx P w K mg base k f fd ps sp ∧ mg nm = some (.ref f) ∧ PySem.W.keepIn K (.ref f) = true ∧ Binds K fd ps []
structure DfKX (P : Program) (w : World) (K : PySem.W.Frag) (mg : Str → Option Value) (base : Heap) (k : Nat) (nm : Str) (ps ks : List Str) (π : List Nat) (sp : Sp) : Prop where
  ex : ∃ f fd, Fgx P w K mg base k f fd ps sp ∧ mg nm = some (.ref f) ∧ PySem.W.keepIn K (.ref f) = true ∧ ∀ (s : Shared) (ws : List Value), ws.length = ks.length → BindsTo s fd ⟨[], ks.zip ws⟩ (ps.zip (DL.permL π ws))
section
variable {X : Cx} {W : WX} {k : Nat} {nm : Str} {ps ks : List Str} {sp : Sp} {p pos : Pos} {e : Expr} {es : List Expr} {t tk : TA} {π : List Nat} {kws : List Keyword}
theorem takes0 : L2.Takes X (fun _ _ _ _ => False) := fun u s' ⟨_, _, _, _, _, _, _, _, _, _, _, _, _, _, _, _, w⟩ => w.elim
def tCallX (W : WX) (sp : Sp) (t : TA) : TE := fun σ H Q => t σ H fun vs H1 => sp vs H1 Q (fun cls d H' => W cls d σ H')
theorem retx_of {pins : List (Addr × Obj)} {σ : L2.St} {H : Hp} {s s' : Shared} {Q : VK} {r : Result} (tk : L2.Takes X W) (I : Inv X pins σ H s) (h : CR (L2.CX X.prog X.w) X.stack X.prog X.w H s Q (fun cls d H' => W cls d σ H') r s') : RP X pins σ Q r s' := by
  cases r with
  | error e => exact tk e s' (L2.XE.of_call I (fun _ _ _ h => h) h)
  | ok fl =>
    cases fl with
    | ret u => exact I.after h
    | next => exact False.elim h
    | brk => exact False.elim h
    | cont => exact False.elim h
theorem dcallx (tk : L2.Takes X W) (D : DfX X.prog X.w X.K X.mg X.base k nm ps sp) (hr : Rm k X.A) (hg : Gl X nm) (ha : PA X (e :: es) t)
    (hdb : (nm == ("__debug__" : Str)) = false := by decide) (he : starEach (e :: es) X.env = (false, eval e X.env) :: starEach es X.env := by rfl) (hpl : (backTo pos (starEach es X.env)).any (·.1) = false := by rfl) :
    PE X (.Call (.Name nm p) (e :: es) [] pos) (tCallX W sp t) := by
  obtain ⟨f, fd, F, hm, hk, hb⟩ := D.ex
  refine ⟨fun pins s σ H Q I h => ?_⟩
  refine wpAny_Call_Name_kw (ld_glob I hg hm ?_ hdb)
  refine PySem.W.callWith_K (h₀ := X.base) I.ok.mod.kin hk (thn (ha.run pos pins s σ H _ I h) fun us s1 ⟨vs, H1, I1, r, q⟩ => ⟨I1.kIn, ?_⟩) he hpl
  have hl : (us ++ []).length = ps.length := by rw [List.append_nil, ← r.length]; exact F.size _ _ _ _ q
  have b := hb s1 us I1.kIn hl
  rw [List.append_nil] at b
  refine wpAny_call (codeAny_mono (F.go X.A X.stack s1 H1 ⟨us, []⟩ us vs Q _ hr I1.env0 b r q) fun r s' hq => ?_)
  exact retx_of tk I1 hq
def tCallPX (W : WX) (sp : Sp) (π : List Nat) (n : Nat) (tk : TA) : TE := fun σ H Q => tk σ H fun zs H2 => zs.length = n ∧ sp (DL.permL π zs) H2 Q (fun cls d H' => W cls d σ H')
theorem kcallx (tkw : L2.Takes X W) (D : DfKX X.prog X.w X.K X.mg X.base k nm ps ks π sp) (hr : Rm k X.A) (hg : Gl X nm) (hkw : PK X kws tk)
    (hall : (backToKw pos (keywordEach kws X.env)).all (·.1.isSome) = true := by rfl) (hks : (backToKw pos (keywordEach kws X.env)).filterMap (·.1) = ks := by rfl)
    (hdb : (nm == ("__debug__" : Str)) = false := by decide)
    (hpl : ((backTo pos (starEach [] X.env)).any (·.1) || (backToKw pos (keywordEach kws X.env)).any (·.1.isNone)) = false := by rfl) :
    PE X (.Call (.Name nm p) [] kws pos) (tCallPX W sp π ks.length tk) := by
  obtain ⟨f, fd, F, hm, hk, hb⟩ := D.ex
  refine ⟨fun pins s σ H Q I h => ?_⟩
  refine wpAny_Call_Name_kw (ld_glob I hg hm ?_ hdb)
  refine PySem.W.callWith_KW0 (h₀ := X.base) I.ok.mod.kin hk hall (thn (hkw.run pos pins s σ H _ I h) fun ws s2 ⟨zs, H2, I2, rz, hl, q2⟩ => ⟨I2.kIn, ?_⟩) hpl
  rw [hks]
  refine wpAny_call (codeAny_mono (F.go X.A X.stack s2 H2 ⟨[] ++ [], ks.zip ws⟩ (DL.permL π ws) (DL.permL π zs) Q _ hr I2.env0 (hb s2 ws (by rw [← rz.length]; exact hl)) (DL.perm_vals rz π) q2) fun r s' hq => ?_)
  exact retx_of tkw I2 hq
end
/-! ### an own exception, raised -/
section
variable {X : Cx} {W : WX} {k : Nat} {C fI : Addr} {fd : FuncData} {x f : Str} {newId : String} {tail : List Value} {p pos pos' : Pos} {e : Expr} {es : List Expr} {t : TA}
/-- raise C(e): the exception's dict has the field -/
def tRaiseX (W : WX) (K : PySem.W.Frag) (newId : String) (tail : List Value) (C : Addr) (f : Str) (ta : TA) : TS := fun _ σ H => tMkO C (KX.spI K newId tail f) [] ta σ H fun cls d H' => W cls d σ H'
theorem ps_raisex (hc : X.calm = true) (tk : L2.Takes X W) (T : OexC X.K C) (iC : PySem.W.findIn X.K (.ref C) "__init__" = some (some (.ref fI))) (tI : PySem.W.typeIn X.K (.ref fI) = some (.type "function"))
    (F1 : FnOk X.prog X.w X.K X.mg X.base CX0 k fI fd ["self", f] (KX.spI X.K newId tail f)) (hr : Room (k + 1) X.A) (hb : Binds X.K fd ["self", f] []) (hg : Gl X x) (hm : X.mg x = some (.ref C)) (ha : PA X (e :: es) t)
    (hdb : (x == ("__debug__" : Str)) = false := by decide) (he : starEach (e :: es) X.env = (false, eval e X.env) :: starEach es X.env := by rfl) (hpl : (backTo pos (starEach es X.env)).any (·.1) = false := by rfl) :
    PS X (.Raise (some (.Call (.Name x p) (e :: es) [] pos)) none pos') (tRaiseX W X.K newId tail C f t) :=
  L2.ps_raise (W := W) hc tk (L2.pmk_oex (sp := KX.spI X.K newId tail f) (dvs := []) T iC tI F1 hr hb .nil (fun _ _ _ _ _ _ _ z => z.elim) hg hm ha hdb he hpl)
theorem raise_rd {K : PySem.W.Frag} {σ : L2.St} {H1 : Hp} {v : V} (T : KX.Xc K newId tail C) (nF : PySem.W.findIn K (.ref C) f = some none) (h : ∀ d, H1 d = none → W (.ref C) (some d) σ (upd H1 d (.xd [(f, v)]))) :
    [v].length ≤ 1000 ∧ ∀ a, H1 a = none → KX.spI K newId tail f (.ref a :: ([v] ++ [])) (upd H1 a (exo a C none)) (fun u H2 => u = .non ∧ ∃ (d : Addr) (fs : List (Str × V)), H2 a = some (exo a C (some d)) ∧ H2 d = some (exd d fs) ∧ H1 d = none ∧ W (.ref C) (some d) σ (upd (L2.del H2 a) d (.xd fs))) E0 := by
  refine ⟨by show 1 ≤ 1000; decide, fun a na => ⟨a, C, v, rfl, T, nF, upd_same, fun d nd hda => ⟨rfl, d, [(f, v)], upd_same, ?_, ?_, ?_⟩⟩⟩
  · rw [upd_ne hda, upd_same]
  · rw [upd_ne hda] at nd
    exact nd
  · rw [upd_ne hda] at nd
    have e : upd (L2.del (upd (upd (upd H1 a (exo a C none)) d (exd d [(f, v)])) a (exo a C (some d))) a) d (.xd [(f, v)]) = upd H1 d (.xd [(f, v)]) := by
      funext b
      by_cases hb : b = d
      · rw [hb, upd_same, upd_same]
      · rw [upd_ne hb, upd_ne hb]
        by_cases hba : b = a
        · rw [hba, L2.del_same, na]
        · rw [L2.del_ne hba, upd_ne hba, upd_ne hb, upd_ne hba]
    rw [e]
    exact h d nd
end
/-! ### the exception that a suite holds -/
section
variable {X : Cx} {a C : Addr} {oe : Obj} {cls : Value} {d : Option Addr} {pn : List (Addr × Obj)} {f : Str} {newId : String} {tail : List Value} {pos : Pos} {e : Expr} {te : TE}
/-- where the exception of the suite is: its class and its dict -/
theorem suite_at {pins : List (Addr × Obj)} {σ : L2.St} {H : Hp} {s : Shared} {dd : Addr} {vs : List (Str × V)} (hz : L2.Zc cls d oe) (hf : ∃ vs, oe.data = .fields vs) (I : Inv (X.suite a ((a, oe) :: pn)) pins σ H s) (ec : cls = .ref C) (ed : d = some dd) (eH : H dd = some (.xd vs)) :
    ∃ (od : Obj) (mA : Str → Option Value), PySem.W.InstAt s.heap a oe C (some od) ∧ (∀ n : Str, PySem.W.lookIn n od = some (mA n)) ∧ ∀ n : Str, RelO (vs.lookup n) (mA n) := by
  subst ec
  subst ed
  obtain ⟨ha, _⟩ := I.pin (a, oe) (List.mem_append_left _ List.mem_cons_self)
  obtain ⟨us, hd⟩ := hf
  obtain ⟨mA, hns, hr⟩ := (show ObjOk X.prog X.w H s.heap dd (.xd vs) from I.hok dd _ eH)
  obtain ⟨od, ho, hl⟩ := lookIn_ns hns
  obtain ⟨oc, odd, oda, osl⟩ := oe
  obtain ⟨h1, h2⟩ := hz
  dsimp only at h1 h2 hd
  subst h1 h2 hd
  exact ⟨od, mA, ⟨ha, rfl, rfl, ho⟩, hl, hr⟩
/-- e.f -/
def tXf (K : PySem.W.Frag) (f : Str) (a C : Addr) (cls : Value) (d : Option Addr) (te : TE) : TE := fun σ H Q => te σ H fun x H1 => x = .ref a ∧ cls = .ref C ∧ ∃ (dd : Addr) (vs : List (Str × V)) (v : V), d = some dd ∧ H1 dd = some (.xd vs) ∧ vs.lookup f = some v ∧ Q v H1
theorem pe_xf (T : KX.Xc X.K newId tail C) (nF : PySem.W.findIn X.K (.ref C) f = some none) (hz : L2.Zc cls d oe) (hf : ∃ vs, oe.data = .fields vs) (he : PE (X.suite a ((a, oe) :: pn)) e te)
    (hb : attributeBase e f X.env (eval e X.env) = eval e X.env := by rfl) : PE (X.suite a ((a, oe) :: pn)) (.Attribute e f pos) (tXf X.K f a C cls d te) := by
  refine ⟨fun pins s σ H Q I h => ?_⟩
  refine attr_of hb (thn (he.run pins s σ H _ I h) fun u s1 hh => ?_)
  obtain ⟨x, H1, I1, rx, ex, ec, dd, vs, v, ed, eH, l, q⟩ := hh
  subst ex
  obtain rfl : u = Value.ref a := rx
  obtain ⟨od, mA, J, hl, hr⟩ := suite_at hz hf I1 ec ed eH
  obtain ⟨w, hw, rw'⟩ := RelO.some_of (v := v) (o := mA f) (by rw [← l]; exact hr f)
  exact HandSPX.exc_get I1.kIn J T.ga T.gg T.exC (PySem.W.findObj_own T.dC nF rfl (by rw [hl, hw])) (handed_of rw') ⟨v, H1, I1.tok _, rw', q⟩
/-- isinstance(e, c) -/
def rIsS (K : PySem.W.Frag) (a C : Addr) (cls : Value) (d : Option Addr) : List V → Hp → VK → Prop := fun xs H Q => ∃ (c : V) (cv : Value) (b : Bool) (dd : Addr) (vs : List (Str × V)), xs = [.ref a, c] ∧ cls = .ref C ∧ d = some dd ∧ H dd = some (.xd vs) ∧ ClsV c cv ∧ PySem.W.kitOne K (.ref C) cv = some b ∧ Q (.bl b) H
theorem call_isS (G : KX.ClsRead X.K) (T : KX.Xc X.K newId tail C) (hz : L2.Zc cls d oe) (hf : ∃ vs, oe.data = .fields vs) : CallR (X.suite a ((a, oe) :: pn)) (.builtin "isinstance") (rIsS X.K a C cls d) := by
  intro pins s σ H xs us Q I r h
  obtain ⟨c, cv, b, dd, vs, rfl, ecl, ed, eH, hcv, e, q⟩ := h
  obtain ⟨u1, u2, rfl, r1, r2⟩ := vals2 r
  obtain rfl : u1 = Value.ref a := r1
  have ec := hcv.eq r2
  subst ec
  have hcl : (PySem.W.clsIn X.K C).isSome = true := by
    obtain ⟨nm, q, N, bs, bm, sn, sub, ab, col, dd, k0, k1, k2, k3, k5, hC, _⟩ := T.cls
    unfold PySem.W.clsIn
    rw [hC] <;> rfl
  obtain ⟨od, mA, J, _, _⟩ := suite_at hz hf I ecl ed eH
  exact PySem.W.kia_one (PySem.W.kitx_exc hcl T.ga T.gg T.exC T.cC G.gs G.tk T.mC) I.kIn J e (fun z => nomatch z) fun tk => ⟨.bl b, H, I.kept (t' := tk) fun _ _ z => z, rfl, q⟩
/-- isinstance(e, (c1, c2, ..)) -/
def rIsST (K : PySem.W.Frag) (a C : Addr) (cls : Value) (d : Option Addr) : List V → Hp → VK → Prop := fun xs H Q => ∃ (tp : Addr) (cs : List V) (ws : List Value) (b : Bool) (dd : Addr) (vs : List (Str × V)), xs = [.ref a, .ref tp] ∧ H tp = some (.tup cs) ∧ cls = .ref C ∧ d = some dd ∧ H dd = some (.xd vs) ∧ Paired ClsV cs ws ∧ PySem.W.kitAny K (.ref C) ws = some b ∧ Q (.bl b) H
theorem call_isST (G : KX.ClsRead X.K) (T : KX.Xc X.K newId tail C) (hz : L2.Zc cls d oe) (hf : ∃ vs, oe.data = .fields vs) : CallR (X.suite a ((a, oe) :: pn)) (.builtin "isinstance") (rIsST X.K a C cls d) := by
  intro pins s σ H xs us Q I r h
  obtain ⟨tp, cs, ws, b, dd, vs, rfl, hT, ecl, ed, eH, k, e, q⟩ := h
  obtain ⟨u1, u2, rfl, r1, r2⟩ := vals2 r
  obtain rfl : u1 = Value.ref a := r1
  cases (show u2 = Value.ref tp from r2)
  have hcl : (PySem.W.clsIn X.K C).isSome = true := by
    obtain ⟨nm, q, N, bs, bm, sn, sub, ab, col, dd, k0, k1, k2, k3, k5, hC, _⟩ := T.cls
    unfold PySem.W.clsIn
    rw [hC] <;> rfl
  obtain ⟨od, mA, J, _, _⟩ := suite_at hz hf I ecl ed eH
  obtain ⟨_, its, rv, o, h1, h2, n, h3⟩ := (show ObjOk X.prog X.w H s.heap tp (.tup cs) from I.hok tp _ hT)
  have e3 := ClsV.all k rv
  subst e3
  obtain ⟨oc, od2, dt, sl⟩ := o
  simp only at h2 h3
  subst h2 h3
  exact PySem.W.kia_tup (PySem.W.kitx_exc hcl T.ga T.gg T.exC T.cC G.gs G.tk T.mC) I.kIn J h1 e (fun z => nomatch z) fun tk => ⟨.bl b, H, I.tok tk, rfl, q⟩
end
/-! ### an own exception class of the text: all that is asked of it -/
structure XC (P : Program) (w : World) (K : PySem.W.Frag) (mg : Str → Option Value) (base : Heap) (x f : Str) (newId : String) (tail : List Value) (C : Addr) : Prop where
  ox : OexC K C
  xc : KX.Xc K newId tail C
  nF : PySem.W.findIn K (.ref C) f = some none
  ex : PySem.W.exmOne K (.ref C) (.ref C) = some true
  nm : mg x = some (.ref C)
  ini : ∃ fI fd, PySem.W.findIn K (.ref C) "__init__" = some (some (.ref fI)) ∧ PySem.W.typeIn K (.ref fI) = some (.type "function") ∧ FnOk P w K mg base CX0 1 fI fd ["self", f] (KX.spI K newId tail f) ∧ Binds K fd ["self", f] []
section
variable {X : Cx} {W : WX} {C : Addr} {x f : Str} {newId : String} {tail : List Value} {p pos pos' : Pos} {e : Expr} {es : List Expr} {t : TA}
theorem ps_raisec (hc : X.calm = true) (tk : L2.Takes X W) (T : XC X.prog X.w X.K X.mg X.base x f newId tail C) (hr : Rm 2 X.A) (hg : Gl X x) (ha : PA X (e :: es) t)
    (hdb : (x == ("__debug__" : Str)) = false := by decide) (he : starEach (e :: es) X.env = (false, eval e X.env) :: starEach es X.env := by rfl) (hpl : (backTo pos (starEach es X.env)).any (·.1) = false := by rfl) :
    PS X (.Raise (some (.Call (.Name x p) (e :: es) [] pos)) none pos') (tRaiseX W X.K newId tail C f t) := by
  obtain ⟨fI, fd, h1, h2, h3, h4⟩ := T.ini
  exact ps_raisex hc tk T.ox h1 h2 h3 hr.room h4 hg T.nm ha hdb he hpl
end
/-- try .. except c as n (slot i) -/
def tTryAs (K : PySem.W.Frag) (c : Value) (i : Nat) (tb : WX → TS) (ts : Addr → Value → Option Addr → TS) (Wout : WX) : TS := fun D σ H => tb (wAs K c i ts Wout D) D σ H
section
variable {X : Cx} {x n : Str} {c : Value} {i : Nat} {body suite : List Stmt} {b₀ : Stmt} {np pos pos' : Pos} {tb : WX → TS} {ts : Addr → Value → Option Addr → TS} {Wout : WX}
theorem ps_tryAs (hs : X.stack = X.env :: X.outer) (hf : X.env.frame = some X.env.locals) (hN : X.N.Nodup) (hi : X.N[i]? = some n) (hln : X.env.kindOf n = some .local) (hc : Names X x c) (tk : L2.Takes X Wout)
    (hb : ∀ (W : WX) (pn : List (Addr × Obj)) (xe : Value → Shared → Prop), L2.Takes (X.tr pn xe) W → PassesOwn (model X.prog X.w) X.A X.env xe → PSs (X.tr pn xe) body (tb W))
    (hsu : ∀ (a : Addr) (oe : Obj) (cls : Value) (d : Option Addr) (pn : List (Addr × Obj)), Zc cls d oe → (∃ vs, oe.data = .fields vs) → PSs (X.suite a ((a, oe) :: pn)) (b₀ :: suite) (ts a cls d)) :
    PS X (.Try body [.ExceptHandler (some (.Name x np)) (some n) (b₀ :: suite) pos'] [] [] pos) (tTryAs X.K c i tb ts Wout) := L2.ps_try_as hs hf hN hi hln hc tk hb hsu
end
end GG

set_option Elab.async false
set_option linter.all false
set_option maxRecDepth 100000
set_option maxHeartbeats 4000000
/-! DLX: exceptions told by data alone: raise, calls that may raise, except. -/
namespace DL
open PySem PySem.Spec PyProof.Rows L2 GG DD PT
/-- what is wished of an exception: its class, its fields, the state where it is raised -/
abbrev PXt := Addr → List (Str × PyData) → DSt → Prop
inductive FsOk (K : PySem.W.Frag) (H : Hp) : List (Str × V) → List (Str × PyData) → Prop
  | nil : FsOk K H [] []
  | cons {n : Str} {v : V} {d : PyData} {xs : List (Str × V)} {fs : List (Str × PyData)} : Da K H v d → FsOk K H xs fs → FsOk K H ((n, v) :: xs) ((n, d) :: fs)
theorem FsOk.of {K : PySem.W.Frag} {H H' : Hp} {xs : List (Str × V)} {fs : List (Str × PyData)} (h : FsOk K H xs fs) (s : Same H H') : FsOk K H' xs fs := by
  induction h with
  | nil => exact .nil
  | cons h1 _ ih => exact .cons (h1.of s) ih
/-- the fields' data -/
def FsG (xs : List (Str × V)) (fs : List (Str × PyData)) : V → PyData → Prop := fun v d => ∃ n, xs.lookup n = some v ∧ fs.lookup n = some d
def FsIn (G : V → PyData → Prop) (xs : List (Str × V)) (fs : List (Str × PyData)) : Prop := ∀ n d, fs.lookup n = some d → ∃ v, xs.lookup n = some v ∧ G v d
theorem FsOk.g {K : PySem.W.Frag} {H : Hp} {xs : List (Str × V)} {fs : List (Str × PyData)} (h : FsOk K H xs fs) : ∀ v d, FsG xs fs v d → Da K H v d := by
  rintro v d ⟨n, h1, h2⟩
  induction h with
  | nil => cases h1
  | @cons m u e xs fs h3 _ ih =>
    rw [List.lookup_cons] at h1 h2
    cases q : n == m with
    | true =>
      rw [q] at h1 h2
      cases h1
      cases h2
      exact h3
    | false =>
      rw [q] at h1 h2
      exact ih h1 h2
theorem FsOk.ins {K : PySem.W.Frag} {H : Hp} {xs : List (Str × V)} {fs : List (Str × PyData)} (h : FsOk K H xs fs) : FsIn (FsG xs fs) xs fs := by
  intro n d h2
  have : ∃ v, xs.lookup n = some v := by
    induction h with
    | nil => cases h2
    | @cons m u e xs fs h3 _ ih =>
      rw [List.lookup_cons] at h2 ⊢
      cases q : n == m with
      | true => exact ⟨_, rfl⟩
      | false =>
        rw [q] at h2
        exact ih h2
  obtain ⟨v, h1⟩ := this
  exact ⟨v, h1, n, h1, h2⟩
/-- what a def does that may raise -/
abbrev FDX := List DV → Nat → (PyData → Nat → Prop) → (Addr → List (Str × PyData) → Nat → Prop) → Prop
def spX (K : PySem.W.Frag) (m : Nat) (F : FDX) : Sp := fun vs H Q E => vs.length = m ∧ ∃ (W : Wo) (S0 : Addr → Prop) (n : Nat) (as : List DV) (P : PyData → Nat → Prop) (PX : Addr → List (Str × PyData) → Nat → Prop), Taken H S0 ∧ DkOk W H n ∧ (∀ b, Mu W b → S0 b) ∧ ArgsOk K W S0 H vs as ∧ F as n P PX ∧
  (∀ v H' d n', P d n' → DkOk W H' n' → ButW W H H' → Da K (Hd S0 H') v d → Q v H') ∧
  ∀ Cx dd xs fs H' n', PX Cx fs n' → DkOk W H' n' → ButW W H H' → H dd = none → ¬ Mu W dd → H' dd = some (.xd xs) → FsOk K (Hd (fun b => S0 b ∨ b = dd) H') xs fs → E (.ref Cx) (some dd) H'
/-- the wish about exceptions is told by data -/
def XOk (K : KX) (W : WX) (PX : PXt) : Prop := ∀ C : DC, C.K = K → ∀ (σ : L2.St) (H : Hp) (s : DSt) (Cx dd : Addr) (xs : List (Str × V)) (fs : List (Str × PyData)), PX Cx fs s → Rl (C.hide dd) σ H s → C.H0 dd = none → ¬ C.S0 dd → ¬ Mu C.W dd → H dd = some (.xd xs) →
  FsOk C.K (Hd (Sof (C.hide dd) σ s.sl) H) xs fs → W (.ref Cx) (some dd) σ H
def bodyX (d : PXt → DS) (m : Nat) : FDX := fun as n P PX => d (fun Cx fs s => PX Cx fs s.n) { nx := fun s => P .none s.n, rt := fun v s => P v s.n } ⟨as ++ List.replicate m .un, n⟩
theorem body_okX {K : PySem.W.Frag} {E : XK} {d : PXt → DS} {N : List Str} {k : Nat} {vs : List V} {H : Hp} {Q : VK} {X : TS → Prop} (h : ∀ W B H0 G0 Z0 PX, XOk ⟨K, W, B, H0, G0, Z0⟩ (fun cls d _ H => E cls d H) PX → ∃ t, X t ∧ RS ⟨K, W, B, H0, G0, Z0⟩ t (d PX))
    (hsp : spX K k (bodyX d (N.length - k)) vs H Q E) : ∃ t, X t ∧ t { nx := fun _ H' => Q .non H', rt := Q } (L2.start N vs) H := by
  obtain ⟨hl, W, S0, n, as, P, PX, T, dk, hm, ha, hF, q, qx⟩ := hsp
  obtain ⟨t, hX, h⟩ := h W S0 H (fun _ _ => False) (fun _ _ => False) (fun Cx fs s => PX Cx fs s.n) (fun C hC σ H' s Cx dd xs fs hp R h1 h2 h3 h4 h5 => by
    obtain ⟨CK, cex, csub, cG, cZ, cg, cz⟩ := C
    dsimp only at hC
    subst hC
    refine qx Cx dd xs fs H' s.n hp R.dk R.but h1 h3 h4 (h5.of (hd_mono fun b hb => ?_))
    rcases hb with hb | hb
    · exact .inl (.inl (csub _ _ hb))
    · exact sof_hide.mpr (.inr hb))
  refine ⟨t, hX, ?_⟩
  unfold L2.start
  rw [hl]
  refine h (DC.base ⟨K, W, S0, H, fun _ _ => False, fun _ _ => False⟩) rfl _ _ hF _ H _ (rl_start _ T dk hm ha) ⟨fun σ H' s hp R => ?_, fun σ v H' d s hp R hv => ?_, fun _ _ _ h => h.elim, fun _ _ _ h => h.elim⟩
  · exact q _ H' _ _ hp R.dk R.but .non
  · exact q v H' d s.n hp R.dk R.but (hv.of (hd_mono fun b hb => .inl hb))
section
variable {P : Program} {w : World} {K : PySem.W.Frag} {mg : Str → Option Value} {base : Heap} {k : Nat} {f : Addr} {fd : FuncData} {ps : List Str}
theorem okdX {x qual : Str} {st : Stmt} {N : List Str} {d : PXt → DS} {m : Nat} (hm : ps.length = m) (F : L2.Fun K x qual st f fd) (S : FnScope N ps (defScope st))
    (body : ∀ (cdv : Value) (A : Around) (outer : List Env) (s : Shared) (H : Hp) (E : XK), Rm k (A.deeper (envOfC qual (defScope st) s.heap.objs.size f cdv)) → ∀ W B H0 G0 Z0 PX, XOk ⟨K, W, B, H0, G0, Z0⟩ (fun cls d _ H => E cls d H) PX →
      ∃ t, PSs (cxOf (L2.CX P w) P w K mg base N qual (defScope st) f cdv A outer s H E) (defBody st) t ∧ RS ⟨K, W, B, H0, G0, Z0⟩ t (d PX)) :
    Fgx P w K mg base (k + 1) f fd ps (spX K m (bodyX d (N.length - m))) :=
  okgx F S (fun vs H Q E h => by rw [h.1]; exact hm.symm) fun cdv A outer s H vs Q E hr h => body_okX (body cdv A outer s H E hr) h
end
variable {K : KX}
/-! ### calls that may raise -/
def dCallX (PX : PXt) (m : Nat) (F : FDX) (da : DX) : DE := fun s P => da s fun as s1 => as.length = m ∧ F as s1.n (fun d n' => P d ⟨s1.sl, n'⟩) fun Cx fs n' => PX Cx fs ⟨s1.sl, n'⟩
theorem Rl.raised {C : DC} {σ : L2.St} {H H' : Hp} {s : DSt} {dd : Addr} {xs : List (Str × V)} {n' : Nat} (R : Rl C σ H s) (hn : H dd = none) (d : DkOk C.W H' n') (b : ButW C.W H H') (e : H' dd = some (.xd xs)) : Rl (C.hide dd) σ H' ⟨s.sl, n'⟩ := by
  refine (R.hidden (o := .xd xs) hn).step (fun c o hc h => ?_) d
  by_cases z : c = dd
  · rw [z, upd_same] at h
    rw [z, e]
    exact h
  · rw [upd_ne z] at h
    exact b c o hc h
theorem x_call {W : WX} {PX : PXt} {C : DC} (xo : XOk C.K W PX) {σ : L2.St} {H1 : Hp} {s1 : DSt} (R1 : Rl C σ H1 s1) {F : FDX} {as : List DV} {vs : List V} {m : Nat} {P : PyData → DSt → Prop} {Q : VK} (hl : vs.length = m) (hv : ArgsOk C.K C.W (Sof C σ s1.sl) H1 vs as)
    (hF : F as s1.n (fun d n' => P d ⟨s1.sl, n'⟩) fun Cx fs n' => PX Cx fs ⟨s1.sl, n'⟩) (q : ∀ v H' d s', P d s' → Rl C σ H' s' → Da C.K (Hd (Sof C σ s'.sl) H') v d → Q v H') : spX C.K m F vs H1 Q (fun cls d H' => W cls d σ H') := by
  refine ⟨hl, C.W, Sof C σ s1.sl, s1.n, as, _, _, R1.taken, R1.dk, fun b hb => .inr (.inl hb), hv, hF, fun v H' d n' hP hD hB hda => ?_, fun Cx dd xs fs H' n' hP hD hB hn hM hx hfs => ?_⟩
  · exact q v H' d ⟨s1.sl, n'⟩ hP (R1.step hB hD) hda
  · obtain ⟨n1, n2⟩ := R1.new hn
    exact xo C rfl σ H' ⟨s1.sl, n'⟩ Cx dd xs fs hP (R1.raised hn hD hB hx) n2 (fun z => n1 (.inl z)) hM hx (hfs.of (hd_mono fun b hb => sof_hide.mp hb))
theorem re_callX {W : WX} {PX : PXt} {m : Nat} {F : FDX} {ta : TA} {da : DX} (xo : XOk K W PX) (h : RX K ta da) : RE K (tCallX W (spX K m F) ta) (dCallX PX m F da) := fun C hC s P hd σ H Q R q =>
  h C hC s _ hd σ H _ R fun vs H1 as s1 hp R1 hv => by
    subst hC
    exact x_call xo R1 (by rw [hv.len]; exact hp.1) hv hp.2 q
def dCallPX (PX : PXt) (m : Nat) (F : FDX) (π : List Nat) (n : Nat) (da : DX) : DE := fun s P => da s fun as s1 => as.length = n ∧ (permL π as).length = m ∧ F (permL π as) s1.n (fun d n' => P d ⟨s1.sl, n'⟩) fun Cx fs n' => PX Cx fs ⟨s1.sl, n'⟩
theorem re_callPX {W : WX} {PX : PXt} {m : Nat} {F : FDX} {π : List Nat} {n : Nat} {ta : TA} {da : DX} (xo : XOk K W PX) (h : RX K ta da) : RE K (tCallPX W (spX K m F) π n ta) (dCallPX PX m F π n da) := fun C hC s P hd σ H Q R q =>
  h C hC s _ hd σ H _ R fun vs H1 as s1 hp R1 hv => by
    subst hC
    exact ⟨by rw [hv.len]; exact hp.1, x_call xo R1 (by rw [(perm_args hv π).len]; exact hp.2.1) (perm_args hv π) hp.2.2 q⟩
/-! ### raise -/
def dRaise (PX : PXt) (Cx : Addr) (f : Str) (de : DE) : DS := fun _ s => de s fun d s1 => PX Cx [(f, d)] s1
theorem rs_raise {W : WX} {PX : PXt} {newId : String} {tail : List Value} {Cx : Addr} {f : Str} {te : TE} {de : DE} (T : KX.Xc K.fr newId tail Cx) (nF : PySem.W.findIn K.fr (.ref Cx) f = some none) (xo : XOk K W PX) (h : RE K te de) : RS K (tRaiseX W K.fr newId tail Cx f (tCons te tNil)) (dRaise PX Cx f de) := fun C hC E s hd σ H D R o => by
  unfold tRaiseX tMkO
  refine rd_cons (h C hC s _ hd σ H _ R fun v H1 d s1 hp R1 hv => rd_nil ?_)
  refine raise_rd (W := W) T nF fun dd nd => ?_
  obtain ⟨n1, n2⟩ := R1.new nd
  have R2 := (R1.keep hv).hidden (o := .xd [(f, v)]) nd
  have R3 := R1.hidden (o := .xd [(f, v)]) nd
  exact xo C hC σ _ s1 Cx dd [(f, v)] [(f, d)] hp R3 n2 (fun z => n1 (.inl z)) (fun z => n1 (.inr (.inl z))) upd_same (.cons (R2.gh v d (.inr ⟨rfl, rfl⟩)) .nil)
/-! ### except -/
def NoLock (sl : List DV) : Prop := ∀ (i : Nat) a o kvs, sl[i]? ≠ some (.lkd a o kvs)
def noLockB (sl : List DV) : Bool := sl.all fun dv => match dv with
  | .lkd _ _ _ => false
  | _ => true
theorem noLock_of {sl : List DV} (h : noLockB sl = true) : NoLock sl := fun i a o kvs e => by
  have z := List.all_eq_true.mp h _ (List.mem_of_getElem? e)
  cases z
theorem Rl.trans {C C' : DC} {σ : L2.St} {H : Hp} {s : DSt} (R : Rl C σ H s) (hK : C'.K.fr = C.K.fr) (hW : C'.W = C.W) (hH : C'.H0 = C.H0) (hS : ∀ b, C'.S0 b → C.S0 b) (hG : ∀ v d, C'.G v d → C.G v d) (hZ : ∀ a o, C'.Z a o → C.Z a o ∧ C'.S0 a) (hlk : (∀ a o, C.Z a o → C'.Z a o) ∨ NoLock s.sl) :
    Rl C' σ H s ∧ Same (Hd (Sof C σ s.sl) H) (Hd (Sof C' σ s.sl) H) := by
  have hs : Same (Hd (Sof C σ s.sl) H) (Hd (Sof C' σ s.sl) H) := hd_mono fun b z => by
    rcases z with z | z | z
    · exact .inl (hS b z)
    · exact .inr (.inl (hW ▸ z))
    · exact .inr (.inr z)
  refine ⟨⟨R.len, fun i dv h => ?_, R.nd, fun i a dv h1 h2 h3 => ?_, hW ▸ R.dk, ?_, fun b hb => R.tk b (hS b hb), fun v d h => ?_, fun a o h => ?_⟩, hs⟩
  · obtain ⟨sl, e1, e2⟩ := R.slots i dv h
    refine ⟨sl, e1, ?_⟩
    cases dv with
    | un => trivial
    | dat d =>
      obtain ⟨v, h1, h2⟩ := e2
      exact ⟨v, h1, hK ▸ h2.of hs⟩
    | own ds =>
      obtain ⟨a, vs, h1, h2, h3⟩ := e2
      exact ⟨a, vs, h1, h2, hK ▸ h3.of hs⟩
    | arg b ds =>
      obtain ⟨vs, h1, h2, h3⟩ := e2
      exact ⟨vs, h1, h2, hK ▸ h3.of hs⟩
    | owd kvs =>
      obtain ⟨a, vs, h1, h2, h3⟩ := e2
      exact ⟨a, vs, h1, h2, hK ▸ h3.of hs⟩
    | owt kvs =>
      obtain ⟨a, vs, h1, h2, h3⟩ := e2
      exact ⟨a, vs, h1, h2, hK ▸ h3.of hs⟩
    | lkd a ob kvs =>
      rcases hlk with hlk | hlk
      · obtain ⟨h1, h2, od, es, h3, h4⟩ := e2
        exact ⟨h1, hlk a ob h2, od, es, h3, hK ▸ h4.of hs⟩
      · exact absurd h (hlk i a ob kvs)
    | deck =>
      obtain ⟨p, l, h1, h2⟩ := e2
      exact ⟨p, l, hW.trans h1, h2⟩
    | exc a => exact e2
  · obtain ⟨f1, f2, f3⟩ := R.fr i a dv h1 h2 h3
    exact ⟨by rw [hH]; exact f1, fun z => f2 (hS a z), by rw [hW]; exact f3⟩
  · rw [hW, hH]
    exact R.but
  · have z := (R.gh v d (hG v d h)).of hs
    rw [hK]
    exact z
  · obtain ⟨h1, h2⟩ := hZ a o h
    obtain ⟨f1, f2, f3⟩ := R.fz a o h1
    exact ⟨h2, by rw [hW]; exact f2, f3⟩
theorem Rl.put {C : DC} {σ : L2.St} {H : Hp} {s : DSt} (R : Rl C σ H s) (i : Nat) (v : Option V) (dv : DV) (ho : isOwn dv = false) (h : SlotOk C (Sof C σ s.sl) H v dv) : Rl C (σ.set i v) H ⟨s.sl.set i dv, s.n⟩ := by
  refine (R.rewire (by rw [List.length_set, List.length_set]; exact R.len) fun j ev e => ?_).1
  rw [List.getElem?_set] at e
  by_cases z : i = j
  · subst z
    rw [if_pos rfl] at e
    by_cases hl : i < s.sl.length
    · rw [if_pos hl] at e
      cases e
      exact .inr ⟨ho, v, by rw [List.getElem?_set, if_pos rfl, if_pos (by rw [R.len]; exact hl)], h⟩
    · rw [if_neg hl] at e
      cases e
  · rw [if_neg z] at e
    exact .inl ⟨e, by rw [List.getElem?_set, if_neg z]⟩
/-- except C as e (slot i) -/
def dTryAs (C0 : Addr) (i : Nat) (db : PXt → DS) (dsu : Addr → List (Str × PyData) → DS) : DS := fun E s => db (fun Cx fs s1 => Cx = C0 ∧ noLockB s1.sl = true ∧ ∀ a, dsu a fs
  { nx := fun s2 => noLockB s2.sl = true ∧ E.nx ⟨s2.sl.set i .un, s2.n⟩, rt := fun d s2 => noLockB s2.sl = true ∧ E.rt d s2, bk := fun s2 => noLockB s2.sl = true ∧ E.bk ⟨s2.sl.set i .un, s2.n⟩, ct := fun s2 => noLockB s2.sl = true ∧ E.ct ⟨s2.sl.set i .un, s2.n⟩ } ⟨s1.sl.set i (.exc a), s1.n⟩) E s
theorem rs_tryAs {tb : WX → TS} {db : PXt → DS} {ts : Addr → Value → Option Addr → TS} {dsu : Addr → List (Str × PyData) → DS} {C0 : Addr} {c : Value} {i : Nat} {Wout : WX} (hex : PySem.W.exmOne K.fr (.ref C0) c = some true)
    (hb : ∀ W B H0 G0 Z0 Wx PX, XOk ⟨K.fr, W, B, H0, G0, Z0⟩ Wx PX → RS ⟨K.fr, W, B, H0, G0, Z0⟩ (tb Wx) (db PX))
    (hs : ∀ a dd xs fs W B H0 G0 Z0, Z0 dd (.xd xs) → FsIn G0 xs fs → RS ⟨K.fr, W, B, H0, G0, Z0⟩ (ts a (.ref C0) (some dd)) (dsu a fs)) :
    RS K (tTryAs K.fr c i tb ts Wout) (dTryAs C0 i db dsu) := fun C hC E s hd σ H D R o => by
  have hz : ∀ a u, C.Z a u → C.S0 a := fun a u h => (R.fz a u h).1
  subst hC
  have R1 : Rl (DC.base ⟨C.K.fr, C.W, C.S0, C.H0, C.G, C.Z⟩) σ H s := (Rl.trans (C' := DC.base ⟨C.K.fr, C.W, C.S0, C.H0, C.G, C.Z⟩) R rfl rfl rfl (fun _ h => h) (fun _ _ h => h) (fun a u h => ⟨h, hz a u h⟩) (.inl fun _ _ h => h)).1
  have back : ∀ {σ' : L2.St} {H' : Hp} {s' : DSt}, Rl (DC.base ⟨C.K.fr, C.W, C.S0, C.H0, C.G, C.Z⟩) σ' H' s' → Rl C σ' H' s' := fun {σ' H' s'} R' => (Rl.trans (C' := C) R' rfl rfl rfl (fun _ h => h) (fun _ _ h => h) (fun a u h => ⟨h, hz a u h⟩) (.inl fun _ _ h => h)).1
  refine hb C.W C.S0 C.H0 C.G C.Z _ _ (fun C'' hC'' σ1 H1 s1 Cx dd xs fs hp R2 h1 h2 h3 h4 h5 => ?_) (DC.base ⟨C.K.fr, C.W, C.S0, C.H0, C.G, C.Z⟩) rfl E s hd σ H D R1 ⟨fun σ' H' s' h R' => o.nx _ _ _ h (back R'), fun σ' v H' d s' h R' hv => o.rt _ _ _ _ _ h (back R') hv, fun σ' H' s' h R' => o.bk _ _ _ h (back R'), fun σ' H' s' h R' => o.ct _ _ _ h (back R')⟩
  obtain ⟨CK, cex, csub, cG, cZ, cg, cz⟩ := C''
  dsimp only at hC''
  subst hC''
  obtain ⟨rfl, nl, hp⟩ := hp
  refine ⟨true, hex, fun _ a na => ?_, fun z => by cases z⟩
  have R3 := (R2.pin (L := dd) (o := .xd xs) (.inr rfl) h3 h4).more (G' := FsG xs fs) h5.g
  have R4 : Rl (DC.base ⟨C.K.fr, C.W, fun b => C.S0 b ∨ b = dd, C.H0, fun v d => C.G v d ∨ FsG xs fs v d, fun b u => C.Z b u ∨ (b = dd ∧ u = .xd xs)⟩) σ1 H1 s1 := (Rl.trans (C' := DC.base ⟨C.K.fr, C.W, fun b => C.S0 b ∨ b = dd, C.H0, fun v d => C.G v d ∨ FsG xs fs v d, fun b u => C.Z b u ∨ (b = dd ∧ u = .xd xs)⟩) R3 rfl rfl rfl (fun b hb => hb.elim (fun z => .inl (csub _ _ z)) .inr) (fun v d hv => hv.elim (fun z => .inl (cg v d z)) .inr)
    (fun b u hb => hb.elim (fun z => ⟨.inl (cz b u z), .inl (hz b u z)⟩) fun z => ⟨.inr z, .inr z.1⟩) (.inr (noLock_of nl))).1
  have R5 := R4.put i (some (.ref a)) (.exc a) rfl rfl
  have down : ∀ {σ' : L2.St} {H' : Hp} {s' : DSt}, noLockB s'.sl = true → Rl (DC.base ⟨C.K.fr, C.W, fun b => C.S0 b ∨ b = dd, C.H0, fun v d => C.G v d ∨ FsG xs fs v d, fun b u => C.Z b u ∨ (b = dd ∧ u = .xd xs)⟩) σ' H' s' → Rl C σ' H' s' ∧ Same (Hd (Sof (DC.base ⟨C.K.fr, C.W, fun b => C.S0 b ∨ b = dd, C.H0, fun v d => C.G v d ∨ FsG xs fs v d, fun b u => C.Z b u ∨ (b = dd ∧ u = .xd xs)⟩) σ' s'.sl) H') (Hd (Sof C σ' s'.sl) H') :=
    fun {σ' H' s'} nl' R' => Rl.trans (C' := C) R' rfl rfl rfl (fun _ z => .inl z) (fun _ _ z => .inl z) (fun b u z => ⟨.inl z, hz b u z⟩) (.inr (noLock_of nl'))
  refine hs a dd xs fs C.W (fun b => C.S0 b ∨ b = dd) C.H0 (fun v d => C.G v d ∨ FsG xs fs v d) (fun b u => C.Z b u ∨ (b = dd ∧ u = .xd xs)) (.inr ⟨rfl, rfl⟩) (fun n d h => by
    obtain ⟨v, q1, q2⟩ := h5.ins n d h
    exact ⟨v, q1, .inr q2⟩) (DC.base _) rfl _ _ (hp a) _ H1 _ R5 ⟨fun σ' H' s' h R' => ?_, fun σ' v H' d s' h R' hv => ?_, fun σ' H' s' h R' => ?_, fun σ' H' s' h R' => ?_⟩
  · exact o.nx _ _ _ h.2 ((down h.1 R').1.put i none .un rfl trivial)
  · obtain ⟨R6, hs6⟩ := down h.1 R'
    exact o.rt _ _ _ _ _ h.2 R6 (hv.of hs6)
  · exact o.bk _ _ _ h.2 ((down h.1 R').1.put i none .un rfl trivial)
  · exact o.ct _ _ _ h.2 ((down h.1 R').1.put i none .un rfl trivial)
/-! ### what a suite reads of its exception -/
def dXf (i : Nat) (a : Addr) (f : Str) (fs : List (Str × PyData)) : DE := fun s P => s.sl[i]? = some (.exc a) ∧ match fs.lookup f with
  | some d => P d s
  | none => False
theorem exc_at {C : DC} {σ : L2.St} {H : Hp} {s : DSt} {i : Nat} {a : Addr} (R : Rl C σ H s) (h : s.sl[i]? = some (.exc a)) : σ[i]? = some (some (.ref a)) := by
  obtain ⟨sl, e1, e2⟩ := R.slots i _ h
  rw [e1, show sl = some (.ref a) from e2]
theorem re_xf {a dd Cx : Addr} {xs : List (Str × V)} {fs : List (Str × PyData)} {f : Str} {i : Nat} (hZ : K.Z0 dd (.xd xs)) (hG : FsIn K.G0 xs fs) : RE K (tXf K.fr f a Cx (.ref Cx) (some dd) (tVar i)) (dXf i a f fs) := fun C hC s P hd σ H Q R q => by
  subst hC
  obtain ⟨h1, h2⟩ := hd
  cases e : fs.lookup f with
  | none =>
    rw [e] at h2
    exact h2.elim
  | some d =>
    rw [e] at h2
    obtain ⟨v, q1, q2⟩ := hG f d e
    exact rd_var (exc_at R h1) ⟨rfl, rfl, dd, xs, v, rfl, (R.fz dd _ (C.zsub _ _ hZ)).2.2, q1, q v H d s h2 R (R.gh v d (C.gsub v d q2))⟩
def dIsS (i : Nat) (a : Addr) (b : Bool) : DE := fun s P => s.sl[i]? = some (.exc a) ∧ P (.bool b) s
theorem re_isS {a dd Cx : Addr} {xs : List (Str × V)} {i : Nat} {c : V} {cv : Value} {b : Bool} (hZ : K.Z0 dd (.xd xs)) (hc : ClsV c cv) (hk : PySem.W.kitOne K.fr (.ref Cx) cv = some b) : RE K (tCB (rIsS K.fr a Cx (.ref Cx) (some dd)) (tCons (tVar i) (tCons (tC c) tNil))) (dIsS i a b) := fun C hC s P hd σ H Q R q => by
  subst hC
  obtain ⟨h1, h2⟩ := hd
  refine rd_cb (rd_cons (rd_var (exc_at R h1) ?_))
  show rIsS C.K.fr a Cx (.ref Cx) (some dd) [.ref a, c] H Q
  exact ⟨c, cv, b, dd, xs, rfl, rfl, rfl, (R.fz dd _ (C.zsub _ _ hZ)).2.2, hc, hk, q _ H _ s h2 R (.bl b)⟩
theorem re_isST {a dd Cx : Addr} {xs : List (Str × V)} {i : Nat} {c1 c2 : V} {w1 w2 : Value} {b : Bool} (hZ : K.Z0 dd (.xd xs)) (k1 : ClsV c1 w1) (k2 : ClsV c2 w2) (hk : PySem.W.kitAny K.fr (.ref Cx) [w1, w2] = some b) :
    RE K (tCB (rIsST K.fr a Cx (.ref Cx) (some dd)) (tCons (tVar i) (tCons (tTup (tCons (tC c1) (tCons (tC c2) tNil))) tNil))) (dIsS i a b) := fun C hC s P hd σ H Q R q => by
  subst hC
  obtain ⟨h1, h2⟩ := hd
  have e := exc_at R h1
  have hx := (R.fz dd _ (C.zsub _ _ hZ)).2.2
  refine rd_cb (rd_cons (rd_var e ?_))
  show (2 ≤ sizeLine ∧ ∀ p, H p = none → rIsST C.K.fr a Cx (.ref Cx) (some dd) [.ref a, .ref p] (upd H p (.tup [c1, c2])) Q)
  exact ⟨by decide, fun p np => ⟨p, [c1, c2], [w1, w2], b, dd, xs, rfl, upd_same, rfl, rfl, by rw [upd_ne (ne_of_none hx np)]; exact hx, .cons k1 (.cons k2 .nil), hk, q _ _ _ s h2 (R.ext (same_upd np)) (.bl b)⟩⟩
end DL

set_option Elab.async false
set_option linter.all false
set_option maxRecDepth 100000
set_option maxHeartbeats 4000000
/-! XCM: what the head tells of an own exception class, joined. -/
namespace XCM
open PySem PySem.Spec PyProof.Rows L2 GG KX
def refsB (K : PySem.W.Frag) (C : Addr) : Bool := match K.lookup C with
  | some ⟨_, _, .cls cd, _⟩ => (match cd.mro with
    | _ :: bm => PySem.HandSPX.refsVE bm
    | _ => false)
  | _ => false
def oexB (K : PySem.W.Frag) (C : Addr) : Bool := refsB K C && (PySem.W.typeIn K (.ref C) == some (.type "type") && PySem.W.exmOne K (.ref C) (.ref C) == some true)
def chkI (K : PySem.W.Frag) (f : Str) (C fI : Addr) : Bool := PySem.W.typeIn K (.ref fI) == some (.type "function") && (PySem.W.findIn K (.ref C) f == some none && PySem.W.keepIn K (.ref fI))
theorem oex_of {K : PySem.W.Frag} {C : Addr} {newId : String} {tail : List Value} (T : Xc K "ValueError.__new__" tail C) (h : oexB K C = true) : OexC K C ∧ PySem.W.exmOne K (.ref C) (.ref C) = some true := by
  unfold oexB at h
  simp only [Bool.and_eq_true, beq_iff_eq] at h
  obtain ⟨h1, h2, h3⟩ := h
  obtain ⟨nm, q, N, bs, bm, sn, sub, ab, col, dd, k0, k1, k2, k3, k5, hC, _⟩ := T.cls
  refine ⟨⟨⟨nm, q, N, bs, bm, sn, sub, ab, col, dd, k0, k1, k2, k3, k5, hC, ?_⟩, T.sa, T.exC, h2, T.kC⟩, h3⟩
  unfold refsB at h1
  rw [hC] at h1
  exact h1
section
variable {P : Program} {w : World} {K : PySem.W.Frag} {mg : Str → Option Value} {base : Heap}
theorem xc_mk {x f qual : Str} {C fI C0 : Addr} {st : Stmt} {p1 p2 p3 p4 p5 p6 p7 p8 p9 p10 : Pos} {oc kV dc pm cd ct : Value} {od an : Option Addr} {sl : Array (Option Value)} (hx : mg x = some (.ref C)) (h : xcOk K "ValueError.__new__" veTail C = true) (h2 : oexB K C = true) (b : PySem.W.findIn K (.ref C) "__init__" = some (some (.ref fI))) (hI : chkI K f C fI = true)
    (l : K.lookup fI = some ⟨oc, od, .func (PySem.W.fnOf "__init__" qual (defArgs st) (defBody st) (defScope st) .none kV dc pm an cd ct), sl⟩) (c : PySem.W.codeIn K cd qual = true) (mR : mg "RoundCallsError" = some (.ref C0)) (s1 : PySem.W.specialIn K (.ref C0) "__getattribute__" = some (some (.builtin "type.__getattribute__"))) (s2 : PySem.W.readsIn K C0 (.type "type") = true) (s3 : PySem.W.findCls K (.ref C0) (.type "type") "__init__" = some (.val (.builtin "ValueError.__init__")))
    (S : FnScope ["self", f] ["self", f] (defScope st))
    (hb : defBody st = [.Expr (.Call (.Attribute (.Name "RoundCallsError" p1) "__init__" p2) [.Name "self" p3, .Name f p4] [] p5) p6, .Assign [.Attribute (.Name "self" p7) f p8] (.Name f p9) p10])
    (hn : (defScope st).names.lookup ("RoundCallsError" : Str) = some .globalImplicit) (hs : (defScope st).names.lookup ("self" : Str) = some .local) (hf : (defScope st).names.lookup f = some .local) (hd : (f == ("__debug__" : Str)) = false) (hcd : (f == ("__classdict__" : Str)) = false)
    (hc : ∀ env : Env, ∃ pl : Sem Bool, eval (.Call (.Attribute (.Name "RoundCallsError" p1) "__init__" p2) [.Name "self" p3, .Name f p4] [] p5) env = (do
      let ov ← eval (.Name "RoundCallsError" p1) env
      standAt p2.atName
      let (g, first) ← holding [ov] (getMethod ov "__init__" pl)
      callWith p5 g first (backTo p5 (starEach [.Name "self" p3, .Name f p4] env)) (backToKw p5 (keywordEach [] env))))
    (hbi : ∀ us : List Value, us.length = 2 → bindArgs (PySem.W.fnOf "__init__" qual (defArgs st) (defBody st) (defScope st) .none kV dc pm an cd ct) ⟨us, []⟩ = pure ((["self", f] : List Str).zip us)) :
    XC P w K mg base x f "ValueError.__new__" veTail C := by
  unfold chkI at hI
  simp only [Bool.and_eq_true, beq_iff_eq] at hI
  have F := fun_mk (st := st) l c hI.2.2
  have T := EXI.init_VE (P := P) (w := w) (mg := mg) (base := base) (f := f) ways_VE F S hb hn hs hf hd hcd ⟨mR, s1, s2, s3⟩ hc (by rfl)
  have X := xc_of h
  obtain ⟨o1, o2⟩ := oex_of (newId := "ValueError.__new__") X h2
  exact ⟨o1, X, hI.2.1, o2, hx, fI, _, b, hI.1, T, Binds.all hbi⟩
end
end XCM

set_option Elab.async false
set_option linter.all false
set_option maxRecDepth 100000
set_option maxHeartbeats 4000000
/-! NX: a dict of one's own whose keys are any tuples: {}, setdefault, len. -/
namespace NX
open PySem PySem.Spec PyProof.Rows L2 TK
abbrev NKV := List (List Key × Addr × V)
abbrev NR (p : List Key × Addr × V) (q : List Key × Addr × Value) : Prop := p.1 = q.1 ∧ p.2.1 = q.2.1 ∧ RelV p.2.2 q.2.2
def NmP (P : Program) (w : World) (a : Addr) (kvs : NKV) (h : Heap) : Prop := (a == sysModules) = false ∧ ∃ xs : List (List Key × Addr × Value), Paired NR kvs xs ∧ ∃ o es ep, h.get? a = some o ∧ o.ExactDict ∧ o.data = .dict es ep ∧ es.toList = xs.map (entryOfKey (tupleKind (mixKind P w))) ∧ (xs.map (·.1)).Nodup
/-- the dict at a has these keys, kept at these places, with these values -/
def NmO (P : Program) (w : World) (a : Addr) (kvs : NKV) : HO := .ext (NmP P w a kvs)
def KeysIn (K : PySem.W.Frag) (H : Hp) (kvs : NKV) : Prop := ∀ p, p ∈ kvs → SqT K H p.2.1 (p.1.map kV)
theorem nm_obj {P : Program} {w : World} {H : Hp} {h : Heap} {a : Addr} {kvs : NKV} (x : NmP P w a kvs h) : ObjOk P w H h a (NmO P w a kvs) := by
  refine ⟨x, ?_, fun h1 h2 y k => ?_⟩
  · obtain ⟨_, _, _, o, _, _, ho, _⟩ := x
    exact ⟨o, ho⟩
  · obtain ⟨y0, xs, yp, o, es, ep, ho, r⟩ := y
    exact ⟨y0, xs, yp, o, es, ep, k o ho, r⟩
def getN (kvs : NKV) (k : List Key) : Option V := (kvs.find? fun p => decide (p.1 = k)).map (·.2.2)
theorem getN_rel {kvs : NKV} {xs : List (List Key × Addr × Value)} (r : Paired NR kvs xs) (k : List Key) : RelO (getN kvs k) ((atKey xs k).map (·.2)) := by
  induction r with
  | nil => exact True.intro
  | @cons p q ps qs h t ih =>
    obtain ⟨h1, _, h2⟩ := h
    by_cases e : p.1 = k
    · have e' : q.1 = k := h1.symm.trans e
      have b : atKey (q :: qs) k = some q.2 := by simp [atKey, List.find?_cons, e']
      have c : getN (p :: ps) k = some p.2.2 := by simp [getN, List.find?_cons, e]
      rw [b, c]
      exact h2
    · have e' : ¬ q.1 = k := fun z => e (h1.trans z)
      have b : atKey (q :: qs) k = atKey qs k := by simp [atKey, List.find?_cons, e']
      have c : getN (p :: ps) k = getN ps k := by simp [getN, List.find?_cons, e]
      rw [b, c]
      exact ih
section
variable {X : Cx} {pins : List (Addr × Obj)} {σ : L2.St} {H : Hp} {s : Shared} {a b : Addr} {kvs : NKV}
theorem nm_dict (I : Inv X pins σ H s) (e : H a = some (NmO X.prog X.w a kvs)) (hk : KeysIn X.K H kvs) : (a == sysModules) = false ∧ ∃ xs, Paired NR kvs xs ∧ s.heap.DictOfH (tupleKind (mixKind X.prog X.w)) a xs := by
  obtain ⟨h0, xs, hp, o, es, ep, h1, h2, h3, h4, h5⟩ := (show ObjOk X.prog X.w H s.heap a (NmO X.prog X.w a kvs) from I.hok a _ e).1
  refine ⟨h0, xs, hp, o, es, ep, h1, h2, h3, h4, fun x hx => ?_, h5⟩
  have all : ∀ {l : NKV} {m : List (List Key × Addr × Value)}, Paired NR l m → (∀ p, p ∈ l → SqT X.K H p.2.1 (p.1.map kV)) → ∀ x ∈ m, (tupleKind (mixKind X.prog X.w)).is s.heap x.1 x.2.1 := by
    intro l m q
    induction q with
    | nil => intro _ x hx; exact nomatch hx
    | @cons p q ps qs hq t ih =>
      intro hl x hx
      rcases List.mem_cons.mp hx with e | hx
      · subst e
        have z := hl p List.mem_cons_self
        rw [hq.1, hq.2.1] at z
        exact key_ofQ I z
      · exact ih (fun y hy => hl y (List.mem_cons_of_mem _ hy)) x hx
  exact all hp hk x hx
theorem nm_type (I : Inv X pins σ H s) (e : H a = some (NmO X.prog X.w a kvs)) : s.TypeIs (.ref a) "dict" ∧ (∀ b, Value.ref a = .ref b → ∃ ob, s.heap.get? b = some ob ∧ ob.dict = none) := by
  obtain ⟨h0, xs, hp, o, es, ep, h1, h2, h3, h4, h5⟩ := (show ObjOk X.prog X.w H s.heap a (NmO X.prog X.w a kvs) from I.hok a _ e).1
  exact ⟨⟨o, h1, h2.1⟩, fun b q => by cases q; exact ⟨o, h1, h2.2.1⟩⟩
end
/-! ### readings -/
def tDNewX (P : Program) (w : World) : TE := fun _ H Q => ∀ p, H p = none → Q (.ref p) (upd H p (NmO P w p []))
def tDSetdX (P : Program) (w : World) (K : PySem.W.Frag) (td ty tx : TE) : TE := fun σ H Q => td σ H fun x H1 => (∃ a kvs, x = .ref a ∧ H1 a = some (NmO P w a kvs)) ∧ ty σ H1 fun y H2 => tx σ H2 fun z H3 => ∃ (a : Addr) (kvs : NKV) (k : List Key) (b : Addr), x = .ref a ∧ H3 a = some (NmO P w a kvs) ∧ KeysIn K H3 kvs ∧ y = .ref b ∧ SqT K H3 b (k.map kV) ∧ kvs.length < sizeLine ∧
  (∀ v, getN kvs k = some v → Q v H3) ∧ (getN kvs k = none → Q z (upd H3 a (NmO P w a (kvs ++ [(k, b, z)]))))
def rLenX (P : Program) (w : World) (K : PySem.W.Frag) : List V → Hp → VK → Prop := fun xs H Q => ∃ (p : Addr) (kvs : NKV), xs = [.ref p] ∧ H p = some (NmO P w p kvs) ∧ KeysIn K H kvs ∧ kvs.length ≤ sizeLine ∧ Q (.int ((kvs.length : Nat) : Int)) H
section
variable {X : Cx} {pos : Pos}
theorem pe_dnewX : PE X (.Dict [] [] pos) (tDNewX X.prog X.w) := ⟨fun pins s σ H Q I h =>
  wpAny_Dict_empty ⟨.ref s.heap.objs.size, _, I.laid (a := s.heap.objs.size) (o := NmO X.prog X.w s.heap.objs.size []) (t' := s.toks) (fun _ _ q => Heap.get?_push_of_some _ q) (Nat.le_refl _)
    (nm_obj ⟨beq_eq_false_iff_ne.mpr (Ne.symm (Nat.ne_of_lt I.big)), [], .nil, _, #[], 0, Heap.get?_push_size _ rfl, ⟨rfl, rfl, rfl⟩, rfl, rfl, List.nodup_nil⟩), rfl, h _ (I.hok.fresh (Nat.le_refl _))⟩⟩
theorem call_lenX : CallR X (.builtin "len") (rLenX X.prog X.w X.K) := by
  intro pins s σ H xs us Q I r h
  obtain ⟨p, kvs, rfl, hp, hk, hz, q⟩ := h
  obtain ⟨u, rfl, rx⟩ := vals1 r
  obtain rfl : u = .ref p := rx
  obtain ⟨hd, ys, rel, dd⟩ := nm_dict I hp hk
  have hl : kvs.length = ys.length := Paired.length rel
  refine call_len_dictH hd dd (by rw [← hl]; rw [sizeLine_eq] at hz; omega) ?_
  rw [← hl]
  exact ⟨.int ((kvs.length : Nat) : Int), H, I.tok _, ⟨_, rfl⟩, q⟩
theorem pe_dsetdX {o e f : Expr} {td ty tx : TE} {apos cpos : Pos} (hu : X.A.units + 1 < cLine) (ho : PE X o td) (he : PE X e ty) (hf : PE X f tx) (m : M2 X o "setdefault" apos e f cpos) : PE X (.Call (.Attribute o "setdefault" apos) [e, f] [] cpos) (tDSetdX X.prog X.w X.K td ty tx) := by
  refine ⟨fun pins s σ H Q I h => ?_⟩
  refine wpAny_Call_method m.base m.few m.line PySem.F.plainAttrs_dict PySem.F.slot_dict_setdefault PySem.F.type_dict_setdefault (thn (ho.run pins s σ H _ I h) fun u s1 ⟨x, H1, I1, rx, ⟨a, kvs0, ex, e1⟩, q1⟩ => ?_)
  subst ex
  obtain rfl : u = Value.ref a := rx
  obtain ⟨t1, t2⟩ := nm_type I1 e1
  refine ⟨t1, t2, ?_⟩
  rw [m.trees]
  refine Calls.callWith_builtin rfl (Calls.evalArgs_plain (Calls.spliced_cons (thn (he.run pins s1 σ H1 _ I1 q1) fun iv s2 ⟨y, H2, I2, ry, q2⟩ =>
    Calls.spliced_cons (thn (hf.run pins s2 σ H2 _ I2 q2) fun fv s3 ⟨z, H3, I3, rz, a', kvs, k, b, ea, e3, hk, ey, eb, hl, q3, q4⟩ => Calls.spliced_nil ?_))))
  subst ey
  obtain rfl : iv = Value.ref b := ry
  obtain rfl : a = a' := by cases ea; rfl
  obtain ⟨hd, xs, rel, dd⟩ := nm_dict I3 e3 hk
  have hz : xs.length ≤ sizeLine := by rw [← Paired.length rel]; omega
  refine call_setdefault_heap (hsz := hz) (tupleKind_room_in1 hu) (key_ofQ I3 eb) hd dd (fun p hp => ?_) fun hn h' dd' hs => ?_
  · have q := getN_rel rel k
    rw [hp] at q
    cases q0 : getN kvs k with
    | none =>
      rw [q0] at q
      exact (show False from q).elim
    | some v0 =>
      rw [q0] at q
      exact ⟨v0, _, I3.tok _, q, q3 v0 q0⟩
  · have q := getN_rel rel k
    rw [hn] at q
    cases q0 : getN kvs k with
    | some v0 =>
      rw [q0] at q
      exact (show False from q).elim
    | none =>
      have est : storedH xs k b fv = xs ++ [(k, b, fv)] := by
        unfold storedH
        rw [hn]
        rfl
      rw [est] at dd'
      obtain ⟨qo, es, ep, hq, h2, h3, h4, _, h5⟩ := dd'
      refine ⟨z, _, d_write I3 (by rw [e3]; exact True.intro) hs ⟨qo, hq⟩ (nm_obj ⟨hd, _, Paired.snoc rel ⟨rfl, rfl, rz⟩, qo, es, ep, hq, h2, h3, h4, h5⟩), rz, q4 q0⟩
end
end NX

set_option Elab.async false
set_option linter.all false
set_option maxRecDepth 100000
set_option maxHeartbeats 4000000
/-! PL2: more data functions stepped through: dicts, walks of dicts, lists as arguments. -/
namespace DL
open PySem PySem.Spec PyProof.Rows L2 GG DD PT
section
variable {P : PyData → DSt → Prop} {PA : List PyData → DSt → Prop} {PT' : Bool → DSt → Prop} {PX : List DV → DSt → Prop} {PO : PyData → Prop} {PK : List (PyData × PyData) → DSt → Prop} {s : DSt} {E : DEnds} {i j l m : Nat} {d e : PyData} {de df da db dc : DE} {dl dm : DA} {c c2 : DT} {a b : DS} {x : DX} {F : FD}
theorem w_listA {ad : Addr} {ds : List PyData} (e : s.sl[i]? = some (.arg ad ds)) (h : PA ds s) : dListVar i s PA := by unfold dListVar; rw [e]; exact h
theorem w_par3 (h : dl s fun ds s1 => match ds with
  | [d, e, f] => E.nx ⟨((s1.sl.set i (.dat d)).set j (.dat e)).set l (.dat f), s1.n⟩
  | _ => False) : dPar3 i j l dl E s := h
theorem w_par3R (h : de s fun d s1 => df s1 fun e s2 => dl s2 fun ds s3 => i ≠ j ∧ i ≠ l ∧ j ≠ l ∧ l < s3.sl.length ∧ E.nx ⟨((s3.sl.set i (.dat d)).set j (.dat e)).set l (.own ds), s3.n⟩) : dPar3R i j l de df dl E s := h
theorem w_tupLL (h0 : i ≠ j) (h : dParLL i j dl dm E s) : dTupLL i j dl dm E s := ⟨h0, h⟩
theorem w_par0L (h : i < s.sl.length ∧ j < s.sl.length ∧ i ≠ j ∧ dl ⟨s.sl, s.n⟩ fun ds s2 => s2.sl = s.sl ∧ E.nx ⟨(s2.sl.set i (.owd [])).set j (.own ds), s2.n⟩) : dPar0L i j dl E s := h
def extK (i : Nat) (E : DEnds) (d : PyData) (s1 : DSt) : Prop := match s1.sl[i]?, d with
  | some (.own ds), .list es => ds.length + es.length ≤ 1000000 ∧ E.nx ⟨s1.sl.set i (.own (ds ++ es)), s1.n⟩
  | _, _ => False
theorem w_ext (h0 : isOwnL s.sl[i]?) (h : de s fun d s1 => extK i E d s1) : dExt i de E s := ⟨h0, h⟩
theorem w_extK {ds es : List PyData} (e : s.sl[i]? = some (.own ds)) (h1 : ds.length + es.length ≤ 1000000) (h : E.nx ⟨s.sl.set i (.own (ds ++ es)), s.n⟩) : extK i E (.list es) s := by
  unfold extK
  rw [e]
  exact ⟨h1, h⟩
theorem w_pop {ds : List PyData} (e : s.sl[i]? = some (.own (ds ++ [d]))) (h : P d ⟨s.sl.set i (.own ds), s.n⟩) : dPop i s P := by
  unfold dPop
  rw [e]
  refine ⟨d, by simp, ?_⟩
  rw [List.dropLast_concat]
  exact h
theorem w_revL (h : dl s fun ds s1 => PA ds.reverse s1) : dRevL dl s PA := h
theorem w_listQ (h : de s fun d s1 => match d with
  | .list ds => PA ds s1
  | .tuple ds => PA ds s1
  | _ => False) : dListQ de s PA := h
theorem w_listDictO {kvs : List (PyData × PyData)} (e : s.sl[i]? = some (.owd kvs)) (h : PA (kvs.map (·.1)) s) : dListDict i s PA := by
  refine ⟨by rw [e]; trivial, ?_⟩
  unfold dDictVar
  rw [e]
  exact h
theorem w_lenDictO {kvs : List (PyData × PyData)} (e : s.sl[i]? = some (.owd kvs)) (h : P (.int kvs.length) s) : dLenDict i s P := by
  refine ⟨by rw [e]; trivial, ?_⟩
  unfold dDictVar
  rw [e]
  exact h
theorem w_star (h : dl s fun xs s1 => dm s1 fun ys s2 => PA (xs ++ ys) s2) : dStar dl dm s PA := h
theorem w_split (h : de s fun d s1 => match d with
  | .str a => df s1 fun e s2 => match e with
    | .str b => (b.length == 0) = false ∧ a.length ≤ 1000000 ∧ PA ((Txt.split a b).map .str) s2
    | _ => False
  | _ => False) : dSplit de df s PA := h
theorem w_intB (h : de s fun d s1 => match d with
  | .int i => P (.int i) s1
  | .bool b => P (.int (if b then 1 else 0)) s1
  | _ => False) : dIntB de s P := h
theorem w_catVarO {ds : List PyData} (e : s.sl[i]? = some (.own ds)) (h : db s fun e s1 => match e with
  | .list b => dListVar i s1 fun a s2 => a.length + b.length ≤ 1000000 ∧ PA (a ++ b) s2
  | _ => False) : dCatVar i db s PA := ⟨by rw [e]; trivial, h⟩
theorem w_catVarD (e : s.sl[i]? = some (.dat d)) (h : db s fun e s1 => match e with
  | .list b => dListVar i s1 fun a s2 => a.length + b.length ≤ 1000000 ∧ PA (a ++ b) s2
  | _ => False) : dCatVar i db s PA := ⟨by rw [e]; trivial, h⟩
/-! dicts with tuple keys -/
def getT (i : Nat) (P : PyData → DSt → Prop) (kd : PyData) (s1 : DSt) : Prop := match kT kd with
  | some k => dTupVar i s1 fun kvs s2 => ∃ d, dgetT kvs k = some d ∧ P d s2
  | none => False
theorem w_dGetT (h0 : hasVT s.sl[i]?) (h : de s fun kd s1 => getT i P kd s1) : dDGetT i de s P := ⟨h0, h⟩
theorem w_getTO {kvs : List (PyData × PyData)} {k : List L2.Key} {x : PyData} (ek : kT d = some k) (e : s.sl[i]? = some (.owt kvs)) (hx : dgetT kvs k = some x) (h : P x s) : getT i P d s := by
  unfold getT
  rw [ek]
  show dTupVar i s _
  unfold dTupVar
  rw [e]
  exact ⟨x, hx, h⟩
theorem w_getTL {ad : Addr} {o : HO} {kvs : List (PyData × PyData)} {k : List L2.Key} {x : PyData} (ek : kT d = some k) (e : s.sl[i]? = some (.lkd ad o kvs)) (hx : dgetT kvs k = some x) (h : P x s) : getT i P d s := by
  unfold getT
  rw [ek]
  show dTupVar i s _
  unfold dTupVar
  rw [e]
  exact ⟨x, hx, h⟩
theorem w_getTD {kvs : List (PyData × PyData)} {k : List L2.Key} {x : PyData} (ek : kT d = some k) (e : s.sl[i]? = some (.dat (.dict kvs))) (hh : headK kvs = false) (hx : dgetT kvs k = some x) (h : P x s) : getT i P d s := by
  unfold getT
  rw [ek]
  show dTupVar i s _
  unfold dTupVar
  rw [e]
  exact ⟨hh, x, hx, h⟩
theorem w_setT (h0 : i < s.sl.length) (h : E.nx ⟨s.sl.set i (.owt []), s.n⟩) : dSetT i E s := ⟨h0, h⟩
def putNK (i : Nat) (E : DEnds) (d : PyData) (ks : List PyData) (s2 : DSt) : Prop := ks.length ≤ 1000000 ∧ match kTs ks, s2.sl[i]? with
  | some k, some (.owt kvs) => kvs.length < 1000000 ∧ E.nx ⟨s2.sl.set i (.owt (dputT kvs k d)), s2.n⟩
  | _, _ => False
theorem w_dPutN (h : df s fun d s1 => isOwt s1.sl[i]? ∧ dl s1 fun ks s2 => putNK i E d ks s2) : dDPutN i dl df E s := h
theorem w_putNK {kvs : List (PyData × PyData)} {ks : List PyData} {k : List L2.Key} (hl : ks.length ≤ 1000000) (ek : kTs ks = some k) (e : s.sl[i]? = some (.owt kvs)) (h1 : kvs.length < 1000000) (h : E.nx ⟨s.sl.set i (.owt (dputT kvs k d)), s.n⟩) : putNK i E d ks s := by
  refine ⟨hl, ?_⟩
  rw [ek, e]
  exact ⟨h1, h⟩
def putOK (i : Nat) (E : DEnds) (d kd : PyData) (s2 : DSt) : Prop := match kT kd, s2.sl[i]? with
  | some k, some (.owt kvs) => (dgetT kvs k).isSome = true ∧ kvs.length < 1000000 ∧ E.nx ⟨s2.sl.set i (.owt (dputT kvs k d)), s2.n⟩
  | _, _ => False
theorem w_dPutO (h : df s fun d s1 => isOwt s1.sl[i]? ∧ de s1 fun kd s2 => putOK i E d kd s2) : dDPutO i de df E s := h
theorem w_putOK {kvs : List (PyData × PyData)} {kd : PyData} {k : List L2.Key} (ek : kT kd = some k) (e : s.sl[i]? = some (.owt kvs)) (hs : (dgetT kvs k).isSome = true) (h1 : kvs.length < 1000000) (h : E.nx ⟨s.sl.set i (.owt (dputT kvs k d)), s.n⟩) : putOK i E d kd s := by
  unfold putOK
  rw [ek, e]
  exact ⟨hs, h1, h⟩
theorem w_forT {g : DG} {kvs : List (PyData × PyData)} (e : s.sl[i]? = some (.owt kvs)) (hn : noLkB s.sl = true) (h : ∀ ad o, dLoop g b { nx := fun s2 => s2.sl[i]? = some (.lkd ad o kvs) ∧ noLkB (s2.sl.set i .un) = true ∧ E.nx ⟨s2.sl.set i (.owt kvs), s2.n⟩, rt := fun _ _ => False } (kvs.map (·.1)) ⟨s.sl.set i (.lkd ad o kvs), s.n⟩) : dForT i g b E s := by
  unfold dForT
  rw [e]
  refine ⟨hn, fun ad o => ?_⟩
  unfold dFor dKeysT
  have hi : i < s.sl.length := (List.getElem?_eq_some_iff.mp e).1
  rw [List.getElem?_set, if_pos rfl, if_pos hi]
  exact h ad o
theorem w_fzT {kvs : List (PyData × PyData)} (e : s.sl[i]? = some (.owt kvs)) (hn : kvs ≠ []) (h : b E ⟨s.sl.set i (.dat (.dict kvs)), s.n⟩) : dFreeze i b E s := by unfold dFreeze; rw [e]; exact ⟨hn, h⟩
theorem w_listZipT {d1 d2 : DE} (h : d1 s fun x s1 => d2 s1 fun y s2 => match x, y with
  | .tuple a, .tuple b => PA (List.zipWith (fun p q => PyData.tuple [p, q]) a b) s2
  | _, _ => False) : dListZipT d1 d2 s PA := h
/-! lists as arguments -/
def callMK (i m : Nat) (F : FM) (E : DEnds) (as : List DV) (s1 : DSt) : Prop := as.length + 1 = m ∧ match s1.sl[i]? with
  | some (.own ds) => F as ds s1.n fun _ ds' n' => E.nx ⟨s1.sl.set i (.own ds'), n'⟩
  | some (.arg a ds) => F as ds s1.n fun _ ds' n' => E.nx ⟨s1.sl.set i (.arg a ds'), n'⟩
  | _ => False
theorem w_callM {F : FM} (h : x s fun as s1 => callMK i m F E as s1) : dCallM i m F x E s := h
theorem w_callMO {F : FM} {as : List DV} {ds : List PyData} (hl : as.length + 1 = m) (e : s.sl[i]? = some (.own ds)) (h : F as ds s.n fun _ ds' n' => E.nx ⟨s.sl.set i (.own ds'), n'⟩) : callMK i m F E as s := by
  refine ⟨hl, ?_⟩
  rw [e]
  exact h
theorem w_callMA {F : FM} {as : List DV} {ad : Addr} {ds : List PyData} (hl : as.length + 1 = m) (e : s.sl[i]? = some (.arg ad ds)) (h : F as ds s.n fun _ ds' n' => E.nx ⟨s.sl.set i (.arg ad ds'), n'⟩) : callMK i m F E as s := by
  refine ⟨hl, ?_⟩
  rw [e]
  exact h
theorem w_xLast (h0 : isOwnA s.sl[i]?) (h : PX [] s) : xLast i s PX := ⟨h0, h⟩
def appAK (i : Nat) (E : DEnds) (d : PyData) (s1 : DSt) : Prop := match s1.sl[i]? with
  | some (.arg a ds) => ds.length < 1000000 ∧ E.nx ⟨s1.sl.set i (.arg a (ds ++ [d])), s1.n⟩
  | _ => False
theorem w_appA {ad : Addr} {ds : List PyData} (e : s.sl[i]? = some (.arg ad ds)) (h : de s fun d s1 => appAK i E d s1) : dAppA i de E s := ⟨by rw [e]; trivial, h⟩
theorem w_appAK {ad : Addr} {ds : List PyData} (e : s.sl[i]? = some (.arg ad ds)) (h1 : ds.length < 1000000) (h : E.nx ⟨s.sl.set i (.arg ad (ds ++ [d])), s.n⟩) : appAK i E d s := by
  unfold appAK
  rw [e]
  exact ⟨h1, h⟩
def inVK (neg : Bool) (i : Nat) (P : PyData → DSt → Prop) (d : PyData) (s1 : DSt) : Prop := match flatD d with
  | some x => dListVar i s1 fun ds s2 => ∃ vs, flatsD ds = some vs ∧ flatV x = true ∧ vs.all flatV = true ∧ P (.bool (if neg then !inV x vs else inV x vs)) s2
  | none => False
theorem w_inVar {neg : Bool} (h : de s fun d s1 => inVK neg i P d s1) : dInVar neg de i s P := h
/-! operations -/
theorem w_oI {cc : Int → Int → Prop} {g : Int → Int → Int} {p q : Int} (h0 : cc p q) (h : PO (.int (g p q))) : oI cc g (.int p) (.int q) PO := ⟨h0, h⟩
theorem w_catS {p q : Str} (h0 : p.length + q.length ≤ 1000000) (h : PO (.str (p ++ q))) : oCatS (.str p) (.str q) PO := ⟨h0, h⟩
theorem w_ixS {z : Str} {k : Int} {cc : Nat} (hz : z.length ≤ 1000000) (e : atI z.cps.toList k = some cc) (h : PO (.str ⟨#[cc]⟩)) : oIxS (.str z) (.int k) PO := ⟨hz, cc, e, h⟩
theorem w_slS {d1 d2 : DO} (h : de s fun d s1 => d1 s1 fun lo s2 => d2 s2 fun hi s3 => match d with
  | .str z => z.length ≤ 1000000 ∧ P (.str (cutS z lo hi)) s3
  | _ => False) : dSlS de d1 d2 s P := h
theorem w_sortS (h : dl s fun ds s1 => ∃ xs, strsD ds = some xs ∧ xs.length < 64 ∧ ∀ ys : List Str, ys.Perm xs → sortedS ys = true → PA (ys.map .str) s1) : dSortS dl s PA := h
theorem w_neMtL {ds : List PyData} (h : PO (.bool !ds.isEmpty)) : oNeMtL (.list ds) (.list []) PO := h
theorem w_while (I : Nat → DSt → Prop) (h0 : ∃ m, I m s) (step : ∀ m s, I m s → c s fun t s1 => if t = true then b { nx := fun s2 => ∃ m', m' < m ∧ I m' s2, rt := E.rt, ct := fun s2 => ∃ m', m' < m ∧ I m' s2, bk := E.nx } s1 else E.nx s1) : dWhile c b E s := ⟨I, h0, step⟩
/-! dict comprehensions -/
theorem w_dcomp {g : DG} {t : DT} {ek ev : DE} {vs : List Nat} (h : dl s fun items s1 => items.length ≤ 1000 ∧ noOwnB s1.sl vs = true ∧ dDc g t ek ev (wipeD s1.sl vs) items [] s1.n fun acc n => PK acc ⟨s1.sl, n⟩) : dDcomp dl g t ek ev vs s PK := h
end
/-- each item gives its pair; no draw -/
theorem dc_map {g : DG} {t : DT} {ek ev : DE} {base : List DV} {P : List (PyData × PyData) → Nat → Prop} {n : Nat} {items : List PyData} (f : PyData → L2.Key × PyData)
    (step : ∀ d, d ∈ items → ∀ (Y : PyData → PyData → Nat → Prop) (Z : Nat → Prop), Y (keyD (f d).1) (f d).2 n →
      g d (fun s1 => t s1 fun b s2 => if b = true then ek s2 fun kd s3 => ev s3 fun y s4 => s4.sl = s1.sl ∧ Y kd y s4.n else s2.sl = s1.sl ∧ Z s2.n) ⟨base, n⟩)
    (fin : P (mergeD [] (items.map f)) n) : dDc g t ek ev base items [] n P := by
  have key : ∀ (its : List PyData) (acc : List (PyData × PyData)), (∀ d, d ∈ its → d ∈ items) → mergeD acc (its.map f) = mergeD [] (items.map f) → dDc g t ek ev base its acc n P := by
    intro its
    induction its with
    | nil =>
      intro acc _ h
      have h : acc = _ := h
      rw [h]
      exact fin
    | cons d ds ih =>
      intro acc hm h
      exact step d (hm d List.mem_cons_self) (fun kd y n' => ∃ k, kOf kd = some k ∧ dDc g t ek ev base ds (dputD acc k y) n' P) (fun n' => dDc g t ek ev base ds acc n' P) ⟨(f d).1, kOf_keyD _, ih _ (fun x hx => hm x (List.mem_cons_of_mem _ hx)) h⟩
  exact key items [] (fun _ h => h) rfl
/-! what a dict with tuple keys tells -/
theorem getT_map (k k' : List L2.Key) (d : PyData) : ∀ kvs : List (PyData × PyData), dgetT (kvs.map fun p => if kT p.1 = some k then (p.1, d) else p) k' = if k = k' then (dgetT kvs k).map (fun _ => d) else dgetT kvs k'
  | [] => by
    show none = _
    split <;> rfl
  | p :: r => by
    have ih := getT_map k k' d r
    rw [List.map_cons]
    by_cases e : kT p.1 = some k
    · rw [if_pos e]
      show (if kT p.1 = some k' then some d else dgetT _ k') = _
      by_cases e2 : k = k'
      · subst e2
        rw [if_pos e, if_pos rfl]
        show _ = (if kT p.1 = some k then some p.2 else dgetT r k).map _
        rw [if_pos e]
        rfl
      · have e3 : ¬ kT p.1 = some k' := fun z => e2 (Option.some.inj (e.symm.trans z))
        rw [if_neg e3, ih, if_neg e2, if_neg e2]
        show _ = (if kT p.1 = some k' then some p.2 else dgetT r k')
        rw [if_neg e3]
    · rw [if_neg e]
      show (if kT p.1 = some k' then some p.2 else dgetT _ k') = _
      rw [ih]
      by_cases e2 : k = k'
      · subst e2
        rw [if_neg e, if_pos rfl, if_pos rfl]
        show _ = (if kT p.1 = some k then some p.2 else dgetT r k).map _
        rw [if_neg e]
      · rw [if_neg e2, if_neg e2]
        rfl
theorem getT_append (k : List L2.Key) (b : List (PyData × PyData)) : ∀ a : List (PyData × PyData), dgetT (a ++ b) k = (dgetT a k).or (dgetT b k)
  | [] => rfl
  | p :: r => by
    show (if kT p.1 = some k then some p.2 else dgetT (r ++ b) k) = (if kT p.1 = some k then some p.2 else dgetT r k).or _
    by_cases e : kT p.1 = some k
    · rw [if_pos e, if_pos e]
      rfl
    · rw [if_neg e, if_neg e]
      exact getT_append k b r
theorem getT_put (kvs : List (PyData × PyData)) (k k' : List L2.Key) (d : PyData) : dgetT (dputT kvs k d) k' = if k = k' then some d else dgetT kvs k' := by
  unfold dputT
  by_cases h : (dgetT kvs k).isSome = true
  · rw [if_pos h, getT_map]
    by_cases e : k = k'
    · rw [if_pos e, if_pos e]
      obtain ⟨x, hx⟩ := Option.isSome_iff_exists.mp h
      rw [hx]
      rfl
    · rw [if_neg e, if_neg e]
  · rw [if_neg h, getT_append]
    have hn : dgetT kvs k = none := by
      cases e : dgetT kvs k with
      | none => rfl
      | some x => rw [e] at h; exact absurd rfl h
    show (dgetT kvs k').or (if kT (.tuple (k.map keyD)) = some k' then some d else none) = _
    rw [kT_map]
    by_cases e : k = k'
    · subst e
      rw [hn, if_pos rfl, if_pos rfl]
      rfl
    · rw [if_neg (fun z => e (Option.some.inj z)), if_neg e]
      cases dgetT kvs k' <;> rfl
theorem putT_len_in {kvs : List (PyData × PyData)} {k : List L2.Key} {d : PyData} (h : (dgetT kvs k).isSome = true) : (dputT kvs k d).map (·.1) = kvs.map (·.1) := by
  unfold dputT
  rw [if_pos h, List.map_map]
  refine List.map_congr_left fun p _ => ?_
  show (if kT p.1 = some k then (p.1, d) else p).1 = p.1
  split <;> rfl
theorem putT_new {kvs : List (PyData × PyData)} {k : List L2.Key} {d : PyData} (h : dgetT kvs k = none) : dputT kvs k d = kvs ++ [(.tuple (k.map keyD), d)] := by
  unfold dputT
  rw [h, if_neg (by decide)]
end DL

set_option Elab.async false
set_option linter.all false
set_option maxRecDepth 100000
set_option maxHeartbeats 4000000
/-! PL3: steps of the data functions of exceptions, of not, of chained tests. -/
namespace DL
open PySem PySem.Spec PyProof.Rows L2 GG DD PT
section
variable {da db dc de : DE} {dx : DX} {s : DSt} {P : PyData → DSt → Prop} {E : DEnds} {PX : PXt} {m : Nat} {F : FDX} {i : Nat}
theorem w_notV (h : da s fun d s1 => match d with
  | .bool c => P (.bool (!c)) s1
  | _ => False) : dNotV da s P := h
theorem w_neg (h : da s fun d s1 => match d with
  | .int k => P (.int (-k)) s1
  | _ => False) : dNeg da s P := h
theorem w_raise {Cx : Addr} {f : Str} (h : de s fun d s1 => PX Cx [(f, d)] s1) : dRaise PX Cx f de E s := h
theorem w_callX (h : dx s fun as s1 => as.length = m ∧ F as s1.n (fun d n' => P d ⟨s1.sl, n'⟩) fun Cx fs n' => PX Cx fs ⟨s1.sl, n'⟩) : dCallX PX m F dx s P := h
theorem w_callPX {π : List Nat} {n : Nat} (h : dx s fun as s1 => as.length = n ∧ (permL π as).length = m ∧ F (permL π as) s1.n (fun d n' => P d ⟨s1.sl, n'⟩) fun Cx fs n' => PX Cx fs ⟨s1.sl, n'⟩) : dCallPX PX m F π n dx s P := h
theorem w_tryAs {C0 : Addr} {db : PXt → DS} {dsu : Addr → List (Str × PyData) → DS} (h : db (fun Cx fs s1 => Cx = C0 ∧ noLockB s1.sl = true ∧ ∀ a, dsu a fs
  { nx := fun s2 => noLockB s2.sl = true ∧ E.nx ⟨s2.sl.set i .un, s2.n⟩, rt := fun d s2 => noLockB s2.sl = true ∧ E.rt d s2, bk := fun s2 => noLockB s2.sl = true ∧ E.bk ⟨s2.sl.set i .un, s2.n⟩, ct := fun s2 => noLockB s2.sl = true ∧ E.ct ⟨s2.sl.set i .un, s2.n⟩ } ⟨s1.sl.set i (.exc a), s1.n⟩) E s) : dTryAs C0 i db dsu E s := h
theorem w_isS {a : Addr} {b : Bool} (e : s.sl[i]? = some (.exc a)) (h : P (.bool b) s) : dIsS i a b s P := ⟨e, h⟩
theorem w_xf {a : Addr} {f : Str} {fs : List (Str × PyData)} {d : PyData} (e : s.sl[i]? = some (.exc a)) (l : fs.lookup f = some d) (h : P d s) : dXf i a f fs s P := by
  refine ⟨e, ?_⟩
  rw [l]
  exact h
theorem w_chain {r r' : D2} (h : da s fun x s1 => db s1 fun y s2 => r x y fun z => match z with
  | .bool k => if k = true then dc s2 fun w s3 => r' y w fun u => P u s3 else P (.bool false) s2
  | _ => False) : dChain r r' da db dc s P := h
end
end DL

set_option Elab.async false
set_option linter.all false
set_option maxRecDepth 100000
set_option maxHeartbeats 4000000
/-! LSM: sheets in plain Lean: rows that no path tells apart, walks, the least sheet. -/
namespace LS
open PySem
abbrev Row := Str × List Nat
abbrev Sheet := List Row
def rowAt (r : Sheet) (k : Nat) : Row := r.getD k ("", [])
theorem row_mem {r : Sheet} {k : Nat} (h : k < r.length) : rowAt r k ∈ r := by
  unfold rowAt
  rw [List.getD_eq_getElem?_getD, List.getElem?_eq_getElem h]
  exact List.getElem_mem h
theorem row_some {r : Sheet} {k : Nat} (h : k < r.length) : r[k]? = some (rowAt r k) := by
  unfold rowAt
  rw [List.getD_eq_getElem?_getD, List.getElem?_eq_getElem h]
  rfl
/-- pairs of a relation -/
inductive F2 {α β : Type} (R : α → β → Prop) : List α → List β → Prop
  | nil : F2 R [] []
  | cons {x : α} {y : β} {xs : List α} {ys : List β} : R x y → F2 R xs ys → F2 R (x :: xs) (y :: ys)
section
variable {α β γ : Type} {R R' : α → β → Prop}
theorem F2.len : ∀ {xs : List α} {ys : List β}, F2 R xs ys → xs.length = ys.length
  | _, _, .nil => rfl
  | _, _, .cons _ t => by rw [List.length_cons, List.length_cons, t.len]
theorem F2.mono (h : ∀ x y, R x y → R' x y) : ∀ {xs : List α} {ys : List β}, F2 R xs ys → F2 R' xs ys
  | _, _, .nil => .nil
  | _, _, .cons a t => .cons (h _ _ a) (t.mono h)
theorem F2.monoMem : ∀ {xs : List α} {ys : List β}, F2 R xs ys → (∀ x y, x ∈ xs → y ∈ ys → R x y → R' x y) → F2 R' xs ys
  | _, _, .nil, _ => .nil
  | _, _, .cons a t, h => .cons (h _ _ List.mem_cons_self List.mem_cons_self a) (t.monoMem fun x y hx hy => h x y (List.mem_cons_of_mem _ hx) (List.mem_cons_of_mem _ hy))
theorem F2.append : ∀ {xs us : List α} {ys vs : List β}, F2 R xs ys → F2 R us vs → F2 R (xs ++ us) (ys ++ vs)
  | _, _, _, _, .nil, h => h
  | _, _, _, _, .cons a t, h => .cons a (t.append h)
theorem F2.symm {S : β → α → Prop} (h : ∀ x y, R x y → S y x) : ∀ {xs : List α} {ys : List β}, F2 R xs ys → F2 S ys xs
  | _, _, .nil => .nil
  | _, _, .cons a t => .cons (h _ _ a) (t.symm h)
theorem F2.comp {S : β → γ → Prop} {T : α → γ → Prop} (h : ∀ x y z, R x y → S y z → T x z) : ∀ {xs : List α} {ys : List β} {zs : List γ}, F2 R xs ys → F2 S ys zs → F2 T xs zs
  | _, _, _, .nil, .nil => .nil
  | _, _, _, .cons a t, .cons b u => .cons (h _ _ _ a b) (t.comp h u)
theorem F2.at : ∀ {xs : List α} {ys : List β} {i : Nat} {x : α}, F2 R xs ys → xs[i]? = some x → ∃ y, ys[i]? = some y ∧ R x y
  | _, _, _, _, .nil, e => by simp at e
  | _, _, 0, _, .cons a _, e => by
    simp at e
    subst e
    exact ⟨_, rfl, a⟩
  | _, _, i + 1, x, .cons _ t, e => by
    obtain ⟨y, h1, h2⟩ := F2.at (i := i) (x := x) t (by simpa using e)
    exact ⟨y, by simpa using h1, h2⟩
theorem F2.of_at : ∀ {xs : List α} {ys : List β}, xs.length = ys.length → (∀ (i : Nat) (x : α) (y : β), xs[i]? = some x → ys[i]? = some y → R x y) → F2 R xs ys
  | [], [], _, _ => .nil
  | [], _ :: _, h, _ => by cases h
  | _ :: _, [], h, _ => by cases h
  | x :: xs, y :: ys, h, k => .cons (k 0 x y rfl rfl) (F2.of_at (by simpa using h) fun i a b e f => k (i + 1) a b (by simpa using e) (by simpa using f))
theorem F2.refl {R : α → α → Prop} : ∀ {xs : List α}, (∀ x, x ∈ xs → R x x) → F2 R xs xs
  | [], _ => .nil
  | x :: xs, h => .cons (h x List.mem_cons_self) (F2.refl fun y hy => h y (List.mem_cons_of_mem _ hy))
theorem F2.map_left {δ : Type} {f : δ → α} : ∀ {xs : List δ} {ys : List β}, F2 (fun x y => R (f x) y) xs ys → F2 R (xs.map f) ys
  | _, _, .nil => .nil
  | _, _, .cons a t => .cons a t.map_left
theorem F2.map_right {δ : Type} {f : δ → β} : ∀ {xs : List α} {ys : List δ}, F2 (fun x y => R x (f y)) xs ys → F2 R xs (ys.map f)
  | _, _, .nil => .nil
  | _, _, .cons a t => .cons a t.map_right
theorem F2.map_eq {f : α → γ} {g : β → γ} (h : ∀ x y, R x y → f x = g y) : ∀ {xs : List α} {ys : List β}, F2 R xs ys → xs.map f = ys.map g
  | _, _, .nil => rfl
  | _, _, .cons a t => by rw [List.map_cons, List.map_cons, h _ _ a, t.map_eq h]
theorem F2.of_map_eq {f : α → γ} {g : β → γ} (h : ∀ x y, f x = g y → R x y) : ∀ {xs : List α} {ys : List β}, xs.map f = ys.map g → F2 R xs ys
  | [], [], _ => .nil
  | [], _ :: _, e => by cases e
  | _ :: _, [], e => by cases e
  | x :: xs, y :: ys, e => by
    rw [List.map_cons, List.map_cons] at e
    obtain ⟨e1, e2⟩ := List.cons.inj e
    exact .cons (h _ _ e1) (F2.of_map_eq h e2)
end
/-! ### rows that no path tells apart -/
structure G where
  tg : Nat → Str
  ch : Nat → List Nat
  nd : Nat → Prop
def Bis (g h : G) (x y : Nat) : Prop := ∃ R : Nat → Nat → Prop, R x y ∧ ∀ a b, R a b → g.nd a ∧ h.nd b ∧ g.tg a = h.tg b ∧ F2 R (g.ch a) (h.ch b)
theorem Bis.out {g h : G} {x y : Nat} (b : Bis g h x y) : g.nd x ∧ h.nd y ∧ g.tg x = h.tg y ∧ F2 (Bis g h) (g.ch x) (h.ch y) := by
  obtain ⟨R, h1, h2⟩ := b
  obtain ⟨a1, a2, a3, a4⟩ := h2 _ _ h1
  exact ⟨a1, a2, a3, a4.mono fun u v q => ⟨R, q, h2⟩⟩
theorem Bis.refl {g : G} (cl : ∀ k, g.nd k → ∀ f, f ∈ g.ch k → g.nd f) {x : Nat} (hx : g.nd x) : Bis g g x x :=
  ⟨fun a b => a = b ∧ g.nd a, ⟨rfl, hx⟩, fun a b ⟨e, h⟩ => by
    subst e
    exact ⟨h, h, rfl, F2.refl fun f hf => ⟨rfl, cl a h f hf⟩⟩⟩
theorem Bis.symm {g h : G} {x y : Nat} (b : Bis g h x y) : Bis h g y x :=
  ⟨fun a b => Bis g h b a, b, fun a b q => by
    obtain ⟨a1, a2, a3, a4⟩ := q.out
    exact ⟨a2, a1, a3.symm, a4.symm fun _ _ z => z⟩⟩
theorem Bis.trans {f g h : G} {x y z : Nat} (b : Bis f g x y) (c : Bis g h y z) : Bis f h x z :=
  ⟨fun a e => ∃ d, Bis f g a d ∧ Bis g h d e, ⟨y, b, c⟩, fun a e ⟨d, q1, q2⟩ => by
    obtain ⟨a1, a2, a3, a4⟩ := q1.out
    obtain ⟨b1, b2, b3, b4⟩ := q2.out
    exact ⟨a1, b2, a3.trans b3, a4.comp (fun _ _ _ u v => ⟨_, u, v⟩) b4⟩⟩
/-! ### walks -/
inductive Dfs (rep : Nat → Nat) (ch : Nat → List Nat) : List Nat → List Nat → List Nat → Prop
  | nil (V : List Nat) : Dfs rep ch [] V V
  | skip {a : Nat} {st V W : List Nat} : rep a ∈ V → Dfs rep ch st V W → Dfs rep ch (a :: st) V W
  | visit {a : Nat} {st V W : List Nat} : ¬ rep a ∈ V → Dfs rep ch (ch (rep a) ++ st) (V ++ [rep a]) W → Dfs rep ch (a :: st) V W
section
variable {rep : Nat → Nat} {ch : Nat → List Nat} {U : List Nat}
theorem nodup_snoc {V : List Nat} {a : Nat} (h : V.Nodup) (ha : ¬ a ∈ V) : (V ++ [a]).Nodup := by
  rw [List.nodup_append]
  exact ⟨h, by simp, fun x hx y hy e => by
    rw [List.mem_singleton] at hy
    subst hy
    exact ha (e ▸ hx)⟩
theorem sub_snoc {V : List Nat} {a : Nat} (h : V ⊆ U) (ha : a ∈ U) : (V ++ [a]) ⊆ U := fun x hx => by
  rcases List.mem_append.mp hx with hx | hx
  · exact h hx
  · rw [List.mem_singleton] at hx
    rw [hx]
    exact ha
theorem dfs_exists (hU : ∀ v, v ∈ U → rep v ∈ U ∧ ∀ f, f ∈ ch (rep v) → f ∈ U) : ∀ (m : Nat) (V : List Nat), U.length - V.length < m → V.Nodup → V ⊆ U → ∀ st : List Nat, st ⊆ U → ∃ W, Dfs rep ch st V W
  | 0, _, h, _, _, _, _ => absurd h (Nat.not_lt_zero _)
  | m + 1, V, hm, hn, hs, st, hst => by
    induction st with
    | nil => exact ⟨V, .nil V⟩
    | cons a st ih =>
      have ha : a ∈ U := hst List.mem_cons_self
      have hst' : st ⊆ U := fun x hx => hst (List.mem_cons_of_mem _ hx)
      by_cases hr : rep a ∈ V
      · obtain ⟨W, hW⟩ := ih hst'
        exact ⟨W, .skip hr hW⟩
      · have n2 := nodup_snoc hn hr
        have s2 := sub_snoc hs (hU a ha).1
        have hl := n2.length_le_of_subset s2
        rw [List.length_append, List.length_singleton] at hl
        obtain ⟨W, hW⟩ := dfs_exists hU m (V ++ [rep a]) (by rw [List.length_append, List.length_singleton]; omega) n2 s2 (ch (rep a) ++ st) fun x hx => by
          rcases List.mem_append.mp hx with hx | hx
          · exact (hU a ha).2 x hx
          · exact hst' hx
        exact ⟨W, .visit hr hW⟩
theorem dfs_split : ∀ {st V W : List Nat} {s t : List Nat}, Dfs rep ch st V W → st = s ++ t → ∃ X, Dfs rep ch s V X ∧ Dfs rep ch t X W := by
  intro st V W s t h
  induction h generalizing s with
  | nil V =>
    intro e
    obtain ⟨rfl, rfl⟩ := List.append_eq_nil_iff.mp e.symm
    exact ⟨V, .nil V, .nil V⟩
  | @skip a st V W hr h ih =>
    intro e
    cases s with
    | nil =>
      rw [List.nil_append] at e
      subst e
      exact ⟨V, .nil V, .skip hr h⟩
    | cons b s =>
      rw [List.cons_append] at e
      obtain ⟨rfl, e'⟩ := List.cons.inj e
      obtain ⟨X, h1, h2⟩ := ih e'
      exact ⟨X, .skip hr h1, h2⟩
  | @visit a st V W hr h ih =>
    intro e
    cases s with
    | nil =>
      rw [List.nil_append] at e
      subst e
      exact ⟨V, .nil V, .visit hr h⟩
    | cons b s =>
      rw [List.cons_append] at e
      obtain ⟨rfl, e'⟩ := List.cons.inj e
      obtain ⟨X, h1, h2⟩ := ih (s := ch (rep a) ++ s) (by rw [e', List.append_assoc])
      exact ⟨X, .visit hr h1, h2⟩
theorem dfs_grow (hU : ∀ v, v ∈ U → rep v ∈ U ∧ ∀ f, f ∈ ch (rep v) → f ∈ U) {st V W : List Nat} (h : Dfs rep ch st V W) : V.Nodup → V ⊆ U → st ⊆ U → W.Nodup ∧ W ⊆ U ∧ V.length ≤ W.length ∧ V ⊆ W := by
  induction h with
  | nil V => exact fun a b _ => ⟨a, b, Nat.le_refl _, fun _ h => h⟩
  | @skip a st V W hr h ih => exact fun x y z => ih x y fun q hq => z (List.mem_cons_of_mem _ hq)
  | @visit a st V W hr h ih =>
    intro x y z
    have ha := hU a (z List.mem_cons_self)
    obtain ⟨h1, h2, h3, h4⟩ := ih (nodup_snoc x hr) (sub_snoc y ha.1) fun q hq => by
      rcases List.mem_append.mp hq with hq | hq
      · exact ha.2 q hq
      · exact z (List.mem_cons_of_mem _ hq)
    rw [List.length_append, List.length_singleton] at h3
    exact ⟨h1, h2, by omega, fun q hq => h4 (List.mem_append_left _ hq)⟩
theorem dfs_sub {st V W : List Nat} (h : Dfs rep ch st V W) : V ⊆ W := by
  induction h with
  | nil V => exact fun _ h => h
  | skip _ _ ih => exact ih
  | visit _ _ ih => exact fun q hq => ih (List.mem_append_left _ hq)
theorem dfs_closed {st V W : List Nat} (h : Dfs rep ch st V W) : (∀ a, a ∈ st → rep a ∈ W) ∧ ∀ v, v ∈ W → v ∈ V ∨ ∀ f, f ∈ ch v → rep f ∈ W := by
  induction h with
  | nil V => exact ⟨fun a h => absurd h List.not_mem_nil, fun v h => .inl h⟩
  | @skip a st V W hr h ih =>
    refine ⟨fun b hb => ?_, ih.2⟩
    rcases List.mem_cons.mp hb with rfl | hb
    · exact dfs_sub h hr
    · exact ih.1 b hb
  | @visit a st V W hr h ih =>
    refine ⟨fun b hb => ?_, fun v hv => ?_⟩
    · rcases List.mem_cons.mp hb with rfl | hb
      · exact dfs_sub h (List.mem_append_right _ (List.mem_singleton.mpr rfl))
      · exact ih.1 b (List.mem_append_right _ hb)
    · rcases ih.2 v hv with q | q
      · rcases List.mem_append.mp q with q | q
        · exact .inl q
        · rw [List.mem_singleton] at q
          subst q
          exact .inr fun f hf => ih.1 f (List.mem_append_left _ hf)
      · exact .inr q
end
/-! ### two walks side by side -/
def idx (x : Nat) : List Nat → Nat
  | [] => 0
  | y :: r => if y = x then 0 else idx x r + 1
theorem idx_at : ∀ {V : List Nat} {x : Nat}, x ∈ V → V[idx x V]? = some x
  | [], _, h => absurd h List.not_mem_nil
  | y :: r, x, h => by
    unfold idx
    by_cases e : y = x
    · rw [if_pos e, e]
      rfl
    · rw [if_neg e]
      rcases List.mem_cons.mp h with q | q
      · exact absurd q.symm e
      · rw [List.getElem?_cons_succ]
        exact idx_at q
theorem idx_lt {V : List Nat} {x : Nat} (h : x ∈ V) : idx x V < V.length := (List.getElem?_eq_some_iff.mp (idx_at h)).1
theorem idx_of : ∀ {V : List Nat} {x i : Nat}, V.Nodup → V[i]? = some x → idx x V = i
  | [], _, _, _, e => by simp at e
  | y :: r, x, 0, _, e => by
    simp at e
    unfold idx
    rw [if_pos e]
  | y :: r, x, i + 1, hn, e => by
    rw [List.getElem?_cons_succ] at e
    rw [List.nodup_cons] at hn
    unfold idx
    rw [if_neg (fun z => hn.1 (by rw [z]; exact List.mem_of_getElem? e)), idx_of hn.2 e]
/-- the rows of a walk -/
def outR (tg : Nat → Str) (rep : Nat → Nat) (ch : Nat → List Nat) (W : List Nat) : Sheet := W.map fun v => (tg v, (ch v).map fun f => idx (rep f) W)
section
variable {rep1 rep2 : Nat → Nat} {ch1 ch2 : Nat → List Nat} {R : Nat → Nat → Prop}
/-- what two walks side by side keep -/
structure Lk (rep1 rep2 : Nat → Nat) (ch1 ch2 : Nat → List Nat) (R : Nat → Nat → Prop) : Prop where
  rp : ∀ a b, R a b → R (rep1 a) (rep2 b)
  ch : ∀ a b, R a b → F2 R (ch1 (rep1 a)) (ch2 (rep2 b))
  iff : ∀ a b a' b', R a b → R a' b' → (rep1 a = rep1 a' ↔ rep2 b = rep2 b')
  id1 : ∀ a b, R a b → rep1 (rep1 a) = rep1 a
  id2 : ∀ a b, R a b → rep2 (rep2 b) = rep2 b
def Rp (rep1 rep2 : Nat → Nat) (R : Nat → Nat → Prop) (x y : Nat) : Prop := R x y ∧ rep1 x = x ∧ rep2 y = y
theorem lk_eq (L : Lk rep1 rep2 ch1 ch2 R) {x y a b : Nat} (h : Rp rep1 rep2 R x y) (k : R a b) : x = rep1 a ↔ y = rep2 b := by
  have z := L.iff x y a b h.1 k
  rw [h.2.1, h.2.2] at z
  exact z
theorem lk_mem (L : Lk rep1 rep2 ch1 ch2 R) {a b : Nat} (k : R a b) : ∀ {V V' : List Nat}, F2 (Rp rep1 rep2 R) V V' → (rep1 a ∈ V ↔ rep2 b ∈ V')
  | _, _, .nil => by simp
  | _, _, .cons (x := x) (y := y) h t => by
    have e := lk_eq L h k
    have ih := lk_mem L k t
    rw [List.mem_cons, List.mem_cons, ih]
    exact ⟨fun z => z.imp (fun q => (e.mp q.symm).symm) id, fun z => z.imp (fun q => (e.mpr q.symm).symm) id⟩
theorem lk_idx (L : Lk rep1 rep2 ch1 ch2 R) {a b : Nat} (k : R a b) : ∀ {V V' : List Nat}, F2 (Rp rep1 rep2 R) V V' → idx (rep1 a) V = idx (rep2 b) V'
  | _, _, .nil => rfl
  | _, _, .cons (x := x) (y := y) h t => by
    have e := lk_eq L h k
    unfold idx
    by_cases q : x = rep1 a
    · rw [if_pos q, if_pos (e.mp q)]
    · rw [if_neg q, if_neg (fun z => q (e.mpr z)), lk_idx L k t]
theorem lk_walk (L : Lk rep1 rep2 ch1 ch2 R) {st V W : List Nat} (h : Dfs rep1 ch1 st V W) : ∀ {st' V' W' : List Nat}, F2 R st st' → F2 (Rp rep1 rep2 R) V V' → Dfs rep2 ch2 st' V' W' → F2 (Rp rep1 rep2 R) W W' := by
  induction h with
  | nil V =>
    intro st' V' W' h1 h2 h3
    cases h1
    cases h3
    exact h2
  | @skip a st V W hr h ih =>
    intro st' V' W' h1 h2 h3
    cases h1 with
    | cons q t =>
      have m := (lk_mem L q h2).mp hr
      cases h3 with
      | skip _ h3 => exact ih t h2 h3
      | visit n _ => exact absurd m n
  | @visit a st V W hr h ih =>
    intro st' V' W' h1 h2 h3
    cases h1 with
    | cons q t =>
      cases h3 with
      | skip m _ => exact absurd ((lk_mem L q h2).mpr m) hr
      | visit n h3 => exact ih ((L.ch _ _ q).append t) (h2.append (.cons ⟨L.rp _ _ q, L.id1 _ _ q, L.id2 _ _ q⟩ .nil)) h3
theorem lk_out (L : Lk rep1 rep2 ch1 ch2 R) {tg1 tg2 : Nat → Str} (ht : ∀ a b, R a b → tg1 a = tg2 b) {W W' : List Nat} (h : F2 (Rp rep1 rep2 R) W W') : outR tg1 rep1 ch1 W = outR tg2 rep2 ch2 W' := by
  refine F2.map_eq (R := Rp rep1 rep2 R) (fun x y q => ?_) h
  have c := L.ch _ _ q.1
  rw [q.2.1, q.2.2] at c
  have z := c.map_eq (f := fun f => idx (rep1 f) W) (g := fun f => idx (rep2 f) W') fun f g k => lk_idx L k h
  rw [ht _ _ q.1, z]
end
/-! ### the least sheet -/
def gr (r : Sheet) : G := ⟨fun k => (rowAt r k).1, fun k => (rowAt r k).2, fun k => k < r.length⟩
def Cl (r : Sheet) : Prop := ∀ k, k < r.length → ∀ f, f ∈ (rowAt r k).2 → f < r.length
open Classical in
/-- the first row that is not told apart from k -/
noncomputable def rp (r : Sheet) (k : Nat) : Nat := ((List.range r.length).find? fun j => decide (Bis (gr r) (gr r) j k)).getD k
theorem rp_spec {r : Sheet} (cl : Cl r) {k : Nat} (hk : k < r.length) : (rp r k < r.length ∧ Bis (gr r) (gr r) (rp r k) k) ∧ ∀ j, j < rp r k → ¬ Bis (gr r) (gr r) j k := by
  have hm : k ∈ List.range r.length := List.mem_range.mpr hk
  cases e : (List.range r.length).find? fun j => @decide (Bis (gr r) (gr r) j k) (Classical.propDecidable _) with
  | none =>
    rw [List.find?_eq_none] at e
    have := e k hm
    exact absurd (@decide_eq_true _ (Classical.propDecidable _) (Bis.refl (g := gr r) cl hk)) this
  | some j =>
    have e2 : rp r k = j := by
      unfold rp
      rw [e]
      rfl
    rw [e2]
    obtain ⟨h1, as, bs, h2, h3⟩ := List.find?_eq_some_iff_append.mp e
    have h1' : Bis (gr r) (gr r) j k := @of_decide_eq_true _ (Classical.propDecidable _) h1
    have hj : j ∈ List.range r.length := by rw [h2]; simp
    refine ⟨⟨List.mem_range.mp hj, h1'⟩, fun i hi hb => ?_⟩
    have hl : as.length = j := by
      have z : (List.range r.length)[as.length]? = some j := by rw [h2]; simp
      rw [List.getElem?_eq_some_iff] at z
      obtain ⟨_, z⟩ := z
      rw [List.getElem_range] at z
      exact z
    have hi2 : i ∈ as := by
      have z : (List.range r.length)[i]? = some i := by
        rw [List.getElem?_range (Nat.lt_trans hi (List.mem_range.mp hj))]
      rw [h2, List.getElem?_append_left (by omega)] at z
      exact List.mem_of_getElem? z
    have := h3 i hi2
    rw [@decide_eq_true _ (Classical.propDecidable _) hb] at this
    cases this
theorem rp_iff {r : Sheet} (cl : Cl r) {j k : Nat} (hj : j < r.length) (hk : k < r.length) : rp r j = rp r k ↔ Bis (gr r) (gr r) j k := by
  obtain ⟨⟨a1, a2⟩, a3⟩ := rp_spec cl hj
  obtain ⟨⟨b1, b2⟩, b3⟩ := rp_spec cl hk
  constructor
  · intro e
    rw [e] at a2
    exact a2.symm.trans b2
  · intro h
    rcases Nat.lt_trichotomy (rp r j) (rp r k) with q | q | q
    · exact absurd (a2.trans h) (b3 _ q)
    · exact q
    · exact absurd (b2.trans h.symm) (a3 _ q)
theorem rp_rp {r : Sheet} (cl : Cl r) {k : Nat} (hk : k < r.length) : rp r (rp r k) = rp r k := (rp_iff cl (rp_spec cl hk).1.1 hk).mpr (rp_spec cl hk).1.2
theorem rp_in {r : Sheet} (cl : Cl r) : ∀ v, v ∈ List.range r.length → rp r v ∈ List.range r.length ∧ ∀ f, f ∈ (gr r).ch (rp r v) → f ∈ List.range r.length := fun v hv => by
  have h := (rp_spec cl (List.mem_range.mp hv)).1.1
  exact ⟨List.mem_range.mpr h, fun f hf => List.mem_range.mpr (cl _ h f hf)⟩
def LeastAt (r : Sheet) (a : Nat) (o : Sheet) : Prop := ∃ W, Dfs (rp r) (gr r).ch [a] [] W ∧ o = outR (gr r).tg (rp r) (gr r).ch W
abbrev Least (r o : Sheet) : Prop := LeastAt r 0 o
theorem least_exists {r : Sheet} {a : Nat} (cl : Cl r) (h0 : a < r.length) : ∃ o, LeastAt r a o := by
  obtain ⟨W, hW⟩ := dfs_exists (rp_in cl) ((List.range r.length).length + 1) [] (by simp) List.nodup_nil (fun _ h => absurd h List.not_mem_nil) [a] fun x hx => by
    rw [List.mem_singleton] at hx
    rw [hx]
    exact List.mem_range.mpr h0
  exact ⟨_, W, hW, rfl⟩
/-- a walk in another system that goes along -/
theorem least_along {r o : Sheet} {b : Nat} (cl : Cl r) {rep : Nat → Nat} {g : G} {R : Nat → Nat → Prop} (L : Lk rep (rp r) g.ch (gr r).ch R) (ht : ∀ a b, R a b → g.tg a = (gr r).tg b) {a : Nat} (h0 : R a b) (hl : LeastAt r b o) {W : List Nat} (hW : Dfs rep g.ch [a] [] W) : outR g.tg rep g.ch W = o := by
  obtain ⟨W', h1, rfl⟩ := hl
  exact lk_out L ht (lk_walk L hW (.cons h0 .nil) .nil h1)
theorem least_bis {r q o p : Sheet} {x y : Nat} (cl : Cl r) (cq : Cl q) (h : Bis (gr q) (gr r) x y) (hl : LeastAt r y o) (hp : LeastAt q x p) : p = o := by
  obtain ⟨W, hW, rfl⟩ := hp
  refine least_along cl (g := gr q) (R := Bis (gr q) (gr r)) ⟨fun a b k => ?_, fun a b k => ?_, fun a b a' b' k k' => ?_, fun a b k => rp_rp cq k.out.1, fun a b k => rp_rp cl k.out.2.1⟩ (fun a b k => k.out.2.2.1) h hl hW
  · exact ((rp_spec cq k.out.1).1.2.trans k).trans (rp_spec cl k.out.2.1).1.2.symm
  · exact (((rp_spec cq k.out.1).1.2.trans k).trans (rp_spec cl k.out.2.1).1.2.symm).out.2.2.2
  · rw [rp_iff cq k.out.1 k'.out.1, rp_iff cl k.out.2.1 k'.out.2.1]
    exact ⟨fun z => (k.symm.trans z).trans k', fun z => (k.trans z).trans k'.symm⟩
theorem dfs_rep {rep : Nat → Nat} {ch : Nat → List Nat} {st V W : List Nat} (h : Dfs rep ch st V W) : ∀ v, v ∈ W → v ∈ V ∨ ∃ x, v = rep x := by
  induction h with
  | nil V => exact fun v hv => .inl hv
  | skip _ _ ih => exact ih
  | @visit a st V W _ _ ih =>
    intro v hv
    rcases ih v hv with h | h
    · rcases List.mem_append.mp h with h | h
      · exact .inl h
      · exact .inr ⟨a, List.mem_singleton.mp h⟩
    · exact .inr h
theorem dfs_stack {rep : Nat → Nat} {ch : Nat → List Nat} {U : List Nat} (hU : ∀ v, v ∈ U → rep v ∈ U ∧ ∀ f, f ∈ ch (rep v) → f ∈ U) {st V W : List Nat} (h : Dfs rep ch st V W) : st ⊆ U → ∀ v, v ∈ W → v ∈ V ∨ ∃ x, x ∈ U ∧ v = rep x := by
  induction h with
  | nil V => exact fun _ v hv => .inl hv
  | @skip a st V W _ _ ih => exact fun hs => ih fun x hx => hs (List.mem_cons_of_mem _ hx)
  | @visit a st V W _ _ ih =>
    intro hs v hv
    have ha := hs List.mem_cons_self
    rcases ih (fun x hx => by
      rcases List.mem_append.mp hx with h | h
      · exact (hU a ha).2 x h
      · exact hs (List.mem_cons_of_mem _ h)) v hv with h | h
    · rcases List.mem_append.mp h with h | h
      · exact .inl h
      · exact .inr ⟨a, ha, List.mem_singleton.mp h⟩
    · exact .inr h
/-- what a least sheet is -/
theorem least_bisW {r : Sheet} {a : Nat} (cl : Cl r) (h0 : a < r.length) {W : List Nat} (hW : Dfs (rp r) (gr r).ch [a] [] W) : Cl (outR (gr r).tg (rp r) (gr r).ch W) ∧ (∀ k, k ∈ W → k < r.length) ∧ W.Nodup ∧ 0 < W.length ∧ Bis (gr (outR (gr r).tg (rp r) (gr r).ch W)) (gr r) 0 a ∧ (∀ i v, W[i]? = some v → Bis (gr (outR (gr r).tg (rp r) (gr r).ch W)) (gr r) i v ∧ rp r v = v) := by
  have hst : [a] ⊆ List.range r.length := fun x hx => by
    rw [List.mem_singleton] at hx
    rw [hx]
    exact List.mem_range.mpr h0
  obtain ⟨g1, g2, _, _⟩ := dfs_grow (rp_in cl) hW List.nodup_nil (fun _ h => absurd h List.not_mem_nil) hst
  obtain ⟨c1, c2⟩ := dfs_closed hW
  have hm : ∀ v, v ∈ W → ∀ f, f ∈ (gr r).ch v → rp r f ∈ W := fun v hv => (c2 v hv).resolve_left List.not_mem_nil
  have hz : rp r a ∈ W := c1 a (List.mem_singleton.mpr rfl)
  have lt : ∀ k, k ∈ W → k < r.length := fun k hk => List.mem_range.mp (g2 hk)
  have le : (outR (gr r).tg (rp r) (gr r).ch W).length = W.length := by unfold outR; rw [List.length_map]
  have at' : ∀ {i v : Nat}, W[i]? = some v → rowAt (outR (gr r).tg (rp r) (gr r).ch W) i = ((gr r).tg v, ((gr r).ch v).map fun f => idx (rp r f) W) := fun {i v} e => by
    unfold rowAt outR
    rw [List.getD_eq_getElem?_getD, List.getElem?_map, e]
    rfl
  have rep : ∀ v, v ∈ W → rp r v = v := fun v hv => by
    obtain ⟨x, hx, rfl⟩ := (dfs_stack (rp_in cl) hW hst v hv).resolve_left List.not_mem_nil
    exact rp_rp cl (List.mem_range.mp hx)
  have all : ∀ i k, k < r.length → W[i]? = some (rp r k) → Bis (gr (outR (gr r).tg (rp r) (gr r).ch W)) (gr r) i k := fun i k hk e => by
    refine ⟨fun i k => k < r.length ∧ W[i]? = some (rp r k), ⟨hk, e⟩, fun i k ⟨hk, e⟩ => ?_⟩
    have hi := (List.getElem?_eq_some_iff.mp e).1
    have hb := (rp_spec cl hk).1.2
    refine ⟨by show i < _; rw [le]; exact hi, hk, ?_, ?_⟩
    · show (rowAt _ i).1 = _
      rw [at' e]
      exact hb.out.2.2.1
    · show F2 _ (rowAt _ i).2 _
      rw [at' e]
      refine F2.map_left (hb.out.2.2.2.monoMem fun f g hf hg z => ?_)
      have hf2 : f < r.length := z.out.1
      have hg2 : g < r.length := z.out.2.1
      refine ⟨hg2, ?_⟩
      rw [← (rp_iff cl hf2 hg2).mpr z]
      exact idx_at (hm _ (List.mem_of_getElem? e) f hf)
  refine ⟨fun k hk f hf => ?_, lt, g1, List.length_pos_of_mem hz, ?_, fun i v e => ⟨all i v (lt v (List.mem_of_getElem? e)) (by rw [rep v (List.mem_of_getElem? e)]; exact e), rep v (List.mem_of_getElem? e)⟩⟩
  · rw [le] at hk ⊢
    have e := List.getElem?_eq_getElem hk
    rw [at' e] at hf
    obtain ⟨f', h1, rfl⟩ := List.mem_map.mp hf
    exact idx_lt (hm _ (List.getElem_mem hk) f' h1)
  · have head : W[0]? = some (rp r a) := by
      cases hW with
      | skip h _ => exact absurd h List.not_mem_nil
      | visit _ h =>
        have key : ∀ {st V X : List Nat}, Dfs (rp r) (gr r).ch st V X → ∀ {y : Nat}, V[0]? = some y → X[0]? = some y := by
          intro st V X h
          induction h with
          | nil V => exact fun e => e
          | skip _ _ ih => exact ih
          | @visit a st V X _ _ ih =>
            intro y e
            refine ih ?_
            rw [List.getElem?_append_left (List.getElem?_eq_some_iff.mp e).1]
            exact e
        exact key h rfl
    exact all 0 a h0 head
theorem least_ok {r o : Sheet} {a : Nat} (cl : Cl r) (h0 : a < r.length) (hl : LeastAt r a o) : Cl o ∧ 0 < o.length ∧ o.length ≤ r.length ∧ Bis (gr o) (gr r) 0 a ∧ ∀ w, w ∈ o → ∃ k, k < r.length ∧ w.1 = (rowAt r k).1 ∧ w.2.length = (rowAt r k).2.length := by
  obtain ⟨W, hW, rfl⟩ := hl
  obtain ⟨h1, h2, h3, h4, h5, _⟩ := least_bisW cl h0 hW
  have le : (outR (gr r).tg (rp r) (gr r).ch W).length = W.length := by unfold outR; rw [List.length_map]
  refine ⟨h1, by rw [le]; exact h4, ?_, h5, fun w hw => ?_⟩
  · rw [le]
    have z := h3.length_le_of_subset (show W ⊆ List.range r.length from fun k hk => List.mem_range.mpr (h2 k hk))
    rwa [List.length_range] at z
  · unfold outR at hw
    obtain ⟨v, hv, rfl⟩ := List.mem_map.mp hw
    exact ⟨v, h2 v hv, rfl, List.length_map _⟩
/-- a least sheet is its own least sheet -/
theorem least_self {r o : Sheet} {a : Nat} (cl : Cl r) (h0 : a < r.length) (hl : LeastAt r a o) : Least o o := by
  obtain ⟨c, p, _, b, _⟩ := least_ok cl h0 hl
  obtain ⟨q, hq⟩ := least_exists (a := 0) c p
  rw [least_bis cl c b hl hq] at hq
  exact hq
/-- no two rows of a least sheet write the same -/
theorem least_rp {r o : Sheet} {a : Nat} (cl : Cl r) (h0 : a < r.length) (hl : LeastAt r a o) {k : Nat} (hk : k < o.length) : rp o k = k := by
  have c := (least_ok cl h0 hl).1
  obtain ⟨W, hW, rfl⟩ := hl
  obtain ⟨_, h2, h3, _, _, h6⟩ := least_bisW cl h0 hW
  have le : (outR (gr r).tg (rp r) (gr r).ch W).length = W.length := by unfold outR; rw [List.length_map]
  obtain ⟨⟨hi, b⟩, _⟩ := rp_spec c hk
  generalize rp (outR (gr r).tg (rp r) (gr r).ch W) k = i at hi b
  rw [le] at hi hk
  obtain ⟨b1, e1⟩ := h6 i _ (List.getElem?_eq_getElem hi)
  obtain ⟨b2, e2⟩ := h6 k _ (List.getElem?_eq_getElem hk)
  have z := (rp_iff cl (h2 _ (List.getElem_mem hi)) (h2 _ (List.getElem_mem hk))).mpr ((b1.symm.trans b).trans b2)
  rw [e1, e2] at z
  exact (List.getElem_inj h3).mp z
/-- the rows of a least sheet from one of its rows on -/
theorem least_from {r o p : Sheet} {a k : Nat} (cl : Cl r) (h0 : a < r.length) (hl : LeastAt r a o) (hk : k < o.length) (hp : LeastAt o k p) {W : List Nat} (hW : Dfs id (gr o).ch [k] [] W) : outR (gr o).tg id (gr o).ch W = p := by
  have c := (least_ok cl h0 hl).1
  have rr : ∀ {j}, j < o.length → rp o j = j := fun {j} hj => least_rp cl h0 hl hj
  refine least_along c (g := gr o) (R := fun x y => x = y ∧ x < o.length) ⟨fun x y ⟨e, h⟩ => ?_, fun x y ⟨e, h⟩ => ?_, fun x y x' y' ⟨e, h⟩ ⟨e', h'⟩ => ?_, fun _ _ _ => rfl, fun x y ⟨e, h⟩ => ?_⟩ (fun x y ⟨e, h⟩ => by rw [e]) ⟨rfl, hk⟩ hp hW
  · subst e
    exact ⟨(rr h).symm, h⟩
  · subst e
    rw [rr h]
    exact F2.refl fun f hf => ⟨rfl, c x h f hf⟩
  · subst e
    subst e'
    rw [rr h, rr h']
    first | done | exact Iff.rfl
  · subst e
    rw [rr h, rr h]
end LS

set_option Elab.async false
set_option linter.all false
set_option maxRecDepth 100000
set_option maxHeartbeats 4000000
/-! LSP: classes of rows made finer until they stand; marks of rows that differ. -/
namespace LS
open PySem
/-- numbers c below N, all of them, one for each key -/
structure Part {α : Type} (used : List Nat) (key : Nat → α) (c : Nat → Nat) (N : Nat) : Prop where
  lt : ∀ u, u ∈ used → c u < N
  onto : ∀ j, j < N → ∃ u, u ∈ used ∧ c u = j
  eq : ∀ u v, u ∈ used → v ∈ used → (c u = c v ↔ key u = key v)
theorem part_le {α : Type} {used : List Nat} {key : Nat → α} {c : Nat → Nat} {N : Nat} (p : Part used key c N) : N ≤ used.length := by
  have z := (List.nodup_range (n := N)).length_le_of_subset (show List.range N ⊆ used.map c from fun j hj => by
    obtain ⟨u, hu, e⟩ := p.onto j (List.mem_range.mp hj)
    exact List.mem_map.mpr ⟨u, hu, e⟩)
  rwa [List.length_range, List.length_map] at z
theorem part_pos {α : Type} {used : List Nat} {key : Nat → α} {c : Nat → Nat} {N : Nat} (p : Part used key c N) {u : Nat} (hu : u ∈ used) : 0 < N := Nat.lt_of_le_of_lt (Nat.zero_le _) (p.lt u hu)
/-- finer, but no more of them: the same -/
theorem part_same {α β : Type} {used : List Nat} {key : Nat → α} {key' : Nat → β} {c c' : Nat → Nat} {N N' : Nat} (p : Part used key c N) (p' : Part used key' c' N') (hN : N' ≤ N)
    (fine : ∀ u v, u ∈ used → v ∈ used → c' u = c' v → c u = c v) {u v : Nat} (hu : u ∈ used) (hv : v ∈ used) (e : c u = c v) : c' u = c' v := by
  by_cases h : c' u = c' v
  · exact h
  · exfalso
    obtain ⟨g, hg⟩ := Classical.axiomOfChoice fun j : Nat => (show ∃ w : Nat, j < N' → w ∈ used ∧ c' w = j from by
      by_cases hj : j < N'
      · obtain ⟨w, hw⟩ := p'.onto j hj
        exact ⟨w, fun _ => hw⟩
      · exact ⟨0, fun z => absurd z hj⟩)
    have hg2 : ∀ w, w ∈ used → c (g (c' w)) = c w := fun w hw => by
      obtain ⟨h1, h2⟩ := hg (c' w) (p'.lt w hw)
      exact fine _ _ h1 hw h2
    have sub : List.range N ⊆ ((List.range N').eraseIdx (c' u)).map fun j => c (g j) := fun j hj => by
      obtain ⟨w, hw, rfl⟩ := p.onto j (List.mem_range.mp hj)
      have ex : ∃ w', w' ∈ used ∧ c w' = c w ∧ c' w' ≠ c' u := by
        by_cases z : c' w = c' u
        · exact ⟨v, hv, by rw [← e]; exact (fine _ _ hw hu z).symm, fun q => h q.symm⟩
        · exact ⟨w, hw, rfl, z⟩
      obtain ⟨w', h1, h2, h3⟩ := ex
      refine List.mem_map.mpr ⟨c' w', ?_, by rw [hg2 w' h1]; exact h2⟩
      rw [List.mem_eraseIdx_iff_getElem?]
      exact ⟨c' w', h3, by rw [List.getElem?_range (p'.lt w' h1)]⟩
    have z := (List.nodup_range (n := N)).length_le_of_subset sub
    rw [List.length_range, List.length_map, List.length_eraseIdx_of_lt (by rw [List.length_range]; exact p'.lt u hu), List.length_range] at z
    have := p'.lt u hu
    omega
/-- the classes between the rounds -/
structure Cls (r : Sheet) (used : List Nat) (c : Nat → Nat) (N : Nat) : Prop where
  part : ∃ (α : Type) (key : Nat → α), Part used key c N
  bis : ∀ u v, u ∈ used → v ∈ used → Bis (gr r) (gr r) u v → c u = c v
  tag : ∀ u v, u ∈ used → v ∈ used → c u = c v → (gr r).tg u = (gr r).tg v
/-- the rows that are walked through -/
structure Use (r : Sheet) (used : List Nat) (a : Nat := 0) : Prop where
  ne : a ∈ used
  nd : used.Nodup
  lt : ∀ u, u ∈ used → u < r.length
  cl : ∀ u, u ∈ used → ∀ f, f ∈ (rowAt r u).2 → f ∈ used
theorem cls_first {r : Sheet} {used : List Nat} {c : Nat → Nat} {N : Nat} (p : Part used (gr r).tg c N) : Cls r used c N :=
  ⟨⟨_, _, p⟩, fun u v hu hv b => (p.eq u v hu hv).mpr b.out.2.2.1, fun u v hu hv e => (p.eq u v hu hv).mp e⟩
theorem cls_next {r : Sheet} {used : List Nat} {a0 : Nat} (U : Use r used a0) {c c' : Nat → Nat} {N N' : Nat} (h : Cls r used c N) (p : Part used (fun u => (c u, ((gr r).ch u).map c)) c' N') : Cls r used c' N' := by
  refine ⟨⟨_, _, p⟩, fun u v hu hv b => (p.eq u v hu hv).mpr ?_, fun u v hu hv e => ?_⟩
  · show (c u, ((gr r).ch u).map c) = (c v, ((gr r).ch v).map c)
    have z : ((gr r).ch u).map c = ((gr r).ch v).map c := F2.map_eq (R := fun f g => c f = c g) (fun _ _ q => q) (b.out.2.2.2.monoMem fun f g hf hg q => h.bis f g (U.cl u hu f hf) (U.cl v hv g hg) q)
    rw [h.bis u v hu hv b, z]
  · exact h.tag u v hu hv (Prod.mk.inj ((p.eq u v hu hv).mp e)).1
theorem cls_fine {r : Sheet} {used : List Nat} {c c' : Nat → Nat} {N' : Nat} (p : Part used (fun u => (c u, ((gr r).ch u).map c)) c' N') : ∀ u v, u ∈ used → v ∈ used → c' u = c' v → c u = c v := fun u v hu hv e => (Prod.mk.inj ((p.eq u v hu hv).mp e)).1
/-- the last round made nothing finer: the classes are the rows that no path tells apart -/
theorem cls_last {r : Sheet} {used : List Nat} {a0 : Nat} (U : Use r used a0) {c c' : Nat → Nat} {N N' : Nat} (h : Cls r used c N) (p : Part used (fun u => (c u, ((gr r).ch u).map c)) c' N') (hN : N' ≤ N) : ∀ u v, u ∈ used → v ∈ used → (c' u = c' v ↔ Bis (gr r) (gr r) u v) := by
  obtain ⟨α, key, q⟩ := h.part
  have h' := cls_next U h p
  have same : ∀ u v, u ∈ used → v ∈ used → c u = c v → c' u = c' v := fun u v hu hv e => part_same q p hN (cls_fine p) hu hv e
  refine fun u v hu hv => ⟨fun e => ⟨fun a b => a ∈ used ∧ b ∈ used ∧ c' a = c' b, ⟨hu, hv, e⟩, fun a b ⟨ha, hb, e⟩ => ⟨U.lt a ha, U.lt b hb, h'.tag a b ha hb e, ?_⟩⟩, h'.bis u v hu hv⟩
  have z := (Prod.mk.inj ((p.eq a b ha hb).mp e)).2
  exact (F2.of_map_eq (R := fun f g => c f = c g) (fun _ _ q => q) z).monoMem fun f g hf hg q => ⟨U.cl a ha f hf, U.cl b hb g hg, same f g (U.cl a ha f hf) (U.cl b hb g hg) q⟩
/-! ### the walk by classes -/
/-- the merged rows: of each class the row of one of its members -/
structure Mg (r : Sheet) (used : List Nat) (c : Nat → Nat) (g : G) : Prop where
  row : ∀ u, u ∈ used → ∃ w, w ∈ used ∧ c w = c u ∧ g.tg (c u) = (gr r).tg w ∧ g.ch (c u) = ((gr r).ch w).map c
theorem least_classes {r o : Sheet} {a : Nat} (cl : Cl r) {used : List Nat} (U : Use r used a) {c : Nat → Nat} (hc : ∀ u v, u ∈ used → v ∈ used → (c u = c v ↔ Bis (gr r) (gr r) u v)) {g : G} (M : Mg r used c g) (hl : LeastAt r a o) {W : List Nat} (hW : Dfs id g.ch [c a] [] W) : outR g.tg id g.ch W = o := by
  refine least_along cl (g := g) (R := fun x k => ∃ u, u ∈ used ∧ c u = x ∧ Bis (gr r) (gr r) u k) ⟨fun x k ⟨u, hu, e, b⟩ => ?_, fun x k ⟨u, hu, e, b⟩ => ?_, fun x k x' k' ⟨u, hu, e, b⟩ ⟨u', hu', e', b'⟩ => ?_, fun _ _ _ => rfl, fun x k ⟨u, hu, e, b⟩ => rp_rp cl b.out.2.1⟩ (fun x k ⟨u, hu, e, b⟩ => ?_) ⟨a, U.ne, rfl, Bis.refl (g := gr r) cl (U.lt a U.ne)⟩ hl hW
  · exact ⟨u, hu, e, b.trans (rp_spec cl b.out.2.1).1.2.symm⟩
  · obtain ⟨w, hw, e1, e2, e3⟩ := M.row u hu
    have b2 : Bis (gr r) (gr r) w (rp r k) := (((hc w u hw hu).mp e1).trans b).trans (rp_spec cl b.out.2.1).1.2.symm
    show F2 _ (g.ch x) _
    rw [← e, e3]
    exact F2.map_left (b2.out.2.2.2.monoMem fun f h hf _ q => ⟨f, U.cl w hw f hf, rfl, q⟩)
  · show x = x' ↔ _
    rw [rp_iff cl b.out.2.1 b'.out.2.1, ← e, ← e', hc u u' hu hu']
    exact ⟨fun z => (b.symm.trans z).trans b', fun z => (b.trans z).trans b'.symm⟩
  · obtain ⟨w, hw, e1, e2, _⟩ := M.row u hu
    rw [← e, e2]
    exact (((hc w u hw hu).mp e1).trans b).out.2.2.1
theorem walk_classes {r : Sheet} {used : List Nat} {a : Nat} (U : Use r used a) {c : Nat → Nat} {g : G} (M : Mg r used c g) : ∃ W, Dfs id g.ch [c a] [] W := by
  refine dfs_exists (U := used.map c) (fun x hx => ?_) ((used.map c).length + 1) [] (by simp) List.nodup_nil (fun _ h => absurd h List.not_mem_nil) [c a] fun x hx => ?_
  · obtain ⟨u, hu, rfl⟩ := List.mem_map.mp hx
    refine ⟨hx, fun f hf => ?_⟩
    obtain ⟨w, hw, _, _, e3⟩ := M.row u hu
    have hf : f ∈ g.ch (c u) := hf
    rw [e3] at hf
    obtain ⟨f', h1, rfl⟩ := List.mem_map.mp hf
    exact List.mem_map.mpr ⟨f', U.cl w hw f' h1, rfl⟩
  · rw [List.mem_singleton] at hx
    exact List.mem_map.mpr ⟨a, U.ne, hx.symm⟩
/-- the rows that a walk of the sheet itself finds -/
theorem walk_use {r : Sheet} {a : Nat} (cl : Cl r) (h0 : a < r.length) {W : List Nat} (hW : Dfs id (gr r).ch [a] [] W) : Use r W a := by
  have hU : ∀ v, v ∈ List.range r.length → id v ∈ List.range r.length ∧ ∀ f, f ∈ (gr r).ch (id v) → f ∈ List.range r.length := fun v hv => ⟨hv, fun f hf => List.mem_range.mpr (cl v (List.mem_range.mp hv) f hf)⟩
  obtain ⟨g1, g2, _, _⟩ := dfs_grow hU hW List.nodup_nil (fun _ h => absurd h List.not_mem_nil) fun x hx => by
    rw [List.mem_singleton] at hx
    rw [hx]
    exact List.mem_range.mpr h0
  obtain ⟨c1, c2⟩ := dfs_closed hW
  exact ⟨c1 a (List.mem_singleton.mpr rfl), g1, fun u hu => List.mem_range.mp (g2 hu), fun u hu f hf => (c2 u hu).resolve_left List.not_mem_nil f hf⟩
theorem walk_rows {r : Sheet} {a : Nat} (cl : Cl r) (h0 : a < r.length) : ∃ W, Dfs id (gr r).ch [a] [] W :=
  dfs_exists (U := List.range r.length) (fun v hv => ⟨hv, fun f hf => List.mem_range.mpr (cl v (List.mem_range.mp hv) f hf)⟩) ((List.range r.length).length + 1) [] (by simp) List.nodup_nil (fun _ h => absurd h List.not_mem_nil) [a] fun x hx => by
    rw [List.mem_singleton] at hx
    rw [hx]
    exact List.mem_range.mpr h0
/-! ### marks -/
/-- the same tag: as many fields -/
def Ar (r : Sheet) : Prop := ∀ j k, j < r.length → k < r.length → (rowAt r j).1 = (rowAt r k).1 → (rowAt r j).2.length = (rowAt r k).2.length
/-- marked rows differ -/
def Sound (r : Sheet) (m : Nat → Nat → Bool) : Prop := ∀ j k, j < r.length → k < r.length → m j k = true → ¬ Bis (gr r) (gr r) j k
theorem sound_tag {r : Sheet} {m : Nat → Nat → Bool} (h : ∀ j k, j < r.length → k < r.length → m j k = !decide ((rowAt r j).1 = (rowAt r k).1)) : Sound r m := fun j k hj hk e b => by
  rw [h j k hj hk] at e
  have z : (rowAt r j).1 = (rowAt r k).1 := b.out.2.2.1
  rw [decide_eq_true z] at e
  cases e
/-- nothing more is to be marked -/
theorem marks_done {r : Sheet} (cl : Cl r) (ar : Ar r) {m : Nat → Nat → Bool} (hs : Sound r m) (ht : ∀ j k, j < r.length → k < r.length → m j k = false → (rowAt r j).1 = (rowAt r k).1)
    (hd : ∀ j k, j < r.length → k < r.length → m j k = false → ∀ (i x y : Nat), (rowAt r j).2[i]? = some x → (rowAt r k).2[i]? = some y → m x y = false) : ∀ j k, j < r.length → k < r.length → (m j k = false ↔ Bis (gr r) (gr r) j k) := fun j k hj hk => by
  refine ⟨fun e => ⟨fun a b => a < r.length ∧ b < r.length ∧ m a b = false, ⟨hj, hk, e⟩, fun a b ⟨ha, hb, e⟩ => ⟨ha, hb, ht a b ha hb e, ?_⟩⟩, fun b => ?_⟩
  · exact F2.of_at (ar a b ha hb (ht a b ha hb e)) fun i x y hx hy => ⟨cl a ha x (List.mem_of_getElem? hx), cl b hb y (List.mem_of_getElem? hy), hd a b ha hb e i x y hx hy⟩
  · cases e : m j k with
    | false => rfl
    | true => exact absurd b (hs j k hj hk e)
/-- one more mark -/
theorem sound_more {r : Sheet} (cl : Cl r) {m m' : Nat → Nat → Bool} (hs : Sound r m) (h : ∀ j k, j < r.length → k < r.length → m' j k = true → m j k = true ∨ ∃ (i x y : Nat), (rowAt r j).2[i]? = some x ∧ (rowAt r k).2[i]? = some y ∧ m x y = true) : Sound r m' := fun j k hj hk e b => by
  rcases h j k hj hk e with q | ⟨i, x, y, h1, h2, h3⟩
  · exact hs j k hj hk q b
  · obtain ⟨y', h4, h5⟩ := b.out.2.2.2.at h1
    have z : (rowAt r k).2[i]? = some y' := h4
    rw [h2] at z
    cases z
    exact hs x y h5.out.1 h5.out.2.1 h3 h5
end LS

namespace K07
open PySem
def topS (i : Nat) : Stmt := PySem.Challenge.pw_roundcalls_k07_tags_and_parts_at_paths.main.body.getD i (.Pass ⟨0, 0, 0, 0⟩)
end K07

set_option Elab.async false
set_option linter.all false
set_option maxRecDepth 100000
set_option maxHeartbeats 4000000
/-! N07: numbered, by hand: keys numbered by where they come first. -/
namespace K07
open PySem PySem.Spec PyProof.Rows L2 GG DD PT DL TK NX
abbrev s_numbered : Stmt := topS 6
theorem sc_numbered : FnScope ["keys", "names", "numbers", "row", "key"] ["keys"] (defScope s_numbered) := ⟨rfl, rfl, rfl, by decide +kernel, rfl, by decide +kernel, by decide +kernel⟩
/-- where x stands in seen -/
def idxOf {α : Type} [DecidableEq α] (x : α) : List α → Option Nat
  | [] => none
  | y :: r => if y = x then some 0 else (idxOf x r).map (· + 1)
/-- the numbers, by first occurrence -/
def numOf {α : Type} [DecidableEq α] (seen : List α) : List α → List Nat
  | [] => []
  | x :: r => match idxOf x seen with
    | some j => j :: numOf seen r
    | none => seen.length :: numOf (seen ++ [x]) r
def seenOf {α : Type} [DecidableEq α] (seen : List α) : List α → List α
  | [] => seen
  | x :: r => match idxOf x seen with
    | some _ => seenOf seen r
    | none => seenOf (seen ++ [x]) r
def Ext (Hb : Hp) (nm : Addr) (H : Hp) : Prop := ∀ b o, b ≠ nm → Hb b = some o → H b = some o
def accK {α : Type} [DecidableEq α] (rows : List (L2.Key × α)) (seen : List α) (acc : List (L2.Key × V)) : List (L2.Key × V) := mergeK acc ((rows.map (·.1)).zip ((numOf seen (rows.map (·.2))).map fun j => V.int (j : Nat)))
theorem num_dc {α : Type} [DecidableEq α] {K : PySem.W.Frag} {Hb : Hp} {nm d : Addr} {od : Obj} {es : List (L2.Key × V)} {rows : List (L2.Key × α)} {tv : TE} {Q : VK} (L : α → V → Prop) (N : List α → Hp → Prop)
    (hd : Hb d = some (.frz od (.dK es))) (hne : d ≠ nm) (hnm : ∃ o, Hb nm = some o) (hlen : rows.length ≤ 1000) (hes : es.length = rows.length) (hrow : ∀ (i : Nat) (p : L2.Key × α), rows[i]? = some p → ∃ v, es[i]? = some (p.1, v) ∧ L p.2 v)
    (hN : ∀ seen H H', N seen H → H' nm = H nm → Ext Hb nm H' → N seen H') (h0 : N [] Hb) (hNs : ∀ seen H, N seen H → ∃ o, H nm = some o)
    (step : ∀ seen x v H', Ext Hb nm H' → N seen H' → L x v → seen.length ≤ 1000 → ∀ (σ2 : L2.St) (Q' : VK), σ2[1]? = some (some (V.ref nm)) → σ2[4]? = some (some v) → (∀ j, idxOf x seen = some j → Q' (.int (j : Nat)) H') → (idxOf x seen = none → ∀ H'', N (seen ++ [x]) H'' → (∀ b, b ≠ nm → H'' b = H' b) → Q' (.int (seen.length : Nat)) H'') → tv σ2 H' Q')
    (q : ∀ D H', Ext Hb nm H' → Hb D = none → H' D = some (.dK (accK rows [] [])) → N (seenOf [] (rows.map (·.2))) H' → Q (.ref D) H') :
    tDc (iItems (tVar 0)) (gTup K 2 (gCons (gName 3) (gCons (gName 4) gNil))) tYes (tVar 3) tv [3, 4] [some (.ref d), some (.ref nm), none, none, none] Hb Q := by
  refine ⟨.ref d, rfl, d, od, es, rfl, hd, fun D nD => ?_⟩
  have hDn : D ≠ nm := fun z => by
    obtain ⟨o, ho⟩ := hnm
    rw [z, ho] at nD
    cases nD
  have hDd : D ≠ d := fun z => by
    rw [z, hd] at nD
    cases nD
  refine ⟨fun i m H' => i + m = rows.length ∧ ∃ acc seen, H' D = some (.dK acc) ∧ Ext Hb nm H' ∧ N seen H' ∧ acc.length ≤ i ∧ seen.length ≤ i ∧ accK (rows.drop i) seen acc = accK rows [] [] ∧ seenOf seen ((rows.drop i).map (·.2)) = seenOf [] (rows.map (·.2)), ⟨rows.length, Nat.zero_add _, [], [], upd_same, fun b o hb e => ?_, hN _ _ _ h0 (upd_ne hDn.symm) (fun b o hb e => ?_), Nat.le_refl _, Nat.le_refl _, rfl, rfl⟩, fun i m H' ⟨em, acc, seen, e1, ex, hn, ha, hs, e2, e3⟩ => ?_⟩
  · rw [upd_ne (ne_of_none e nD)]
    exact e
  · rw [upd_ne (ne_of_none e nD)]
    exact e
  have hd' : H' d = some (.frz od (.dK es)) := ex d _ hne hd
  by_cases hm : m = 0
  · subst hm
    have ei : i = rows.length := by omega
    subst ei
    rw [List.drop_length] at e2 e3
    have e2' : acc = accK rows [] [] := e2
    refine .inl ⟨⟨hd', by omega⟩, q D H' ex nD (e2' ▸ e1) (e3 ▸ hn)⟩
  · have hlt : i < rows.length := by omega
    refine .inr ⟨⟨hd', by omega⟩, fun H'' => ∃ acc seen, H'' D = some (.dK acc) ∧ Ext Hb nm H'' ∧ N seen H'' ∧ acc.length ≤ i + 1 ∧ seen.length ≤ i + 1 ∧ accK (rows.drop (i + 1)) seen acc = accK rows [] [] ∧ seenOf seen ((rows.drop (i + 1)).map (·.2)) = seenOf [] (rows.map (·.2)), fun H'' k => ⟨m - 1, by omega, by omega, k⟩, fun x H'' hy => ?_⟩
    obtain ⟨T, k, v, hkv, rfl, nT, rfl⟩ := hy
    obtain ⟨v', hv', hL⟩ := hrow i _ (List.getElem?_eq_getElem hlt)
    rw [hkv] at hv'
    have hk1 : k = (rows[i]).1 := by injection hv' with z; injection z
    have hk2 : v = v' := by injection hv' with z; injection z
    subst hk2
    have hTd : T ≠ D := fun z => by
      rw [z, e1] at nT
      cases nT
    have e1' : upd H' T (.tup [kV k, v]) D = some (.dK acc) := by rw [upd_ne hTd.symm]; exact e1
    have ex' : Ext Hb nm (upd H' T (.tup [kV k, v])) := fun b o hb e => by
      rw [upd_ne (ne_of_none (ex b o hb e) nT)]
      exact ex b o hb e
    have hTn : T ≠ nm := fun z => by
      obtain ⟨o, ho⟩ := hNs _ _ hn
      rw [z, ho] at nT
      cases nT
    have hn' := hN _ _ _ hn (upd_ne hTn.symm) ex'
    refine rd_gnn (.inl (.inl upd_same)) ?_
    refine ⟨rfl, rd_yes ?_⟩
    refine rd_var (v := kV k) rfl ?_
    have ed : rows.drop i = rows[i] :: rows.drop (i + 1) := List.drop_eq_getElem_cons hlt
    rw [ed] at e2 e3
    refine step seen rows[i].2 v _ ex' hn' hL (by omega) _ _ rfl rfl (fun j hj => ?_) fun hj H3 hn3 h3 => ?_
    · refine ⟨acc, k, rfl, e1', by have := sz6; omega, putK acc k (.int (j : Nat)), seen, upd_same, fun b o hb e => ?_, hN _ _ _ hn' (upd_ne hDn.symm) (fun b o hb e => ?_), by have := length_putK acc k (V.int (j : Nat)); omega, by omega, ?_, ?_⟩
      · rw [upd_ne (ne_of_none e nD)]
        exact ex' b o hb e
      · rw [upd_ne (ne_of_none e nD)]
        exact ex' b o hb e
      · rw [← e2]
        unfold accK
        rw [List.map_cons, List.map_cons, numOf, hj, hk1]
        rfl
      · rw [← e3, List.map_cons, seenOf, hj]
    · have e1'' : H3 D = some (.dK acc) := by rw [h3 D hDn]; exact e1'
      have ex3 : Ext Hb nm H3 := fun b o hb e => by rw [h3 b hb]; exact ex' b o hb e
      refine ⟨acc, k, rfl, e1'', by have := sz6; omega, putK acc k (.int (seen.length : Nat)), seen ++ [rows[i].2], upd_same, fun b o hb e => ?_, hN _ _ _ hn3 (upd_ne hDn.symm) (fun b o hb e => ?_), by have := length_putK acc k (V.int (seen.length : Nat)); omega, by rw [List.length_append]; show seen.length + 1 ≤ _; omega, ?_, ?_⟩
      · rw [upd_ne (ne_of_none e nD)]
        exact ex3 b o hb e
      · rw [upd_ne (ne_of_none e nD)]
        exact ex3 b o hb e
      · rw [← e2]
        unfold accK
        rw [List.map_cons, List.map_cons, numOf, hj, hk1]
        rfl
      · rw [← e3, List.map_cons, seenOf, hj]
def numR {α : Type} [DecidableEq α] (rows : List (L2.Key × α)) : PyData := .tuple [.dict (mergeD [] ((rows.map (·.1)).zip ((numOf [] (rows.map (·.2))).map fun j => PyData.int (j : Nat)))), .int ((seenOf [] (rows.map (·.2))).length : Nat)]
def F_num : FD := fun as n P => match as with
  | [.dat (.dict kvs)] => kvs.length ≤ 1000 ∧ ((∃ rows : List (L2.Key × Str), kvs = rows.map (fun p => (keyD p.1, .str p.2)) ∧ P (numR rows) n) ∨ ∃ rows : List (L2.Key × List L2.Key), rows ≠ [] ∧ kvs = rows.map (fun p => (keyD p.1, .tuple (p.2.map keyD))) ∧ P (numR rows) n)
  | _ => False
theorem seen_len {α : Type} [DecidableEq α] : ∀ (l seen : List α), (seenOf seen l).length ≤ seen.length + l.length
  | [], _ => Nat.le_refl _
  | x :: r, seen => by
    unfold seenOf
    split
    · have := seen_len r seen
      rw [List.length_cons]
      omega
    · have := seen_len r (seen ++ [x])
      rw [List.length_append, List.length_singleton] at this
      rw [List.length_cons]
      omega
/-! names, as the dict has them -/
def seenL {α β : Type} (f : α → β) (k : Nat) : List α → List (β × V)
  | [] => []
  | x :: r => (f x, .int (k : Nat)) :: seenL f (k + 1) r
theorem seenL_len {α β : Type} (f : α → β) : ∀ (l : List α) (k : Nat), (seenL f k l).length = l.length
  | [], _ => rfl
  | _ :: r, k => by rw [seenL, List.length_cons, List.length_cons, seenL_len f r]
theorem seenL_snoc {α β : Type} (f : α → β) (x : α) : ∀ (l : List α) (k : Nat), seenL f k (l ++ [x]) = seenL f k l ++ [(f x, .int ((k + l.length : Nat)))]
  | [], k => rfl
  | y :: r, k => by
    show (f y, _) :: seenL f (k + 1) (r ++ [x]) = (f y, _) :: (seenL f (k + 1) r ++ _)
    rw [seenL_snoc f x r (k + 1), List.length_cons]
    congr 4
    congr 2
    omega
theorem seenL_val {α β : Type} [DecidableEq α] [DecidableEq β] (f : α → β) (hf : ∀ x y, f x = f y → x = y) (x : α) : ∀ (l : List α) (k : Nat), valV (seenL f k l) (f x) = (idxOf x l).map fun j => V.int ((k + j : Nat) : Int)
  | [], _ => rfl
  | y :: r, k => by
    unfold seenL idxOf
    by_cases e : y = x
    · subst e
      rw [if_pos rfl, valV_pos (p := (f y, V.int (k : Nat))) rfl]
      rfl
    · rw [if_neg e, valV_neg (p := (f y, V.int (k : Nat))) (fun z => e (hf _ _ z)), seenL_val f hf x r (k + 1), Option.map_map]
      congr 1
      funext j
      show V.int ((k + 1 + j : Nat) : Int) = V.int ((k + (j + 1) : Nat) : Int)
      congr 2
      omega
theorem getN_val : ∀ (kvs : NKV) (k : List L2.Key), getN kvs k = valV (kvs.map fun p => (p.1, p.2.2)) k
  | [], _ => rfl
  | p :: r, k => by
    by_cases e : p.1 = k
    · rw [List.map_cons, valV_pos (p := (p.1, p.2.2)) e]
      simp [getN, List.find?_cons, e]
    · rw [List.map_cons, valV_neg (p := (p.1, p.2.2)) e, ← getN_val r k]
      simp [getN, List.find?_cons, e]
theorem rowsA {H : Hp} {K : PySem.W.Frag} {β : Type} (g : β → PyData) : ∀ {rows : List (L2.Key × β)} {es : List (L2.Key × V)}, DaKv K H es (rows.map fun p => (keyD p.1, g p.2)) → es.length = rows.length ∧ ∀ (i : Nat) (p : L2.Key × β), rows[i]? = some p → ∃ v, es[i]? = some (p.1, v) ∧ Da K H v (g p.2)
  | [], _, h => by
    cases h
    exact ⟨rfl, fun i p e => by simp at e⟩
  | (k, b) :: rows, es, h => by
    have h' : DaKv K H es ((keyD k, g b) :: rows.map fun p => (keyD p.1, g p.2)) := h
    generalize hx : keyD k = x at h'
    cases h' with
    | cons h1 h2 =>
      rename_i k' v r
      have ek : k' = k := by
        have z := kOf_keyD k'
        rw [← hx, kOf_keyD] at z
        exact (Option.some.inj z).symm
      subst ek
      obtain ⟨h3, h4⟩ := rowsA g h2
      refine ⟨by rw [List.length_cons, List.length_cons, h3], fun i p e => ?_⟩
      cases i with
      | zero =>
        simp at e
        subst e
        exact ⟨v, rfl, h1⟩
      | succ i => exact h4 i p (by simpa using e)
theorem not_dct {H : Hp} {K : PySem.W.Frag} {β : Type} (g : β → PyData) {rows : List (L2.Key × β)} {es : List (List L2.Key × V)} (hn : es ≠ []) (h : DaKt K H es (rows.map fun p => (keyD p.1, g p.2))) : False := by
  cases rows with
  | nil =>
    cases h
    exact hn rfl
  | cons p r =>
    have h' : DaKt K H es ((keyD p.1, g p.2) :: r.map fun p => (keyD p.1, g p.2)) := h
    generalize hx : keyD p.1 = x at h'
    cases h' with
    | cons h1 h2 =>
      cases e : p.1 <;> rw [e] at hx <;> cases hx
theorem accK_da {K : PySem.W.Frag} {H : Hp} {α : Type} [DecidableEq α] (rows : List (L2.Key × α)) : DaKv K H (accK rows [] []) (mergeD [] ((rows.map (·.1)).zip ((numOf [] (rows.map (·.2))).map fun j => PyData.int (j : Nat)))) := by
  unfold accK
  refine merge_da ?_ .nil
  generalize rows.map (·.1) = ks
  generalize numOf [] (rows.map (·.2)) = js
  induction ks generalizing js with
  | nil => exact .nil
  | cons k ks ih =>
    cases js with
    | nil => exact .nil
    | cons j js => exact .cons ⟨rfl, .int _⟩ (ih js)
theorem sq_ext {K : PySem.W.Frag} {Hb H' : Hp} {nm t : Addr} {xs : List V} (h : SqT K Hb t xs) (ht : t ≠ nm) (e : Ext Hb nm H') : SqT K H' t xs := by
  rcases h with (h | ⟨o, h⟩) | h
  · exact .inl (.inl (e _ _ ht h))
  · exact .inl (.inr ⟨o, e _ _ ht h⟩)
  · exact .inr h
theorem num_end {α : Type} [DecidableEq α] {K : PySem.W.Frag} {W : Wo} {S0 : Addr → Prop} {H H1 : Hp} {d nm D p : Addr} {o0 : HO} {es : List (L2.Key × V)} {od o : Obj} {rows : List (L2.Key × α)} {n : Nat} {PP : PyData → Nat → Prop} {Q : VK} (T : Taken H S0) (dk : DkOk W H n) (hP : PP (numR rows) n)
    (q : ∀ v H' d n', PP d n' → DkOk W H' n' → ButW W H H' → Da K (Hd S0 H') v d → Q v H') (eH : H d = some (.dK es)) (nN : H nm = none) (ex : Ext (upd (upd H nm o0) d (.frz od (.dK es))) nm H1) (nD : upd (upd H nm o0) d (.frz od (.dK es)) D = none) (eD : H1 D = some (.dK (accK rows [] []))) (np : upd H1 d (.dK es) p = none) (eo : o.dict = none) :
    Q (.ref p) (upd (upd H1 d (.dK es)) p (.frz o (.tup [.ref D, .int ((seenOf [] (rows.map (·.2))).length : Nat)]))) := by
  have dnm : d ≠ nm := ne_of_none eH nN
  have hDd : D ≠ d := fun z => by rw [z, upd_same] at nD; cases nD
  have hDn : D ≠ nm := fun z => by rw [z, upd_ne dnm.symm, upd_same] at nD; cases nD
  have nD0 : H D = none := by
    rw [upd_ne hDd, upd_ne hDn] at nD
    exact nD
  have s1 : Same H (upd H1 d (.dK es)) := fun b u e => by
    have hb : b ≠ nm := ne_of_none e nN
    by_cases hd : b = d
    · subst hd
      rw [eH] at e
      cases e
      exact upd_same
    · rw [upd_ne hd]
      exact ex b u hb (by rw [upd_ne hd, upd_ne hb]; exact e)
  have s2 := s1.trans (same_upd (o := .frz o (.tup [.ref D, .int ((seenOf [] (rows.map (·.2))).length : Nat)])) np)
  have np0 : H p = none := s1.free np
  have hpD : D ≠ p := fun z => by
    rw [← z, upd_ne hDd, eD] at np
    cases np
  refine q _ _ _ n hP (dk.same s2) (ButW.of s2) ?_
  refine .tup (xs := [.ref D, .int ((seenOf [] (rows.map (·.2))).length : Nat)]) (.inl ⟨o, ?_, eo⟩) (.cons (.dic (a := D) ?_ (accK_da rows)) (.cons (.int _) .nil))
  · rw [hd_ne (T.ne np0), upd_same]
  · rw [hd_ne (T.ne nD0), upd_ne hpD, upd_ne hDd]
    exact eD
section
variable {P : Program} {w : World} {K : PySem.W.Frag} {mg : Str → Option Value} {base : Heap}
theorem ok_numbered {f : Addr} {fd : FuncData} (F : L2.Fun K "numbered" "numbered" s_numbered f fd) (m_len : mg "len" = none) : Fg P w K mg base 1 f fd ["keys"] (spOf K 1 F_num) := by
  refine okg F sc_numbered (fun vs H Q h => h.1) (fun cdv A outer s H vs Q hr h => ?_)
  refine ⟨_, (pss_cons (ps_set (i := 1) sc_numbered.nd rfl (Or.inr rfl) (pe_or2 pe_dnewK pe_dnewX)) (pss_cons (ps_lock (SD.ps_setDc (i := 2) (own := [("row", 3), ("key", 4)]) (g := gTup K 2 (gCons (gName 3) (gCons (gName 4) gNil))) (tv := _) rfl sc_numbered.nd rfl rfl (SD.sw_trueD rfl rfl rfl (by decide +kernel)) (pi_items (pv 0)) (blkOk_by (own := [("row", 3), ("key", 4)]) (N := ["keys", "names", "numbers", "row", "key"]) (sc := defScope s_numbered) (by decide +kernel)) (fun _ _ _ _ _ => (pg_tup rfl (pgs_cons (pg_name (i := 3) sc_numbered.nd rfl (Or.inl rfl)) (pgs_cons (pg_name (i := 4) sc_numbered.nd rfl (Or.inl rfl)) pgs_nil)))) (fun _ _ _ _ _ => pts_nil) (fun _ _ _ _ _ => (pv 3)) (fun _ _ _ _ _ => (pe_or2 (t := tDSetd _ _ _) (u := tDSetdX P w K (tVar 1) (tVar 4) (tCB (rLenX P w K) (tCons (tVar 1) tNil))) (pe_dsetd (pv 1) (pv 4) (pe_callB call_lenD (by rfl) m_len (by decide +kernel) (pa_cons (pv 1) pa_nil)) ⟨by rfl, by rfl, by rfl, by rfl⟩) (pe_dsetdX (hu_of hr.room) (pv 1) (pv 4) (pe_callB call_lenX (by rfl) m_len (by decide +kernel) (pa_cons (pv 1) pa_nil)) ⟨by rfl, by rfl, by rfl, by rfl⟩))))) (pss_one (ps_ret (pe_tupP (pa_cons (pv 2) (pa_cons (pe_or2 (pe_callB call_lenD (by rfl) m_len (by decide +kernel) (pa_cons (pv 1) pa_nil)) (pe_callB call_lenX (by rfl) m_len (by decide +kernel) (pa_cons (pv 1) pa_nil))) pa_nil))))))), ?_⟩
  obtain ⟨hl, W, S0, n, as, PP, T, dk, hm, ha, hF, q⟩ := h
  unfold F_num at hF
  split at hF
  · rename_i kvs
    cases ha with
    | cons h1 h2 =>
      cases h2
      have h1 : Da K (Hd S0 H) _ (.dict kvs) := h1
      obtain ⟨hlen, hF⟩ := hF
      rcases hF with ⟨rows, rfl, hP⟩ | ⟨rows, hrn, rfl, hP⟩
      · rw [List.length_map] at hlen
        cases h1 with
        | dct _ hn hk => exact (not_dct (fun x : Str => PyData.str x) hn hk).elim
        | @dic d es _ e1 hk =>
          obtain ⟨zS, e1⟩ := hd_some e1
          obtain ⟨hl2, hrow⟩ := rowsA (fun x : Str => PyData.str x) hk
          refine rd_set (.inl fun nm nN => ?_)
          have dnm : d ≠ nm := ne_of_none e1 nN
          refine rd_seq ⟨d, .dK es, by rw [upd_ne dnm]; exact e1, True.intro, fun od => ?_⟩
          refine num_dc (K := K) (rows := rows) (od := od) (es := es) (nm := nm) (fun x v => v = .str x) (fun seen H' => H' nm = some (.dK (seenL (fun x : Str => (Sum.inr x : L2.Key)) 0 seen))) upd_same dnm ⟨_, by rw [upd_ne dnm.symm]; exact upd_same⟩ hlen hl2 (fun i p e => ?_) (fun seen H1 H2 z e _ => e.trans z) (by rw [upd_ne dnm.symm]; exact upd_same) (fun seen H1 z => ⟨_, z⟩) (fun seen x v H1 ex hn hx hs σ2 Q' z1 z4 q1 q2 => ?_) (fun D H1 ex nD eD hn => ?_)
          · obtain ⟨v, g1, g2⟩ := hrow i p e
            cases g2
            exact ⟨_, g1, rfl⟩
          · subst hx
            refine .inl (rd_var z1 ⟨nm, rfl, .inl ⟨_, .inl hn⟩, rd_var z4 (rd_cb (rd_cons (rd_var z1 (rd_nil ⟨nm, _, rfl, hn, _, .inr x, hn, rfl, by rw [seenL_len]; have := sz6; omega, fun v hv => ?_, fun hv => ?_⟩))))⟩)
            · rw [seenL_val (fun x : Str => (Sum.inr x : L2.Key)) (fun a b z => Sum.inr.inj z) x seen 0] at hv
              obtain ⟨j, hj, rfl⟩ := Option.map_eq_some_iff.mp hv
              rw [Nat.zero_add]
              exact q1 j hj
            · have hv' := hv
              rw [seenL_val (fun x : Str => (Sum.inr x : L2.Key)) (fun a b z => Sum.inr.inj z) x seen 0] at hv'
              have hj := Option.map_eq_none_iff.mp hv'
              rw [seenL_len]
              refine q2 hj _ ?_ (fun b hb => upd_ne hb)
              rw [upd_same, putK_new _ hv, seenL_snoc, Nat.zero_add]
          · have e5 := ex d _ dnm upd_same
            refine ⟨e5, ?_⟩
            refine rd_ret (rd_tupP (rd_cons (rd_var (v := .ref D) rfl (rd_cons (.inl (rd_cb (rd_cons (rd_var (v := .ref nm) rfl (rd_nil ⟨nm, _, rfl, by rw [upd_ne dnm.symm]; exact hn, rd_nil ⟨by show 2 ≤ sizeLine; decide, fun p o np eo => ?_⟩⟩)))))))))
            rw [seenL_len]
            exact num_end T dk hP q e1 nN ex nD eD np eo
      · rw [List.length_map] at hlen
        cases h1 with
        | dct _ hn hk => exact (not_dct (fun x : List L2.Key => PyData.tuple (x.map keyD)) hn hk).elim
        | @dic d es _ e1 hk =>
          obtain ⟨zS, e1⟩ := hd_some e1
          obtain ⟨hl2, hrow⟩ := rowsA (fun x : List L2.Key => PyData.tuple (x.map keyD)) hk
          refine rd_set (.inr fun nm nN => ?_)
          have dnm : d ≠ nm := ne_of_none e1 nN
          refine rd_seq ⟨d, .dK es, by rw [upd_ne dnm]; exact e1, True.intro, fun od => ?_⟩
          have hb0 : Same (Hd S0 H) (upd (upd H nm (NmO P w nm [])) d (.frz od (.dK es))) ∨ True := .inr trivial
          refine num_dc (K := K) (rows := rows) (od := od) (es := es) (nm := nm) (fun (x : List L2.Key) v => ∃ t, v = .ref t ∧ ∀ H', Ext (upd (upd H nm (NmO P w nm [])) d (.frz od (.dK es))) nm H' → SqT K H' t (x.map kV)) (fun seen H' => ∃ kvs : NKV, H' nm = some (NmO P w nm kvs) ∧ (kvs.map fun p => (p.1, p.2.2)) = seenL (fun x : List L2.Key => x) 0 seen ∧ ∀ H2, Ext (upd (upd H nm (NmO P w nm [])) d (.frz od (.dK es))) nm H2 → KeysIn K H2 kvs) upd_same dnm ⟨_, by rw [upd_ne dnm.symm]; exact upd_same⟩ hlen hl2 (fun i p e => ?_) (fun seen H1 H2 ⟨kvs, z1, z2, z3⟩ e _ => ⟨kvs, e.trans z1, z2, z3⟩) ⟨[], by rw [upd_ne dnm.symm]; exact upd_same, rfl, fun H2 _ p hp => absurd hp List.not_mem_nil⟩ (fun seen H1 ⟨kvs, z1, _⟩ => ⟨_, z1⟩) (fun seen x v H1 ex hn hx hs σ2 Q' z1 z4 q1 q2 => ?_) (fun D H1 ex nD eD hn => ?_)
          · obtain ⟨v, g1, g2⟩ := hrow i p e
            obtain ⟨t, us, rfl, g3, g4⟩ := da_tup g2
            have ev : us = p.2.map kV := by
              have z : ∀ {vs : List V} {k : List L2.Key}, DaAll K (Hd S0 H) vs (k.map keyD) → vs = k.map kV := fun {vs k} => by
                induction k generalizing vs with
                | nil => intro z; cases z; rfl
                | cons x k ih =>
                  intro z
                  generalize hy : (x :: k).map keyD = ys at z
                  cases z with
                  | nil => cases hy
                  | cons z1 z2 =>
                    rw [List.map_cons] at hy
                    obtain ⟨rfl, rfl⟩ := List.cons.inj hy
                    rw [List.map_cons, ih z2, key_v z1 (kOf_keyD x)]
              exact z g4
            subst ev
            refine ⟨_, g1, t, rfl, fun H' ex => ?_⟩
            rcases g3 with (g3 | ⟨o, g3⟩) | g3
            · have tn : t ≠ nm := ne_of_none g3 nN
              have td : t ≠ d := fun z => by rw [z, e1] at g3; cases g3
              exact .inl (.inl (ex _ _ tn (by rw [upd_ne td, upd_ne tn]; exact g3)))
            · have tn : t ≠ nm := ne_of_none g3 nN
              have td : t ≠ d := fun z => by rw [z, e1] at g3; cases g3
              exact .inl (.inr ⟨o, ex _ _ tn (by rw [upd_ne td, upd_ne tn]; exact g3)⟩)
            · exact .inr g3
          · obtain ⟨t, rfl, ht⟩ := hx
            obtain ⟨kvs, n1, n2, n3⟩ := hn
            have hlk : kvs.length = seen.length := by
              have z := congrArg List.length n2
              rw [List.length_map, seenL_len] at z
              exact z
            refine .inr (rd_var z1 ⟨⟨nm, kvs, rfl, n1⟩, rd_var z4 (rd_cb (rd_cons (rd_var z1 (rd_nil ⟨nm, kvs, rfl, n1, n3 _ ex, by have := sz6; omega, nm, kvs, x, t, rfl, n1, n3 _ ex, rfl, ht _ ex, by have := sz6; omega, fun v hv => ?_, fun hv => ?_⟩))))⟩)
            · rw [getN_val, n2, seenL_val (fun x : List L2.Key => x) (fun a b z => z) x seen 0] at hv
              obtain ⟨j, hj, rfl⟩ := Option.map_eq_some_iff.mp hv
              rw [Nat.zero_add]
              exact q1 j hj
            · rw [getN_val, n2, seenL_val (fun x : List L2.Key => x) (fun a b z => z) x seen 0] at hv
              have hj := Option.map_eq_none_iff.mp hv
              rw [hlk]
              refine q2 hj _ ⟨kvs ++ [(x, t, .int (seen.length : Nat))], upd_same, ?_, fun H2 e2 p hp => ?_⟩ (fun b hb => upd_ne hb)
              · rw [List.map_append, n2, seenL_snoc, Nat.zero_add]
                rfl
              · rcases List.mem_append.mp hp with hp | hp
                · exact n3 H2 e2 p hp
                · rw [List.mem_singleton.mp hp]
                  exact ht H2 e2
          · have e5 := ex d _ dnm upd_same
            refine ⟨e5, ?_⟩
            obtain ⟨kvs, n1, n2, n3⟩ := hn
            have hlk : kvs.length = (seenOf [] (rows.map (·.2))).length := by
              have z := congrArg List.length n2
              rw [List.length_map, seenL_len] at z
              exact z
            refine rd_ret (rd_tupP (rd_cons (rd_var (v := .ref D) rfl (rd_cons (.inr (rd_cb (rd_cons (rd_var (v := .ref nm) rfl (rd_nil ⟨nm, kvs, rfl, by rw [upd_ne dnm.symm]; exact n1, fun p hp => ?_, ?_, rd_nil ⟨by show 2 ≤ sizeLine; decide, fun p o np eo => ?_⟩⟩)))))))))
            · rcases n3 _ ex p hp with (g3 | ⟨o, g3⟩) | g3
              · have td : p.2.1 ≠ d := fun z => by rw [z, e5] at g3; cases g3
                exact .inl (.inl (by rw [upd_ne td]; exact g3))
              · have td : p.2.1 ≠ d := fun z => by rw [z, e5] at g3; cases g3
                exact .inl (.inr ⟨o, by rw [upd_ne td]; exact g3⟩)
              · exact .inr g3
            · rw [hlk]
              have z := seen_len (rows.map (·.2)) []
              rw [List.length_map, List.length_nil] at z
              have := sz6
              omega
            · rw [hlk]
              exact num_end T dk hP q e1 nN ex nD eD np eo
  · exact hF.elim
end
end K07

set_option Elab.async false
set_option linter.all false
set_option maxRecDepth 100000
set_option maxHeartbeats 4000000
namespace K07
open PySem PySem.Spec PyProof.Rows L2 GG DD PT DL
/-! ### reached -/
abbrev s_reached : Stmt := topS 5
theorem sc_reached : FnScope ["rows", "root", "numbers", "waiting", "row"] ["rows", "root"] (defScope s_reached) := ⟨rfl, rfl, rfl, by decide +kernel, rfl, by decide +kernel, by decide +kernel⟩
def dB_reached  : DS := (dSeq (dPar0L 2 3 (dLst (dCons (dVar 1) dNil))) (dSeq (dWhile (dB (dVsNil true 3)) (dSeq (dSet (dPop 3) 4) (dIf (dB (dDIn true (dVar 4) 2)) (dSeq (dDPut 2 (dVar 4) (dLenDict 2)) (dExt 3 (dNewL (dRevL (dListQ (dOp oIxU (dOr2 (dOp oIxU (dVar 0) (dVar 4)) (dDGet 0 (dVar 4))) (dC (.int 1)))))))) dNext))) (dRet (dNewL (dListDict 2)))))
theorem ok_reached {P : Program} {w : World} {K : PySem.W.Frag} {mg : Str → Option Value} {base : Heap} {f : Addr} {fd : FuncData} {k : Nat}  (F : L2.Fun K "reached" "reached" s_reached f fd)
    (m_len : mg "len" = none) (m_list : mg "list" = none)  :
    Fg P w K mg base (k + 1) f fd ["rows", "root"] (spOf K 2 (bodyD (dB_reached ) 3)) :=
  okd (m := 2) rfl F sc_reached fun cdv A outer s H hr W B H0 G0 Z0 => ⟨_, (pss_cons (ps_par (i := 2) (j := 3) (by rfl) sc_reached.nd rfl rfl (by decide) rfl rfl (pa_cons pe_dnewK (pa_cons (pe_lst (pa_cons (pv 1) pa_nil)) pa_nil)) (by rfl)) (pss_cons (ps_while PassesOwn.never (pt_cmpR (op_neD hr.room.units) (pv 3) (pe_lst pa_nil) (nomark _)) (pss_cons (ps_set (i := 4) sc_reached.nd rfl (Or.inl rfl) (pe_bm0 PySem.F.plainAttrs_list PySem.F.slot_list_pop PySem.F.type_list_pop mt_pop (pv 3))) (pss_one (ps_if (pt_cmp (pc_dnotin (hu_of hr.room) (pv 4) (pv 2)) (by rfl)) (pss_cons (ps_dput (hu_of hr.room) (pv 2) (pv 4) (pe_callB call_lenD (by rfl) m_len (by decide +kernel) (pa_cons (pv 2) pa_nil)) (by rfl)) (pss_one (ps_expr (pe_bm PySem.F.plainAttrs_list PySem.F.slot_list_extend PySem.F.type_list_extend mt_extend (pv 3) (pa_cons (pe_revL (pe_callTy call_list_of (by rfl) m_list (by decide +kernel) (pa_cons (pe_ix ix_tup (pe_rowsq (hu_of hr.room) (pv 0) (pv 4) (fun _ _ => rfl) (fun _ _ => rfl)) pe_int (fun _ _ => rfl)) pa_nil))) pa_nil))))) pss_nil)))) (pss_one (ps_ret (pe_callTy (call_listD rfl) (by rfl) m_list (by decide +kernel) (pa_cons (pv 2) pa_nil)))))),
    (rs_seq (rs_par0L (i := 2) (j := 3) (rf_lst (ra_cons (re_var (i := 1)) ra_nil))) (rs_seq (rs_while (rt_test (re_neNil (i := 3))) (rs_seq (rs_set (i := 4) (re_pop (i := 3))) (rs_if (rt_val (re_dNotIn (i := 2) (re_var (i := 4)))) (rs_seq (rs_dPut (i := 2) (re_var (i := 4)) (re_lenDict (i := 2))) (rs_ext (i := 3) (re_new (rf_rev (rl_new (rf_listQ (re_op ro_ixU (re_or2 (re_op ro_ixU (re_var (i := 0)) (re_var (i := 4))) (re_dGet (i := 0) (re_var (i := 4)))) re_int))))))) rs_next))) (rs_ret (re_new (rf_listDict (i := 2))))))⟩
/-! ### classes_of -/
abbrev s_classes_of : Stmt := topS 7
theorem sc_classes_of : FnScope ["rows", "used", "classes", "count", "before", "keys", "row", "field"] ["rows", "used"] (defScope s_classes_of) := ⟨rfl, rfl, rfl, by decide +kernel, rfl, by decide +kernel, by decide +kernel⟩
def dB_classes_of (F_numbered : FD) : DS := (dSeq (dAsg (dCall 1 F_numbered (xCons (dNewD (dDcomp (dAsL (dVar 1)) (gdN 6) dYes (dVar 6) (dOp oIxU (dOp oIxU (dVar 0) (dVar 6)) (dC (.int 0))) [6])) xNil)) (gdTup 2 (gdCons (gdN 2) (gdCons (gdN 3) gdNil)))) (dSeq (dSet (dC (.int 0)) 4) (dSeq (dWhile (dB (dOp (oB0 fun i j => decide (i < j)) (dVar 4) (dVar 3))) (dSeq (dSet (dVar 3) 4) (dSeq (dSet (dNewD (dDcomp (dAsL (dVar 1)) (gdN 6) dYes (dVar 6) (dTup (dCons (dDGet 2 (dVar 6)) (dStar (dComp (dAsU (dOp oIxU (dOp oIxU (dVar 0) (dVar 6)) (dC (.int 1)))) (gdN 7) dYes (dDGet 2 (dVar 7)) [7]) dNil))) [6])) 5) (dAsg (dCall 1 F_numbered (xCons (dVar 5) xNil)) (gdTup 2 (gdCons (gdN 2) (gdCons (gdN 3) gdNil))))))) (dRet (dVar 2)))))
theorem ok_classes_of {P : Program} {w : World} {K : PySem.W.Frag} {mg : Str → Option Value} {base : Heap} {f : Addr} {fd : FuncData} {k : Nat} {F_numbered : FD} (F : L2.Fun K "classes_of" "classes_of" s_classes_of f fd)
    {k0 : Nat} (D_numbered : Df P w K mg base k0 "numbered" ["keys"] (spOf K 1 F_numbered)) (h_k0 : k0 ≤ k) :
    Fg P w K mg base (k + 1) f fd ["rows", "used"] (spOf K 2 (bodyD (dB_classes_of F_numbered) 6)) :=
  okd (m := 2) rfl F sc_classes_of fun cdv A outer s H hr W B H0 G0 Z0 => ⟨_, (pss_cons (ps_asg (dcall D_numbered (hr.mono (h_k0)) (by rfl) (pa_cons (pe_dc (own := [("row", 6)]) (g := (gName 6)) rfl sc_classes_of.nd (pi_list (pv 1)) (blkOk_by (own := [("row", 6)]) (N := ["rows", "used", "classes", "count", "before", "keys", "row", "field"]) (sc := defScope s_classes_of) (by decide +kernel)) (fun _ _ _ _ _ => (pg_name (i := 6) sc_classes_of.nd rfl (Or.inl rfl))) (fun _ _ _ _ _ => pts_nil) (fun _ _ _ _ _ => (pv 6)) (fun _ _ _ _ _ => (pe_ix ix_tup (pe_ix ix_tup (pv 0) (pv 6) (fun _ _ => rfl)) pe_int (fun _ _ => rfl)))) pa_nil)) (pg_tup rfl (pgs_cons (pg_name (i := 2) sc_classes_of.nd rfl (Or.inr rfl)) (pgs_cons (pg_name (i := 3) sc_classes_of.nd rfl (Or.inl rfl)) pgs_nil)))) (pss_cons (ps_set (i := 4) sc_classes_of.nd rfl (Or.inl rfl) pe_int) (pss_cons (ps_while PassesOwn.never (pt_cmpR op_lt (pv 4) (pv 3) (nomark _)) (pss_cons (ps_set (i := 4) sc_classes_of.nd rfl (Or.inl rfl) (pv 3)) (pss_cons (SD.ps_setDc (i := 5) (own := [("row", 6)]) (g := (gName 6)) rfl sc_classes_of.nd rfl rfl (SD.sw_trueD rfl rfl rfl (by decide +kernel)) (pi_list (pv 1)) (blkOk_by (own := [("row", 6)]) (N := ["rows", "used", "classes", "count", "before", "keys", "row", "field"]) (sc := defScope s_classes_of) (by decide +kernel)) (fun _ _ _ _ _ => (pg_name (i := 6) sc_classes_of.nd rfl (Or.inl rfl))) (fun _ _ _ _ _ => pts_nil) (fun _ _ _ _ _ => (pv 6)) (fun _ _ _ _ _ => (pe_tupP (pa_cons (pe_dget (hu_of hr.room) (pv 2) (pv 6) (fun _ _ => rfl)) (StX.pa_star (pe_lc (own := [("field", 7)]) (g := (gName 7)) rfl sc_classes_of.nd (pi_tup (pe_ix ix_tup (pe_ix ix_tup (pv 0) (pv 6) (fun _ _ => rfl)) pe_int (fun _ _ => rfl))) (by exact blkOk_by (by kernel_rfl)) (fun _ _ _ _ _ => (pg_name (i := 7) sc_classes_of.nd rfl (Or.inl rfl))) (fun _ _ _ _ _ => pts_nil) (fun _ _ _ _ _ => (pe_dget (hu_of hr.room) (pv 2) (pv 7) (fun _ _ => rfl)))) pa_nil))))) (pss_one (ps_asg (dcall D_numbered (hr.mono (h_k0)) (by rfl) (pa_cons (pv 5) pa_nil)) (pg_tup rfl (pgs_cons (pg_name (i := 2) sc_classes_of.nd rfl (Or.inr rfl)) (pgs_cons (pg_name (i := 3) sc_classes_of.nd rfl (Or.inl rfl)) pgs_nil)))))))) (pss_one (ps_ret (pv 2)))))),
    (rs_seq (rs_asg (re_call (rx_cons (re_newD (rd_dcomp (vs := [6]) (ri_list (re_var (i := 1))) (rgv_name (i := 6) (by decide)) (gw_name (i := 6) (by decide)) rt_yes (re_var (i := 6)) (re_op ro_ixU (re_op ro_ixU (re_var (i := 0)) (re_var (i := 6))) re_int))) rx_nil)) (rg_tup (rgs_cons (rg_name (i := 2)) (rgs_cons (rg_name (i := 3)) rgs_nil)))) (rs_seq (rs_set (i := 4) re_int) (rs_seq (rs_while (rt_test (re_op ro_B0 (re_var (i := 4)) (re_var (i := 3)))) (rs_seq (rs_set (i := 4) (re_var (i := 3))) (rs_seq (rs_set (i := 5) (re_newD (rd_dcomp (vs := [6]) (ri_list (re_var (i := 1))) (rgv_name (i := 6) (by decide)) (gw_name (i := 6) (by decide)) rt_yes (re_var (i := 6)) (re_tup (ra_cons (re_dGet (i := 2) (re_var (i := 6))) (ra_starL (rl_new (rf_comp (vs := [7]) (ri_tup (re_op ro_ixU (re_op ro_ixU (re_var (i := 0)) (re_var (i := 6))) re_int)) (rgv_name (i := 7) (by decide)) (gw_name (i := 7) (by decide)) rt_yes (re_dGet (i := 2) (re_var (i := 7))))) ra_nil)))))) (rs_asg (re_call (rx_cons (re_var (i := 5)) rx_nil)) (rg_tup (rgs_cons (rg_name (i := 2)) (rgs_cons (rg_name (i := 3)) rgs_nil))))))) (rs_ret (re_var (i := 2))))))⟩
/-! ### renumbered -/
abbrev s_renumbered : Stmt := topS 8
theorem sc_renumbered : FnScope ["rows", "root", "order", "numbers", "number", "row", "field"] ["rows", "root"] (defScope s_renumbered) := ⟨rfl, rfl, rfl, by decide +kernel, rfl, by decide +kernel, by decide +kernel⟩
def dB_renumbered (F_reached : FD) : DS := (dSeq (dSet (dCall 2 F_reached (xCons (dVar 0) (xCons (dVar 1) xNil))) 2) (dSeq (dSet (dNewD (dDcomp (dEnum (dVar 2)) (gdTup 2 (gdCons (gdN 4) (gdCons (gdN 5) gdNil))) dYes (dVar 5) (dVar 4) [4, 5])) 3) (dRet (dTupOf (dComp (dAsL (dVar 2)) (gdN 5) dYes (dTup (dCons (dOp oIxU (dOr2 (dOp oIxU (dVar 0) (dVar 5)) (dDGet 0 (dVar 5))) (dC (.int 0))) (dCons (dTupOf (dComp (dOr2A (dAsU (dOp oIxU (dOr2 (dOp oIxU (dVar 0) (dVar 5)) (dDGet 0 (dVar 5))) (dC (.int 1)))) (dAsL (dOp oIxU (dOr2 (dOp oIxU (dVar 0) (dVar 5)) (dDGet 0 (dVar 5))) (dC (.int 1))))) (gdN 6) dYes (dDGet 3 (dVar 6)) [6])) dNil))) [5])))))
theorem ok_renumbered {P : Program} {w : World} {K : PySem.W.Frag} {mg : Str → Option Value} {base : Heap} {f : Addr} {fd : FuncData} {k : Nat} {F_reached : FD} (F : L2.Fun K "renumbered" "renumbered" s_renumbered f fd)
    {k0 : Nat} (D_reached : Df P w K mg base k0 "reached" ["rows", "root"] (spOf K 2 F_reached)) (m_enumerate : mg "enumerate" = none) (m_tuple : mg "tuple" = none) (h_k0 : k0 ≤ k) :
    Fg P w K mg base (k + 1) f fd ["rows", "root"] (spOf K 2 (bodyD (dB_renumbered F_reached) 5)) :=
  okd (m := 2) rfl F sc_renumbered fun cdv A outer s H hr W B H0 G0 Z0 => ⟨_, (pss_cons (ps_set (i := 2) sc_renumbered.nd rfl (Or.inl rfl) (dcall D_reached (hr.mono (h_k0)) (by rfl) (pa_cons (pv 0) (pa_cons (pv 1) pa_nil)))) (pss_cons (ps_set (i := 3) sc_renumbered.nd rfl (Or.inr rfl) (pe_dc (own := [("number", 4), ("row", 5)]) (g := _) rfl sc_renumbered.nd (pi_enum (by rfl) m_enumerate (pa_cons (pv 2) pa_nil)) (blkOk_by (own := [("number", 4), ("row", 5)]) (N := ["rows", "root", "order", "numbers", "number", "row", "field"]) (sc := defScope s_renumbered) (by decide +kernel)) (fun _ _ _ _ _ => (pg_tup rfl (pgs_cons (pg_name (i := 4) sc_renumbered.nd rfl (Or.inl rfl)) (pgs_cons (pg_name (i := 5) sc_renumbered.nd rfl (Or.inl rfl)) pgs_nil)))) (fun _ _ _ _ _ => pts_nil) (fun _ _ _ _ _ => (pv 5)) (fun _ _ _ _ _ => (pv 4)))) (pss_one (ps_ret (pe_callTy call_tuple_ofP (by rfl) m_tuple (by decide +kernel) (pa_cons (pe_lc (own := [("row", 5)]) (g := (gName 5)) rfl sc_renumbered.nd (pi_list (pv 2)) (blkOk_by (own := [("row", 5)]) (N := ["rows", "root", "order", "numbers", "number", "row", "field"]) (sc := defScope s_renumbered) (by decide +kernel)) (fun _ _ _ _ _ => (pg_name (i := 5) sc_renumbered.nd rfl (Or.inl rfl))) (fun _ _ _ _ _ => pts_nil) (fun _ _ _ _ _ => (pe_tupP (pa_cons (pe_ix ix_tup (pe_rowsq (hu_of hr.room) (pv 0) (pv 5) (fun _ _ => rfl) (fun _ _ => rfl)) pe_int (fun _ _ => rfl)) (pa_cons (pe_callTy call_tuple_ofP (by rfl) m_tuple (by decide +kernel) (pa_cons (pe_lc (own := [("field", 6)]) (g := (gName 6)) rfl sc_renumbered.nd (pi_seq (pe_ix ix_tup (pe_rowsq (hu_of hr.room) (pv 0) (pv 5) (fun _ _ => rfl) (fun _ _ => rfl)) pe_int (fun _ _ => rfl))) (by exact blkOk_by (by kernel_rfl)) (fun _ _ _ _ _ => (pg_name (i := 6) sc_renumbered.nd rfl (Or.inl rfl))) (fun _ _ _ _ _ => pts_nil) (fun _ _ _ _ _ => (pe_dget (hu_of hr.room) (pv 3) (pv 6) (fun _ _ => rfl)))) pa_nil)) pa_nil))))) pa_nil)))))),
    (rs_seq (rs_set (i := 2) (re_call (rx_cons (re_var (i := 0)) (rx_cons (re_var (i := 1)) rx_nil)))) (rs_seq (rs_set (i := 3) (re_newD (rd_dcomp (vs := [4, 5]) (ri_enum (re_var (i := 2))) (rgv_tup (rgvs_cons (rgv_name (i := 4) (by decide)) (rgvs_cons (rgv_name (i := 5) (by decide)) rgvs_nil))) (gw_tup (gws_cons (gw_name (i := 4) (by decide)) (gws_cons (gw_name (i := 5) (by decide)) gws_nil))) rt_yes (re_var (i := 5)) (re_var (i := 4))))) (rs_ret (re_tupL (rl_new (rf_comp (vs := [5]) (ri_list (re_var (i := 2))) (rgv_name (i := 5) (by decide)) (gw_name (i := 5) (by decide)) rt_yes (re_tup (ra_cons (re_op ro_ixU (re_or2 (re_op ro_ixU (re_var (i := 0)) (re_var (i := 5))) (re_dGet (i := 0) (re_var (i := 5)))) re_int) (ra_cons (re_tupL (rl_new (rf_comp (vs := [6]) (ri_or2 (ri_tup (re_op ro_ixU (re_or2 (re_op ro_ixU (re_var (i := 0)) (re_var (i := 5))) (re_dGet (i := 0) (re_var (i := 5)))) re_int)) (ri_list (re_op ro_ixU (re_or2 (re_op ro_ixU (re_var (i := 0)) (re_var (i := 5))) (re_dGet (i := 0) (re_var (i := 5)))) re_int))) (rgv_name (i := 6) (by decide)) (gw_name (i := 6) (by decide)) rt_yes (re_dGet (i := 3) (re_var (i := 6)))))) ra_nil)))))))))⟩
/-! ### reduced -/
abbrev s_reduced : Stmt := topS 9
theorem sc_reduced : FnScope ["rows", "root", "used", "classes", "merged", "row", "field"] ["rows", "root"] (defScope s_reduced) := ⟨rfl, rfl, rfl, by decide +kernel, rfl, by decide +kernel, by decide +kernel⟩
def dB_reduced (F_reached : FD) (F_classes_of : FD) (F_renumbered : FD) : DS := (dSeq (dSet (dCall 2 F_reached (xCons (dVar 0) (xCons (dVar 1) xNil))) 2) (dSeq (dSet (dCall 2 F_classes_of (xCons (dVar 0) (xCons (dVar 2) xNil))) 3) (dSeq (dSet (dNewD (dDcomp (dAsL (dVar 2)) (gdN 5) dYes (dDGet 3 (dVar 5)) (dTup (dCons (dOp oIxU (dOp oIxU (dVar 0) (dVar 5)) (dC (.int 0))) (dCons (dNewL (dComp (dAsU (dOp oIxU (dOp oIxU (dVar 0) (dVar 5)) (dC (.int 1)))) (gdN 6) dYes (dDGet 3 (dVar 6)) [6])) dNil))) [5])) 4) (dRet (dCall 2 F_renumbered (xCons (dVar 4) (xCons (dDGet 3 (dVar 1)) xNil)))))))
theorem ok_reduced {P : Program} {w : World} {K : PySem.W.Frag} {mg : Str → Option Value} {base : Heap} {f : Addr} {fd : FuncData} {k : Nat} {F_reached : FD} {F_classes_of : FD} {F_renumbered : FD} (F : L2.Fun K "reduced" "reduced" s_reduced f fd)
    {k0 : Nat} {k1 : Nat} {k2 : Nat} (D_reached : Df P w K mg base k0 "reached" ["rows", "root"] (spOf K 2 F_reached)) (D_classes_of : Df P w K mg base k1 "classes_of" ["rows", "used"] (spOf K 2 F_classes_of)) (D_renumbered : Df P w K mg base k2 "renumbered" ["rows", "root"] (spOf K 2 F_renumbered)) (h_k0 : k0 ≤ k) (h_k1 : k1 ≤ k) (h_k2 : k2 ≤ k) :
    Fg P w K mg base (k + 1) f fd ["rows", "root"] (spOf K 2 (bodyD (dB_reduced F_reached F_classes_of F_renumbered) 5)) :=
  okd (m := 2) rfl F sc_reduced fun cdv A outer s H hr W B H0 G0 Z0 => ⟨_, (pss_cons (ps_set (i := 2) sc_reduced.nd rfl (Or.inl rfl) (dcall D_reached (hr.mono (h_k0)) (by rfl) (pa_cons (pv 0) (pa_cons (pv 1) pa_nil)))) (pss_cons (ps_set (i := 3) sc_reduced.nd rfl (Or.inr rfl) (dcall D_classes_of (hr.mono (h_k1)) (by rfl) (pa_cons (pv 0) (pa_cons (pv 2) pa_nil)))) (pss_cons (SD.ps_setDc (i := 4) (own := [("row", 5)]) (g := (gName 5)) rfl sc_reduced.nd rfl rfl (SD.sw_trueD rfl rfl rfl (by decide +kernel)) (pi_list (pv 2)) (blkOk_by (own := [("row", 5)]) (N := ["rows", "root", "used", "classes", "merged", "row", "field"]) (sc := defScope s_reduced) (by decide +kernel)) (fun _ _ _ _ _ => (pg_name (i := 5) sc_reduced.nd rfl (Or.inl rfl))) (fun _ _ _ _ _ => pts_nil) (fun _ _ _ _ _ => (pe_dget (hu_of hr.room) (pv 3) (pv 5) (fun _ _ => rfl))) (fun _ _ _ _ _ => (pe_tupP (pa_cons (pe_ix ix_tup (pe_ix ix_tup (pv 0) (pv 5) (fun _ _ => rfl)) pe_int (fun _ _ => rfl)) (pa_cons (pe_lc (own := [("field", 6)]) (g := (gName 6)) rfl sc_reduced.nd (pi_tup (pe_ix ix_tup (pe_ix ix_tup (pv 0) (pv 5) (fun _ _ => rfl)) pe_int (fun _ _ => rfl))) (by exact blkOk_by (by kernel_rfl)) (fun _ _ _ _ _ => (pg_name (i := 6) sc_reduced.nd rfl (Or.inl rfl))) (fun _ _ _ _ _ => pts_nil) (fun _ _ _ _ _ => (pe_dget (hu_of hr.room) (pv 3) (pv 6) (fun _ _ => rfl)))) pa_nil))))) (pss_one (ps_ret (dcall D_renumbered (hr.mono (h_k2)) (by rfl) (pa_cons (pv 4) (pa_cons (pe_dget (hu_of hr.room) (pv 3) (pv 1) (fun _ _ => rfl)) pa_nil)))))))),
    (rs_seq (rs_set (i := 2) (re_call (rx_cons (re_var (i := 0)) (rx_cons (re_var (i := 1)) rx_nil)))) (rs_seq (rs_set (i := 3) (re_call (rx_cons (re_var (i := 0)) (rx_cons (re_var (i := 2)) rx_nil)))) (rs_seq (rs_set (i := 4) (re_newD (rd_dcomp (vs := [5]) (ri_list (re_var (i := 2))) (rgv_name (i := 5) (by decide)) (gw_name (i := 5) (by decide)) rt_yes (re_dGet (i := 3) (re_var (i := 5))) (re_tup (ra_cons (re_op ro_ixU (re_op ro_ixU (re_var (i := 0)) (re_var (i := 5))) re_int) (ra_cons (re_new (rf_comp (vs := [6]) (ri_tup (re_op ro_ixU (re_op ro_ixU (re_var (i := 0)) (re_var (i := 5))) re_int)) (rgv_name (i := 6) (by decide)) (gw_name (i := 6) (by decide)) rt_yes (re_dGet (i := 3) (re_var (i := 6))))) ra_nil)))))) (rs_ret (re_call (rx_cons (re_var (i := 4)) (rx_cons (re_dGet (i := 3) (re_var (i := 1))) rx_nil)))))))⟩
/-! ### least_sheet -/
abbrev s_least_sheet : Stmt := topS 14
theorem sc_least_sheet : FnScope ["sheet"] ["sheet"] (defScope s_least_sheet) := ⟨rfl, rfl, rfl, by decide +kernel, rfl, by decide +kernel, by decide +kernel⟩
def dB_least_sheet (F_reduced : FD) : DS := (dRet (dCall 2 F_reduced (xCons (dVar 0) (xCons (dC (.int 0)) xNil))))
theorem ok_least_sheet {P : Program} {w : World} {K : PySem.W.Frag} {mg : Str → Option Value} {base : Heap} {f : Addr} {fd : FuncData} {k : Nat} {F_reduced : FD} (F : L2.Fun K "least_sheet" "least_sheet" s_least_sheet f fd)
    {k0 : Nat} (D_reduced : Df P w K mg base k0 "reduced" ["rows", "root"] (spOf K 2 F_reduced)) (h_k0 : k0 ≤ k) :
    Fg P w K mg base (k + 1) f fd ["sheet"] (spOf K 1 (bodyD (dB_least_sheet F_reduced) 0)) :=
  okd (m := 1) rfl F sc_least_sheet fun cdv A outer s H hr W B H0 G0 Z0 => ⟨_, (pss_one (ps_ret (dcall D_reduced (hr.mono (h_k0)) (by rfl) (pa_cons (pv 0) (pa_cons pe_int pa_nil))))),
    (rs_ret (re_call (rx_cons (re_var (i := 0)) (rx_cons re_int rx_nil))))⟩
/-! ### is_integer -/
abbrev s_is_integer : Stmt := topS 11
theorem sc_is_integer : FnScope ["thing"] ["thing"] (defScope s_is_integer) := ⟨rfl, rfl, rfl, by decide +kernel, rfl, by decide +kernel, by decide +kernel⟩
def dB_is_integer  : DS := (dRet (dAndV (dIsi "int" (dVar 0)) (dNotV (dIsi "bool" (dVar 0)))))
theorem ok_is_integer {P : Program} {w : World} {K : PySem.W.Frag} {mg : Str → Option Value} {base : Heap} {f : Addr} {fd : FuncData} {k : Nat}  (F : L2.Fun K "is_integer" "is_integer" s_is_integer f fd)
    (m_bool : mg "bool" = none) (m_int : mg "int" = none) (m_isinstance : mg "isinstance" = none)  :
    Fg P w K mg base (k + 1) f fd ["thing"] (spOf K 1 (bodyD (dB_is_integer ) 0)) :=
  okd (m := 1) rfl F sc_is_integer fun cdv A outer s H hr W B H0 G0 Z0 => ⟨_, (pss_one (ps_ret (pe_and (pe_callB call_isi (by rfl) m_isinstance (by decide +kernel) (pa_cons (pv 0) (pa_cons (pe_bltn (v := .ty "int") (by rfl) m_int (by decide +kernel) rfl) pa_nil))) (pe_one (pe_not (pe_callB call_isi (by rfl) m_isinstance (by decide +kernel) (pa_cons (pv 0) (pa_cons (pe_bltn (v := .ty "bool") (by rfl) m_bool (by decide +kernel) rfl) pa_nil)))))))),
    (rs_ret (re_and (re_isi (n := "int") (re_var (i := 0))) (re_not (re_isi (n := "bool") (re_var (i := 0))))))⟩
/-! ### is_index -/
abbrev s_is_index : Stmt := topS 12
theorem sc_is_index : FnScope ["thing", "count"] ["thing", "count"] (defScope s_is_index) := ⟨rfl, rfl, rfl, by decide +kernel, rfl, by decide +kernel, by decide +kernel⟩
def dB_is_index (F_is_integer : FD) : DS := (dRet (dAndV (dCall 1 F_is_integer (xCons (dVar 0) xNil)) (dChain (oB0 fun i j => decide (i ≤ j)) (oB0 fun i j => decide (i < j)) (dC (.int 0)) (dVar 0) (dVar 1))))
theorem ok_is_index {P : Program} {w : World} {K : PySem.W.Frag} {mg : Str → Option Value} {base : Heap} {f : Addr} {fd : FuncData} {k : Nat} {F_is_integer : FD} (F : L2.Fun K "is_index" "is_index" s_is_index f fd)
    {k0 : Nat} (D_is_integer : Df P w K mg base k0 "is_integer" ["thing"] (spOf K 1 F_is_integer)) (h_k0 : k0 ≤ k) :
    Fg P w K mg base (k + 1) f fd ["thing", "count"] (spOf K 2 (bodyD (dB_is_index F_is_integer) 0)) :=
  okd (m := 2) rfl F sc_is_index fun cdv A outer s H hr W B H0 G0 Z0 => ⟨_, (pss_one (ps_ret (pe_and (dcall D_is_integer (hr.mono (h_k0)) (by rfl) (pa_cons (pv 0) pa_nil)) (pe_one (pe_chain op_le op_lt pe_int (pv 0) (pv 1)))))),
    (rs_ret (re_and (re_call (rx_cons (re_var (i := 0)) rx_nil)) (re_chain ro_B0 ro_B0 re_int (re_var (i := 0)) (re_var (i := 1)))))⟩
/-! ### row_at -/
abbrev s_row_at : Stmt := topS 16
theorem sc_row_at : FnScope ["sheet", "path", "row", "field", "fields"] ["sheet", "path"] (defScope s_row_at) := ⟨rfl, rfl, rfl, by decide +kernel, rfl, by decide +kernel, by decide +kernel⟩
def dB_row_at (cN : Addr) (F_is_index : FD) (PX : PXt) : DS := (dSeq (dSet (dC (.int 0)) 2) (dSeq (dFor (dAsU (dVar 1)) (gdN 3) (dSeq (dSet (dOp oIxU (dOp oIxU (dVar 0) (dVar 2)) (dC (.int 1))) 4) (dSeq (dIf (dNot (dB (dCall 2 F_is_index (xCons (dVar 3) (xCons (dLenL (dAsU (dVar 4))) xNil))))) (dRaise PX cN "path" (dVar 1)) dNext) (dSet (dOp oIxU (dVar 4) (dVar 3)) 2)))) (dRet (dVar 2))))
theorem ok_row_at {cN : Addr} {P : Program} {w : World} {K : PySem.W.Frag} {mg : Str → Option Value} {base : Heap} {f : Addr} {fd : FuncData} {k : Nat} {F_is_index : FD} (F : L2.Fun K "row_at" "row_at" s_row_at f fd)
    {k0 : Nat} (D_is_index : Df P w K mg base k0 "is_index" ["thing", "count"] (spOf K 2 F_is_index)) (m_len : mg "len" = none) (T_NoPath : XC P w K mg base "NoPath" "path" "ValueError.__new__" KX.veTail cN) (ge2 : 2 ≤ k) (h_k0 : k0 ≤ k) :
    Fgx P w K mg base (k + 1) f fd ["sheet", "path"] (spX K 2 (bodyX (dB_row_at cN F_is_index) 3)) :=
  okdX (m := 2) rfl F sc_row_at fun cdv A outer s H E hr W B H0 G0 Z0 PX xo => ⟨_, (pss_cons (ps_set (i := 2) sc_row_at.nd rfl (Or.inl rfl) pe_int) (pss_cons (ps_for (passes_of rfl) rfl (pi_tup (pv 1)) (pg_name (i := 3) sc_row_at.nd rfl (Or.inl rfl)) (pss_cons (ps_set (i := 4) sc_row_at.nd rfl (Or.inl rfl) (pe_ix ix_tup (pe_ix ix_tup (pv 0) (pv 2) (fun _ _ => rfl)) pe_int (fun _ _ => rfl))) (pss_cons (ps_if (pt_not (pt_val (dcall D_is_index (hr.mono (h_k0)) (by rfl) (pa_cons (pv 3) (pa_cons (pe_callB call_len_seq (by rfl) m_len (by decide +kernel) (pa_cons (pv 4) pa_nil)) pa_nil))))) (pss_one (ps_raisec rfl (takes_of rfl rfl rfl rfl) T_NoPath (hr.mono (by omega)) (by rfl) (pa_cons (pv 1) pa_nil))) pss_nil) (pss_one (ps_set (i := 2) sc_row_at.nd rfl (Or.inl rfl) (pe_ix ix_tup (pv 4) (pv 3) (fun _ _ => rfl))))))) (pss_one (ps_ret (pv 2))))),
    (rs_seq (rs_set (i := 2) re_int) (rs_seq (rs_for (ri_tup (re_var (i := 1))) (rg_name (i := 3)) (rs_seq (rs_set (i := 4) (re_op ro_ixU (re_op ro_ixU (re_var (i := 0)) (re_var (i := 2))) re_int)) (rs_seq (rs_if (rt_not (rt_val (re_call (rx_cons (re_var (i := 3)) (rx_cons (re_lenU (ru_of (re_var (i := 4)))) rx_nil))))) (rs_raise T_NoPath.xc T_NoPath.nF xo (re_var (i := 1))) rs_next) (rs_set (i := 2) (re_op ro_ixU (re_var (i := 4)) (re_var (i := 3))))))) (rs_ret (re_var (i := 2)))))⟩
/-! ### tag_at -/
abbrev s_tag_at : Stmt := topS 17
theorem sc_tag_at : FnScope ["sheet", "path"] ["sheet", "path"] (defScope s_tag_at) := ⟨rfl, rfl, rfl, by decide +kernel, rfl, by decide +kernel, by decide +kernel⟩
def dB_tag_at (F_row_at : FDX) (PX : PXt) : DS := (dRet (dOp oIxU (dOp oIxU (dVar 0) (dCallX PX 2 F_row_at (xCons (dVar 0) (xCons (dVar 1) xNil)))) (dC (.int 0))))
theorem ok_tag_at {P : Program} {w : World} {K : PySem.W.Frag} {mg : Str → Option Value} {base : Heap} {f : Addr} {fd : FuncData} {k : Nat} {F_row_at : FDX} (F : L2.Fun K "tag_at" "tag_at" s_tag_at f fd)
    {k0 : Nat} (D_row_at : DfX P w K mg base k0 "row_at" ["sheet", "path"] (spX K 2 F_row_at)) (h_k0 : k0 ≤ k) :
    Fgx P w K mg base (k + 1) f fd ["sheet", "path"] (spX K 2 (bodyX (dB_tag_at F_row_at) 0)) :=
  okdX (m := 2) rfl F sc_tag_at fun cdv A outer s H E hr W B H0 G0 Z0 PX xo => ⟨_, (pss_one (ps_ret (pe_ix ix_tup (pe_ix ix_tup (pv 0) (dcallx (takes_of rfl rfl rfl rfl) D_row_at (hr.mono (h_k0)) (by rfl) (pa_cons (pv 0) (pa_cons (pv 1) pa_nil))) (fun _ _ => rfl)) pe_int (fun _ _ => rfl)))),
    (rs_ret (re_op ro_ixU (re_op ro_ixU (re_var (i := 0)) (re_callX xo (rx_cons (re_var (i := 0)) (rx_cons (re_var (i := 1)) rx_nil)))) re_int))⟩
/-! ### part_at -/
abbrev s_part_at : Stmt := topS 18
theorem sc_part_at : FnScope ["sheet", "path"] ["sheet", "path"] (defScope s_part_at) := ⟨rfl, rfl, rfl, by decide +kernel, rfl, by decide +kernel, by decide +kernel⟩
def dB_part_at (F_reduced : FD) (F_row_at : FDX) (PX : PXt) : DS := (dRet (dCall 2 F_reduced (xCons (dVar 0) (xCons (dCallX PX 2 F_row_at (xCons (dVar 0) (xCons (dVar 1) xNil))) xNil))))
theorem ok_part_at {P : Program} {w : World} {K : PySem.W.Frag} {mg : Str → Option Value} {base : Heap} {f : Addr} {fd : FuncData} {k : Nat} {F_reduced : FD} {F_row_at : FDX} (F : L2.Fun K "part_at" "part_at" s_part_at f fd)
    {k0 : Nat} {k1 : Nat} (D_reduced : Df P w K mg base k0 "reduced" ["rows", "root"] (spOf K 2 F_reduced)) (D_row_at : DfX P w K mg base k1 "row_at" ["sheet", "path"] (spX K 2 F_row_at)) (h_k0 : k0 ≤ k) (h_k1 : k1 ≤ k) :
    Fgx P w K mg base (k + 1) f fd ["sheet", "path"] (spX K 2 (bodyX (dB_part_at F_reduced F_row_at) 0)) :=
  okdX (m := 2) rfl F sc_part_at fun cdv A outer s H E hr W B H0 G0 Z0 PX xo => ⟨_, (pss_one (ps_ret (dcall D_reduced (hr.mono (h_k0)) (by rfl) (pa_cons (pv 0) (pa_cons (dcallx (takes_of rfl rfl rfl rfl) D_row_at (hr.mono (h_k1)) (by rfl) (pa_cons (pv 0) (pa_cons (pv 1) pa_nil))) pa_nil))))),
    (rs_ret (re_call (rx_cons (re_var (i := 0)) (rx_cons (re_callX xo (rx_cons (re_var (i := 0)) (rx_cons (re_var (i := 1)) rx_nil))) rx_nil))))⟩
/-! ### all_parts -/
abbrev s_all_parts : Stmt := topS 19
theorem sc_all_parts : FnScope ["sheet", "least", "row"] ["sheet"] (defScope s_all_parts) := ⟨rfl, rfl, rfl, by decide +kernel, rfl, by decide +kernel, by decide +kernel⟩
def dB_all_parts (F_least_sheet : FD) (F_renumbered : FD) : DS := (dSeq (dSet (dCall 1 F_least_sheet (xCons (dVar 0) xNil)) 1) (dRet (dTupOf (dComp (dRng1 (dLenL (dAsU (dVar 1)))) (gdN 2) dYes (dCall 2 F_renumbered (xCons (dVar 1) (xCons (dVar 2) xNil))) [2]))))
theorem ok_all_parts {P : Program} {w : World} {K : PySem.W.Frag} {mg : Str → Option Value} {base : Heap} {f : Addr} {fd : FuncData} {k : Nat} {F_least_sheet : FD} {F_renumbered : FD} (F : L2.Fun K "all_parts" "all_parts" s_all_parts f fd)
    {k0 : Nat} {k1 : Nat} (D_least_sheet : Df P w K mg base k0 "least_sheet" ["sheet"] (spOf K 1 F_least_sheet)) (D_renumbered : Df P w K mg base k1 "renumbered" ["rows", "root"] (spOf K 2 F_renumbered)) (m_len : mg "len" = none) (m_range : mg "range" = none) (m_tuple : mg "tuple" = none) (h_k0 : k0 ≤ k) (h_k1 : k1 ≤ k) :
    Fg P w K mg base (k + 1) f fd ["sheet"] (spOf K 1 (bodyD (dB_all_parts F_least_sheet F_renumbered) 2)) :=
  okd (m := 1) rfl F sc_all_parts fun cdv A outer s H hr W B H0 G0 Z0 => ⟨_, (pss_cons (ps_set (i := 1) sc_all_parts.nd rfl (Or.inr rfl) (dcall D_least_sheet (hr.mono (h_k0)) (by rfl) (pa_cons (pv 0) pa_nil))) (pss_one (ps_ret (pe_callTy call_tuple_ofP (by rfl) m_tuple (by decide +kernel) (pa_cons (pe_lc (own := [("row", 2)]) (g := (gName 2)) rfl sc_all_parts.nd (pi_range1 (by rfl) m_range (pa_cons (pe_callB call_len_seq (by rfl) m_len (by decide +kernel) (pa_cons (pv 1) pa_nil)) pa_nil)) (blkOk_by (own := [("row", 2)]) (N := ["sheet", "least", "row"]) (sc := defScope s_all_parts) (by decide +kernel)) (fun _ _ _ _ _ => (pg_name (i := 2) sc_all_parts.nd rfl (Or.inl rfl))) (fun _ _ _ _ _ => pts_nil) (fun _ _ _ _ _ => (dcall D_renumbered (hr.mono (h_k1)) (by rfl) (pa_cons (pv 1) (pa_cons (pv 2) pa_nil))))) pa_nil))))),
    (rs_seq (rs_set (i := 1) (re_call (rx_cons (re_var (i := 0)) rx_nil))) (rs_ret (re_tupL (rl_new (rf_comp (vs := [2]) (ri_rng1 (re_lenU (ru_of (re_var (i := 1))))) (rgv_name (i := 2) (by decide)) (gw_name (i := 2) (by decide)) rt_yes (re_call (rx_cons (re_var (i := 1)) (rx_cons (re_var (i := 2)) rx_nil))))))))⟩
end K07


set_option Elab.async false
set_option linter.all false
set_option maxRecDepth 100000
set_option maxHeartbeats 4000000
namespace K07
open PySem PySem.Spec PyProof.Rows L2 GG DD PT DL
abbrev s_deck : Stmt := topS 21
abbrev s_draw : Stmt := topS 22
theorem sc_deck : FnScope ["_law_script", "_law_cells", "_law_total", "_law_cell"] ["_law_script"] (defScope s_deck) := ⟨rfl, rfl, rfl, by decide +kernel, rfl, by decide +kernel, by decide +kernel⟩
theorem sc_draw : FnScope ["_law_deck_here", "_law_limit", "_law_cell", "_law_number"] ["_law_deck_here", "_law_limit"] (defScope s_draw) := ⟨rfl, rfl, rfl, by decide +kernel, rfl, by decide +kernel, by decide +kernel⟩
section
variable {P : Program} {w : World} {K : PySem.W.Frag} {mg : Str → Option Value} {base : Heap}
theorem ok_deck {f : Addr} {fd : FuncData} (F : L2.Fun K "_law_deck" "_law_deck" s_deck f fd) (m_list : mg "list" = none) : Fg P w K mg base 1 f fd ["_law_script"] (spDeckH K) := by
  refine okg F sc_deck (fun vs H Q h => ?_) (fun cdv A outer s H vs Q hr h => ?_)
  · obtain ⟨a, ns, rfl, _⟩ := h
    rfl
  · obtain ⟨a, ns, rfl, hS, hlen, q⟩ := h
    refine ⟨_, (pss_cons (ps_par (i := 1) (j := 2) (by rfl) sc_deck.nd rfl rfl (by decide) rfl rfl (pa_cons (pe_callTy call_list_of (by rfl) m_list (by decide +kernel) (pa_cons (pe_slice sl_list (pv 0) po_none (po_some pe_int)) pa_nil)) (pa_cons pe_int pa_nil)) (by rfl)) (pss_cons (ps_for PassesOwn.never rfl (pi_list (pv 1)) (pg_name (i := 3) sc_deck.nd rfl (Or.inl rfl)) (pss_one (ps_set (i := 2) sc_deck.nd rfl (Or.inl rfl) (pe_op op_mod (pe_op op_add (pe_op op_add (pe_op op_mul (pv 2) pe_int) (pe_op op_mod (pv 3) pe_int)) pe_int) pe_int)))) (pss_one (ps_ret (pe_lst (pa_cons (pe_revL (pv 1)) (pa_cons (pv 2) (pa_cons pe_int pa_nil)))))))), ?_⟩
    refine ⟨.ref a, rfl, 63, rfl, a, _, rfl, hS, fun p1 n1 => ?_⟩
    refine ⟨p1, _, rfl, .inl (sq upd_same), fun c nc => ?_⟩
    refine ⟨_, _, rfl, ?_⟩
    have hcut : cutV (ns.map V.int) none (some 63) = ns.map V.int := by
      unfold cutV
      rw [show HT.sIx (ns.map V.int).length (ns.map V.int).length (some 63) = min 63 (ns.map V.int).length from HT.sIx_nat _ _ 63, HT.sIx_none, List.drop_zero, Nat.sub_zero]
      exact List.take_of_length_le (by rw [List.length_map]; omega)
    rw [hcut] at nc ⊢
    have s1 : Same H (upd H p1 (.lst (ns.map V.int))) := same_upd n1
    have s2 : Same (upd H p1 (.lst (ns.map V.int))) (upd (upd H p1 (.lst (ns.map V.int))) c (.lst (ns.map V.int))) := same_upd nc
    have ec : (upd (upd H p1 (.lst (ns.map V.int))) c (.lst (ns.map V.int))) c = some (.lst (ns.map V.int)) := upd_same
    generalize hG : upd (upd H p1 (.lst (ns.map V.int))) c (.lst (ns.map V.int)) = G at *
    refine ⟨.ref c, rfl, c, rfl, ⟨_, sq ec⟩, for_list (K := K) (a := c) (xs := ns.map V.int) (fun i σ H' => ∃ (m : Int) (v : Option V), σ = [some (.ref a), some (.ref c), some (.int m), v] ∧ H' = G ∧ 0 ≤ m ∧ m < 2147483629) ⟨91099, none, rfl, rfl, by decide, by decide⟩ ?_ ?_ ?_⟩
    · rintro i σ H' _ ⟨m, v, rfl, rfl, _⟩
      exact sq ec
    · rintro i x σ H' hi ⟨m, v, rfl, rfl, h0, h1⟩
      obtain ⟨z, rfl⟩ : ∃ z, x = V.int z := by
        rw [List.getElem?_map] at hi
        cases e : ns[i]? with
        | none => rw [e] at hi; cases hi
        | some u => rw [e] at hi; exact ⟨u, (Option.some.inj hi).symm⟩
      refine ⟨_, rfl, _, _, rfl, rfl, .inl ⟨by omega, by omega⟩, .int z, rfl, z, 2147483587, rfl, rfl, (by show (0 : Int) < 2147483587; decide), _, _, rfl, rfl, _, _, rfl, rfl, _, _, rfl, rfl, (by show (0 : Int) < 2147483629; decide), ?_⟩
      exact ⟨_, _, rfl, rfl, Int.emod_nonneg _ (by decide), Int.emod_lt_of_pos _ (by decide)⟩
    · rintro σ H' ⟨m, v, rfl, rfl, h0, h1⟩
      refine ⟨.ref c, rfl, c, _, rfl, sq ec, fun l nl => ?_⟩
      refine ⟨_, rfl, (by show 3 ≤ sizeLine; decide), fun p np => ?_⟩
      have nlp : l ≠ p := ne_new upd_same np
      have np' : H' p = none := by rw [upd_ne nlp.symm] at np; exact np
      refine q _ p l (s1.trans (s2.trans ((same_upd nl).trans (same_upd np)))) ⟨⟨m, ns.reverse, upd_same, ?_, h0, by omega, by rw [List.length_reverse]; omega⟩, nlp⟩ (s1.free (s2.free np')) (s1.free (s2.free nl))
      rw [upd_ne nlp, upd_same, List.map_reverse]
theorem ok_drawH {f : Addr} {fd : FuncData} (F : L2.Fun K "_law_draw" "_law_draw" s_draw f fd) : Fg P w K mg base 1 f fd ["_law_deck_here", "_law_limit"] spDrawH := by
  refine okg F sc_draw (fun vs H Q h => ?_) (fun cdv A outer s H vs Q hr h => ?_)
  · obtain ⟨p, l, n, lim, rfl, _⟩ := h
    rfl
  · obtain ⟨p, l, n, lim, rfl, ⟨⟨m, cs, hp, hl, hm0, hm1, hcs⟩, hne⟩, hn, hlim, hlim2, q⟩ := h
    refine ⟨_, (pss_cons (ps_asg (pe_op op_add (pe_ix ix_list (pv 0) pe_int (fun _ _ => rfl)) pe_int) (pg_sub (pv 0) pe_int set_list)) (pss_cons (ps_set (i := 2) sc_draw.nd rfl (Or.inl rfl) (pe_ix ix_list (pv 0) pe_int (fun _ _ => rfl))) (Evl.pss_cut (ps_if (pt_cmpR (op_neD hr.room.units) (pe_ix ix_list (pv 0) pe_int (fun _ _ => rfl)) (pe_lst pa_nil) (nomark _)) (pss_cons (ps_set (i := 2) sc_draw.nd rfl (Or.inl rfl) (pe_bm0 PySem.F.plainAttrs_list PySem.F.slot_list_pop PySem.F.type_list_pop mt_pop (pe_ix ix_list (pv 0) pe_int (fun _ _ => rfl)))) (pss_cons (ps_if (pt_cmpR op_ge (pv 2) (pe_op op_pow pe_int pe_int) (nomark _)) (pss_cons (ps_expr (pe_bm PySem.F.plainAttrs_list PySem.F.slot_list_append PySem.F.type_list_append mt_append (pe_ix ix_list (pv 0) pe_int (fun _ _ => rfl)) (pa_cons (pe_op op_fdivN (pv 2) (pv 1)) pa_nil))) (pss_one (ps_ret (pe_op op_mod (pv 2) (pv 1))))) pss_nil) (pss_one (ps_set (i := 2) sc_draw.nd rfl (Or.inl rfl) (pe_op op_add (pv 2) (pe_ix ix_list (pv 0) pe_int (fun _ _ => rfl))))))) pss_nil) (pss_cons (ps_set (i := 3) sc_draw.nd rfl (Or.inl rfl) (pe_op op_mod (pe_op op_mul (pe_op op_add (pe_op op_add (pe_op op_mod (pv 2) pe_int) (pe_op op_mul (pe_op op_mul pe_int (pe_ix ix_list (pv 0) pe_int (fun _ _ => rfl))) (pe_ix ix_list (pv 0) pe_int (fun _ _ => rfl)))) pe_int) pe_int) pe_int)) (pss_cons (ps_set (i := 3) sc_draw.nd rfl (Or.inl rfl) (pe_op op_mod (pe_op op_add (pe_op op_add (pe_op op_mul (pv 3) (pv 3)) (pe_op op_mul pe_int (pe_ix ix_list (pv 0) pe_int (fun _ _ => rfl)))) pe_int) pe_int)) (pss_one (ps_ret (pe_op op_mod (pe_op op_fdivN (pe_op op_mod (pe_op op_add (pe_op op_mul (pv 3) (pv 3)) (pe_op op_mul pe_int (pv 3))) pe_int) pe_int) (pv 1))))))))), ?_⟩
    refine ⟨.ref p, rfl, p, _, 2, .int (n : Int), rfl, rfl, sq hp, rfl, _, _, rfl, rfl, .ref p, rfl, p, _, 2, 2, rfl, rfl, hp, rfl, ?_⟩
    have hp1 : (upd H p (.lst [.ref l, .int m, .int ((n : Int) + 1)])) p = some (.lst [.ref l, .int m, .int ((n : Int) + 1)]) := upd_same
    have hl1 : (upd H p (.lst [.ref l, .int m, .int ((n : Int) + 1)])) l = some (.lst (cs.map V.int)) := by rw [upd_ne hne]; exact hl
    have b1 : But p l H (upd H p (.lst [.ref l, .int m, .int ((n : Int) + 1)])) := (But.refl p l H).left
    show tSeq _ _ _ _ (upd H p (.lst [.ref l, .int m, .int ((n : Int) + 1)]))
    generalize upd H p (.lst [.ref l, .int m, .int ((n : Int) + 1)]) = H1 at hp1 hl1 b1 ⊢
    refine ⟨.ref p, rfl, p, _, 1, .int m, rfl, rfl, sq hp1, rfl, ?_⟩
    refine ⟨fun σ2 H2 => ∃ (c : Int) (cs2 : List Int), σ2 = [some (.ref p), some (.int lim), some (.int c), none] ∧ H2 p = some (.lst [.ref l, .int m, .int ((n : Int) + 1)]) ∧ H2 l = some (.lst (cs2.map V.int)) ∧ But p l H H2 ∧ cs2.length ≤ 64, ?_, ?_⟩
    · refine ⟨.ref p, rfl, p, _, 0, .ref l, rfl, rfl, sq hp1, rfl, Nat.zero_le _, fun e ne => ?_⟩
      have sE : Same H1 (upd H1 e (.lst [])) := same_upd ne
      have bE : But p l H (upd H1 e (.lst [])) := b1.trans (.of sE)
      have eE : (upd H1 e (.lst [])) e = some (.lst []) := upd_same
      have hp2 := sE _ _ hp1
      have hl2 := sE _ _ hl1
      generalize upd H1 e (.lst []) = G at sE bE eE hp2 hl2 ⊢
      refine ⟨.list (intsD cs), .list [], .lst (sq hl2) (dp_intsD cs), .lst (sq eE) .nil, shaped_ints cs, shaped_ints [], _, rfl, ?_⟩
      rw [eqv_ints_nil]
      cases cs with
      | nil => exact ⟨m, [], rfl, hp2, hl2, bE, Nat.zero_le _⟩
      | cons c0 cs0 =>
        have hlast : ((c0 :: cs0).map V.int)[((c0 :: cs0).map V.int).length - 1]? = some (.int ((c0 :: cs0).getLast (List.cons_ne_nil _ _))) := by
          rw [List.length_map, List.getElem?_map, ← List.getLast?_eq_getElem?, List.getLast?_eq_getLast (List.cons_ne_nil _ _)]
          rfl
        generalize hz : (c0 :: cs0).getLast (List.cons_ne_nil _ _) = z at hlast
        refine ⟨.ref p, rfl, p, _, 0, .ref l, rfl, rfl, sq hp2, rfl, .inl ⟨rfl, _, sq hl2⟩, l, _, _, rfl, rfl, hl2, hlast, ?_⟩
        have hdl : ((c0 :: cs0).map V.int).dropLast = ((c0 :: cs0).dropLast).map V.int := List.map_dropLast.symm
        rw [hdl]
        generalize hcs : (c0 :: cs0).dropLast = cs1
        have hlen1 : cs1.length ≤ 63 := by
          rw [← hcs, List.length_dropLast]
          omega
        have hp3 : (upd G l (.lst (cs1.map V.int))) p = some (.lst [.ref l, .int m, .int ((n : Int) + 1)]) := by rw [upd_ne hne.symm]; exact hp2
        have hl3 : (upd G l (.lst (cs1.map V.int))) l = some (.lst (cs1.map V.int)) := upd_same
        have b3 : But p l H (upd G l (.lst (cs1.map V.int))) := bE.right
        generalize upd G l (.lst (cs1.map V.int)) = G3 at hp3 hl3 b3 ⊢
        refine ⟨_, rfl, _, _, rfl, rfl, (by show (0 : Int) ≤ 18 ∧ (18 : Int) ≤ 1000000 ∧ (10 : Int).natAbs < 2 ^ 64; decide), _, _, rfl, rfl, _, rfl, ite2 (fun _ => ?_) (fun _ => ?_)⟩
        · refine ⟨.ref p, rfl, p, _, 0, .ref l, rfl, rfl, sq hp3, rfl, .inl ⟨rfl, _, sq hl3⟩, _, rfl, _, rfl, _, _, rfl, rfl, ⟨by omega, by omega⟩, l, _, _, rfl, rfl, hl3, (by rw [List.length_map]; exact szl (by omega)), ?_⟩
          refine ⟨_, rfl, _, rfl, _, _, rfl, rfl, by omega, ?_⟩
          refine q _ _ ⟨⟨m, cs1 ++ [z.fdiv lim], ?_, ?_, hm0, hm1, ?_⟩, hne⟩ b3.right (Int.emod_nonneg _ (by omega)) (Int.emod_lt_of_pos _ (by omega))
          · rw [upd_ne hne.symm]
            exact hp3
          · rw [upd_same, List.map_append]
            rfl
          · rw [List.length_append, List.length_singleton]
            omega
        · refine ⟨_, rfl, .ref p, rfl, p, _, 1, .int m, rfl, rfl, sq hp3, rfl, _, _, rfl, rfl, ?_⟩
          exact ⟨_, cs1, rfl, hp3, hl3, b3, by omega⟩
    · rintro σ2 H2 ⟨c, cs2, rfl, hp2, hl2, b2, hc2⟩
      refine ⟨_, rfl, _, _, rfl, rfl, (by show (0 : Int) < 2147483587; decide), .ref p, rfl, p, _, 2, .int ((n : Int) + 1), rfl, rfl, sq hp2, rfl, _, _, rfl, rfl, .inl ⟨by decide, by decide⟩, .ref p, rfl, p, _, 2, .int ((n : Int) + 1), rfl, rfl, sq hp2, rfl, _, _, rfl, rfl, .inl ⟨by omega, by omega⟩, _, _, rfl, rfl, _, _, rfl, rfl, _, _, rfl, rfl, .inr ⟨by decide, by decide⟩, _, _, rfl, rfl, (by show (0 : Int) < 2147483647; decide), ?_⟩
      have hx0 := Int.emod_nonneg ((c % 2147483587 + 65617 * ((n : Int) + 1) * ((n : Int) + 1) + 59) * 69621) (show (2147483647 : Int) ≠ 0 by decide)
      have hx1 := Int.emod_lt_of_pos ((c % 2147483587 + 65617 * ((n : Int) + 1) * ((n : Int) + 1) + 59) * 69621) (show (0 : Int) < 2147483647 by decide)
      show tSeq _ _ _ [some (.ref p), some (.int lim), some (.int c), some (.int ((c % 2147483587 + 65617 * ((n : Int) + 1) * ((n : Int) + 1) + 59) * 69621 % 2147483647))] H2
      generalize (c % 2147483587 + 65617 * ((n : Int) + 1) * ((n : Int) + 1) + 59) * 69621 % 2147483647 = x at hx0 hx1 ⊢
      refine ⟨_, rfl, _, rfl, _, _, rfl, rfl, .inl ⟨by omega, by omega⟩, .ref p, rfl, p, _, 2, .int ((n : Int) + 1), rfl, rfl, sq hp2, rfl, _, _, rfl, rfl, .inl ⟨by decide, by decide⟩, _, _, rfl, rfl, _, _, rfl, rfl, _, _, rfl, rfl, (by show (0 : Int) < 2147483563; decide), ?_⟩
      have hy0 := Int.emod_nonneg (x * x + 39373 * ((n : Int) + 1) + 23) (show (2147483563 : Int) ≠ 0 by decide)
      have hy1 := Int.emod_lt_of_pos (x * x + 39373 * ((n : Int) + 1) + 23) (show (0 : Int) < 2147483563 by decide)
      refine ⟨_, rfl, _, rfl, _, _, rfl, rfl, .inl ⟨Int.lt_of_lt_of_le (by decide) hy0, Int.lt_trans hy1 (by decide)⟩, _, rfl, _, _, rfl, rfl, .inl ⟨by decide, by decide⟩, _, _, rfl, rfl, _, _, rfl, rfl, (by show (0 : Int) < 2147483629; decide), _, _, rfl, rfl, ⟨by decide, by decide⟩, _, rfl, _, _, rfl, rfl, by omega, ?_⟩
      exact q H2 _ ⟨⟨m, cs2, hp2, hl2, hm0, hm1, hc2⟩, hne⟩ b2 (Int.emod_nonneg _ (by omega)) (Int.emod_lt_of_pos _ (by omega))
theorem ok_draw {f : Addr} {fd : FuncData} (F : L2.Fun K "_law_draw" "_law_draw" s_draw f fd) : Fg P w K mg base 1 f fd ["_law_deck_here", "_law_limit"] (spOf K 2 F_draw) := weak (ok_drawH F) fun _ _ _ h => draw_of h
end
end K07


set_option Elab.async false
set_option linter.all false
set_option maxRecDepth 100000
set_option maxHeartbeats 4000000
namespace K07
open PySem PySem.Spec PyProof.Rows L2 GG DD PT DL
/-! ### _law_pick -/
abbrev s_pick : Stmt := topS 23
theorem sc_pick : FnScope ["_law_deck_here", "_law_items"] ["_law_deck_here", "_law_items"] (defScope s_pick) := ⟨rfl, rfl, rfl, by decide +kernel, rfl, by decide +kernel, by decide +kernel⟩
def dB_pick (F_draw : FD) : DS := (dRet (dOp oIxQ (dVar 1) (dCall 2 F_draw (xDeck 0 (xCons (dLenD (dVar 1)) xNil)))))
theorem ok_pick {P : Program} {w : World} {K : PySem.W.Frag} {mg : Str → Option Value} {base : Heap} {f : Addr} {fd : FuncData} {k : Nat} {F_draw : FD} (F : L2.Fun K "_law_pick" "_law_pick" s_pick f fd)
    {k0 : Nat} (D_draw : Df P w K mg base k0 "_law_draw" ["_law_deck_here", "_law_limit"] (spOf K 2 F_draw)) (m_len : mg "len" = none) (h_k0 : k0 ≤ k) :
    Fg P w K mg base (k + 1) f fd ["_law_deck_here", "_law_items"] (spOf K 2 (bodyD (dB_pick F_draw) 0)) :=
  okd (m := 2) rfl F sc_pick fun cdv A outer s H hr W B H0 G0 Z0 => ⟨_, (pss_one (ps_ret (pe_ix ix_seq (pv 1) (dcall D_draw (hr.mono (h_k0)) (by rfl) (pa_cons (pv 0) (pa_cons (pe_callB call_len_seq (by rfl) m_len (by decide +kernel) (pa_cons (pv 1) pa_nil)) pa_nil))) (fun _ _ => rfl)))),
    (rs_ret (re_op ro_ixQ (re_var (i := 1)) (re_call (rx_deck (i := 0) (rx_cons (re_lenD (re_var (i := 1))) rx_nil)))))⟩
/-! ### _law_names -/
abbrev s_names : Stmt := topS 24
theorem sc_names : FnScope ["_law_deck_here", "_law_many", "_law_letters", "_law_way", "_law_first", "_law_words", "_law_found", "_law_k", "_law_letter"] ["_law_deck_here", "_law_many"] (defScope s_names) := ⟨rfl, rfl, rfl, by decide +kernel, rfl, by decide +kernel, by decide +kernel⟩
def dB_names (F_draw : FD) : DS := (dSeq (dPar3 2 3 4 (dCons (dC (.str "abcdefghijklmnopqrstuvwxyz")) (dCons (dCall 2 F_draw (xDeck 0 (xCons (dC (.int 4)) xNil))) (dCons (dCall 2 F_draw (xDeck 0 (xCons (dC (.int 26)) xNil))) dNil)))) (dSeq (dSet (dNewL (dSplit (dC (.str "case part tag call ask same is not both either yes no and or none one root union take")) (dC (.str " ")))) 5) (dSeq (dSet (dNewL (dCat (dVar 5) (dNewL (dSplit (dC (.str "never number plus least most make test gather else rank tags voids")) (dC (.str " ")))))) 5) (dSeq (dSetO (dLst dNil) 6) (dSeq (dFor (dRng1 (dVar 1)) (gdN 7) (dSeq (dSet (dOp oIxS (dVar 2) (dOp (oI (fun _ j => 0 < j) fun i j => i % j) (dOp (oI0 fun i j => i + j) (dVar 4) (dOp (oI CMul fun i j => i * j) (dC (.int 5)) (dVar 7))) (dC (.int 26)))) 8) (dApp 6 (dOp oIxL (dNewL (dLst (dCons (dVar 8) (dCons (dIxVar 5 (dOp (oI (fun _ j => 0 < j) fun i j => i % j) (dOp (oI0 fun i j => i + j) (dVar 4) (dOp (oI CMul fun i j => i * j) (dC (.int 3)) (dVar 7))) (dC (.int 31)))) (dCons (dIfE (dB (dOp (oB0 fun i j => decide (i < j)) (dVar 7) (dC (.int 8)))) (dSlS (dC (.str "zyxwvuts")) dNoP (dPart (dOp (oI0 fun i j => i + j) (dC (.int 1)) (dOp (oI (fun _ j => 0 < j) fun i j => i % j) (dVar 7) (dC (.int 8)))))) (dOp oCatS (dVar 8) (dSlS (dC (.str "void")) dNoP (dPart (dC (.int 3)))))) (dCons (dOp oCatS (dC (.str "abcdefg")) (dVar 8)) dNil)))))) (dVar 3))))) (dRet (dNewL (dSortS (dListVar 6)))))))))
theorem ok_names {P : Program} {w : World} {K : PySem.W.Frag} {mg : Str → Option Value} {base : Heap} {f : Addr} {fd : FuncData} {k : Nat} {F_draw : FD} (F : L2.Fun K "_law_names" "_law_names" s_names f fd)
    {k0 : Nat} (D_draw : Df P w K mg base k0 "_law_draw" ["_law_deck_here", "_law_limit"] (spOf K 2 F_draw)) (m_range : mg "range" = none) (m_sorted : mg "sorted" = none) (h_k0 : k0 ≤ k) :
    Fg P w K mg base (k + 1) f fd ["_law_deck_here", "_law_many"] (spOf K 2 (bodyD (dB_names F_draw) 7)) :=
  okd (m := 2) rfl F sc_names fun cdv A outer s H hr W B H0 G0 Z0 => ⟨_, (pss_cons (ps_par3 (i := 2) (j := 3) (l := 4) (by rfl) sc_names.nd rfl rfl rfl (by decide) (by decide) (by decide) rfl rfl rfl (pa_cons pe_str (pa_cons (dcall D_draw (hr.mono (h_k0)) (by rfl) (pa_cons (pv 0) (pa_cons pe_int pa_nil))) (pa_cons (dcall D_draw (hr.mono (h_k0)) (by rfl) (pa_cons (pv 0) (pa_cons pe_int pa_nil))) pa_nil))) (by rfl)) (pss_cons (ps_set (i := 5) sc_names.nd rfl (Or.inl rfl) (pe_split pe_str pe_str)) (pss_cons (ps_set (i := 5) sc_names.nd rfl (Or.inl rfl) (pe_op op_cat (pv 5) (pe_split pe_str pe_str))) (pss_cons (ps_set (i := 6) sc_names.nd rfl (Or.inl rfl) (pe_lst pa_nil)) (pss_cons (ps_for PassesOwn.never rfl (pi_range1 (by rfl) m_range (pa_cons (pv 1) pa_nil)) (pg_name (i := 7) sc_names.nd rfl (Or.inl rfl)) (pss_cons (ps_set (i := 8) sc_names.nd rfl (Or.inl rfl) (pe_ix ix_str (pv 2) (pe_op op_mod (pe_op op_add (pv 4) (pe_op op_mul pe_int (pv 7))) pe_int) (fun _ _ => rfl))) (pss_one (ps_expr (pe_bm PySem.F.plainAttrs_list PySem.F.slot_list_append PySem.F.type_list_append mt_append (pv 6) (pa_cons (pe_ix ix_list (pe_lst (pa_cons (pv 8) (pa_cons (pe_ix ix_list (pv 5) (pe_op op_mod (pe_op op_add (pv 4) (pe_op op_mul pe_int (pv 7))) pe_int) (fun _ _ => rfl)) (pa_cons (pe_ifExp (pt_cmpR op_lt (pv 7) pe_int (nomark _)) (pe_slice sl_str pe_str po_none (po_some (pe_op op_add pe_int (pe_op op_mod (pv 7) pe_int)))) (pe_op op_add_str (pv 8) (pe_slice sl_str pe_str po_none (po_some pe_int)))) (pa_cons (pe_op op_add_str pe_str (pv 8)) pa_nil))))) (pv 3) (fun _ _ => rfl)) pa_nil)))))) (pss_one (ps_ret (pe_callB cr_sortedS (by rfl) m_sorted (by decide +kernel) (pa_cons (pv 6) pa_nil))))))))),
    (rs_seq (rs_par3 (i := 2) (j := 3) (l := 4) (ra_cons re_str (ra_cons (re_call (rx_deck (i := 0) (rx_cons re_int rx_nil))) (ra_cons (re_call (rx_deck (i := 0) (rx_cons re_int rx_nil))) ra_nil)))) (rs_seq (rs_set (i := 5) (re_new (rf_split re_str re_str))) (rs_seq (rs_set (i := 5) (re_new (rf_cat (re_var (i := 5)) (re_new (rf_split re_str re_str))))) (rs_seq (rs_setO (i := 6) (rf_lst ra_nil)) (rs_seq (rs_for (ri_rng1 (re_var (i := 1))) (rg_name (i := 7)) (rs_seq (rs_set (i := 8) (re_op ro_ixS (re_var (i := 2)) (re_op ro_I (re_op ro_I0 (re_var (i := 4)) (re_op ro_I re_int (re_var (i := 7)))) re_int))) (rs_app (i := 6) (re_op ro_ixL (re_new (rf_lst (ra_cons (re_var (i := 8)) (ra_cons (re_ixVar (i := 5) (re_op ro_I (re_op ro_I0 (re_var (i := 4)) (re_op ro_I re_int (re_var (i := 7)))) re_int)) (ra_cons (re_if (rt_test (re_op ro_B0 (re_var (i := 7)) re_int)) (re_slS re_str rp_no (rp_of (re_op ro_I0 re_int (re_op ro_I (re_var (i := 7)) re_int)))) (re_op ro_catS (re_var (i := 8)) (re_slS re_str rp_no (rp_of re_int)))) (ra_cons (re_op ro_catS re_str (re_var (i := 8))) ra_nil)))))) (re_var (i := 3)))))) (rs_ret (re_new (rf_sortS (rl_var (i := 6))))))))))⟩
/-! ### _law_tags -/
abbrev s_tags : Stmt := topS 25
theorem sc_tags : FnScope ["_law_deck_here", "_law_names_here", "_law_name"] ["_law_deck_here"] (defScope s_tags) := ⟨rfl, rfl, rfl, by decide +kernel, rfl, by decide +kernel, by decide +kernel⟩
def dB_tags (F_names : FD) (F_draw : FD) (F_pick : FD) : DS := (dSeq (dSet (dCall 2 F_names (xDeck 0 (xCons (dOp (oI0 fun i j => i + j) (dC (.int 1)) (dCall 2 F_draw (xDeck 0 (xCons (dC (.int 6)) xNil)))) xNil))) 1) (dRet (dTupOf (dComp (dAsL (dVar 1)) (gdN 2) dYes (dTup (dCons (dVar 2) (dCons (dCall 2 F_pick (xDeck 0 (xCons (dNewL (dLst (dCons (dC (.int 0)) (dCons (dC (.int 0)) (dCons (dC (.int 1)) (dCons (dC (.int 2)) (dCons (dC (.int 2)) (dCons (dC (.int 3)) dNil)))))))) xNil))) dNil))) [2]))))
theorem ok_tags {P : Program} {w : World} {K : PySem.W.Frag} {mg : Str → Option Value} {base : Heap} {f : Addr} {fd : FuncData} {k : Nat} {F_names : FD} {F_draw : FD} {F_pick : FD} (F : L2.Fun K "_law_tags" "_law_tags" s_tags f fd)
    {k0 : Nat} {k1 : Nat} {k2 : Nat} (D_names : Df P w K mg base k0 "_law_names" ["_law_deck_here", "_law_many"] (spOf K 2 F_names)) (D_draw : Df P w K mg base k1 "_law_draw" ["_law_deck_here", "_law_limit"] (spOf K 2 F_draw)) (D_pick : Df P w K mg base k2 "_law_pick" ["_law_deck_here", "_law_items"] (spOf K 2 F_pick)) (m_tuple : mg "tuple" = none) (h_k0 : k0 ≤ k) (h_k1 : k1 ≤ k) (h_k2 : k2 ≤ k) :
    Fg P w K mg base (k + 1) f fd ["_law_deck_here"] (spOf K 1 (bodyD (dB_tags F_names F_draw F_pick) 2)) :=
  okd (m := 1) rfl F sc_tags fun cdv A outer s H hr W B H0 G0 Z0 => ⟨_, (pss_cons (ps_set (i := 1) sc_tags.nd rfl (Or.inl rfl) (dcall D_names (hr.mono (h_k0)) (by rfl) (pa_cons (pv 0) (pa_cons (pe_op op_add pe_int (dcall D_draw (hr.mono (h_k1)) (by rfl) (pa_cons (pv 0) (pa_cons pe_int pa_nil)))) pa_nil)))) (pss_one (ps_ret (pe_callTy call_tuple_ofP (by rfl) m_tuple (by decide +kernel) (pa_cons (pe_lc (own := [("_law_name", 2)]) (g := (gName 2)) rfl sc_tags.nd (pi_list (pv 1)) (blkOk_by (own := [("_law_name", 2)]) (N := ["_law_deck_here", "_law_names_here", "_law_name"]) (sc := defScope s_tags) (by decide +kernel)) (fun _ _ _ _ _ => (pg_name (i := 2) sc_tags.nd rfl (Or.inl rfl))) (fun _ _ _ _ _ => pts_nil) (fun _ _ _ _ _ => (pe_tupP (pa_cons (pv 2) (pa_cons (dcall D_pick (hr.mono (h_k2)) (by rfl) (pa_cons (pv 0) (pa_cons (pe_lst (pa_cons pe_int (pa_cons pe_int (pa_cons pe_int (pa_cons pe_int (pa_cons pe_int (pa_cons pe_int pa_nil))))))) pa_nil))) pa_nil))))) pa_nil))))),
    (rs_seq (rs_set (i := 1) (re_call (rx_deck (i := 0) (rx_cons (re_op ro_I0 re_int (re_call (rx_deck (i := 0) (rx_cons re_int rx_nil)))) rx_nil)))) (rs_ret (re_tupL (rl_new (rf_comp (vs := [2]) (ri_list (re_var (i := 1))) (rgv_name (i := 2) (by decide)) (gw_name (i := 2) (by decide)) rt_yes (re_tup (ra_cons (re_var (i := 2)) (ra_cons (re_call (rx_deck (i := 0) (rx_cons (re_new (rf_lst (ra_cons re_int (ra_cons re_int (ra_cons re_int (ra_cons re_int (ra_cons re_int (ra_cons re_int ra_nil)))))))) rx_nil))) ra_nil))))))))⟩
/-! ### _law_rows -/
abbrev s_rows : Stmt := topS 26
theorem sc_rows : FnScope ["_law_deck_here", "_law_tags_here", "_law_some", "_law_way", "_law_found", "_law_wide", "_law_name", "_law_many", "_law_count", "_law_k", "_law_pair", "_law_j"] ["_law_deck_here", "_law_tags_here"] (defScope s_rows) := ⟨rfl, rfl, rfl, by decide +kernel, rfl, by decide +kernel, by decide +kernel⟩
def dB_rows (F_draw : FD) (F_pick : FD) : DS := (dSeq (dPar3R 2 3 4 (dNewL (dCat (dNewL (dAsU (dVar 1))) (dNewL (dLst (dCons (dTup (dCons (dC (.str "void")) (dCons (dC (.int 0)) dNil))) dNil))))) (dCall 2 F_draw (xDeck 0 (xCons (dC (.int 6)) xNil))) (dLst dNil)) (dSeq (dSet (dNewL (dComp (dAsU (dVar 1)) (gdN 10) (dB (dOp (oB0 fun i j => decide (j < i)) (dOp oIxU (dVar 10) (dC (.int 1))) (dC (.int 0)))) (dVar 10) [10])) 5) (dSeq (dIf (dAnd (dB (dOp (oEq false) (dVar 3) (dC (.int 0)))) (dB (dOp (oEqD true) (dVar 5) (dNewL (dLst dNil))))) (dSeq (dAsg (dCall 2 F_pick (xDeck 0 (xCons (dVar 5) xNil))) (gdTup 2 (gdCons (gdN 6) (gdCons (gdN 7) gdNil)))) (dSeq (dSet (dOp (oI0 fun i j => i + j) (dC (.int 1)) (dCall 2 F_draw (xDeck 0 (xCons (dC (.int 23)) xNil)))) 8) (dSeq (dSetO (dComp (dRng1 (dOp (oI0 fun i j => i - j) (dVar 8) (dC (.int 1)))) (gdN 9) dYes (dTup (dCons (dVar 6) (dCons (dOp oRepU (dTup (dCons (dOp (oI0 fun i j => i + j) (dVar 9) (dC (.int 1))) dNil)) (dVar 7)) dNil))) [9]) 4) (dRet (dTupOf (dCatVar 4 (dNewL (dLst (dCons (dTup (dCons (dVar 6) (dCons (dOp oRepU (dTup (dCons (dCall 2 F_pick (xDeck 0 (xCons (dNewL (dLst (dCons (dC (.int 0)) (dCons (dVar 8) (dCons (dVar 8) dNil))))) xNil))) dNil)) (dVar 7)) dNil))) (dCons (dTup (dCons (dC (.str "void")) (dCons (dTup dNil) dNil))) dNil)))))))))) dNext) (dSeq (dSet (dOp (oI0 fun i j => i + j) (dC (.int 1)) (dCall 2 F_draw (xDeck 0 (xCons (dC (.int 12)) xNil)))) 8) (dSeq (dFor (dRng1 (dVar 8)) (gdN 9) (dSeq (dAsg (dCall 2 F_pick (xDeck 0 (xCons (dIfE (dB (dOp (oEq false) (dCall 2 F_draw (xDeck 0 (xCons (dC (.int 3)) xNil))) (dC (.int 0)))) (dVar 2) (dVar 1)) xNil))) (gdTup 2 (gdCons (gdN 6) (gdCons (gdN 7) gdNil)))) (dApp 4 (dTup (dCons (dVar 6) (dCons (dTupOf (dComp (dRng1 (dVar 7)) (gdN 11) dYes (dCall 2 F_draw (xDeck 0 (xCons (dVar 8) xNil))) [11])) dNil)))))) (dRet (dTupOf (dListVar 4))))))))
theorem ok_rows {P : Program} {w : World} {K : PySem.W.Frag} {mg : Str → Option Value} {base : Heap} {f : Addr} {fd : FuncData} {k : Nat} {F_draw : FD} {F_pick : FD} (F : L2.Fun K "_law_rows" "_law_rows" s_rows f fd)
    {k0 : Nat} {k1 : Nat} (D_draw : Df P w K mg base k0 "_law_draw" ["_law_deck_here", "_law_limit"] (spOf K 2 F_draw)) (D_pick : Df P w K mg base k1 "_law_pick" ["_law_deck_here", "_law_items"] (spOf K 2 F_pick)) (m_list : mg "list" = none) (m_range : mg "range" = none) (m_tuple : mg "tuple" = none) (h_k0 : k0 ≤ k) (h_k1 : k1 ≤ k) :
    Fg P w K mg base (k + 1) f fd ["_law_deck_here", "_law_tags_here"] (spOf K 2 (bodyD (dB_rows F_draw F_pick) 10)) :=
  okd (m := 2) rfl F sc_rows fun cdv A outer s H hr W B H0 G0 Z0 => ⟨_, (pss_cons (ps_par3 (i := 2) (j := 3) (l := 4) (by rfl) sc_rows.nd rfl rfl rfl (by decide) (by decide) (by decide) rfl rfl rfl (pa_cons (pe_op op_cat (pe_callTy call_list_of (by rfl) m_list (by decide +kernel) (pa_cons (pv 1) pa_nil)) (pe_lst (pa_cons (pe_tupP (pa_cons pe_str (pa_cons pe_int pa_nil))) pa_nil))) (pa_cons (dcall D_draw (hr.mono (h_k0)) (by rfl) (pa_cons (pv 0) (pa_cons pe_int pa_nil))) (pa_cons (pe_lst pa_nil) pa_nil))) (by rfl)) (pss_cons (ps_setLc (i := 5) (own := [("_law_pair", 10)]) (g := (gName 10)) rfl sc_rows.nd rfl rfl (sw_true rfl rfl rfl (by decide +kernel)) (pi_tup (pv 1)) (blkOk_by (own := [("_law_pair", 10)]) (N := ["_law_deck_here", "_law_tags_here", "_law_some", "_law_way", "_law_found", "_law_wide", "_law_name", "_law_many", "_law_count", "_law_k", "_law_pair", "_law_j"]) (sc := defScope s_rows) (by decide +kernel)) (fun _ _ _ _ _ => (pg_name (i := 10) sc_rows.nd rfl (Or.inl rfl))) (fun _ _ _ _ _ => (pts_one (pt_cmpR op_gt (pe_ix ix_tup (pv 10) pe_int (fun _ _ => rfl)) pe_int (nomark _)))) (fun _ _ _ _ _ => (pv 10))) (pss_cons (ps_if (PW.pt (pw_and (pt_cmpR op_eq (pv 3) pe_int (nomark _)) (pw_and1 (pt_cmpR (op_neD hr.room.units) (pv 5) (pe_lst pa_nil) (nomark _))))) (pss_cons (ps_asg (dcall D_pick (hr.mono (h_k1)) (by rfl) (pa_cons (pv 0) (pa_cons (pv 5) pa_nil))) (pg_tup rfl (pgs_cons (pg_name (i := 6) sc_rows.nd rfl (Or.inr rfl)) (pgs_cons (pg_name (i := 7) sc_rows.nd rfl (Or.inr rfl)) pgs_nil)))) (pss_cons (ps_set (i := 8) sc_rows.nd rfl (Or.inr rfl) (pe_op op_add pe_int (dcall D_draw (hr.mono (h_k0)) (by rfl) (pa_cons (pv 0) (pa_cons pe_int pa_nil))))) (pss_cons (ps_setLc (i := 4) (own := [("_law_k", 9)]) (g := (gName 9)) rfl sc_rows.nd rfl rfl (sw_true rfl rfl rfl (by decide +kernel)) (pi_range1 (by rfl) m_range (pa_cons (pe_op op_sub (pv 8) pe_int) pa_nil)) (blkOk_by (own := [("_law_k", 9)]) (N := ["_law_deck_here", "_law_tags_here", "_law_some", "_law_way", "_law_found", "_law_wide", "_law_name", "_law_many", "_law_count", "_law_k", "_law_pair", "_law_j"]) (sc := defScope s_rows) (by decide +kernel)) (fun _ _ _ _ _ => (pg_name (i := 9) sc_rows.nd rfl (Or.inl rfl))) (fun _ _ _ _ _ => pts_nil) (fun _ _ _ _ _ => (pe_tupP (pa_cons (pv 6) (pa_cons (pe_op op_repP (pe_tupP (pa_cons (pe_op op_add (pv 9) pe_int) pa_nil)) (pv 7)) pa_nil))))) (pss_one (ps_ret (pe_callTy call_tuple_ofP (by rfl) m_tuple (by decide +kernel) (pa_cons (pe_op op_cat (pv 4) (pe_lst (pa_cons (pe_tupP (pa_cons (pv 6) (pa_cons (pe_op op_repP (pe_tupP (pa_cons (dcall D_pick (hr.mono (h_k1)) (by rfl) (pa_cons (pv 0) (pa_cons (pe_lst (pa_cons pe_int (pa_cons (pv 8) (pa_cons (pv 8) pa_nil)))) pa_nil))) pa_nil)) (pv 7)) pa_nil))) (pa_cons (pe_tupP (pa_cons pe_str (pa_cons (pe_tupP pa_nil) pa_nil))) pa_nil)))) pa_nil))))))) pss_nil) (pss_cons (ps_set (i := 8) sc_rows.nd rfl (Or.inr rfl) (pe_op op_add pe_int (dcall D_draw (hr.mono (h_k0)) (by rfl) (pa_cons (pv 0) (pa_cons pe_int pa_nil))))) (pss_cons (ps_for PassesOwn.never rfl (pi_range1 (by rfl) m_range (pa_cons (pv 8) pa_nil)) (pg_name (i := 9) sc_rows.nd rfl (Or.inl rfl)) (pss_cons (ps_asg (dcall D_pick (hr.mono (h_k1)) (by rfl) (pa_cons (pv 0) (pa_cons (pe_ifExp (pt_cmpR op_eq (dcall D_draw (hr.mono (h_k0)) (by rfl) (pa_cons (pv 0) (pa_cons pe_int pa_nil))) pe_int (nomark _)) (pv 2) (pv 1)) pa_nil))) (pg_tup rfl (pgs_cons (pg_name (i := 6) sc_rows.nd rfl (Or.inr rfl)) (pgs_cons (pg_name (i := 7) sc_rows.nd rfl (Or.inr rfl)) pgs_nil)))) (pss_one (ps_expr (pe_bm PySem.F.plainAttrs_list PySem.F.slot_list_append PySem.F.type_list_append mt_append (pv 4) (pa_cons (pe_tupP (pa_cons (pv 6) (pa_cons (pe_callTy call_tuple_ofP (by rfl) m_tuple (by decide +kernel) (pa_cons (pe_lc (own := [("_law_j", 11)]) (g := (gName 11)) rfl sc_rows.nd (pi_range1 (by rfl) m_range (pa_cons (pv 7) pa_nil)) (blkOk_by (own := [("_law_j", 11)]) (N := ["_law_deck_here", "_law_tags_here", "_law_some", "_law_way", "_law_found", "_law_wide", "_law_name", "_law_many", "_law_count", "_law_k", "_law_pair", "_law_j"]) (sc := defScope s_rows) (by decide +kernel)) (fun _ _ _ _ _ => (pg_name (i := 11) sc_rows.nd rfl (Or.inl rfl))) (fun _ _ _ _ _ => pts_nil) (fun _ _ _ _ _ => (dcall D_draw (hr.mono (h_k0)) (by rfl) (pa_cons (pv 0) (pa_cons (pv 8) pa_nil))))) pa_nil)) pa_nil))) pa_nil)))))) (pss_one (ps_ret (pe_callTy call_tuple_ofP (by rfl) m_tuple (by decide +kernel) (pa_cons (pv 4) pa_nil))))))))),
    (rs_seq (rs_par3R (i := 2) (j := 3) (l := 4) (re_new (rf_cat (re_new (rf_listU (ru_of (re_var (i := 1))))) (re_new (rf_lst (ra_cons (re_tup (ra_cons re_str (ra_cons re_int ra_nil))) ra_nil))))) (re_call (rx_deck (i := 0) (rx_cons re_int rx_nil))) (rf_lst ra_nil)) (rs_seq (rs_set (i := 5) (re_new (rf_comp (vs := [10]) (ri_tup (re_var (i := 1))) (rgv_name (i := 10) (by decide)) (gw_name (i := 10) (by decide)) (rt_test (re_op ro_B0 (re_op ro_ixU (re_var (i := 10)) re_int) re_int)) (re_var (i := 10))))) (rs_seq (rs_if (rt_and (rt_test (re_op ro_eq (re_var (i := 3)) re_int)) (rt_test (re_op ro_neD (re_var (i := 5)) (re_new (rf_lst ra_nil))))) (rs_seq (rs_asg (re_call (rx_deck (i := 0) (rx_cons (re_var (i := 5)) rx_nil))) (rg_tup (rgs_cons (rg_name (i := 6)) (rgs_cons (rg_name (i := 7)) rgs_nil)))) (rs_seq (rs_set (i := 8) (re_op ro_I0 re_int (re_call (rx_deck (i := 0) (rx_cons re_int rx_nil))))) (rs_seq (rs_setO (i := 4) (rf_comp (vs := [9]) (ri_rng1 (re_op ro_I0 (re_var (i := 8)) re_int)) (rgv_name (i := 9) (by decide)) (gw_name (i := 9) (by decide)) rt_yes (re_tup (ra_cons (re_var (i := 6)) (ra_cons (re_op ro_repU (re_tup (ra_cons (re_op ro_I0 (re_var (i := 9)) re_int) ra_nil)) (re_var (i := 7))) ra_nil))))) (rs_ret (re_tupL (rl_new (rf_catVar (i := 4) (re_new (rf_lst (ra_cons (re_tup (ra_cons (re_var (i := 6)) (ra_cons (re_op ro_repU (re_tup (ra_cons (re_call (rx_deck (i := 0) (rx_cons (re_new (rf_lst (ra_cons re_int (ra_cons (re_var (i := 8)) (ra_cons (re_var (i := 8)) ra_nil))))) rx_nil))) ra_nil)) (re_var (i := 7))) ra_nil))) (ra_cons (re_tup (ra_cons re_str (ra_cons (re_tup ra_nil) ra_nil))) ra_nil))))))))))) rs_next) (rs_seq (rs_set (i := 8) (re_op ro_I0 re_int (re_call (rx_deck (i := 0) (rx_cons re_int rx_nil))))) (rs_seq (rs_for (ri_rng1 (re_var (i := 8))) (rg_name (i := 9)) (rs_seq (rs_asg (re_call (rx_deck (i := 0) (rx_cons (re_if (rt_test (re_op ro_eq (re_call (rx_deck (i := 0) (rx_cons re_int rx_nil))) re_int)) (re_var (i := 2)) (re_var (i := 1))) rx_nil))) (rg_tup (rgs_cons (rg_name (i := 6)) (rgs_cons (rg_name (i := 7)) rgs_nil)))) (rs_app (i := 4) (re_tup (ra_cons (re_var (i := 6)) (ra_cons (re_tupL (rl_new (rf_comp (vs := [11]) (ri_rng1 (re_var (i := 7))) (rgv_name (i := 11) (by decide)) (gw_name (i := 11) (by decide)) rt_yes (re_call (rx_deck (i := 0) (rx_cons (re_var (i := 8)) rx_nil)))))) ra_nil)))))) (rs_ret (re_tupL (rl_var (i := 4)))))))))⟩
/-! ### _law_copies -/
abbrev s_copies : Stmt := topS 27
theorem sc_copies : FnScope ["_law_deck_here", "_law_rows_here", "_law_spots", "_law_left", "_law_k", "_law_found", "_law_fields", "_law_field", "_law_spot"] ["_law_deck_here", "_law_rows_here"] (defScope s_copies) := ⟨rfl, rfl, rfl, by decide +kernel, rfl, by decide +kernel, by decide +kernel⟩
def dB_copies (F_pick : FD) (F_draw : FD) : DS := (dSeq (dTupLL 2 3 (dLst (dCons (dC (.int 0)) dNil)) (dLst dNil)) (dSeq (dFor (dRng1 (dLenL (dAsU (dVar 1)))) (gdN 4) (dSetO (dCatVar 3 (dNewL (dRep (dNewL (dLst (dCons (dVar 4) dNil))) (dOp (oI0 fun i j => i + j) (dIntB (dOp (oB0 fun i j => decide (j < i)) (dVar 4) (dC (.int 0)))) (dCall 2 F_draw (xDeck 0 (xCons (dOp oIxL (dNewL (dLst (dCons (dC (.int 4)) (dCons (dC (.int 2)) dNil)))) (dIntB (dOp (oB0 fun i j => decide (j < i)) (dLenL (dAsU (dVar 1))) (dC (.int 15))))) xNil))))))) 3)) (dSeq (dWhile (dB (dVsNil true 3)) (dApp 2 (dPopAt 3 (dCall 2 F_draw (xDeck 0 (xCons (dLenL (dListVar 3)) xNil)))))) (dSeq (dSetO (dLst dNil) 5) (dSeq (dFreeze 2 (dFor (dAsL (dVar 2)) (gdN 4) (dSeq (dSet (dNewL (dComp (dAsU (dOp oIxU (dOp oIxU (dVar 1) (dVar 4)) (dC (.int 1)))) (gdN 7) dYes (dCall 2 F_pick (xDeck 0 (xCons (dNewL (dComp (dRng1 (dLenL (dListVar 2))) (gdN 8) (dB (dOp (oEq false) (dIxVar 2 (dVar 8)) (dVar 7))) (dVar 8) [8])) xNil))) [7])) 6) (dApp 5 (dTup (dCons (dOp oIxU (dOp oIxU (dVar 1) (dVar 4)) (dC (.int 0))) (dCons (dTupOf (dListVar 6)) dNil))))))) (dRet (dTupOf (dListVar 5))))))))
theorem ok_copies {P : Program} {w : World} {K : PySem.W.Frag} {mg : Str → Option Value} {base : Heap} {f : Addr} {fd : FuncData} {k : Nat} {F_pick : FD} {F_draw : FD} (F : L2.Fun K "_law_copies" "_law_copies" s_copies f fd)
    {k0 : Nat} {k1 : Nat} (D_pick : Df P w K mg base k0 "_law_pick" ["_law_deck_here", "_law_items"] (spOf K 2 F_pick)) (D_draw : Df P w K mg base k1 "_law_draw" ["_law_deck_here", "_law_limit"] (spOf K 2 F_draw)) (m_int : mg "int" = none) (m_len : mg "len" = none) (m_range : mg "range" = none) (m_tuple : mg "tuple" = none) (h_k0 : k0 ≤ k) (h_k1 : k1 ≤ k) :
    Fg P w K mg base (k + 1) f fd ["_law_deck_here", "_law_rows_here"] (spOf K 2 (bodyD (dB_copies F_pick F_draw) 7)) :=
  okd (m := 2) rfl F sc_copies fun cdv A outer s H hr W B H0 G0 Z0 => ⟨_, (pss_cons (ps_asg (pe_tupP (pa_cons (pe_lst (pa_cons pe_int pa_nil)) (pa_cons (pe_lst pa_nil) pa_nil))) (pg_tup rfl (pgs_cons (pg_name (i := 2) sc_copies.nd rfl (Or.inr rfl)) (pgs_cons (pg_name (i := 3) sc_copies.nd rfl (Or.inl rfl)) pgs_nil)))) (pss_cons (ps_for PassesOwn.never rfl (pi_range1 (by rfl) m_range (pa_cons (pe_callB call_len_seq (by rfl) m_len (by decide +kernel) (pa_cons (pv 1) pa_nil)) pa_nil)) (pg_name (i := 4) sc_copies.nd rfl (Or.inl rfl)) (pss_one (ps_set (i := 3) sc_copies.nd rfl (Or.inl rfl) (pe_op op_cat (pv 3) (pe_op op_rep (pe_lst (pa_cons (pv 4) pa_nil)) (pe_op op_add (pe_callTy call_int1 (by rfl) m_int (by decide +kernel) (pa_cons (pe_cmpR op_gt (pv 4) pe_int (nomark _)) pa_nil)) (dcall D_draw (hr.mono (h_k1)) (by rfl) (pa_cons (pv 0) (pa_cons (pe_ix ix_list (pe_lst (pa_cons pe_int (pa_cons pe_int pa_nil))) (pe_callTy call_int1 (by rfl) m_int (by decide +kernel) (pa_cons (pe_cmpR op_gt (pe_callB call_len_seq (by rfl) m_len (by decide +kernel) (pa_cons (pv 1) pa_nil)) pe_int (nomark _)) pa_nil)) (fun _ _ => rfl)) pa_nil))))))))) (pss_cons (ps_while PassesOwn.never (pt_cmpR (op_neD hr.room.units) (pv 3) (pe_lst pa_nil) (nomark _)) (pss_one (ps_expr (pe_bm PySem.F.plainAttrs_list PySem.F.slot_list_append PySem.F.type_list_append mt_append (pv 2) (pa_cons (pe_bm PySem.F.plainAttrs_list PySem.F.slot_list_pop PySem.F.type_list_pop mt_popAt (pv 3) (pa_cons (dcall D_draw (hr.mono (h_k1)) (by rfl) (pa_cons (pv 0) (pa_cons (pe_callB call_len_seq (by rfl) m_len (by decide +kernel) (pa_cons (pv 3) pa_nil)) pa_nil))) pa_nil)) pa_nil))))) (pss_cons (ps_set (i := 5) sc_copies.nd rfl (Or.inl rfl) (pe_lst pa_nil)) (pss_cons (ps_for PassesOwn.never rfl (pi_list (pv 2)) (pg_name (i := 4) sc_copies.nd rfl (Or.inl rfl)) (pss_cons (ps_setLc (i := 6) (own := [("_law_field", 7)]) (g := (gName 7)) rfl sc_copies.nd rfl rfl (sw_true rfl rfl rfl (by decide +kernel)) (pi_tup (pe_ix ix_tup (pe_ix ix_tup (pv 1) (pv 4) (fun _ _ => rfl)) pe_int (fun _ _ => rfl))) (blkOk_by (own := [("_law_field", 7)]) (N := ["_law_deck_here", "_law_rows_here", "_law_spots", "_law_left", "_law_k", "_law_found", "_law_fields", "_law_field", "_law_spot"]) (sc := defScope s_copies) (by decide +kernel)) (fun _ _ _ _ _ => (pg_name (i := 7) sc_copies.nd rfl (Or.inr rfl))) (fun _ _ _ _ _ => pts_nil) (fun _ _ _ _ _ => (dcall D_pick (hr.mono (h_k0)) (by rfl) (pa_cons (pv 0) (pa_cons (pe_lc (own := [("_law_spot", 8)]) (g := (gName 8)) rfl sc_copies.nd (pi_range1 (by rfl) m_range (pa_cons (pe_callB call_len_seq (by rfl) m_len (by decide +kernel) (pa_cons (pv 2) pa_nil)) pa_nil)) (by exact blkOk_by (by kernel_rfl)) (fun _ _ _ _ _ => (pg_name (i := 8) sc_copies.nd rfl (Or.inl rfl))) (fun _ _ _ _ _ => (pts_one (pt_cmpR op_eq (pe_ix ix_list (pv 2) (pv 8) (fun _ _ => rfl)) (pv 7) (nomark _)))) (fun _ _ _ _ _ => (pv 8))) pa_nil))))) (pss_one (ps_expr (pe_bm PySem.F.plainAttrs_list PySem.F.slot_list_append PySem.F.type_list_append mt_append (pv 5) (pa_cons (pe_tupP (pa_cons (pe_ix ix_tup (pe_ix ix_tup (pv 1) (pv 4) (fun _ _ => rfl)) pe_int (fun _ _ => rfl)) (pa_cons (pe_callTy call_tuple_ofP (by rfl) m_tuple (by decide +kernel) (pa_cons (pv 6) pa_nil)) pa_nil))) pa_nil)))))) (pss_one (ps_ret (pe_callTy call_tuple_ofP (by rfl) m_tuple (by decide +kernel) (pa_cons (pv 5) pa_nil))))))))),
    (rs_seq (rs_tupLL (i := 2) (j := 3) (rf_lst (ra_cons re_int ra_nil)) (rf_lst ra_nil)) (rs_seq (rs_for (ri_rng1 (re_lenU (ru_of (re_var (i := 1))))) (rg_name (i := 4)) (rs_setO (i := 3) (rf_catVar (i := 3) (re_new (rf_rep (re_new (rf_lst (ra_cons (re_var (i := 4)) ra_nil))) (re_op ro_I0 (re_intB (re_op ro_B0 (re_var (i := 4)) re_int)) (re_call (rx_deck (i := 0) (rx_cons (re_op ro_ixL (re_new (rf_lst (ra_cons re_int (ra_cons re_int ra_nil)))) (re_intB (re_op ro_B0 (re_lenU (ru_of (re_var (i := 1)))) re_int))) rx_nil))))))))) (rs_seq (rs_while (rt_test (re_neNil (i := 3))) (rs_app (i := 2) (re_popAt (i := 3) (re_call (rx_deck (i := 0) (rx_cons (re_lenL (rl_var (i := 3))) rx_nil)))))) (rs_seq (rs_setO (i := 5) (rf_lst ra_nil)) (rs_seq (rs_freeze (i := 2) (rs_for (ri_list (re_var (i := 2))) (rg_name (i := 4)) (rs_seq (rs_set (i := 6) (re_new (rf_comp (vs := [7]) (ri_tup (re_op ro_ixU (re_op ro_ixU (re_var (i := 1)) (re_var (i := 4))) re_int)) (rgv_name (i := 7) (by decide)) (gw_name (i := 7) (by decide)) rt_yes (re_call (rx_deck (i := 0) (rx_cons (re_new (rf_comp (vs := [8]) (ri_rng1 (re_lenL (rl_var (i := 2)))) (rgv_name (i := 8) (by decide)) (gw_name (i := 8) (by decide)) (rt_test (re_op ro_eq (re_ixVar (i := 2) (re_var (i := 8))) (re_var (i := 7)))) (re_var (i := 8)))) rx_nil)))))) (rs_app (i := 5) (re_tup (ra_cons (re_op ro_ixU (re_op ro_ixU (re_var (i := 1)) (re_var (i := 4))) re_int) (ra_cons (re_tupL (rl_var (i := 6))) ra_nil))))))) (rs_ret (re_tupL (rl_var (i := 5)))))))))⟩
/-! ### _law_path -/
abbrev s_path : Stmt := topS 31
theorem sc_path : FnScope ["_law_deck_here", "_law_rows_here", "_law_row", "_law_found", "_law_step", "_law_fields", "_law_field"] ["_law_deck_here", "_law_rows_here"] (defScope s_path) := ⟨rfl, rfl, rfl, by decide +kernel, rfl, by decide +kernel, by decide +kernel⟩
def dB_path (F_draw : FD) : DS := (dSeq (dAsg (dTup (dCons (dC (.int 0)) (dCons (dTup dNil) dNil))) (gdTup 2 (gdCons (gdN 2) (gdCons (gdN 3) gdNil)))) (dSeq (dFor (dRng1 (dCall 2 F_draw (xDeck 0 (xCons (dOp oIxL (dNewL (dLst (dCons (dC (.int 4)) (dCons (dC (.int 9)) (dCons (dC (.int 30)) dNil))))) (dCall 2 F_draw (xDeck 0 (xCons (dC (.int 3)) xNil)))) xNil)))) (gdN 4) (dSeq (dSet (dOp oIxU (dOp oIxU (dVar 1) (dVar 2)) (dC (.int 1))) 5) (dSeq (dIf (dB (dOp oEqMt (dVar 5) (dTup dNil))) (dRet (dTup (dCons (dVar 3) (dCons (dVar 2) dNil)))) dNext) (dSeq (dSet (dCall 2 F_draw (xDeck 0 (xCons (dLenL (dAsU (dVar 5))) xNil))) 6) (dPar 2 3 (dCons (dOp oIxU (dVar 5) (dVar 6)) (dCons (dOp oCatU (dVar 3) (dTup (dCons (dVar 6) dNil))) dNil))))))) (dRet (dTup (dCons (dVar 3) (dCons (dVar 2) dNil))))))
theorem ok_path {P : Program} {w : World} {K : PySem.W.Frag} {mg : Str → Option Value} {base : Heap} {f : Addr} {fd : FuncData} {k : Nat} {F_draw : FD} (F : L2.Fun K "_law_path" "_law_path" s_path f fd)
    {k0 : Nat} (D_draw : Df P w K mg base k0 "_law_draw" ["_law_deck_here", "_law_limit"] (spOf K 2 F_draw)) (m_len : mg "len" = none) (m_range : mg "range" = none) (h_k0 : k0 ≤ k) :
    Fg P w K mg base (k + 1) f fd ["_law_deck_here", "_law_rows_here"] (spOf K 2 (bodyD (dB_path F_draw) 5)) :=
  okd (m := 2) rfl F sc_path fun cdv A outer s H hr W B H0 G0 Z0 => ⟨_, (pss_cons (ps_asg (pe_tupP (pa_cons pe_int (pa_cons (pe_tupP pa_nil) pa_nil))) (pg_tup rfl (pgs_cons (pg_name (i := 2) sc_path.nd rfl (Or.inl rfl)) (pgs_cons (pg_name (i := 3) sc_path.nd rfl (Or.inl rfl)) pgs_nil)))) (pss_cons (ps_for PassesOwn.never rfl (pi_range1 (by rfl) m_range (pa_cons (dcall D_draw (hr.mono (h_k0)) (by rfl) (pa_cons (pv 0) (pa_cons (pe_ix ix_list (pe_lst (pa_cons pe_int (pa_cons pe_int (pa_cons pe_int pa_nil)))) (dcall D_draw (hr.mono (h_k0)) (by rfl) (pa_cons (pv 0) (pa_cons pe_int pa_nil))) (fun _ _ => rfl)) pa_nil))) pa_nil)) (pg_name (i := 4) sc_path.nd rfl (Or.inl rfl)) (pss_cons (ps_set (i := 5) sc_path.nd rfl (Or.inl rfl) (pe_ix ix_tup (pe_ix ix_tup (pv 1) (pv 2) (fun _ _ => rfl)) pe_int (fun _ _ => rfl))) (pss_cons (ps_if (pt_cmpR (EMT.op_eqMt hr.room.units) (pv 5) (pe_tupP pa_nil) (nomark _)) (pss_one (ps_ret (pe_tupP (pa_cons (pv 3) (pa_cons (pv 2) pa_nil))))) pss_nil) (pss_cons (ps_set (i := 6) sc_path.nd rfl (Or.inl rfl) (dcall D_draw (hr.mono (h_k0)) (by rfl) (pa_cons (pv 0) (pa_cons (pe_callB call_len_seq (by rfl) m_len (by decide +kernel) (pa_cons (pv 5) pa_nil)) pa_nil)))) (pss_one (ps_par (i := 2) (j := 3) (by rfl) sc_path.nd rfl rfl (by decide) rfl rfl (pa_cons (pe_ix ix_tup (pv 5) (pv 6) (fun _ _ => rfl)) (pa_cons (pe_op op_catP (pv 3) (pe_tupP (pa_cons (pv 6) pa_nil))) pa_nil)) (by rfl))))))) (pss_one (ps_ret (pe_tupP (pa_cons (pv 3) (pa_cons (pv 2) pa_nil))))))),
    (rs_seq (rs_asg (re_tup (ra_cons re_int (ra_cons (re_tup ra_nil) ra_nil))) (rg_tup (rgs_cons (rg_name (i := 2)) (rgs_cons (rg_name (i := 3)) rgs_nil)))) (rs_seq (rs_for (ri_rng1 (re_call (rx_deck (i := 0) (rx_cons (re_op ro_ixL (re_new (rf_lst (ra_cons re_int (ra_cons re_int (ra_cons re_int ra_nil))))) (re_call (rx_deck (i := 0) (rx_cons re_int rx_nil)))) rx_nil)))) (rg_name (i := 4)) (rs_seq (rs_set (i := 5) (re_op ro_ixU (re_op ro_ixU (re_var (i := 1)) (re_var (i := 2))) re_int)) (rs_seq (rs_if (rt_test (re_op ro_eqMt (re_var (i := 5)) (re_tup ra_nil))) (rs_ret (re_tup (ra_cons (re_var (i := 3)) (ra_cons (re_var (i := 2)) ra_nil)))) rs_next) (rs_seq (rs_set (i := 6) (re_call (rx_deck (i := 0) (rx_cons (re_lenU (ru_of (re_var (i := 5)))) rx_nil)))) (rs_par (i := 2) (j := 3) (ra_cons (re_op ro_ixU (re_var (i := 5)) (re_var (i := 6))) (ra_cons (re_op ro_catU (re_var (i := 3)) (re_tup (ra_cons (re_var (i := 6)) ra_nil))) ra_nil))))))) (rs_ret (re_tup (ra_cons (re_var (i := 3)) (ra_cons (re_var (i := 2)) ra_nil))))))⟩
end K07


set_option Elab.async false
set_option linter.all false
set_option maxRecDepth 100000
set_option maxHeartbeats 4000000
namespace K07
open PySem PySem.Spec PyProof.Rows L2 GG DD PT DL
/-! ### _law_differ -/
abbrev s_differ : Stmt := topS 28
theorem sc_differ : FnScope ["_law_rows_here", "_law_far", "_law_marks", "_law_k", "_law_j", "_law_more", "_law_inner", "_law_pair"] ["_law_rows_here", "_law_far"] (defScope s_differ) := ⟨rfl, rfl, rfl, by decide +kernel, rfl, by decide +kernel, by decide +kernel⟩
def dB_differ  : DS := (dSeq (dSetT 2) (dSeq (dFor (dRng1 (dLenL (dAsU (dVar 0)))) (gdN 3) (dFor (dRng1 (dLenL (dAsU (dVar 1)))) (gdN 4) (dDPutN 2 (dCons (dVar 3) (dCons (dVar 4) dNil)) (dOp (oEq true) (dOp oIxU (dOp oIxU (dVar 0) (dVar 3)) (dC (.int 0))) (dOp oIxU (dOp oIxU (dVar 1) (dVar 4)) (dC (.int 0))))))) (dWhile (dB (dC (.bool true))) (dSeq (dSetO (dLst dNil) 5) (dSeq (dForT 2 (gdTup 2 (gdCons (gdN 3) (gdCons (gdN 4) gdNil))) (dSeq (dSet (dIfE (dNot (dB (dDGetT 2 (dTup (dCons (dVar 3) (dCons (dVar 4) dNil)))))) (dNewL (dListZipT (dOp oIxU (dOp oIxU (dVar 0) (dVar 3)) (dC (.int 1))) (dOp oIxU (dOp oIxU (dVar 1) (dVar 4)) (dC (.int 1))))) (dNewL (dLst dNil))) 6) (dIf (dB (dOp oNeMtL (dNewL (dComp (dAsL (dVar 6)) (gdN 7) (dB (dDGetT 2 (dVar 7))) (dVar 7) [7])) (dNewL (dLst dNil)))) (dApp 5 (dTup (dCons (dVar 3) (dCons (dVar 4) dNil)))) dNext))) (dSeq (dIf (dB (dVsNil false 5)) (dFreeze 2 (dRet (dVar 2))) dNext) (dFreeze 5 (dFor (dAsL (dVar 5)) (gdN 7) (dDPutO 2 (dVar 7) (dC (.bool true)))))))))))
theorem ok_differ {P : Program} {w : World} {K : PySem.W.Frag} {mg : Str → Option Value} {base : Heap} {f : Addr} {fd : FuncData} {k : Nat}  (F : L2.Fun K "_law_differ" "_law_differ" s_differ f fd)
    (m_len : mg "len" = none) (m_list : mg "list" = none) (m_range : mg "range" = none) (m_zip : mg "zip" = none)  :
    Fg P w K mg base (k + 1) f fd ["_law_rows_here", "_law_far"] (spOf K 2 (bodyD (dB_differ ) 6)) :=
  okd (m := 2) rfl F sc_differ fun cdv A outer s H hr W B H0 G0 Z0 => ⟨_, (pss_cons (ps_set (i := 2) sc_differ.nd rfl (Or.inr rfl) pe_dnewT) (pss_cons (ps_for PassesOwn.never rfl (pi_range1 (by rfl) m_range (pa_cons (pe_callB call_len_seq (by rfl) m_len (by decide +kernel) (pa_cons (pv 0) pa_nil)) pa_nil)) (pg_name (i := 3) sc_differ.nd rfl (Or.inl rfl)) (pss_one (ps_for PassesOwn.never rfl (pi_range1 (by rfl) m_range (pa_cons (pe_callB call_len_seq (by rfl) m_len (by decide +kernel) (pa_cons (pv 1) pa_nil)) pa_nil)) (pg_name (i := 4) sc_differ.nd rfl (Or.inl rfl)) (pss_one (TK.ps_dputT (hu_of hr.room) (pv 2) (pe_tup (pa_cons (pv 3) (pa_cons (pv 4) pa_nil))) (pe_cmpR op_ne (pe_ix ix_tup (pe_ix ix_tup (pv 0) (pv 3) (fun _ _ => rfl)) pe_int (fun _ _ => rfl)) (pe_ix ix_tup (pe_ix ix_tup (pv 1) (pv 4) (fun _ _ => rfl)) pe_int (fun _ _ => rfl)) (nomark _)) (by rfl)))))) (pss_one (ps_while PassesOwn.never (pt_val pe_bl) (pss_cons (ps_set (i := 5) sc_differ.nd rfl (Or.inl rfl) (pe_lst pa_nil)) (pss_cons (ps_lock (ps_for PassesOwn.never rfl (pi_keys (pv 2)) (pg_tup rfl (pgs_cons (pg_name (i := 3) sc_differ.nd rfl (Or.inl rfl)) (pgs_cons (pg_name (i := 4) sc_differ.nd rfl (Or.inl rfl)) pgs_nil))) (pss_cons (ps_set (i := 6) sc_differ.nd rfl (Or.inl rfl) (pe_ifExp (pt_not (pt_val (TK.pe_dgetT (hu_of hr.room) (pv 2) (pe_tupP (pa_cons (pv 3) (pa_cons (pv 4) pa_nil))) (fun _ _ => rfl)))) (LZ.pe_listZipT rfl (by rfl) m_list (by rfl) m_zip (pa_cons (pe_ix ix_tup (pe_ix ix_tup (pv 0) (pv 3) (fun _ _ => rfl)) pe_int (fun _ _ => rfl)) (pa_cons (pe_ix ix_tup (pe_ix ix_tup (pv 1) (pv 4) (fun _ _ => rfl)) pe_int (fun _ _ => rfl)) pa_nil))) (pe_lst pa_nil))) (pss_one (ps_if (pt_cmpR (EMT.op_neMtL hr.room.units) (pe_lc (own := [("_law_pair", 7)]) (g := (gName 7)) rfl sc_differ.nd (pi_list (pv 6)) (blkOk_by (own := [("_law_pair", 7)]) (N := ["_law_rows_here", "_law_far", "_law_marks", "_law_k", "_law_j", "_law_more", "_law_inner", "_law_pair"]) (sc := defScope s_differ) (by decide +kernel)) (fun _ _ _ _ _ => (pg_name (i := 7) sc_differ.nd rfl (Or.inl rfl))) (fun _ _ _ _ _ => (pts_one (pt_val (TK.pe_dgetT (hu_of hr.room) (pv 2) (pv 7) (fun _ _ => rfl))))) (fun _ _ _ _ _ => (pv 7))) (pe_lst pa_nil) (nomark _)) (pss_one (ps_expr (pe_bm PySem.F.plainAttrs_list PySem.F.slot_list_append PySem.F.type_list_append mt_append (pv 5) (pa_cons (pe_tupP (pa_cons (pv 3) (pa_cons (pv 4) pa_nil))) pa_nil)))) pss_nil))))) (pss_cons (ps_if (pt_cmpR (op_eqD hr.room.units) (pv 5) (pe_lst pa_nil) (nomark _)) (pss_one (ps_ret (pv 2))) pss_nil) (pss_one (ps_for PassesOwn.never rfl (pi_list (pv 5)) (pg_name (i := 7) sc_differ.nd rfl (Or.inl rfl)) (pss_one (TK.ps_dputT (hu_of hr.room) (pv 2) (pv 7) pe_bl (by rfl)))))))))))),
    (rs_seq (rs_setT (i := 2)) (rs_seq (rs_for (ri_rng1 (re_lenU (ru_of (re_var (i := 0))))) (rg_name (i := 3)) (rs_for (ri_rng1 (re_lenU (ru_of (re_var (i := 1))))) (rg_name (i := 4)) (rs_dPutN (i := 2) (ra_cons (re_var (i := 3)) (ra_cons (re_var (i := 4)) ra_nil)) (re_op ro_ne (re_op ro_ixU (re_op ro_ixU (re_var (i := 0)) (re_var (i := 3))) re_int) (re_op ro_ixU (re_op ro_ixU (re_var (i := 1)) (re_var (i := 4))) re_int))))) (rs_while (rt_val re_bl) (rs_seq (rs_setO (i := 5) (rf_lst ra_nil)) (rs_seq (rs_forT (i := 2) (rg_tup (rgs_cons (rg_name (i := 3)) (rgs_cons (rg_name (i := 4)) rgs_nil))) (rs_seq (rs_set (i := 6) (re_if (rt_not (rt_val (re_dGetT (i := 2) (re_tup (ra_cons (re_var (i := 3)) (ra_cons (re_var (i := 4)) ra_nil)))))) (re_new (rf_listZipT (re_op ro_ixU (re_op ro_ixU (re_var (i := 0)) (re_var (i := 3))) re_int) (re_op ro_ixU (re_op ro_ixU (re_var (i := 1)) (re_var (i := 4))) re_int))) (re_new (rf_lst ra_nil)))) (rs_if (rt_test (re_op ro_neMtL (re_new (rf_comp (vs := [7]) (ri_list (re_var (i := 6))) (rgv_name (i := 7) (by decide)) (gw_name (i := 7) (by decide)) (rt_val (re_dGetT (i := 2) (re_var (i := 7)))) (re_var (i := 7)))) (re_new (rf_lst ra_nil)))) (rs_app (i := 5) (re_tup (ra_cons (re_var (i := 3)) (ra_cons (re_var (i := 4)) ra_nil)))) rs_next))) (rs_seq (rs_if (rt_test (re_eqNil (i := 5))) (rs_freeze (i := 2) (rs_ret (re_var (i := 2)))) rs_next) (rs_freeze (i := 5) (rs_for (ri_list (re_var (i := 5))) (rg_name (i := 7)) (rs_dPutO (i := 2) (re_var (i := 7)) re_bl)))))))))⟩
/-! ### _law_visited -/
abbrev s_visited : Stmt := topS 29
theorem sc_visited : FnScope ["_law_rows_here", "_law_marks", "_law_row", "_law_met", "_law_here", "_law_field", "_law_k"] ["_law_rows_here", "_law_marks", "_law_row", "_law_met"] (defScope s_visited) := ⟨rfl, rfl, rfl, by decide +kernel, rfl, by decide +kernel, by decide +kernel⟩
def dB_visited (F_visited : FM) : DS := (dSeq (dSet (dOp oIxL (dNewL (dComp (dRng1 (dLenL (dAsU (dVar 0)))) (gdN 6) (dNot (dB (dDGetT 1 (dTup (dCons (dVar 6) (dCons (dVar 2) dNil)))))) (dVar 6) [6])) (dC (.int 0))) 4) (dIf (dB (dInVar true (dVar 4) 3)) (dSeq (dAppA 3 (dVar 4)) (dFor (dAsU (dOp oIxU (dOp oIxU (dVar 0) (dVar 4)) (dC (.int 1)))) (gdN 5) (dCallM 3 4 F_visited (xCons (dVar 0) (xCons (dVar 1) (xCons (dVar 5) (xLast 3))))))) dNext))
theorem ok_visited {P : Program} {w : World} {K : PySem.W.Frag} {mg : Str → Option Value} {base : Heap} {f : Addr} {fd : FuncData} {k : Nat} {F_visited : FM} (F : L2.Fun K "_law_visited" "_law_visited" s_visited f fd)
    (D_visited : Df P w K mg base k "_law_visited" ["_law_rows_here", "_law_marks", "_law_row", "_law_met"] (spMut K 4 F_visited)) (m_len : mg "len" = none) (m_range : mg "range" = none)  :
    Fg P w K mg base (k + 1) f fd ["_law_rows_here", "_law_marks", "_law_row", "_law_met"] (spMut K 4 (bodyM (dB_visited F_visited) 3)) :=
  okdM (m := 4) rfl F sc_visited fun cdv A outer s H hr W B H0 G0 Z0 => ⟨_, (pss_cons (ps_set (i := 4) sc_visited.nd rfl (Or.inl rfl) (pe_ix ix_list (pe_lc (own := [("_law_k", 6)]) (g := (gName 6)) rfl sc_visited.nd (pi_range1 (by rfl) m_range (pa_cons (pe_callB call_len_seq (by rfl) m_len (by decide +kernel) (pa_cons (pv 0) pa_nil)) pa_nil)) (blkOk_by (own := [("_law_k", 6)]) (N := ["_law_rows_here", "_law_marks", "_law_row", "_law_met", "_law_here", "_law_field", "_law_k"]) (sc := defScope s_visited) (by decide +kernel)) (fun _ _ _ _ _ => (pg_name (i := 6) sc_visited.nd rfl (Or.inl rfl))) (fun _ _ _ _ _ => (pts_one (pt_not (pt_val (TK.pe_dgetT (hu_of hr.room) (pv 1) (pe_tupP (pa_cons (pv 6) (pa_cons (pv 2) pa_nil))) (fun _ _ => rfl)))))) (fun _ _ _ _ _ => (pv 6))) pe_int (fun _ _ => rfl))) (pss_one (ps_if (pt_cmpR op_notIn_seq (pv 4) (pv 3) (by rfl)) (pss_cons (ps_expr (pe_bm PySem.F.plainAttrs_list PySem.F.slot_list_append PySem.F.type_list_append mt_append (pv 3) (pa_cons (pv 4) pa_nil))) (pss_one (ps_for PassesOwn.never rfl (pi_tup (pe_ix ix_tup (pe_ix ix_tup (pv 0) (pv 4) (fun _ _ => rfl)) pe_int (fun _ _ => rfl))) (pg_name (i := 5) sc_visited.nd rfl (Or.inl rfl)) (pss_one (ps_expr (dcall D_visited (hr.mono (Nat.le_refl _)) (by rfl) (pa_cons (pv 0) (pa_cons (pv 1) (pa_cons (pv 5) (pa_cons (pv 3) pa_nil)))))))))) pss_nil))),
    (rs_seq (rs_set (i := 4) (re_op ro_ixL (re_new (rf_comp (vs := [6]) (ri_rng1 (re_lenU (ru_of (re_var (i := 0))))) (rgv_name (i := 6) (by decide)) (gw_name (i := 6) (by decide)) (rt_not (rt_val (re_dGetT (i := 1) (re_tup (ra_cons (re_var (i := 6)) (ra_cons (re_var (i := 2)) ra_nil)))))) (re_var (i := 6)))) re_int)) (rs_if (rt_test (re_inVar (i := 3) (re_var (i := 4)))) (rs_seq (rs_appA (i := 3) (re_var (i := 4))) (rs_for (ri_tup (re_op ro_ixU (re_op ro_ixU (re_var (i := 0)) (re_var (i := 4))) re_int)) (rg_name (i := 5)) (rs_callM (rm_cons (re_var (i := 0)) (rm_cons (re_var (i := 1)) (rm_cons (re_var (i := 5)) (rm_last (i := 3)))))))) rs_next))⟩
/-! ### _law_least -/
abbrev s_least : Stmt := topS 30
theorem sc_least : FnScope ["_law_rows_here", "_law_root", "_law_marks", "_law_met", "_law_found", "_law_k", "_law_fields", "_law_field", "_law_j"] ["_law_rows_here", "_law_root"] (defScope s_least) := ⟨rfl, rfl, rfl, by decide +kernel, rfl, by decide +kernel, by decide +kernel⟩
def dB_least (F_visited : FM) (F_differ : FD) : DS := (dSeq (dParR 2 3 (dCall 2 F_differ (xCons (dVar 0) (xCons (dVar 0) xNil))) (dLst dNil)) (dSeq (dCallM 3 4 F_visited (xCons (dVar 0) (xCons (dVar 2) (xCons (dVar 1) (xLast 3))))) (dSeq (dSetO (dLst dNil) 4) (dSeq (dFreeze 3 (dFor (dAsL (dVar 3)) (gdN 5) (dSeq (dSet (dNewL (dComp (dAsU (dOp oIxU (dOp oIxU (dVar 0) (dVar 5)) (dC (.int 1)))) (gdN 7) dYes (dOp oIxL (dNewL (dComp (dRng1 (dLenL (dListVar 3))) (gdN 8) (dNot (dB (dDGetT 2 (dTup (dCons (dIxVar 3 (dVar 8)) (dCons (dVar 7) dNil)))))) (dVar 8) [8])) (dC (.int 0))) [7])) 6) (dApp 4 (dTup (dCons (dOp oIxU (dOp oIxU (dVar 0) (dVar 5)) (dC (.int 0))) (dCons (dTupOf (dListVar 6)) dNil))))))) (dRet (dTupOf (dListVar 4)))))))
theorem ok_least {P : Program} {w : World} {K : PySem.W.Frag} {mg : Str → Option Value} {base : Heap} {f : Addr} {fd : FuncData} {k : Nat} {F_visited : FM} {F_differ : FD} (F : L2.Fun K "_law_least" "_law_least" s_least f fd)
    {k0 : Nat} {k1 : Nat} (D_visited : Df P w K mg base k0 "_law_visited" ["_law_rows_here", "_law_marks", "_law_row", "_law_met"] (spMut K 4 F_visited)) (D_differ : Df P w K mg base k1 "_law_differ" ["_law_rows_here", "_law_far"] (spOf K 2 F_differ)) (m_len : mg "len" = none) (m_range : mg "range" = none) (m_tuple : mg "tuple" = none) (h_k0 : k0 ≤ k) (h_k1 : k1 ≤ k) :
    Fg P w K mg base (k + 1) f fd ["_law_rows_here", "_law_root"] (spOf K 2 (bodyD (dB_least F_visited F_differ) 7)) :=
  okd (m := 2) rfl F sc_least fun cdv A outer s H hr W B H0 G0 Z0 => ⟨_, (pss_cons (ps_asg (pe_tupP (pa_cons (dcall D_differ (hr.mono (h_k1)) (by rfl) (pa_cons (pv 0) (pa_cons (pv 0) pa_nil))) (pa_cons (pe_lst pa_nil) pa_nil))) (pg_tup rfl (pgs_cons (pg_name (i := 2) sc_least.nd rfl (Or.inr rfl)) (pgs_cons (pg_name (i := 3) sc_least.nd rfl (Or.inr rfl)) pgs_nil)))) (pss_cons (ps_expr (dcall D_visited (hr.mono (h_k0)) (by rfl) (pa_cons (pv 0) (pa_cons (pv 2) (pa_cons (pv 1) (pa_cons (pv 3) pa_nil)))))) (pss_cons (ps_set (i := 4) sc_least.nd rfl (Or.inl rfl) (pe_lst pa_nil)) (pss_cons (ps_for PassesOwn.never rfl (pi_list (pv 3)) (pg_name (i := 5) sc_least.nd rfl (Or.inl rfl)) (pss_cons (ps_setLc (i := 6) (own := [("_law_field", 7)]) (g := (gName 7)) rfl sc_least.nd rfl rfl (sw_true rfl rfl rfl (by decide +kernel)) (pi_tup (pe_ix ix_tup (pe_ix ix_tup (pv 0) (pv 5) (fun _ _ => rfl)) pe_int (fun _ _ => rfl))) (blkOk_by (own := [("_law_field", 7)]) (N := ["_law_rows_here", "_law_root", "_law_marks", "_law_met", "_law_found", "_law_k", "_law_fields", "_law_field", "_law_j"]) (sc := defScope s_least) (by decide +kernel)) (fun _ _ _ _ _ => (pg_name (i := 7) sc_least.nd rfl (Or.inr rfl))) (fun _ _ _ _ _ => pts_nil) (fun _ _ _ _ _ => (pe_ix ix_list (pe_lc (own := [("_law_j", 8)]) (g := (gName 8)) rfl sc_least.nd (pi_range1 (by rfl) m_range (pa_cons (pe_callB call_len_seq (by rfl) m_len (by decide +kernel) (pa_cons (pv 3) pa_nil)) pa_nil)) (by exact blkOk_by (by kernel_rfl)) (fun _ _ _ _ _ => (pg_name (i := 8) sc_least.nd rfl (Or.inl rfl))) (fun _ _ _ _ _ => (pts_one (pt_not (pt_val (TK.pe_dgetT (hu_of hr.room) (pv 2) (pe_tupP (pa_cons (pe_ix ix_list (pv 3) (pv 8) (fun _ _ => rfl)) (pa_cons (pv 7) pa_nil))) (fun _ _ => rfl)))))) (fun _ _ _ _ _ => (pv 8))) pe_int (fun _ _ => rfl)))) (pss_one (ps_expr (pe_bm PySem.F.plainAttrs_list PySem.F.slot_list_append PySem.F.type_list_append mt_append (pv 4) (pa_cons (pe_tupP (pa_cons (pe_ix ix_tup (pe_ix ix_tup (pv 0) (pv 5) (fun _ _ => rfl)) pe_int (fun _ _ => rfl)) (pa_cons (pe_callTy call_tuple_ofP (by rfl) m_tuple (by decide +kernel) (pa_cons (pv 6) pa_nil)) pa_nil))) pa_nil)))))) (pss_one (ps_ret (pe_callTy call_tuple_ofP (by rfl) m_tuple (by decide +kernel) (pa_cons (pv 4) pa_nil)))))))),
    (rs_seq (rs_tupR (i := 2) (j := 3) (re_call (rx_cons (re_var (i := 0)) (rx_cons (re_var (i := 0)) rx_nil))) (rf_lst ra_nil)) (rs_seq (rs_callM (rm_cons (re_var (i := 0)) (rm_cons (re_var (i := 2)) (rm_cons (re_var (i := 1)) (rm_last (i := 3)))))) (rs_seq (rs_setO (i := 4) (rf_lst ra_nil)) (rs_seq (rs_freeze (i := 3) (rs_for (ri_list (re_var (i := 3))) (rg_name (i := 5)) (rs_seq (rs_set (i := 6) (re_new (rf_comp (vs := [7]) (ri_tup (re_op ro_ixU (re_op ro_ixU (re_var (i := 0)) (re_var (i := 5))) re_int)) (rgv_name (i := 7) (by decide)) (gw_name (i := 7) (by decide)) rt_yes (re_op ro_ixL (re_new (rf_comp (vs := [8]) (ri_rng1 (re_lenL (rl_var (i := 3)))) (rgv_name (i := 8) (by decide)) (gw_name (i := 8) (by decide)) (rt_not (rt_val (re_dGetT (i := 2) (re_tup (ra_cons (re_ixVar (i := 3) (re_var (i := 8))) (ra_cons (re_var (i := 7)) ra_nil)))))) (re_var (i := 8)))) re_int)))) (rs_app (i := 4) (re_tup (ra_cons (re_op ro_ixU (re_op ro_ixU (re_var (i := 0)) (re_var (i := 5))) re_int) (ra_cons (re_tupL (rl_var (i := 6))) ra_nil))))))) (rs_ret (re_tupL (rl_var (i := 4))))))))⟩
/-! ### _law_heard -/
abbrev s_heard : Stmt := topS 32
theorem sc_heard : FnScope ["_law_rows_here", "_law_steps", "_law_way", "_law_found", "e"] ["_law_rows_here", "_law_steps", "_law_way"] (defScope s_heard) := ⟨rfl, rfl, rfl, by decide +kernel, rfl, by decide +kernel, by decide +kernel⟩
def dB_heard (cN : Addr) (F_tag_at : FDX) (F_part_at : FDX) : DS := (dSeq (dSet (dNewL (dLst (dCons (dC (.str "odd")) dNil))) 3) (dSeq (dTryAs cN 4 (fun PX => (dIf (dB (dOp (oEq false) (dVar 2) (dC (.int 0)))) (dSet (dNewL (dLst (dCons (dC (.str "is")) (dCons (dCallX PX 2 F_tag_at (xCons (dVar 0) (xCons (dVar 1) xNil))) dNil)))) 3) (dIf (dB (dOp (oEq false) (dVar 2) (dC (.int 1)))) (dSet (dNewL (dLst (dCons (dC (.str "is")) (dCons (dCallPX PX 2 F_tag_at [1, 0] 2 (xCons (dVar 1) (xCons (dVar 0) xNil))) dNil)))) 3) (dIf (dB (dOp (oEq false) (dVar 2) (dC (.int 2)))) (dSet (dNewL (dLst (dCons (dC (.str "is")) (dCons (dCallX PX 2 F_part_at (xCons (dVar 0) (xCons (dVar 1) xNil))) dNil)))) 3) (dSet (dNewL (dLst (dCons (dC (.str "is")) (dCons (dCallPX PX 2 F_part_at [1, 0] 2 (xCons (dVar 1) (xCons (dVar 0) xNil))) dNil)))) 3))))) (fun a fs => (dSet (dNewL (dLst (dCons (dC (.str "none")) (dCons (dXf 4 a "path" fs) (dCons (dAndV (dIsS 4 a true) (dNotV (dIsS 4 a false))) dNil))))) 3))) (dRet (dVar 3))))
theorem ok_heard {cN : Addr} {P : Program} {w : World} {K : PySem.W.Frag} {mg : Str → Option Value} {base : Heap} {f : Addr} {fd : FuncData} {k : Nat} {F_tag_at : FDX} {F_part_at : FDX} (F : L2.Fun K "_law_heard" "_law_heard" s_heard f fd)
    {k0 : Nat} {k1 : Nat} (D_tag_at : DfX P w K mg base k0 "tag_at" ["sheet", "path"] (spX K 2 F_tag_at)) (DK_tag_at_path_sheet : DfKX P w K mg base k0 "tag_at" ["sheet", "path"] ["path", "sheet"] [1, 0] (spX K 2 F_tag_at)) (D_part_at : DfX P w K mg base k1 "part_at" ["sheet", "path"] (spX K 2 F_part_at)) (DK_part_at_path_sheet : DfKX P w K mg base k1 "part_at" ["sheet", "path"] ["path", "sheet"] [1, 0] (spX K 2 F_part_at)) (m_isinstance : mg "isinstance" = none) (T_NoPath : XC P w K mg base "NoPath" "path" "ValueError.__new__" KX.veTail cN) (GC : KX.ClsRead K) {cR cI : Addr} (c_RoundCallsError : mg "RoundCallsError" = some (.ref cR)) (c_InvalidText : mg "InvalidText" = some (.ref cI)) (k_R : PySem.W.kitOne K (.ref cN) (.ref cR) = some true) (k_T : PySem.W.kitAny K (.ref cN) [.ref cI, .type "KeyError"] = some false) (m_KeyError : mg "KeyError" = none) (h_k0 : k0 ≤ k) (h_k1 : k1 ≤ k) :
    Fg P w K mg base (k + 1) f fd ["_law_rows_here", "_law_steps", "_law_way"] (spOf K 3 (bodyD (dB_heard cN F_tag_at F_part_at) 2)) :=
  okd (m := 3) rfl F sc_heard fun cdv A outer s H hr W B H0 G0 Z0 => ⟨_, (pss_cons (ps_set (i := 3) sc_heard.nd rfl (Or.inl rfl) (pe_lst (pa_cons pe_str pa_nil))) (pss_cons (ps_tryAs (i := 4) (Wout := fun _ _ _ _ => False) rfl rfl sc_heard.nd rfl rfl ⟨rfl, by decide, Or.inl T_NoPath.nm⟩ takes0 (fun W pn xe tk _ => (pss_one (ps_if (pt_cmpR op_eq (pv 2) pe_int (nomark _)) (pss_one (ps_set (i := 3) sc_heard.nd rfl (Or.inl rfl) (pe_lst (pa_cons pe_str (pa_cons (dcallx tk D_tag_at (hr.mono (h_k0)) (by rfl) (pa_cons (pv 0) (pa_cons (pv 1) pa_nil))) pa_nil))))) (pss_one (ps_if (pt_cmpR op_eq (pv 2) pe_int (nomark _)) (pss_one (ps_set (i := 3) sc_heard.nd rfl (Or.inl rfl) (pe_lst (pa_cons pe_str (pa_cons (kcallx tk DK_tag_at_path_sheet (hr.mono (h_k0)) (by rfl) (pk_cons (pv 1) (pk_cons (pv 0) pk_nil))) pa_nil))))) (pss_one (ps_if (pt_cmpR op_eq (pv 2) pe_int (nomark _)) (pss_one (ps_set (i := 3) sc_heard.nd rfl (Or.inl rfl) (pe_lst (pa_cons pe_str (pa_cons (dcallx tk D_part_at (hr.mono (h_k1)) (by rfl) (pa_cons (pv 0) (pa_cons (pv 1) pa_nil))) pa_nil))))) (pss_one (ps_set (i := 3) sc_heard.nd rfl (Or.inl rfl) (pe_lst (pa_cons pe_str (pa_cons (kcallx tk DK_part_at_path_sheet (hr.mono (h_k1)) (by rfl) (pk_cons (pv 1) (pk_cons (pv 0) pk_nil))) pa_nil)))))))))))) (fun a oe cls d pn hz hf => (pss_one (ps_set (i := 3) sc_heard.nd rfl (Or.inl rfl) (pe_lst (pa_cons pe_str (pa_cons (pe_xf T_NoPath.xc T_NoPath.nF hz hf (pv 4)) (pa_cons (pe_and (pe_callB (call_isS GC T_NoPath.xc hz hf) (by rfl) m_isinstance (by decide +kernel) (pa_cons (pv 4) (pa_cons (pe_glob (v := .ref cR) (by rfl) c_RoundCallsError rfl) pa_nil))) (pe_one (pe_not (pe_callB (call_isST GC T_NoPath.xc hz hf) (by rfl) m_isinstance (by decide +kernel) (pa_cons (pv 4) (pa_cons (pe_tup (pa_cons (pe_glob (v := .ref cI) (by rfl) c_InvalidText rfl) (pa_cons (pe_bltn (v := .ty "KeyError") (by rfl) m_KeyError (by decide +kernel) rfl) pa_nil))) pa_nil)))))) pa_nil)))))))) (pss_one (ps_ret (pv 3))))),
    (rs_seq (rs_set (i := 3) (re_new (rf_lst (ra_cons re_str ra_nil)))) (rs_seq (rs_tryAs (C0 := cN) (i := 4) T_NoPath.ex (fun W B H0 G0 Z0 Wx PX xo => (rs_if (rt_test (re_op ro_eq (re_var (i := 2)) re_int)) (rs_set (i := 3) (re_new (rf_lst (ra_cons re_str (ra_cons (re_callX xo (rx_cons (re_var (i := 0)) (rx_cons (re_var (i := 1)) rx_nil))) ra_nil))))) (rs_if (rt_test (re_op ro_eq (re_var (i := 2)) re_int)) (rs_set (i := 3) (re_new (rf_lst (ra_cons re_str (ra_cons (re_callPX (π := [1, 0]) (n := 2) xo (rx_cons (re_var (i := 1)) (rx_cons (re_var (i := 0)) rx_nil))) ra_nil))))) (rs_if (rt_test (re_op ro_eq (re_var (i := 2)) re_int)) (rs_set (i := 3) (re_new (rf_lst (ra_cons re_str (ra_cons (re_callX xo (rx_cons (re_var (i := 0)) (rx_cons (re_var (i := 1)) rx_nil))) ra_nil))))) (rs_set (i := 3) (re_new (rf_lst (ra_cons re_str (ra_cons (re_callPX (π := [1, 0]) (n := 2) xo (rx_cons (re_var (i := 1)) (rx_cons (re_var (i := 0)) rx_nil))) ra_nil))))))))) (fun a dd xs fs W B H0 G0 Z0 hZ hG => (rs_set (i := 3) (re_new (rf_lst (ra_cons re_str (ra_cons (re_xf (i := 4) (f := "path") hZ hG) (ra_cons (re_and (re_isS (i := 4) (xs := xs) hZ (.own _) k_R) (re_not (re_isST (i := 4) (xs := xs) hZ (.own _) (.ty _) k_T))) ra_nil)))))))) (rs_ret (re_var (i := 3)))))⟩
/-! ### _law_right -/
abbrev s_right : Stmt := topS 33
theorem sc_right : FnScope ["_law_rows_here", "_law_steps", "_law_row", "_law_kept", "_law_told", "_law_due", "_law_part", "_law_way"] ["_law_rows_here", "_law_steps", "_law_row"] (defScope s_right) := ⟨rfl, rfl, rfl, by decide +kernel, rfl, by decide +kernel, by decide +kernel⟩
def dB_right (F_heard : FD) (F_least : FD) : DS := (dSeq (dSet (dReprA (dTup (dCons (dVar 0) (dCons (dVar 1) dNil)))) 3) (dSeq (dSet (dNewL (dComp (dRng1 (dC (.int 4))) (gdN 7) dYes (dCall 3 F_heard (xCons (dVar 0) (xCons (dVar 1) (xCons (dVar 7) xNil)))) [7])) 4) (dSeq (dIf (dB (dOp (oIsN false) (dVar 2) (dC .none))) (dRet (dAndV (dOp (oEq false) (dReprA (dVar 4)) (dReprA (dNewL (dRep (dNewL (dLst (dCons (dNewL (dLst (dCons (dC (.str "none")) (dCons (dVar 1) (dCons (dC (.bool true)) dNil))))) dNil))) (dC (.int 4)))))) (dOp (oEq false) (dReprA (dTup (dCons (dVar 0) (dCons (dVar 1) dNil)))) (dVar 3)))) dNext) (dSeq (dPar 5 6 (dCons (dNewL (dLst (dCons (dC (.str "is")) (dCons (dOp oIxU (dOp oIxU (dVar 0) (dVar 2)) (dC (.int 0))) dNil)))) (dCons (dNewL (dLst (dCons (dC (.str "is")) (dCons (dCall 2 F_least (xCons (dVar 0) (xCons (dVar 2) xNil))) dNil)))) dNil))) (dRet (dAndV (dOp (oEq false) (dReprA (dVar 4)) (dReprA (dNewL (dLst (dCons (dVar 5) (dCons (dVar 5) (dCons (dVar 6) (dCons (dVar 6) dNil)))))))) (dOp (oEq false) (dReprA (dTup (dCons (dVar 0) (dCons (dVar 1) dNil)))) (dVar 3))))))))
theorem ok_right {P : Program} {w : World} {K : PySem.W.Frag} {mg : Str → Option Value} {base : Heap} {f : Addr} {fd : FuncData} {k : Nat} {F_heard : FD} {F_least : FD} (F : L2.Fun K "_law_right" "_law_right" s_right f fd)
    {k0 : Nat} {k1 : Nat} (D_heard : Df P w K mg base k0 "_law_heard" ["_law_rows_here", "_law_steps", "_law_way"] (spOf K 3 F_heard)) (D_least : Df P w K mg base k1 "_law_least" ["_law_rows_here", "_law_root"] (spOf K 2 F_least)) (m_range : mg "range" = none) (m_repr : mg "repr" = none) (sys : SysK K) (h_k0 : k0 ≤ k) (h_k1 : k1 ≤ k) :
    Fg P w K mg base (k + 1) f fd ["_law_rows_here", "_law_steps", "_law_row"] (spOf K 3 (bodyD (dB_right F_heard F_least) 5)) :=
  okd (m := 3) rfl F sc_right fun cdv A outer s H hr W B H0 G0 Z0 => ⟨_, (pss_cons (ps_set (i := 3) sc_right.nd rfl (Or.inl rfl) (pe_callB (call_reprA hr sys) (by rfl) m_repr (by decide +kernel) (pa_cons (pe_tupP (pa_cons (pv 0) (pa_cons (pv 1) pa_nil))) pa_nil))) (pss_cons (ps_setLc (i := 4) (own := [("_law_way", 7)]) (g := (gName 7)) rfl sc_right.nd rfl rfl (sw_true rfl rfl rfl (by decide +kernel)) (pi_range1 (by rfl) m_range (pa_cons pe_int pa_nil)) (blkOk_by (own := [("_law_way", 7)]) (N := ["_law_rows_here", "_law_steps", "_law_row", "_law_kept", "_law_told", "_law_due", "_law_part", "_law_way"]) (sc := defScope s_right) (by decide +kernel)) (fun _ _ _ _ _ => (pg_name (i := 7) sc_right.nd rfl (Or.inl rfl))) (fun _ _ _ _ _ => pts_nil) (fun _ _ _ _ _ => (dcall D_heard (hr.mono (h_k0)) (by rfl) (pa_cons (pv 0) (pa_cons (pv 1) (pa_cons (pv 7) pa_nil)))))) (pss_cons (ps_if (pt_cmpR op_isN (pv 2) pe_non (nomark _)) (pss_one (ps_ret (pe_and (pe_cmpR op_eq (pe_callB (call_reprA hr sys) (by rfl) m_repr (by decide +kernel) (pa_cons (pv 4) pa_nil)) (pe_callB (call_reprA hr sys) (by rfl) m_repr (by decide +kernel) (pa_cons (pe_op op_rep (pe_lst (pa_cons (pe_lst (pa_cons pe_str (pa_cons (pv 1) (pa_cons pe_bl pa_nil)))) pa_nil)) pe_int) pa_nil)) (nomark _)) (pe_one (pe_cmpR op_eq (pe_callB (call_reprA hr sys) (by rfl) m_repr (by decide +kernel) (pa_cons (pe_tupP (pa_cons (pv 0) (pa_cons (pv 1) pa_nil))) pa_nil)) (pv 3) (nomark _)))))) pss_nil) (pss_cons (ps_par (i := 5) (j := 6) (by rfl) sc_right.nd rfl rfl (by decide) rfl rfl (pa_cons (pe_lst (pa_cons pe_str (pa_cons (pe_ix ix_tup (pe_ix ix_tup (pv 0) (pv 2) (fun _ _ => rfl)) pe_int (fun _ _ => rfl)) pa_nil))) (pa_cons (pe_lst (pa_cons pe_str (pa_cons (dcall D_least (hr.mono (h_k1)) (by rfl) (pa_cons (pv 0) (pa_cons (pv 2) pa_nil))) pa_nil))) pa_nil)) (by rfl)) (pss_one (ps_ret (pe_and (pe_cmpR op_eq (pe_callB (call_reprA hr sys) (by rfl) m_repr (by decide +kernel) (pa_cons (pv 4) pa_nil)) (pe_callB (call_reprA hr sys) (by rfl) m_repr (by decide +kernel) (pa_cons (pe_lst (pa_cons (pv 5) (pa_cons (pv 5) (pa_cons (pv 6) (pa_cons (pv 6) pa_nil))))) pa_nil)) (nomark _)) (pe_one (pe_cmpR op_eq (pe_callB (call_reprA hr sys) (by rfl) m_repr (by decide +kernel) (pa_cons (pe_tupP (pa_cons (pv 0) (pa_cons (pv 1) pa_nil))) pa_nil)) (pv 3) (nomark _)))))))))),
    (rs_seq (rs_set (i := 3) (re_reprA (re_tup (ra_cons (re_var (i := 0)) (ra_cons (re_var (i := 1)) ra_nil))))) (rs_seq (rs_set (i := 4) (re_new (rf_comp (vs := [7]) (ri_rng1 re_int) (rgv_name (i := 7) (by decide)) (gw_name (i := 7) (by decide)) rt_yes (re_call (rx_cons (re_var (i := 0)) (rx_cons (re_var (i := 1)) (rx_cons (re_var (i := 7)) rx_nil))))))) (rs_seq (rs_if (rt_test (re_op ro_isN (re_var (i := 2)) re_non)) (rs_ret (re_and (re_op ro_eq (re_reprA (re_var (i := 4))) (re_reprA (re_new (rf_rep (re_new (rf_lst (ra_cons (re_new (rf_lst (ra_cons re_str (ra_cons (re_var (i := 1)) (ra_cons re_bl ra_nil))))) ra_nil))) re_int)))) (re_op ro_eq (re_reprA (re_tup (ra_cons (re_var (i := 0)) (ra_cons (re_var (i := 1)) ra_nil)))) (re_var (i := 3))))) rs_next) (rs_seq (rs_par (i := 5) (j := 6) (ra_cons (re_new (rf_lst (ra_cons re_str (ra_cons (re_op ro_ixU (re_op ro_ixU (re_var (i := 0)) (re_var (i := 2))) re_int) ra_nil)))) (ra_cons (re_new (rf_lst (ra_cons re_str (ra_cons (re_call (rx_cons (re_var (i := 0)) (rx_cons (re_var (i := 2)) rx_nil))) ra_nil)))) ra_nil))) (rs_ret (re_and (re_op ro_eq (re_reprA (re_var (i := 4))) (re_reprA (re_new (rf_lst (ra_cons (re_var (i := 5)) (ra_cons (re_var (i := 5)) (ra_cons (re_var (i := 6)) (ra_cons (re_var (i := 6)) ra_nil)))))))) (re_op ro_eq (re_reprA (re_tup (ra_cons (re_var (i := 0)) (ra_cons (re_var (i := 1)) ra_nil)))) (re_var (i := 3)))))))))⟩
/-! ### _law_parts_right -/
abbrev s_parts_right : Stmt := topS 34
theorem sc_parts_right : FnScope ["_law_rows_here", "_law_least_here", "_law_kept", "_law_due", "_law_row"] ["_law_rows_here"] (defScope s_parts_right) := ⟨rfl, rfl, rfl, by decide +kernel, rfl, by decide +kernel, by decide +kernel⟩
def dB_parts_right (F_least : FD) (F_all_parts : FD) : DS := (dSeq (dPar 1 2 (dCons (dCall 2 F_least (xCons (dVar 0) (xCons (dC (.int 0)) xNil))) (dCons (dReprA (dVar 0)) dNil))) (dSeq (dSet (dTupOf (dComp (dRng1 (dLenL (dAsU (dVar 1)))) (gdN 4) dYes (dCall 2 F_least (xCons (dVar 1) (xCons (dVar 4) xNil))) [4])) 3) (dRet (dAndV (dOp (oEq false) (dReprA (dNewL (dLst (dCons (dCall 1 F_all_parts (xCons (dVar 0) xNil)) (dCons (dCallP 1 F_all_parts [0] 1 (xCons (dVar 0) xNil)) dNil))))) (dReprA (dNewL (dLst (dCons (dVar 3) (dCons (dVar 3) dNil)))))) (dOp (oEq false) (dReprA (dVar 0)) (dVar 2))))))
theorem ok_parts_right {P : Program} {w : World} {K : PySem.W.Frag} {mg : Str → Option Value} {base : Heap} {f : Addr} {fd : FuncData} {k : Nat} {F_least : FD} {F_all_parts : FD} (F : L2.Fun K "_law_parts_right" "_law_parts_right" s_parts_right f fd)
    {k0 : Nat} {k1 : Nat} (D_least : Df P w K mg base k0 "_law_least" ["_law_rows_here", "_law_root"] (spOf K 2 F_least)) (D_all_parts : Df P w K mg base k1 "all_parts" ["sheet"] (spOf K 1 F_all_parts)) (DK_all_parts_sheet : DfK P w K mg base k1 "all_parts" ["sheet"] ["sheet"] [0] (spOf K 1 F_all_parts)) (m_len : mg "len" = none) (m_range : mg "range" = none) (m_repr : mg "repr" = none) (m_tuple : mg "tuple" = none) (sys : SysK K) (h_k0 : k0 ≤ k) (h_k1 : k1 ≤ k) :
    Fg P w K mg base (k + 1) f fd ["_law_rows_here"] (spOf K 1 (bodyD (dB_parts_right F_least F_all_parts) 4)) :=
  okd (m := 1) rfl F sc_parts_right fun cdv A outer s H hr W B H0 G0 Z0 => ⟨_, (pss_cons (ps_asg (pe_tupP (pa_cons (dcall D_least (hr.mono (h_k0)) (by rfl) (pa_cons (pv 0) (pa_cons pe_int pa_nil))) (pa_cons (pe_callB (call_reprA hr sys) (by rfl) m_repr (by decide +kernel) (pa_cons (pv 0) pa_nil)) pa_nil))) (pg_tup rfl (pgs_cons (pg_name (i := 1) sc_parts_right.nd rfl (Or.inr rfl)) (pgs_cons (pg_name (i := 2) sc_parts_right.nd rfl (Or.inl rfl)) pgs_nil)))) (pss_cons (ps_set (i := 3) sc_parts_right.nd rfl (Or.inl rfl) (pe_callTy call_tuple_ofP (by rfl) m_tuple (by decide +kernel) (pa_cons (pe_lc (own := [("_law_row", 4)]) (g := (gName 4)) rfl sc_parts_right.nd (pi_range1 (by rfl) m_range (pa_cons (pe_callB call_len_seq (by rfl) m_len (by decide +kernel) (pa_cons (pv 1) pa_nil)) pa_nil)) (blkOk_by (own := [("_law_row", 4)]) (N := ["_law_rows_here", "_law_least_here", "_law_kept", "_law_due", "_law_row"]) (sc := defScope s_parts_right) (by decide +kernel)) (fun _ _ _ _ _ => (pg_name (i := 4) sc_parts_right.nd rfl (Or.inl rfl))) (fun _ _ _ _ _ => pts_nil) (fun _ _ _ _ _ => (dcall D_least (hr.mono (h_k0)) (by rfl) (pa_cons (pv 1) (pa_cons (pv 4) pa_nil))))) pa_nil))) (pss_one (ps_ret (pe_and (pe_cmpR op_eq (pe_callB (call_reprA hr sys) (by rfl) m_repr (by decide +kernel) (pa_cons (pe_lst (pa_cons (dcall D_all_parts (hr.mono (h_k1)) (by rfl) (pa_cons (pv 0) pa_nil)) (pa_cons (kcall DK_all_parts_sheet (hr.mono (h_k1)) (by rfl) (pk_cons (pv 0) pk_nil)) pa_nil))) pa_nil)) (pe_callB (call_reprA hr sys) (by rfl) m_repr (by decide +kernel) (pa_cons (pe_lst (pa_cons (pv 3) (pa_cons (pv 3) pa_nil))) pa_nil)) (nomark _)) (pe_one (pe_cmpR op_eq (pe_callB (call_reprA hr sys) (by rfl) m_repr (by decide +kernel) (pa_cons (pv 0) pa_nil)) (pv 2) (nomark _)))))))),
    (rs_seq (rs_tup2 (i := 1) (j := 2) (ra_cons (re_call (rx_cons (re_var (i := 0)) (rx_cons re_int rx_nil))) (ra_cons (re_reprA (re_var (i := 0))) ra_nil))) (rs_seq (rs_set (i := 3) (re_tupL (rl_new (rf_comp (vs := [4]) (ri_rng1 (re_lenU (ru_of (re_var (i := 1))))) (rgv_name (i := 4) (by decide)) (gw_name (i := 4) (by decide)) rt_yes (re_call (rx_cons (re_var (i := 1)) (rx_cons (re_var (i := 4)) rx_nil))))))) (rs_ret (re_and (re_op ro_eq (re_reprA (re_new (rf_lst (ra_cons (re_call (rx_cons (re_var (i := 0)) rx_nil)) (ra_cons (re_callP (π := [0]) (n := 1) (rx_cons (re_var (i := 0)) rx_nil)) ra_nil))))) (re_reprA (re_new (rf_lst (ra_cons (re_var (i := 3)) (ra_cons (re_var (i := 3)) ra_nil)))))) (re_op ro_eq (re_reprA (re_var (i := 0))) (re_var (i := 2)))))))⟩
end K07


set_option Elab.async false
set_option linter.all false
set_option maxRecDepth 100000
set_option maxHeartbeats 4000000
namespace K07
open PySem PySem.Spec PyProof.Rows L2 GG DD PT DL
/-! ### law -/
abbrev s_law : Stmt := topS 35
theorem sc_law : FnScope ["_law_script", "_law_deck_here", "_law_turn", "_law_tags_here", "_law_rows_here", "_law_again", "_law_steps", "_law_row", "_law_many", "_law_lost"] ["_law_script"] (defScope s_law) := ⟨rfl, rfl, rfl, by decide +kernel, rfl, by decide +kernel, by decide +kernel⟩
def dB_law (F_tags : FD) (F_rows : FD) (F_path : FD) (F_parts_right : FD) (F_right : FD) (F_copies : FD) (F_pick : FD) : DS := (dSeq (dFor (dRng1 (dC (.int 3))) (gdN 2) (dSeq (dSet (dCall 1 F_tags (xDeck 1 xNil)) 3) (dSeq (dSet (dCall 2 F_rows (xDeck 1 (xCons (dVar 3) xNil))) 4) (dSeq (dIf (dOr (dNot (dB (dCall 1 F_parts_right (xCons (dVar 4) xNil)))) (dOr (dNot (dB (dCall 1 F_parts_right (xCons (dCall 2 F_copies (xDeck 1 (xCons (dVar 4) xNil))) xNil)))) (dNot (dB (dCall 3 F_right (xCons (dVar 4) (xCons (dTup dNil) (xCons (dC (.int 0)) xNil)))))))) (dRet (dC (.bool false))) dNext) (dFor (dRng1 (dC (.int 4))) (gdN 5) (dSeq (dAsg (dCall 2 F_path (xDeck 1 (xCons (dVar 4) xNil))) (gdTup 2 (gdCons (gdN 6) (gdCons (gdN 7) gdNil)))) (dSeq (dSet (dLenL (dAsU (dOp oIxU (dOp oIxU (dVar 4) (dVar 7)) (dC (.int 1))))) 8) (dSeq (dSetO (dLst (dCons (dOp oCatU (dVar 6) (dTup (dCons (dVar 8) dNil))) (dCons (dOp oCatU (dVar 6) (dTup (dCons (dNeg (dC (.int 1))) dNil))) (dCons (dOp oCatU (dVar 6) (dTup (dCons (dVar 8) (dCons (dC (.int 0)) dNil)))) (dCons (dOp oCatU (dVar 6) (dTup (dCons (dOp (oI CPow fun i j => i ^ j.toNat) (dC (.int 10)) (dC (.int 39))) dNil))) (dCons (dOp oCatU (dTup (dCons (dOp (oI0 fun i j => i - j) (dC (.int 0)) (dC (.int 1))) dNil)) (dVar 6)) dNil)))))) 9) (dSeq (dApp 9 (dOp oCatU (dTup (dCons (dC (.int 3)) dNil)) (dVar 6))) (dFreeze 9 (dIf (dOr (dNot (dB (dCall 3 F_right (xCons (dVar 4) (xCons (dVar 6) (xCons (dVar 7) xNil)))))) (dNot (dB (dCall 3 F_right (xCons (dVar 4) (xCons (dCall 2 F_pick (xDeck 1 (xCons (dVar 9) xNil))) (xCons (dC .none) xNil))))))) (dRet (dC (.bool false))) dNext))))))))))) (dRet (dC (.bool true))))
theorem ok_law {P : Program} {w : World} {K : PySem.W.Frag} {mg : Str → Option Value} {base : Heap} {f : Addr} {fd : FuncData} {k : Nat} {F_tags : FD} {F_rows : FD} {F_path : FD} {F_parts_right : FD} {F_right : FD} {F_copies : FD} {F_pick : FD} (F : L2.Fun K "law" "law" s_law f fd)
    {k0 : Nat} {k1 : Nat} {k2 : Nat} {k3 : Nat} {k4 : Nat} {k5 : Nat} {k6 : Nat} {k7 : Nat} (D_deck : Df P w K mg base k0 "_law_deck" ["_law_script"] (spDeckH K)) (D_tags : Df P w K mg base k1 "_law_tags" ["_law_deck_here"] (spOf K 1 F_tags)) (D_rows : Df P w K mg base k2 "_law_rows" ["_law_deck_here", "_law_tags_here"] (spOf K 2 F_rows)) (D_path : Df P w K mg base k3 "_law_path" ["_law_deck_here", "_law_rows_here"] (spOf K 2 F_path)) (D_parts_right : Df P w K mg base k4 "_law_parts_right" ["_law_rows_here"] (spOf K 1 F_parts_right)) (D_right : Df P w K mg base k5 "_law_right" ["_law_rows_here", "_law_steps", "_law_row"] (spOf K 3 F_right)) (D_copies : Df P w K mg base k6 "_law_copies" ["_law_deck_here", "_law_rows_here"] (spOf K 2 F_copies)) (D_pick : Df P w K mg base k7 "_law_pick" ["_law_deck_here", "_law_items"] (spOf K 2 F_pick)) (m_len : mg "len" = none) (m_range : mg "range" = none) (h_k0 : k0 ≤ k) (h_k1 : k1 ≤ k) (h_k2 : k2 ≤ k) (h_k3 : k3 ≤ k) (h_k4 : k4 ≤ k) (h_k5 : k5 ≤ k) (h_k6 : k6 ≤ k) (h_k7 : k7 ≤ k)
    (hd : dB_law F_tags F_rows F_path F_parts_right F_right F_copies F_pick { nx := fun _ => False, rt := fun v _ => v = .bool true } ⟨.un :: .deck :: List.replicate 8 .un, 0⟩) :
    Fg P w K mg base (k + 1) f fd ["_law_script"] (spLaw K) :=
  ok_law_of 8 F sc_law rfl hd fun cdv A outer s H hr => ⟨_, (pss_cons (ps_set (i := 1) sc_law.nd rfl (Or.inl rfl) (dcall D_deck (hr.mono (h_k0)) (by rfl) (pa_cons (pv 0) pa_nil))) (pss_cons (ps_for PassesOwn.never rfl (pi_range1 (by rfl) m_range (pa_cons pe_int pa_nil)) (pg_name (i := 2) sc_law.nd rfl (Or.inl rfl)) (pss_cons (ps_set (i := 3) sc_law.nd rfl (Or.inl rfl) (dcall D_tags (hr.mono (h_k1)) (by rfl) (pa_cons (pv 1) pa_nil))) (pss_cons (ps_set (i := 4) sc_law.nd rfl (Or.inl rfl) (dcall D_rows (hr.mono (h_k2)) (by rfl) (pa_cons (pv 1) (pa_cons (pv 3) pa_nil)))) (pss_cons (ps_if (PW.pt (pw_or (pt_not (pt_val (dcall D_parts_right (hr.mono (h_k4)) (by rfl) (pa_cons (pv 4) pa_nil)))) (pw_or (pt_not (pt_val (dcall D_parts_right (hr.mono (h_k4)) (by rfl) (pa_cons (dcall D_copies (hr.mono (h_k6)) (by rfl) (pa_cons (pv 1) (pa_cons (pv 4) pa_nil))) pa_nil)))) (pw_or1 (pt_not (pt_val (dcall D_right (hr.mono (h_k5)) (by rfl) (pa_cons (pv 4) (pa_cons (pe_tupP pa_nil) (pa_cons pe_int pa_nil)))))))))) (pss_one (ps_ret pe_bl)) pss_nil) (pss_one (ps_for PassesOwn.never rfl (pi_range1 (by rfl) m_range (pa_cons pe_int pa_nil)) (pg_name (i := 5) sc_law.nd rfl (Or.inl rfl)) (pss_cons (ps_asg (dcall D_path (hr.mono (h_k3)) (by rfl) (pa_cons (pv 1) (pa_cons (pv 4) pa_nil))) (pg_tup rfl (pgs_cons (pg_name (i := 6) sc_law.nd rfl (Or.inl rfl)) (pgs_cons (pg_name (i := 7) sc_law.nd rfl (Or.inl rfl)) pgs_nil)))) (pss_cons (ps_set (i := 8) sc_law.nd rfl (Or.inl rfl) (pe_callB call_len_seq (by rfl) m_len (by decide +kernel) (pa_cons (pe_ix ix_tup (pe_ix ix_tup (pv 4) (pv 7) (fun _ _ => rfl)) pe_int (fun _ _ => rfl)) pa_nil))) (pss_cons (ps_set (i := 9) sc_law.nd rfl (Or.inl rfl) (pe_lst (pa_cons (pe_op op_catP (pv 6) (pe_tupP (pa_cons (pv 8) pa_nil))) (pa_cons (pe_op op_catP (pv 6) (pe_tupP (pa_cons (pe_un un_neg pe_int) pa_nil))) (pa_cons (pe_op op_catP (pv 6) (pe_tupP (pa_cons (pv 8) (pa_cons pe_int pa_nil)))) (pa_cons (pe_op op_catP (pv 6) (pe_tupP (pa_cons (pe_op op_pow pe_int pe_int) pa_nil))) (pa_cons (pe_op op_catP (pe_tupP (pa_cons (pe_op op_sub pe_int pe_int) pa_nil)) (pv 6)) pa_nil))))))) (pss_cons (ps_expr (pe_bm PySem.F.plainAttrs_list PySem.F.slot_list_append PySem.F.type_list_append mt_append (pv 9) (pa_cons (pe_op op_catP (pe_tupP (pa_cons pe_int pa_nil)) (pv 6)) pa_nil))) (pss_one (ps_if (PW.pt (pw_or (pt_not (pt_val (dcall D_right (hr.mono (h_k5)) (by rfl) (pa_cons (pv 4) (pa_cons (pv 6) (pa_cons (pv 7) pa_nil)))))) (pw_or1 (pt_not (pt_val (dcall D_right (hr.mono (h_k5)) (by rfl) (pa_cons (pv 4) (pa_cons (dcall D_pick (hr.mono (h_k7)) (by rfl) (pa_cons (pv 1) (pa_cons (pv 9) pa_nil))) (pa_cons pe_non pa_nil))))))))) (pss_one (ps_ret pe_bl)) pss_nil)))))))))))) (pss_one (ps_ret pe_bl)))),
    fun W B H0 G0 Z0 => (rs_seq (rs_for (ri_rng1 re_int) (rg_name (i := 2)) (rs_seq (rs_set (i := 3) (re_call (rx_deck (i := 1) rx_nil))) (rs_seq (rs_set (i := 4) (re_call (rx_deck (i := 1) (rx_cons (re_var (i := 3)) rx_nil)))) (rs_seq (rs_if (rt_or (rt_not (rt_val (re_call (rx_cons (re_var (i := 4)) rx_nil)))) (rt_or (rt_not (rt_val (re_call (rx_cons (re_call (rx_deck (i := 1) (rx_cons (re_var (i := 4)) rx_nil))) rx_nil)))) (rt_not (rt_val (re_call (rx_cons (re_var (i := 4)) (rx_cons (re_tup ra_nil) (rx_cons re_int rx_nil)))))))) (rs_ret re_bl) rs_next) (rs_for (ri_rng1 re_int) (rg_name (i := 5)) (rs_seq (rs_asg (re_call (rx_deck (i := 1) (rx_cons (re_var (i := 4)) rx_nil))) (rg_tup (rgs_cons (rg_name (i := 6)) (rgs_cons (rg_name (i := 7)) rgs_nil)))) (rs_seq (rs_set (i := 8) (re_lenU (ru_of (re_op ro_ixU (re_op ro_ixU (re_var (i := 4)) (re_var (i := 7))) re_int)))) (rs_seq (rs_setO (i := 9) (rf_lst (ra_cons (re_op ro_catU (re_var (i := 6)) (re_tup (ra_cons (re_var (i := 8)) ra_nil))) (ra_cons (re_op ro_catU (re_var (i := 6)) (re_tup (ra_cons (re_neg re_int) ra_nil))) (ra_cons (re_op ro_catU (re_var (i := 6)) (re_tup (ra_cons (re_var (i := 8)) (ra_cons re_int ra_nil)))) (ra_cons (re_op ro_catU (re_var (i := 6)) (re_tup (ra_cons (re_op ro_I re_int re_int) ra_nil))) (ra_cons (re_op ro_catU (re_tup (ra_cons (re_op ro_I0 re_int re_int) ra_nil)) (re_var (i := 6))) ra_nil))))))) (rs_seq (rs_app (i := 9) (re_op ro_catU (re_tup (ra_cons re_int ra_nil)) (re_var (i := 6)))) (rs_freeze (i := 9) (rs_if (rt_or (rt_not (rt_val (re_call (rx_cons (re_var (i := 4)) (rx_cons (re_var (i := 6)) (rx_cons (re_var (i := 7)) rx_nil)))))) (rt_not (rt_val (re_call (rx_cons (re_var (i := 4)) (rx_cons (re_call (rx_deck (i := 1) (rx_cons (re_var (i := 9)) rx_nil))) (rx_cons re_non rx_nil))))))) (rs_ret re_bl) rs_next))))))))))) (rs_ret re_bl))⟩
end K07


set_option Elab.async false
set_option linter.all false
set_option maxRecDepth 100000
set_option maxHeartbeats 4000000
/-! U07a: reached, by data. -/
namespace K07
open PySem PySem.Spec PyProof.Rows L2 GG DD PT DL LS
set_option simprocs false
local macro_rules | `(tactic| walk_at "w1") => `(tactic| with_reducible first
  | refine DL.w_seq ?_ | refine DL.w_next ?_ | refine DL.w_set ?_ | refine DL.w_setO ?_ | refine DL.w_if ?_ | refine DL.w_ret ?_ | refine DL.w_drop ?_
  | refine DL.w_par ?_ | refine DL.w_parL ?_ | refine DL.w_parR ?_ | refine DL.w_parLL ?_ | refine DL.w_asg ?_ | refine DL.w_for ?_ | refine DL.w_vsNil ?_ | refine DL.w_dIn ?_ | refine DL.w_dPut ?_
  | refine DL.w_gdN ?_ | refine DL.w_gdNil ?_ | refine DL.w_gdCons ?_
  | refine DL.w_c ?_ | refine DL.w_asL ?_ | refine DL.w_asU ?_ | refine DL.w_newL ?_ | refine DL.w_nil ?_ | refine DL.w_cons ?_ | refine DL.w_tup ?_ | refine DL.w_lst ?_ | refine DL.w_op ?_
  | refine DL.w_lenL ?_ | refine DL.w_lenD ?_ | refine DL.w_tupOf ?_ | refine DL.w_ifE ?_ | refine DL.w_cat ?_ | refine DL.w_rep ?_ | refine DL.w_call ?_ | refine DL.w_callP ?_
  | refine DL.w_xNil ?_ | refine DL.w_xCons ?_ | refine DL.w_all ?_ | refine DL.w_reprA ?_ | refine DL.w_isi ?_ | refine DL.w_andV ?_ | refine DL.w_newD ?_ | refine DL.w_dict0 ?_
  | refine DL.w_slD ?_ | refine DL.w_slU ?_ | refine DL.w_noP ?_ | refine DL.w_part ?_ | refine DL.w_listZip ?_ | refine DL.w_sortSI ?_ | refine DL.w_listRng ?_ | refine DL.w_setD ?_ | refine DL.w_dictL ?_ | refine DL.w_dictU ?_ | refine DL.w_disp ?_ | refine DL.w_psNil ?_ | refine DL.w_psCons ?_
  | refine DL.w_rng1 ?_ | refine DL.w_comp ?_ | refine DL.w_enum ?_ | refine DL.w_B ?_ | refine DL.w_and ?_ | refine DL.w_or ?_ | refine DL.w_not ?_ | refine DL.w_yes ?_
  | refine DL.w_par3 ?_ | refine DL.w_par3R ?_ | refine DL.w_par0L ?_ | refine DL.w_revL ?_ | refine DL.w_listQ ?_ | refine DL.w_star ?_ | refine DL.w_split ?_ | refine DL.w_intB ?_ | refine DL.w_dPutN ?_ | refine DL.w_dPutO ?_ | refine DL.w_listZipT ?_ | refine DL.w_callM ?_ | refine DL.w_inVar ?_ | refine DL.w_slS ?_ | refine DL.w_sortS ?_ | refine DL.w_dcomp ?_)
local macro_rules | `(tactic| walk_at "w2") => `(tactic| first
  | walk_at "w1"
  | ((with_reducible apply DL.w_var); (· rfl))
  | ((with_reducible apply DL.w_xDeck); (· rfl))
  | ((with_reducible apply DL.w_listO); (· rfl))
  | ((with_reducible apply DL.w_listD); (· rfl))
  | ((with_reducible apply DL.w_app); (· exact trivial))
  | ((with_reducible apply DL.w_popAt); (· exact trivial))
  | ((with_reducible apply DL.w_dGet); (· exact trivial))
  | ((with_reducible apply DL.w_listA); (· rfl))
  | ((with_reducible apply DL.w_ext); (· exact trivial))
  | ((with_reducible apply DL.w_dGetT); (· exact trivial))
  | ((with_reducible apply DL.w_xLast); (· exact trivial))
  | ((with_reducible apply DL.w_appA); (· rfl))
  | ((with_reducible apply DL.w_listDictO); (· rfl))
  | ((with_reducible apply DL.w_lenDictO); (· rfl))
  | ((with_reducible apply DL.w_catVarO); (· rfl))
  | ((with_reducible apply DL.w_catVarD); (· rfl))
  | ((with_reducible apply DL.w_tupLL); (· decide))
  | ((with_reducible apply DL.w_fzO); (· rfl))
  | ((with_reducible apply DL.w_fzD); (· rfl))
  | ((with_reducible apply DL.w_fz); (· rfl))
  | ((with_reducible apply DL.w_gdTup); (· rfl))
  | ((with_reducible refine And.intro ?_ ?_); (· first | rfl | exact True.intro | decide | (dsimp only [List.length_cons, List.length_nil]; decide)))
  | with_reducible refine DL.w_I0 ?_ | with_reducible refine DL.w_eqI ?_ | with_reducible refine DL.w_neI ?_ | with_reducible refine DL.w_isN ?_ | with_reducible refine DL.w_notN ?_)
local macro_rules | `(tactic| walk_at "w") => `(tactic| (repeat walk_at "w2"; try dsimp only [List.set_cons_zero, List.set_cons_succ, List.cons_append, List.nil_append, List.replicate_succ, List.replicate_zero]))
abbrev rowD (r : LS.Row) : PyData := .tuple [.str r.1, .tuple (natsD r.2)]
abbrev shD (r : Sheet) : PyData := .tuple (r.map rowD)
/-- walks with their lengths -/
inductive DfsN (rep : Nat → Nat) (ch : Nat → List Nat) : Nat → List Nat → List Nat → List Nat → Prop
  | nil (V : List Nat) : DfsN rep ch 0 [] V V
  | skip {m a : Nat} {st V W : List Nat} : rep a ∈ V → DfsN rep ch m st V W → DfsN rep ch (m + 1) (a :: st) V W
  | visit {m a : Nat} {st V W : List Nat} : ¬ rep a ∈ V → DfsN rep ch m (ch (rep a) ++ st) (V ++ [rep a]) W → DfsN rep ch (m + 1) (a :: st) V W
theorem dfsN {rep : Nat → Nat} {ch : Nat → List Nat} {st V W : List Nat} (h : Dfs rep ch st V W) : ∃ m, DfsN rep ch m st V W := by
  induction h with
  | nil V => exact ⟨0, .nil V⟩
  | skip hr _ ih =>
    obtain ⟨m, hm⟩ := ih
    exact ⟨m + 1, .skip hr hm⟩
  | visit hr _ ih =>
    obtain ⟨m, hm⟩ := ih
    exact ⟨m + 1, .visit hr hm⟩
/-- rows with their numbers -/
def numsF (i : Nat) : List Nat → List (PyData × PyData)
  | [] => []
  | k :: r => (.int (k : Nat), .int (i : Nat)) :: numsF (i + 1) r
theorem numsF_len : ∀ (V : List Nat) (i : Nat), (numsF i V).length = V.length
  | [], _ => rfl
  | _ :: r, i => by rw [numsF, List.length_cons, List.length_cons, numsF_len r]
theorem numsF_keys : ∀ (V : List Nat) (i : Nat), (numsF i V).map (·.1) = natsD V
  | [], _ => rfl
  | k :: r, i => by rw [numsF, List.map_cons, numsF_keys r]; rfl
theorem numsF_snoc (a : Nat) : ∀ (V : List Nat) (i : Nat), numsF i (V ++ [a]) = numsF i V ++ [(.int (a : Nat), .int ((i + V.length : Nat) : Nat))]
  | [], i => rfl
  | k :: r, i => by
    rw [List.cons_append, numsF, numsF_snoc a r, numsF, List.cons_append, List.length_cons]
    have e : i + 1 + r.length = i + (r.length + 1) := by omega
    rw [e]
theorem idx_hd (v : Nat) (r : List Nat) : idx v (v :: r) = 0 := if_pos rfl
theorem idx_tl {v k : Nat} (h : ¬ v = k) (r : List Nat) : idx k (v :: r) = idx k r + 1 := if_neg h
theorem numsF_get (k : Nat) : ∀ (V : List Nat) (i : Nat), dgetD (numsF i V) (.inl (k : Nat)) = if k ∈ V then some (.int ((i + idx k V : Nat) : Nat)) else none
  | [], i => rfl
  | v :: r, i => by
    show (if kOf (PyData.int (v : Nat)) = some (Sum.inl (k : Int)) then some (PyData.int (i : Nat)) else dgetD (numsF (i + 1) r) (.inl (k : Nat))) = _
    by_cases e : v = k
    · subst e
      rw [if_pos (show kOf (PyData.int (v : Nat)) = some (Sum.inl (v : Int)) from rfl), if_pos List.mem_cons_self, idx_hd]
      rfl
    · have e2 : ¬ kOf (PyData.int (v : Nat)) = some (Sum.inl (k : Int)) := fun z => e (by
        have := Sum.inl.inj (Option.some.inj (show some (Sum.inl (v : Int)) = some (Sum.inl (k : Int)) from z))
        omega)
      rw [if_neg e2, numsF_get k r, idx_tl e]
      by_cases m : k ∈ r
      · rw [if_pos m, if_pos (List.mem_cons_of_mem _ m)]
        have e : i + 1 + idx k r = i + (idx k r + 1) := by omega
        rw [e]
      · rw [if_neg m, if_neg (fun z => (List.mem_cons.mp z).elim (fun q => e q.symm) m)]
theorem numsF_put {V : List Nat} {a : Nat} (h : ¬ a ∈ V) : dputD (numsF 0 V) (.inl (a : Nat)) (.int ((V.length : Nat) : Nat)) = numsF 0 (V ++ [a]) := by
  unfold dputD
  rw [numsF_get, if_neg h, if_neg (by decide), numsF_snoc, Nat.zero_add]
  rfl
/-- the fields of the rows: of a sheet, of merged rows -/
def FieldsOf (d : PyData) (ch : Nat → List Nat) (U : List Nat) : Prop := ∀ k, k ∈ U → (∃ ds t, d = .tuple ds ∧ ds[k]? = some (.tuple [t, .tuple (natsD (ch k))])) ∨ ∃ kvs t, d = .dict kvs ∧ headK kvs = true ∧ dgetD kvs (.inl (k : Nat)) = some (.tuple [t, .list (natsD (ch k))])
def F_reached : FD := bodyD dB_reached 3
theorem rev_cons_nats (a : Nat) (st : List Nat) : natsD (a :: st).reverse = natsD st.reverse ++ [.int (a : Nat)] := by
  unfold natsD
  rw [List.reverse_cons, List.map_append]
  rfl
theorem rev_app_nats (c st : List Nat) : natsD st.reverse ++ (natsD c).reverse = natsD (c ++ st).reverse := by
  unfold natsD
  rw [List.reverse_append, List.map_append, List.map_reverse (l := c)]
theorem nats_empty (l : List Nat) : (natsD l).isEmpty = l.isEmpty := by
  cases l <;> rfl
theorem reached_spec {d : PyData} {ch : Nat → List Nat} {U W : List Nat} {root n : Nat} {P : PyData → Nat → Prop} (fo : FieldsOf d ch U) (hU : ∀ v, v ∈ U → ∀ f, f ∈ ch v → f ∈ U) (hc : ∀ v, v ∈ U → (ch v).length ≤ 10) (hl : U.length ≤ 1000) (hr : root ∈ U) (hW : Dfs id ch [root] [] W) (h : P (.list (natsD W)) n) :
    F_reached [.dat d, .dat (.int (root : Nat))] n P := by
  unfold F_reached bodyD dB_reached
  walk_at "w"
  refine w_while (fun m s => ∃ st V c4, s = ⟨[.dat d, .dat (.int (root : Nat)), .owd (numsF 0 V), .own (natsD st.reverse), c4], n⟩ ∧ DfsN id ch m st V W ∧ V.Nodup ∧ V ⊆ U ∧ st ⊆ U ∧ st.length ≤ 1 + 10 * V.length) ?_ ?_
  · obtain ⟨m, hm⟩ := dfsN hW
    exact ⟨m, [root], [], .un, rfl, hm, List.nodup_nil, fun _ h => absurd h List.not_mem_nil, fun x hx => by
      rw [List.mem_singleton] at hx
      rw [hx]
      exact hr, Nat.le_refl _⟩
  · rintro m s ⟨st, V, c4, rfl, hD, hn, hV, hS, hlen⟩
    walk_at "w"
    refine ⟨noDict_nats _, shaped_nats _, ?_⟩
    walk_at "w"
    have hVl := hn.length_le_of_subset hV
    cases hD with
    | nil =>
      refine w_F rfl ?_
      walk_at "w"
      rw [numsF_keys]
      exact h
    | @skip m a st V W hm hD =>
      have hm : a ∈ V := hm
      refine w_T (by rw [nats_empty]; simp) ?_
      walk_at "w"
      rw [rev_cons_nats]
      refine w_pop rfl ?_
      walk_at "w"
      refine w_inKO rfl rfl ?_
      walk_at "w"
      refine w_F (by rw [numsF_get, if_pos hm]; rfl) ?_
      walk_at "w"
      exact ⟨m, Nat.lt_succ_self _, st, V, _, rfl, hD, hn, hV, fun x hx => hS (List.mem_cons_of_mem _ hx), by
        rw [List.length_cons] at hlen
        omega⟩
    | @visit m a st V W hm hD =>
      have hm : ¬ a ∈ V := hm
      have ha : a ∈ U := hS List.mem_cons_self
      have hca := hc a ha
      refine w_T (by rw [nats_empty]; simp) ?_
      walk_at "w"
      rw [rev_cons_nats]
      refine w_pop rfl ?_
      walk_at "w"
      refine w_inKO rfl rfl ?_
      walk_at "w"
      refine w_T (by rw [numsF_get, if_neg hm]; rfl) ?_
      walk_at "w"
      rw [numsF_len]
      refine w_putK rfl rfl (by rw [numsF_len]; omega) ?_
      walk_at "w"
      rw [numsF_put hm]
      have e1 : (numsF 0 (V ++ [a]), natsD st.reverse ++ (natsD (ch a)).reverse) = (numsF 0 (V ++ [a]), natsD (ch a ++ st).reverse) := by rw [rev_app_nats]
      have e2 := (Prod.mk.inj e1).2
      have hb : (natsD st.reverse).length + (natsD (ch a)).reverse.length ≤ 1000000 := by
        rw [List.length_cons] at hlen
        simp only [natsD, List.length_map, List.length_reverse]
        omega
      have nx : ∀ (d' c4' : DV), d' = .dat d → ∃ m', m' < m + 1 ∧ ∃ st' V' c4'', (⟨[d', .dat (.int (root : Nat)), .owd (numsF 0 (V ++ [a])), .own (natsD st.reverse ++ (natsD (ch a)).reverse), c4'], n⟩ : DSt) = ⟨[.dat d, .dat (.int (root : Nat)), .owd (numsF 0 V'), .own (natsD st'.reverse), c4''], n⟩ ∧ DfsN id ch m' st' V' W ∧ V'.Nodup ∧ V' ⊆ U ∧ st' ⊆ U ∧ st'.length ≤ 1 + 10 * V'.length := fun d' c4' ed => by
        subst ed
        rw [e2]
        refine ⟨m, Nat.lt_succ_self _, ch a ++ st, V ++ [a], c4', rfl, hD, nodup_snoc hn hm, sub_snoc hV ha, fun x hx => (List.mem_append.mp hx).elim (hU a ha x) fun z => hS (List.mem_cons_of_mem _ z), ?_⟩
        rw [List.length_cons] at hlen
        rw [List.length_append, List.length_append, List.length_singleton]
        omega
      rcases fo a ha with ⟨ds, t, rfl, e⟩ | ⟨kvs, t, rfl, hh, e⟩
      · refine Or.inl ?_
        walk_at "w"
        refine w_ixU (atI_nat e) ?_
        walk_at "w"
        refine w_ixU rfl ?_
        walk_at "w"
        exact w_extK rfl hb (nx _ _ rfl)
      · refine Or.inr ?_
        walk_at "w"
        refine w_getK rfl rfl hh e ?_
        walk_at "w"
        refine w_ixU rfl ?_
        walk_at "w"
        exact w_extK rfl hb (nx _ _ rfl)
end K07

set_option Elab.async false
set_option linter.all false
set_option maxRecDepth 100000
set_option maxHeartbeats 4000000
/-! U07b: classes, merged rows, the least sheet, by data. -/
namespace K07
open PySem PySem.Spec PyProof.Rows L2 GG DD PT DL LS
set_option simprocs false
local macro_rules | `(tactic| walk_at "w1") => `(tactic| with_reducible first
  | refine DL.w_seq ?_ | refine DL.w_next ?_ | refine DL.w_set ?_ | refine DL.w_setO ?_ | refine DL.w_if ?_ | refine DL.w_ret ?_ | refine DL.w_drop ?_
  | refine DL.w_par ?_ | refine DL.w_parL ?_ | refine DL.w_parR ?_ | refine DL.w_parLL ?_ | refine DL.w_asg ?_ | refine DL.w_for ?_ | refine DL.w_vsNil ?_ | refine DL.w_dIn ?_ | refine DL.w_dPut ?_
  | refine DL.w_gdN ?_ | refine DL.w_gdNil ?_ | refine DL.w_gdCons ?_
  | refine DL.w_c ?_ | refine DL.w_asL ?_ | refine DL.w_asU ?_ | refine DL.w_newL ?_ | refine DL.w_nil ?_ | refine DL.w_cons ?_ | refine DL.w_tup ?_ | refine DL.w_lst ?_ | refine DL.w_op ?_
  | refine DL.w_lenL ?_ | refine DL.w_lenD ?_ | refine DL.w_tupOf ?_ | refine DL.w_ifE ?_ | refine DL.w_cat ?_ | refine DL.w_rep ?_ | refine DL.w_call ?_ | refine DL.w_callP ?_
  | refine DL.w_xNil ?_ | refine DL.w_xCons ?_ | refine DL.w_all ?_ | refine DL.w_reprA ?_ | refine DL.w_isi ?_ | refine DL.w_andV ?_ | refine DL.w_newD ?_ | refine DL.w_dict0 ?_
  | refine DL.w_slD ?_ | refine DL.w_slU ?_ | refine DL.w_noP ?_ | refine DL.w_part ?_ | refine DL.w_listZip ?_ | refine DL.w_sortSI ?_ | refine DL.w_listRng ?_ | refine DL.w_setD ?_ | refine DL.w_dictL ?_ | refine DL.w_dictU ?_ | refine DL.w_disp ?_ | refine DL.w_psNil ?_ | refine DL.w_psCons ?_
  | refine DL.w_rng1 ?_ | refine DL.w_comp ?_ | refine DL.w_enum ?_ | refine DL.w_B ?_ | refine DL.w_and ?_ | refine DL.w_or ?_ | refine DL.w_not ?_ | refine DL.w_yes ?_
  | refine DL.w_par3 ?_ | refine DL.w_par3R ?_ | refine DL.w_par0L ?_ | refine DL.w_revL ?_ | refine DL.w_listQ ?_ | refine DL.w_star ?_ | refine DL.w_split ?_ | refine DL.w_intB ?_ | refine DL.w_dPutN ?_ | refine DL.w_dPutO ?_ | refine DL.w_listZipT ?_ | refine DL.w_callM ?_ | refine DL.w_inVar ?_ | refine DL.w_slS ?_ | refine DL.w_sortS ?_ | refine DL.w_dcomp ?_)
local macro_rules | `(tactic| walk_at "w2") => `(tactic| first
  | walk_at "w1"
  | ((with_reducible apply DL.w_var); (· rfl))
  | ((with_reducible apply DL.w_xDeck); (· rfl))
  | ((with_reducible apply DL.w_listO); (· rfl))
  | ((with_reducible apply DL.w_listD); (· rfl))
  | ((with_reducible apply DL.w_app); (· exact trivial))
  | ((with_reducible apply DL.w_popAt); (· exact trivial))
  | ((with_reducible apply DL.w_dGet); (· exact trivial))
  | ((with_reducible apply DL.w_listA); (· rfl))
  | ((with_reducible apply DL.w_ext); (· exact trivial))
  | ((with_reducible apply DL.w_dGetT); (· exact trivial))
  | ((with_reducible apply DL.w_xLast); (· exact trivial))
  | ((with_reducible apply DL.w_appA); (· rfl))
  | ((with_reducible apply DL.w_listDictO); (· rfl))
  | ((with_reducible apply DL.w_lenDictO); (· rfl))
  | ((with_reducible apply DL.w_catVarO); (· rfl))
  | ((with_reducible apply DL.w_catVarD); (· rfl))
  | ((with_reducible apply DL.w_tupLL); (· decide))
  | ((with_reducible apply DL.w_fzO); (· rfl))
  | ((with_reducible apply DL.w_fzD); (· rfl))
  | ((with_reducible apply DL.w_fz); (· rfl))
  | ((with_reducible apply DL.w_gdTup); (· rfl))
  | ((with_reducible refine And.intro ?_ ?_); (· first | rfl | exact True.intro | decide | (dsimp only [List.length_cons, List.length_nil]; decide)))
  | with_reducible refine DL.w_I0 ?_ | with_reducible refine DL.w_eqI ?_ | with_reducible refine DL.w_neI ?_ | with_reducible refine DL.w_isN ?_ | with_reducible refine DL.w_notN ?_)
local macro_rules | `(tactic| walk_at "w") => `(tactic| (repeat walk_at "w2"; try dsimp only [List.set_cons_zero, List.set_cons_succ, List.cons_append, List.nil_append, List.replicate_succ, List.replicate_zero]))
/-! ### dicts made of pairs -/
theorem merge_new : ∀ (l : List (L2.Key × PyData)) (acc : List (PyData × PyData)), (l.map (·.1)).Nodup → (∀ k, k ∈ l.map (·.1) → dgetD acc k = none) → mergeD acc l = acc ++ l.map fun p => (keyD p.1, p.2)
  | [], acc, _, _ => by rw [List.map_nil, List.append_nil]; rfl
  | p :: r, acc, hn, hk => by
    rw [List.map_cons, List.nodup_cons] at hn
    have h0 : dgetD acc p.1 = none := hk p.1 (by rw [List.map_cons]; exact List.mem_cons_self)
    have e : dputD acc p.1 p.2 = acc ++ [(keyD p.1, p.2)] := by
      unfold dputD
      rw [h0, if_neg (by decide)]
    show mergeD (dputD acc p.1 p.2) r = _
    rw [merge_new r _ hn.2 fun k hk2 => ?_, e, List.append_assoc, List.map_cons]
    · rfl
    · have hne : p.1 ≠ k := fun z => hn.1 (by rw [z]; exact hk2)
      rw [get_put, if_neg hne]
      exact hk k (by rw [List.map_cons]; exact List.mem_cons_of_mem _ hk2)
theorem inl_nodup {l : List Nat} (h : l.Nodup) : (l.map fun u : Nat => (Sum.inl (u : Int) : L2.Key)).Nodup := by
  unfold List.Nodup
  rw [List.pairwise_map]
  exact h.imp fun hne z => hne (by
    have := Sum.inl.inj z
    omega)
/-- a number for each row -/
abbrev clsD (used : List Nat) (c : Nat → Nat) : List (PyData × PyData) := used.map fun u => (PyData.int (u : Nat), PyData.int (c u : Nat))
theorem cls_get {used : List Nat} {c : Nat → Nat} {u : Nat} (h : u ∈ used) : dgetD (clsD used c) (.inl (u : Nat)) = some (.int (c u : Nat)) := by
  induction used with
  | nil => exact absurd h List.not_mem_nil
  | cons v r ih =>
    show (if kOf (PyData.int (v : Nat)) = some (Sum.inl (u : Int)) then some (PyData.int (c v : Nat)) else dgetD (clsD r c) (.inl (u : Nat))) = _
    by_cases e : v = u
    · subst e
      rw [if_pos (show kOf (PyData.int (v : Nat)) = some (Sum.inl (v : Int)) from rfl)]
    · have e2 : ¬ kOf (PyData.int (v : Nat)) = some (Sum.inl (u : Int)) := fun z => e (by
        have := Sum.inl.inj (Option.some.inj (show some (Sum.inl (v : Int)) = some (Sum.inl (u : Int)) from z))
        omega)
      rw [if_neg e2]
      exact ih ((List.mem_cons.mp h).resolve_left fun z => e z.symm)
theorem cls_head {used : List Nat} {c : Nat → Nat} : headK (clsD used c) = true := by
  cases used <;> rfl
/-! ### numbers by first occurrence -/
theorem idxOf_some {α : Type} [DecidableEq α] {x : α} : ∀ {l : List α} {j : Nat}, idxOf x l = some j → l[j]? = some x
  | [], _, h => by cases h
  | y :: r, j, h => by
    unfold idxOf at h
    by_cases e : y = x
    · rw [if_pos e] at h
      cases h
      rw [e]
      rfl
    · rw [if_neg e] at h
      obtain ⟨i, h1, rfl⟩ := Option.map_eq_some_iff.mp h
      rw [List.getElem?_cons_succ]
      exact idxOf_some h1
theorem idxOf_none {α : Type} [DecidableEq α] {x : α} : ∀ {l : List α}, idxOf x l = none → ¬ x ∈ l
  | [], _ => List.not_mem_nil
  | y :: r, h => by
    unfold idxOf at h
    by_cases e : y = x
    · rw [if_pos e] at h
      cases h
    · rw [if_neg e, Option.map_eq_none_iff] at h
      exact fun z => (List.mem_cons.mp z).elim (fun q => e q.symm) (idxOf_none h)
theorem num_spec {α : Type} [DecidableEq α] : ∀ (ks seen : List α), seen.Nodup → (seenOf seen ks).Nodup ∧ (∀ (j : Nat) (s : α), seen[j]? = some s → (seenOf seen ks)[j]? = some s) ∧ (numOf seen ks).length = ks.length ∧
    (∀ (i : Nat) (k : α), ks[i]? = some k → ∃ j, (numOf seen ks)[i]? = some j ∧ (seenOf seen ks)[j]? = some k) ∧ ∀ s, s ∈ seenOf seen ks → s ∈ seen ∨ s ∈ ks
  | [], seen, h => by
    refine ⟨h, fun _ _ e => e, rfl, fun i k e => ?_, fun s h => .inl h⟩
    rw [List.getElem?_nil] at e
    cases e
  | x :: r, seen, h => by
    cases e : idxOf x seen with
    | some j =>
      obtain ⟨h1, h2, h3, h4, h5⟩ := num_spec r seen h
      have es : seenOf seen (x :: r) = seenOf seen r := by rw [seenOf, e]
      have en : numOf seen (x :: r) = j :: numOf seen r := by rw [numOf, e]
      rw [es, en]
      refine ⟨h1, h2, by rw [List.length_cons, List.length_cons, h3], fun i k ei => ?_, fun s hs => (h5 s hs).imp id (List.mem_cons_of_mem _)⟩
      cases i with
      | zero =>
        rw [List.getElem?_cons_zero] at ei
        cases ei
        exact ⟨j, rfl, h2 _ _ (idxOf_some e)⟩
      | succ i =>
        rw [List.getElem?_cons_succ] at ei
        obtain ⟨j', q1, q2⟩ := h4 i k ei
        exact ⟨j', by rw [List.getElem?_cons_succ]; exact q1, q2⟩
    | none =>
      have hn : (seen ++ [x]).Nodup := by
        rw [List.nodup_append]
        exact ⟨h, by simp, fun y hy z hz q => by
          rw [List.mem_singleton] at hz
          subst hz
          exact idxOf_none e (q ▸ hy)⟩
      obtain ⟨h1, h2, h3, h4, h5⟩ := num_spec r (seen ++ [x]) hn
      have es : seenOf seen (x :: r) = seenOf (seen ++ [x]) r := by rw [seenOf, e]
      have en : numOf seen (x :: r) = seen.length :: numOf (seen ++ [x]) r := by rw [numOf, e]
      rw [es, en]
      refine ⟨h1, fun j s ej => h2 j s (by rw [List.getElem?_append_left (List.getElem?_eq_some_iff.mp ej).1]; exact ej), by rw [List.length_cons, List.length_cons, h3], fun i k ei => ?_, fun s hs => ?_⟩
      · cases i with
        | zero =>
          rw [List.getElem?_cons_zero] at ei
          cases ei
          exact ⟨seen.length, rfl, h2 _ _ (by simp)⟩
        | succ i =>
          rw [List.getElem?_cons_succ] at ei
          obtain ⟨j', q1, q2⟩ := h4 i k ei
          exact ⟨j', by rw [List.getElem?_cons_succ]; exact q1, q2⟩
      · rcases h5 s hs with q | q
        · rcases List.mem_append.mp q with q | q
          · exact .inl q
          · rw [List.mem_singleton] at q
            rw [q]
            exact .inr List.mem_cons_self
        · exact .inr (List.mem_cons_of_mem _ q)
theorem nd_inj {α : Type} {l : List α} (h : l.Nodup) {i j : Nat} {x : α} (hi : l[i]? = some x) (hj : l[j]? = some x) : i = j := by
  have li := (List.getElem?_eq_some_iff.mp hi).1
  exact (List.getElem?_inj li h).mp (hi.trans hj.symm)
/-- what numbered makes of a key for each row -/
theorem num_part {α : Type} [DecidableEq α] {used : List Nat} (hn : used.Nodup) (key : Nat → α) : ∃ (c : Nat → Nat) (N : Nat), Part used key c N ∧ numR (used.map fun u : Nat => ((Sum.inl (u : Int) : L2.Key), key u)) = .tuple [.dict (clsD used c), .int (N : Nat)] := by
  obtain ⟨h1, _, h3, h4, h5⟩ := num_spec (used.map key) [] List.nodup_nil
  have at' : ∀ {u : Nat}, u ∈ used → ∃ j, (numOf [] (used.map key))[idx u used]? = some j ∧ (seenOf [] (used.map key))[j]? = some (key u) := fun {u} hu => h4 _ _ (by rw [List.getElem?_map, idx_at hu]; rfl)
  refine ⟨fun u => (numOf [] (used.map key)).getD (idx u used) 0, (seenOf [] (used.map key)).length, ?_, ?_⟩
  · have cs : ∀ {u : Nat}, u ∈ used → (seenOf [] (used.map key))[(numOf [] (used.map key)).getD (idx u used) 0]? = some (key u) := fun {u} hu => by
      obtain ⟨j, q1, q2⟩ := at' hu
      rw [List.getD_eq_getElem?_getD, q1]
      exact q2
    refine ⟨fun u hu => (List.getElem?_eq_some_iff.mp (cs hu)).1, fun j hj => ?_, fun u v hu hv => ⟨fun e => ?_, fun e => ?_⟩⟩
    · rcases h5 _ (List.getElem_mem hj) with q | q
      · exact absurd q List.not_mem_nil
      · obtain ⟨u, hu, e⟩ := List.mem_map.mp q
        refine ⟨u, hu, nd_inj h1 (cs hu) ?_⟩
        rw [List.getElem?_eq_getElem hj, e]
    · have e : (numOf [] (used.map key)).getD (idx u used) 0 = (numOf [] (used.map key)).getD (idx v used) 0 := e
      have z := cs hu
      rw [e, cs hv] at z
      exact (Option.some.inj z).symm
    · have z := cs hu
      rw [e] at z
      exact nd_inj h1 z (cs hv)
  · have e1 : (used.map fun u : Nat => ((Sum.inl (u : Int) : L2.Key), key u)).map (·.1) = used.map fun u : Nat => (Sum.inl (u : Int) : L2.Key) := by rw [List.map_map]; rfl
    have e2 : (used.map fun u : Nat => ((Sum.inl (u : Int) : L2.Key), key u)).map (·.2) = used.map key := by rw [List.map_map]; rfl
    have e3 : (used.map fun u : Nat => (Sum.inl (u : Int) : L2.Key)).zip ((numOf [] (used.map key)).map fun j => PyData.int (j : Nat)) = used.map fun u : Nat => ((Sum.inl (u : Int) : L2.Key), PyData.int ((numOf [] (used.map key)).getD (idx u used) 0 : Nat)) := by
      refine List.ext_getElem? fun i => ?_
      rw [List.getElem?_map]
      cases eu : used[i]? with
      | none =>
        rw [List.getElem?_eq_none_iff] at eu
        rw [List.getElem?_eq_none (by rw [List.length_zip, List.length_map]; omega)]
        rfl
      | some u =>
        have hu := List.mem_of_getElem? eu
        obtain ⟨j, q1, _⟩ := at' hu
        have ei : idx u used = i := nd_inj hn (idx_at hu) eu
        rw [List.getElem?_zip_eq_some (z := ((Sum.inl (u : Int) : L2.Key), PyData.int (j : Nat))) |>.mpr ⟨by rw [List.getElem?_map, eu]; rfl, by rw [List.getElem?_map, ← ei, q1]; rfl⟩]
        rw [Option.map_some, List.getD_eq_getElem?_getD, q1]
        rfl
    unfold numR
    rw [e1, e2, e3, merge_new _ _ (by rw [List.map_map]; exact inl_nodup hn) (fun k _ => rfl), List.nil_append, List.map_map]
    rfl
end K07

set_option Elab.async false
set_option linter.all false
set_option maxRecDepth 100000
set_option maxHeartbeats 4000000
/-! U07c: classes_of, renumbered, reduced, least_sheet, by data. -/
namespace K07
open PySem PySem.Spec PyProof.Rows L2 GG DD PT DL LS
set_option simprocs false
local macro_rules | `(tactic| walk_at "w1") => `(tactic| with_reducible first
  | refine DL.w_seq ?_ | refine DL.w_next ?_ | refine DL.w_set ?_ | refine DL.w_setO ?_ | refine DL.w_if ?_ | refine DL.w_ret ?_ | refine DL.w_drop ?_
  | refine DL.w_par ?_ | refine DL.w_parL ?_ | refine DL.w_parR ?_ | refine DL.w_parLL ?_ | refine DL.w_asg ?_ | refine DL.w_for ?_ | refine DL.w_vsNil ?_ | refine DL.w_dIn ?_ | refine DL.w_dPut ?_
  | refine DL.w_gdN ?_ | refine DL.w_gdNil ?_ | refine DL.w_gdCons ?_
  | refine DL.w_c ?_ | refine DL.w_asL ?_ | refine DL.w_asU ?_ | refine DL.w_newL ?_ | refine DL.w_nil ?_ | refine DL.w_cons ?_ | refine DL.w_tup ?_ | refine DL.w_lst ?_ | refine DL.w_op ?_
  | refine DL.w_lenL ?_ | refine DL.w_lenD ?_ | refine DL.w_tupOf ?_ | refine DL.w_ifE ?_ | refine DL.w_cat ?_ | refine DL.w_rep ?_ | refine DL.w_call ?_ | refine DL.w_callP ?_
  | refine DL.w_xNil ?_ | refine DL.w_xCons ?_ | refine DL.w_all ?_ | refine DL.w_reprA ?_ | refine DL.w_isi ?_ | refine DL.w_andV ?_ | refine DL.w_newD ?_ | refine DL.w_dict0 ?_
  | refine DL.w_slD ?_ | refine DL.w_slU ?_ | refine DL.w_noP ?_ | refine DL.w_part ?_ | refine DL.w_listZip ?_ | refine DL.w_sortSI ?_ | refine DL.w_listRng ?_ | refine DL.w_setD ?_ | refine DL.w_dictL ?_ | refine DL.w_dictU ?_ | refine DL.w_disp ?_ | refine DL.w_psNil ?_ | refine DL.w_psCons ?_
  | refine DL.w_rng1 ?_ | refine DL.w_comp ?_ | refine DL.w_enum ?_ | refine DL.w_B ?_ | refine DL.w_and ?_ | refine DL.w_or ?_ | refine DL.w_not ?_ | refine DL.w_yes ?_
  | refine DL.w_par3 ?_ | refine DL.w_par3R ?_ | refine DL.w_par0L ?_ | refine DL.w_revL ?_ | refine DL.w_listQ ?_ | refine DL.w_star ?_ | refine DL.w_split ?_ | refine DL.w_intB ?_ | refine DL.w_dPutN ?_ | refine DL.w_dPutO ?_ | refine DL.w_listZipT ?_ | refine DL.w_callM ?_ | refine DL.w_inVar ?_ | refine DL.w_slS ?_ | refine DL.w_sortS ?_ | refine DL.w_dcomp ?_)
local macro_rules | `(tactic| walk_at "w2") => `(tactic| first
  | walk_at "w1"
  | ((with_reducible apply DL.w_var); (· rfl))
  | ((with_reducible apply DL.w_xDeck); (· rfl))
  | ((with_reducible apply DL.w_listO); (· rfl))
  | ((with_reducible apply DL.w_listD); (· rfl))
  | ((with_reducible apply DL.w_app); (· exact trivial))
  | ((with_reducible apply DL.w_popAt); (· exact trivial))
  | ((with_reducible apply DL.w_dGet); (· exact trivial))
  | ((with_reducible apply DL.w_listA); (· rfl))
  | ((with_reducible apply DL.w_ext); (· exact trivial))
  | ((with_reducible apply DL.w_dGetT); (· exact trivial))
  | ((with_reducible apply DL.w_xLast); (· exact trivial))
  | ((with_reducible apply DL.w_appA); (· rfl))
  | ((with_reducible apply DL.w_listDictO); (· rfl))
  | ((with_reducible apply DL.w_lenDictO); (· rfl))
  | ((with_reducible apply DL.w_catVarO); (· rfl))
  | ((with_reducible apply DL.w_catVarD); (· rfl))
  | ((with_reducible apply DL.w_tupLL); (· decide))
  | ((with_reducible apply DL.w_fzO); (· rfl))
  | ((with_reducible apply DL.w_fzD); (· rfl))
  | ((with_reducible apply DL.w_fz); (· rfl))
  | ((with_reducible apply DL.w_gdTup); (· rfl))
  | ((with_reducible refine And.intro ?_ ?_); (· first | rfl | exact True.intro | decide | (dsimp only [List.length_cons, List.length_nil]; decide)))
  | with_reducible refine DL.w_I0 ?_ | with_reducible refine DL.w_eqI ?_ | with_reducible refine DL.w_neI ?_ | with_reducible refine DL.w_isN ?_ | with_reducible refine DL.w_notN ?_)
local macro_rules | `(tactic| walk_at "w") => `(tactic| (repeat walk_at "w2"; try dsimp only [List.set_cons_zero, List.set_cons_succ, List.cons_append, List.nil_append, List.replicate_succ, List.replicate_zero]))
/-- a sheet that is not too great -/
structure ShOk (r : Sheet) : Prop where
  cl : Cl r
  ne : 0 < r.length
  ln : r.length ≤ 1000
  fl : ∀ k, k < r.length → (rowAt r k).2.length ≤ 10
theorem row_get {r : Sheet} {k : Nat} (h : k < r.length) : (r.map rowD)[k]? = some (rowD (rowAt r k)) := by
  rw [List.getElem?_map, row_some h]
  rfl
theorem use_len {r : Sheet} {used : List Nat} {a0 : Nat} (U : Use r used a0) : used.length ≤ r.length := by
  have z := U.nd.length_le_of_subset (show used ⊆ List.range r.length from fun u hu => List.mem_range.mpr (U.lt u hu))
  rwa [List.length_range] at z
theorem part_congr {α β : Type} {used : List Nat} {key : Nat → α} {key' : Nat → β} {c : Nat → Nat} {N : Nat} (p : Part used key c N) (h : ∀ u v, u ∈ used → v ∈ used → (key u = key v ↔ key' u = key' v)) : Part used key' c N :=
  ⟨p.lt, p.onto, fun u v hu hv => (p.eq u v hu hv).trans (h u v hu hv)⟩
theorem inl_map {a b : List Nat} (h : a.map (fun x : Nat => (Sum.inl (x : Int) : L2.Key)) = b.map fun x : Nat => (Sum.inl (x : Int) : L2.Key)) : a = b := by
  have z := F2.of_map_eq (R := fun x y : Nat => x = y) (fun x y q => by
    have q : ((x : Nat) : Int) = ((y : Nat) : Int) := Sum.inl.inj q
    omega) h
  have w := F2.map_eq (f := id) (g := id) (fun _ _ q => q) z
  rwa [List.map_id, List.map_id] at w
def F_classes : FD := bodyD (dB_classes_of F_num) 6
def fTag (r : Sheet) : PyData → L2.Key × PyData
  | .int i => (.inl i, .str (rowAt r i.toNat).1)
  | _ => (.inl 0, .none)
def fKey (r : Sheet) (c : Nat → Nat) : PyData → L2.Key × PyData
  | .int i => (.inl i, .tuple (.int (c i.toNat : Nat) :: natsD ((rowAt r i.toNat).2.map c)))
  | _ => (.inl 0, .none)
def fCls (c : Nat → Nat) : PyData → PyData
  | .int i => .int (c i.toNat : Nat)
  | _ => .none
theorem keys_nats {used : List Nat} (hn : used.Nodup) (f : PyData → L2.Key × PyData) (hf : ∀ u : Nat, (f (.int (u : Nat))).1 = .inl (u : Int)) : mergeD [] ((natsD used).map f) = used.map fun u : Nat => (PyData.int (u : Nat), (f (.int (u : Nat))).2) := by
  have e : ((natsD used).map f).map (·.1) = used.map fun u : Nat => (Sum.inl (u : Int) : L2.Key) := by
    unfold natsD
    rw [List.map_map, List.map_map]
    exact List.map_congr_left fun u _ => hf u
  rw [merge_new _ _ (by rw [e]; exact inl_nodup hn) fun k _ => rfl, List.nil_append]
  unfold natsD
  rw [List.map_map, List.map_map]
  refine List.map_congr_left fun u _ => ?_
  show (keyD (f (.int (u : Nat))).1, _) = _
  rw [hf]
  rfl
theorem cls_map {c : Nat → Nat} (l : List Nat) : (natsD l).map (fCls c) = natsD (l.map c) := by
  unfold natsD
  rw [List.map_map, List.map_map]
  rfl
theorem classes_spec {r : Sheet} (ok : ShOk r) {used : List Nat} {a0 : Nat} (U : Use r used a0) {n : Nat} {P : PyData → Nat → Prop} (h : ∀ c : Nat → Nat, (∀ u v, u ∈ used → v ∈ used → (c u = c v ↔ Bis (gr r) (gr r) u v)) → P (.dict (clsD used c)) n) :
    F_classes [.dat (shD r), .dat (.list (natsD used))] n P := by
  have hlen := Nat.le_trans (use_len U) ok.ln
  unfold F_classes bodyD dB_classes_of
  walk_at "w"
  refine ⟨by simp [natsD, hlen], rfl, dc_map (fTag r) (fun d hd Y Z hY => ?_) ?_⟩
  · obtain ⟨u, hu, rfl⟩ := List.mem_map.mp hd
    walk_at "w"
    refine w_T rfl ?_
    walk_at "w"
    refine w_ixU (atI_nat (row_get (U.lt u hu))) ?_
    walk_at "w"
    refine w_ixU rfl ?_
    walk_at "w"
    exact hY
  · walk_at "w"
    rw [keys_nats U.nd _ fun u => rfl]
    unfold F_num
    refine ⟨by rw [List.length_map]; exact hlen, Or.inl ⟨used.map fun u : Nat => ((Sum.inl (u : Int) : L2.Key), (gr r).tg u), by rw [List.map_map]; rfl, ?_⟩⟩
    obtain ⟨c0, N0, p0, e0⟩ := num_part U.nd (gr r).tg
    rw [e0]
    walk_at "w"
    refine w_while (fun m s => ∃ c N b c5, s = ⟨[.dat (shD r), .dat (.list (natsD used)), .dat (.dict (clsD used c)), .dat (.int (N : Nat)), .dat (.int (b : Nat)), c5, .un, .un], n⟩ ∧ Cls r used c N ∧ (b < N ∨ ∀ u v, u ∈ used → v ∈ used → (c u = c v ↔ Bis (gr r) (gr r) u v)) ∧ m = used.length + 1 - b) ?_ ?_
    · exact ⟨_, c0, N0, 0, .un, rfl, cls_first p0, .inl (part_pos p0 U.ne), rfl⟩
    · rintro m s ⟨c, N, b, c5, rfl, hC, hb, rfl⟩
      walk_at "w"
      refine w_B0 ?_
      walk_at "w"
      refine w_ite (fun ht => ?_) fun hf => ?_
      · have hbN : b < N := by
          have := of_decide_eq_true ht
          omega
        obtain ⟨α, key, q⟩ := hC.part
        have hN := part_le q
        walk_at "w"
        refine ⟨by simp [natsD, hlen], rfl, dc_map (fKey r c) (fun d hd Y Z hY => ?_) ?_⟩
        · obtain ⟨u, hu, rfl⟩ := List.mem_map.mp hd
          walk_at "w"
          refine w_T rfl ?_
          walk_at "w"
          refine w_getK rfl rfl cls_head (cls_get hu) ?_
          walk_at "w"
          refine w_ixU (atI_nat (row_get (U.lt u hu))) ?_
          walk_at "w"
          refine w_ixU rfl ?_
          walk_at "w"
          have hfl := ok.fl u (U.lt u hu)
          refine ⟨by simp [natsD]; omega, rfl, lc_map (fCls c) (fun d hd Y2 Z2 hY2 => ?_) ?_⟩
          · obtain ⟨f, hf, rfl⟩ := List.mem_map.mp hd
            walk_at "w"
            refine w_T rfl ?_
            walk_at "w"
            refine w_getK rfl rfl cls_head (cls_get (U.cl u hu f hf)) ?_
            walk_at "w"
            exact hY2
          · walk_at "w"
            rw [cls_map, List.append_nil]
            refine ⟨by simp [natsD]; omega, rfl, hY⟩
        · walk_at "w"
          rw [keys_nats U.nd _ fun u => rfl]
          refine ⟨by rw [List.length_map]; exact hlen, Or.inr ⟨used.map fun u : Nat => ((Sum.inl (u : Int) : L2.Key), (c u :: ((gr r).ch u).map c).map fun x : Nat => (Sum.inl (x : Int) : L2.Key)), ?_, ?_, ?_⟩⟩
          · intro z
            have := U.ne
            rw [List.map_eq_nil_iff.mp z] at this
            exact absurd this List.not_mem_nil
          · rw [List.map_map]
            refine List.map_congr_left fun u _ => ?_
            show (PyData.int (u : Nat), PyData.tuple (.int (c u : Nat) :: natsD ((rowAt r u).2.map c))) = (PyData.int (u : Nat), PyData.tuple (((c u :: ((gr r).ch u).map c).map fun x : Nat => (Sum.inl (x : Int) : L2.Key)).map keyD))
            rw [List.map_map]
            rfl
          · obtain ⟨c1, N1, p1, e1⟩ := num_part U.nd fun u => (c u :: ((gr r).ch u).map c).map fun x : Nat => (Sum.inl (x : Int) : L2.Key)
            rw [e1]
            walk_at "w"
            have p2 : Part used (fun u => (c u, ((gr r).ch u).map c)) c1 N1 := part_congr p1 fun u v _ _ => ⟨fun e => by
              have z := List.cons.inj (inl_map e)
              show (c u, ((gr r).ch u).map c) = (c v, ((gr r).ch v).map c)
              rw [z.1, z.2], fun e => by
              have z := Prod.mk.inj e
              show (c u :: ((gr r).ch u).map c).map _ = (c v :: ((gr r).ch v).map c).map _
              rw [z.1, z.2]⟩
            refine ⟨used.length + 1 - N, by omega, c1, N1, N, _, rfl, cls_next U hC p2, ?_, rfl⟩
            rcases Nat.lt_or_ge N N1 with q | q
            · exact .inl q
            · exact .inr (cls_last U hC p2 q)
      · walk_at "w"
        refine h c (hb.resolve_left fun z => ?_)
        have := of_decide_eq_false hf
        omega
/-! ### renumbered -/
def F_renum : FD := bodyD (dB_renumbered F_reached) 5
/-- merged rows as a dict -/
def MergedD (kvs : List (PyData × PyData)) (g : G) (U : List Nat) : Prop := headK kvs = true ∧ ∀ x, x ∈ U → dgetD kvs (.inl (x : Nat)) = some (.tuple [.str (g.tg x), .list (natsD (g.ch x))])
theorem enum_nats : ∀ (W : List Nat) (i : Nat), ((natsD W).zipIdx i).map (fun p => PyData.tuple [.int (p.2 : Nat), p.1]) = (W.zipIdx i).map fun p => PyData.tuple [.int (p.2 : Nat), .int (p.1 : Nat)]
  | [], _ => rfl
  | a :: r, i => by
    rw [natsD, List.map_cons, List.zipIdx_cons, List.map_cons, List.zipIdx_cons, List.map_cons]
    have ih := enum_nats r (i + 1)
    unfold natsD at ih
    rw [ih]
def fEnum : PyData → L2.Key × PyData
  | .tuple [.int i, .int x] => (.inl x, .int i)
  | _ => (.inl 0, .none)
theorem enum_merge {W : List Nat} (hn : W.Nodup) : mergeD [] ((enumD (natsD W)).map fEnum) = numsF 0 W := by
  have e1 : (enumD (natsD W)).map fEnum = (W.zipIdx).map fun p => ((Sum.inl (p.1 : Int) : L2.Key), PyData.int (p.2 : Nat)) := by
    unfold enumD
    rw [enum_nats, List.map_map]
    rfl
  have e2 : ∀ (V : List Nat) (i : Nat), (V.zipIdx i).map (fun p => (Sum.inl (p.1 : Int) : L2.Key)) = V.map fun u : Nat => (Sum.inl (u : Int) : L2.Key) := by
    intro V
    induction V with
    | nil => intro i; rfl
    | cons a r ih =>
      intro i
      rw [List.zipIdx_cons, List.map_cons, ih, List.map_cons]
  have e3 : ∀ (V : List Nat) (i : Nat), (V.zipIdx i).map (fun p => (PyData.int (p.1 : Nat), PyData.int (p.2 : Nat))) = numsF i V := by
    intro V
    induction V with
    | nil => intro i; rfl
    | cons a r ih =>
      intro i
      rw [List.zipIdx_cons, List.map_cons, ih, numsF]
  rw [e1, merge_new _ _ (by rw [List.map_map]; exact (e2 W 0).symm ▸ inl_nodup hn) fun k _ => rfl, List.nil_append, List.map_map]
  exact e3 W 0
theorem numsF_head {V : List Nat} : headK (numsF 0 V) = true := by
  cases V <;> rfl
def fOut (g : G) (W : List Nat) : PyData → PyData
  | .int i => rowD (g.tg i.toNat, (g.ch i.toNat).map fun f => idx f W)
  | _ => .none
def fIdx (W : List Nat) : PyData → PyData
  | .int i => .int (idx i.toNat W : Nat)
  | _ => .none
/-- rows, as a dict or as a tuple -/
def RowsD (d : PyData) (g : G) (U : List Nat) : Prop := (∃ kvs, d = .dict kvs ∧ MergedD kvs g U) ∨ ∃ ds, d = .tuple ds ∧ ∀ x, x ∈ U → ds[x]? = some (.tuple [.str (g.tg x), .tuple (natsD (g.ch x))])
theorem RowsD.fields {d : PyData} {g : G} {U : List Nat} (M : RowsD d g U) : FieldsOf d g.ch U := fun k hk => by
  rcases M with ⟨kvs, rfl, M⟩ | ⟨ds, rfl, M⟩
  · exact .inr ⟨kvs, _, rfl, M.1, M.2 k hk⟩
  · exact .inl ⟨ds, _, rfl, M k hk⟩
theorem renum_spec {rd : PyData} {g : G} {U W : List Nat} (M : RowsD rd g U) (hU : ∀ v, v ∈ U → ∀ f, f ∈ g.ch v → f ∈ U) (hc : ∀ v, v ∈ U → (g.ch v).length ≤ 10) (hl : U.length ≤ 1000) {root n : Nat} (hr : root ∈ U) (hW : Dfs id g.ch [root] [] W) {P : PyData → Nat → Prop} (h : P (shD (outR g.tg id g.ch W)) n) :
    F_renum [.dat rd, .dat (.int (root : Nat))] n P := by
  have hin : ∀ v, v ∈ U → id v ∈ U ∧ ∀ f, f ∈ g.ch (id v) → f ∈ U := fun v hv => ⟨hv, hU v hv⟩
  obtain ⟨g1, g2, _, _⟩ := dfs_grow hin hW List.nodup_nil (fun _ h => absurd h List.not_mem_nil) fun x hx => by
    rw [List.mem_singleton] at hx
    rw [hx]
    exact hr
  obtain ⟨c1, c2⟩ := dfs_closed hW
  have hm : ∀ v, v ∈ W → ∀ f, f ∈ g.ch v → f ∈ W := fun v hv => (c2 v hv).resolve_left List.not_mem_nil
  have hWl := Nat.le_trans (g1.length_le_of_subset g2) hl
  unfold F_renum bodyD dB_renumbered
  walk_at "w"
  refine reached_spec (U := U) M.fields hU hc hl hr hW ?_
  walk_at "w"
  refine ⟨by unfold enumD; simp [natsD, hWl], rfl, dc_map fEnum (fun d hd Y Z hY => ?_) ?_⟩
  · unfold enumD at hd
    rw [enum_nats] at hd
    obtain ⟨p, hp, rfl⟩ := List.mem_map.mp hd
    walk_at "w"
    refine w_T rfl ?_
    walk_at "w"
    exact hY
  · walk_at "w"
    rw [enum_merge g1]
    refine ⟨by simp [natsD, hWl], rfl, lc_map (fOut g W) (fun d hd Y Z hY => ?_) ?_⟩
    · obtain ⟨v, hv, rfl⟩ := List.mem_map.mp hd
      walk_at "w"
      refine w_T rfl ?_
      walk_at "w"
      rcases M with ⟨kvs, rfl, M⟩ | ⟨ds, rfl, M⟩
      · skip
        refine Or.inr ?_
        walk_at "w"
        refine w_getK rfl rfl M.1 (M.2 v (g2 hv)) ?_
        walk_at "w"
        refine w_ixU rfl ?_
        walk_at "w"
        refine Or.inr ?_
        walk_at "w"
        refine Or.inr ?_
        walk_at "w"
        refine w_getK rfl rfl M.1 (M.2 v (g2 hv)) ?_
        walk_at "w"
        refine w_ixU rfl ?_
        walk_at "w"
        have hfl := hc v (g2 hv)
        refine ⟨by simp [natsD]; omega, rfl, lc_map (fIdx W) (fun d hd Y2 Z2 hY2 => ?_) ?_⟩
        · obtain ⟨f, hf, rfl⟩ := List.mem_map.mp hd
          have hfW := hm v hv f hf
          walk_at "w"
          refine w_T rfl ?_
          walk_at "w"
          refine w_getK rfl rfl numsF_head ((numsF_get f W 0).trans (if_pos hfW)) ?_
          walk_at "w"
          rw [Nat.zero_add]
          exact hY2
        · walk_at "w"
          have e : (natsD (g.ch v)).map (fIdx W) = natsD ((g.ch v).map fun f => idx f W) := by
            unfold natsD
            rw [List.map_map, List.map_map]
            rfl
          rw [e]
          exact hY
      · skip
        refine Or.inl ?_
        walk_at "w"
        refine w_ixU (atI_nat (M v (g2 hv))) ?_
        walk_at "w"
        refine w_ixU rfl ?_
        walk_at "w"
        refine Or.inl ?_
        walk_at "w"
        refine Or.inl ?_
        walk_at "w"
        refine w_ixU (atI_nat (M v (g2 hv))) ?_
        walk_at "w"
        refine w_ixU rfl ?_
        walk_at "w"
        have hfl := hc v (g2 hv)
        refine ⟨by simp [natsD]; omega, rfl, lc_map (fIdx W) (fun d hd Y2 Z2 hY2 => ?_) ?_⟩
        · obtain ⟨f, hf, rfl⟩ := List.mem_map.mp hd
          have hfW := hm v hv f hf
          walk_at "w"
          refine w_T rfl ?_
          walk_at "w"
          refine w_getK rfl rfl numsF_head ((numsF_get f W 0).trans (if_pos hfW)) ?_
          walk_at "w"
          rw [Nat.zero_add]
          exact hY2
        · walk_at "w"
          have e : (natsD (g.ch v)).map (fIdx W) = natsD ((g.ch v).map fun f => idx f W) := by
            unfold natsD
            rw [List.map_map, List.map_map]
            rfl
          rw [e]
          exact hY
    · walk_at "w"
      have e : (natsD W).map (fOut g W) = (outR g.tg id g.ch W).map rowD := by
        unfold natsD outR
        rw [List.map_map, List.map_map]
        rfl
      rw [e]
      exact h
end K07

set_option Elab.async false
set_option linter.all false
set_option maxRecDepth 100000
set_option maxHeartbeats 4000000
/-! U07d: least_sheet, by data. -/
namespace K07
open PySem PySem.Spec PyProof.Rows L2 GG DD PT DL LS
set_option simprocs false
local macro_rules | `(tactic| walk_at "w1") => `(tactic| with_reducible first
  | refine DL.w_seq ?_ | refine DL.w_next ?_ | refine DL.w_set ?_ | refine DL.w_setO ?_ | refine DL.w_if ?_ | refine DL.w_ret ?_ | refine DL.w_drop ?_
  | refine DL.w_par ?_ | refine DL.w_parL ?_ | refine DL.w_parR ?_ | refine DL.w_parLL ?_ | refine DL.w_asg ?_ | refine DL.w_for ?_ | refine DL.w_vsNil ?_ | refine DL.w_dIn ?_ | refine DL.w_dPut ?_
  | refine DL.w_gdN ?_ | refine DL.w_gdNil ?_ | refine DL.w_gdCons ?_
  | refine DL.w_c ?_ | refine DL.w_asL ?_ | refine DL.w_asU ?_ | refine DL.w_newL ?_ | refine DL.w_nil ?_ | refine DL.w_cons ?_ | refine DL.w_tup ?_ | refine DL.w_lst ?_ | refine DL.w_op ?_
  | refine DL.w_lenL ?_ | refine DL.w_lenD ?_ | refine DL.w_tupOf ?_ | refine DL.w_ifE ?_ | refine DL.w_cat ?_ | refine DL.w_rep ?_ | refine DL.w_call ?_ | refine DL.w_callP ?_
  | refine DL.w_xNil ?_ | refine DL.w_xCons ?_ | refine DL.w_all ?_ | refine DL.w_reprA ?_ | refine DL.w_isi ?_ | refine DL.w_andV ?_ | refine DL.w_newD ?_ | refine DL.w_dict0 ?_
  | refine DL.w_slD ?_ | refine DL.w_slU ?_ | refine DL.w_noP ?_ | refine DL.w_part ?_ | refine DL.w_listZip ?_ | refine DL.w_sortSI ?_ | refine DL.w_listRng ?_ | refine DL.w_setD ?_ | refine DL.w_dictL ?_ | refine DL.w_dictU ?_ | refine DL.w_disp ?_ | refine DL.w_psNil ?_ | refine DL.w_psCons ?_
  | refine DL.w_rng1 ?_ | refine DL.w_comp ?_ | refine DL.w_enum ?_ | refine DL.w_B ?_ | refine DL.w_and ?_ | refine DL.w_or ?_ | refine DL.w_not ?_ | refine DL.w_yes ?_
  | refine DL.w_par3 ?_ | refine DL.w_par3R ?_ | refine DL.w_par0L ?_ | refine DL.w_revL ?_ | refine DL.w_listQ ?_ | refine DL.w_star ?_ | refine DL.w_split ?_ | refine DL.w_intB ?_ | refine DL.w_dPutN ?_ | refine DL.w_dPutO ?_ | refine DL.w_listZipT ?_ | refine DL.w_callM ?_ | refine DL.w_inVar ?_ | refine DL.w_slS ?_ | refine DL.w_sortS ?_ | refine DL.w_dcomp ?_)
local macro_rules | `(tactic| walk_at "w2") => `(tactic| first
  | walk_at "w1"
  | ((with_reducible apply DL.w_var); (· rfl))
  | ((with_reducible apply DL.w_xDeck); (· rfl))
  | ((with_reducible apply DL.w_listO); (· rfl))
  | ((with_reducible apply DL.w_listD); (· rfl))
  | ((with_reducible apply DL.w_app); (· exact trivial))
  | ((with_reducible apply DL.w_popAt); (· exact trivial))
  | ((with_reducible apply DL.w_dGet); (· exact trivial))
  | ((with_reducible apply DL.w_listA); (· rfl))
  | ((with_reducible apply DL.w_ext); (· exact trivial))
  | ((with_reducible apply DL.w_dGetT); (· exact trivial))
  | ((with_reducible apply DL.w_xLast); (· exact trivial))
  | ((with_reducible apply DL.w_appA); (· rfl))
  | ((with_reducible apply DL.w_listDictO); (· rfl))
  | ((with_reducible apply DL.w_lenDictO); (· rfl))
  | ((with_reducible apply DL.w_catVarO); (· rfl))
  | ((with_reducible apply DL.w_catVarD); (· rfl))
  | ((with_reducible apply DL.w_tupLL); (· decide))
  | ((with_reducible apply DL.w_fzO); (· rfl))
  | ((with_reducible apply DL.w_fzD); (· rfl))
  | ((with_reducible apply DL.w_fz); (· rfl))
  | ((with_reducible apply DL.w_gdTup); (· rfl))
  | ((with_reducible refine And.intro ?_ ?_); (· first | rfl | exact True.intro | decide | (dsimp only [List.length_cons, List.length_nil]; decide)))
  | with_reducible refine DL.w_I0 ?_ | with_reducible refine DL.w_eqI ?_ | with_reducible refine DL.w_neI ?_ | with_reducible refine DL.w_isN ?_ | with_reducible refine DL.w_notN ?_)
local macro_rules | `(tactic| walk_at "w") => `(tactic| (repeat walk_at "w2"; try dsimp only [List.set_cons_zero, List.set_cons_succ, List.cons_append, List.nil_append, List.replicate_succ, List.replicate_zero]))
theorem last_none {k : L2.Key} : ∀ {l : List (L2.Key × PyData)} {o : Option PyData}, (∀ p, p ∈ l → p.1 ≠ k) → lastD k l o = o
  | [], _, _ => rfl
  | p :: r, o, h => by
    show lastD k r (if p.1 = k then some p.2 else o) = o
    rw [if_neg (h p List.mem_cons_self)]
    exact last_none fun q hq => h q (List.mem_cons_of_mem _ hq)
theorem last_some {k : L2.Key} : ∀ {l : List (L2.Key × PyData)} {o : Option PyData}, (∃ p, p ∈ l ∧ p.1 = k) → ∃ p, p ∈ l ∧ p.1 = k ∧ lastD k l o = some p.2
  | [], _, ⟨p, h, _⟩ => absurd h List.not_mem_nil
  | p :: r, o, h => by
    by_cases e : ∃ q, q ∈ r ∧ q.1 = k
    · obtain ⟨q, h1, h2, h3⟩ := last_some (o := if p.1 = k then some p.2 else o) e
      exact ⟨q, List.mem_cons_of_mem _ h1, h2, h3⟩
    · obtain ⟨q, h1, h2⟩ := h
      rcases List.mem_cons.mp h1 with rfl | h1
      · refine ⟨q, List.mem_cons_self, h2, ?_⟩
        show lastD k r (if q.1 = k then some q.2 else o) = _
        rw [if_pos h2]
        exact last_none fun x hx z => e ⟨x, hx, z⟩
      · exact absurd ⟨q, h1, h2⟩ e
theorem keys_put {kvs : List (PyData × PyData)} {k : L2.Key} {d : PyData} (h : ∀ p, p ∈ kvs → ∃ q : L2.Key, p.1 = keyD q) : ∀ p, p ∈ dputD kvs k d → ∃ q : L2.Key, p.1 = keyD q := by
  unfold dputD
  split
  · intro p hp
    obtain ⟨q, hq, rfl⟩ := List.mem_map.mp hp
    split
    · exact h q hq
    · exact h q hq
  · intro p hp
    rcases List.mem_append.mp hp with hp | hp
    · exact h p hp
    · rw [List.mem_singleton] at hp
      subst hp
      exact ⟨k, rfl⟩
theorem keys_merge : ∀ (l : List (L2.Key × PyData)) (kvs : List (PyData × PyData)), (∀ p, p ∈ kvs → ∃ q : L2.Key, p.1 = keyD q) → ∀ p, p ∈ mergeD kvs l → ∃ q : L2.Key, p.1 = keyD q
  | [], _, h => h
  | p :: r, kvs, h => keys_merge r (dputD kvs p.1 p.2) (keys_put h)
theorem head_keys {kvs : List (PyData × PyData)} (h : ∀ p, p ∈ kvs → ∃ q : L2.Key, p.1 = keyD q) : headK kvs = true := by
  match kvs, h with
  | [], _ => rfl
  | (k, d) :: r, h =>
    obtain ⟨q, hq⟩ := h (k, d) List.mem_cons_self
    have hq : k = keyD q := hq
    subst hq
    cases q <;> rfl
theorem head_merge (l : List (L2.Key × PyData)) : headK (mergeD [] l) = true := head_keys (keys_merge l [] fun p h => absurd h List.not_mem_nil)
def fMrg (r : Sheet) (c : Nat → Nat) : PyData → L2.Key × PyData
  | .int i => (.inl (c i.toNat : Nat), .tuple [.str (rowAt r i.toNat).1, .list (natsD ((rowAt r i.toNat).2.map c))])
  | _ => (.inl 0, .none)
def F_reduced : FD := bodyD (dB_reduced F_reached F_classes F_renum) 5
def F_least_sheet : FD := bodyD (dB_least_sheet F_reduced) 0
theorem mrg_G {r : Sheet} {used : List Nat} (c : Nat → Nat) : ∃ g : G, Mg r used c g ∧ MergedD (mergeD [] ((natsD used).map (fMrg r c))) g (used.map c) := by
  have ex : ∀ x : Nat, ∃ w : Nat, (∃ u, u ∈ used ∧ c u = x) → w ∈ used ∧ c w = x ∧ dgetD (mergeD [] ((natsD used).map (fMrg r c))) (.inl (x : Nat)) = some (.tuple [.str (rowAt r w).1, .list (natsD ((rowAt r w).2.map c))]) := fun x => by
    by_cases h : ∃ u, u ∈ used ∧ c u = x
    · obtain ⟨u, hu, rfl⟩ := h
      obtain ⟨p, h1, h2, h3⟩ := last_some (k := .inl (c u : Nat)) (l := (natsD used).map (fMrg r c)) (o := none) ⟨fMrg r c (.int (u : Nat)), List.mem_map.mpr ⟨_, List.mem_map.mpr ⟨u, hu, rfl⟩, rfl⟩, rfl⟩
      obtain ⟨d, hd, rfl⟩ := List.mem_map.mp h1
      obtain ⟨w, hw, rfl⟩ := List.mem_map.mp hd
      refine ⟨w, fun _ => ⟨hw, ?_, ?_⟩⟩
      · have z : ((c w : Nat) : Int) = ((c u : Nat) : Int) := Sum.inl.inj h2
        omega
      · rw [get_merge]
        exact h3
    · exact ⟨0, fun z => absurd z h⟩
  obtain ⟨w, hw⟩ := Classical.axiomOfChoice ex
  refine ⟨⟨fun x => (rowAt r (w x)).1, fun x => (rowAt r (w x)).2.map c, fun _ => True⟩, ⟨fun u hu => ?_⟩, head_merge _, fun x hx => ?_⟩
  · obtain ⟨h1, h2, _⟩ := hw (c u) ⟨u, hu, rfl⟩
    exact ⟨w (c u), h1, h2, rfl, rfl⟩
  · obtain ⟨u, hu, rfl⟩ := List.mem_map.mp hx
    exact (hw (c u) ⟨u, hu, rfl⟩).2.2
theorem reduced_at {r o : Sheet} {a : Nat} (ok : ShOk r) (ha : a < r.length) (hl : LeastAt r a o) {n : Nat} {P : PyData → Nat → Prop} (h : P (shD o) n) : F_reduced [.dat (shD r), .dat (.int (a : Nat))] n P := by
  obtain ⟨W, hW⟩ := walk_rows ok.cl ha
  have U := walk_use ok.cl ha hW
  have hlen := Nat.le_trans (use_len U) ok.ln
  unfold F_reduced bodyD dB_reduced
  walk_at "w"
  refine reached_spec (U := List.range r.length) (ch := (gr r).ch) (root := a) (fun k hk => .inl ⟨r.map rowD, _, rfl, row_get (List.mem_range.mp hk)⟩) (fun v hv f hf => List.mem_range.mpr (ok.cl v (List.mem_range.mp hv) f hf)) (fun v hv => ok.fl v (List.mem_range.mp hv)) (by rw [List.length_range]; exact ok.ln) (List.mem_range.mpr ha) hW ?_
  walk_at "w"
  refine classes_spec ok U fun c hc => ?_
  walk_at "w"
  refine ⟨by simp [natsD, hlen], rfl, dc_map (fMrg r c) (fun d hd Y Z hY => ?_) ?_⟩
  · obtain ⟨u, hu, rfl⟩ := List.mem_map.mp hd
    have hur := U.lt u hu
    have hfl := ok.fl u hur
    walk_at "w"
    refine w_T rfl ?_
    walk_at "w"
    refine w_getK rfl rfl cls_head (cls_get hu) ?_
    walk_at "w"
    refine w_ixU (atI_nat (row_get hur)) ?_
    walk_at "w"
    refine w_ixU rfl ?_
    walk_at "w"
    refine w_ixU (atI_nat (row_get hur)) ?_
    walk_at "w"
    refine w_ixU rfl ?_
    walk_at "w"
    refine ⟨by simp [natsD]; omega, rfl, lc_map (fCls c) (fun d hd Y2 Z2 hY2 => ?_) ?_⟩
    · obtain ⟨f, hf, rfl⟩ := List.mem_map.mp hd
      walk_at "w"
      refine w_T rfl ?_
      walk_at "w"
      refine w_getK rfl rfl cls_head (cls_get (U.cl u hu f hf)) ?_
      walk_at "w"
      exact hY2
    · walk_at "w"
      rw [cls_map]
      exact hY
  · walk_at "w"
    refine w_getK rfl rfl cls_head (cls_get U.ne) ?_
    walk_at "w"
    obtain ⟨g, M, MD⟩ := mrg_G (r := r) (used := W) c
    obtain ⟨X, hX⟩ := walk_classes U M
    have e := least_classes ok.cl U hc M hl hX
    refine renum_spec (U := W.map c) (.inl ⟨_, rfl, MD⟩) (fun v hv f hf => ?_) (fun v hv => ?_) (by rw [List.length_map]; exact hlen) (List.mem_map.mpr ⟨a, U.ne, rfl⟩) hX (by rw [e]; exact h)
    · obtain ⟨u, hu, rfl⟩ := List.mem_map.mp hv
      obtain ⟨w, hw, _, _, e3⟩ := M.row u hu
      rw [e3] at hf
      obtain ⟨f', h1, rfl⟩ := List.mem_map.mp hf
      exact List.mem_map.mpr ⟨f', U.cl w hw f' h1, rfl⟩
    · obtain ⟨u, hu, rfl⟩ := List.mem_map.mp hv
      obtain ⟨w, hw, _, _, e3⟩ := M.row u hu
      rw [e3, List.length_map]
      exact ok.fl w (U.lt w hw)
theorem reduced_spec {r o : Sheet} (ok : ShOk r) (hl : Least r o) {n : Nat} {P : PyData → Nat → Prop} (h : P (shD o) n) : F_reduced [.dat (shD r), .dat (.int 0)] n P := reduced_at ok ok.ne hl h
theorem least_sheet_spec {r o : Sheet} (ok : ShOk r) (hl : Least r o) {n : Nat} {P : PyData → Nat → Prop} (h : P (shD o) n) : F_least_sheet [.dat (shD r)] n P := by
  unfold F_least_sheet bodyD dB_least_sheet
  walk_at "w"
  exact reduced_spec ok hl h
end K07

set_option Elab.async false
set_option linter.all false
set_option maxRecDepth 100000
set_option maxHeartbeats 4000000
/-! U07e: the law's marks, by data. -/
namespace K07
open PySem PySem.Spec PyProof.Rows L2 GG DD PT DL LS
set_option simprocs false
local macro_rules | `(tactic| walk_at "w1") => `(tactic| with_reducible first
  | refine DL.w_seq ?_ | refine DL.w_next ?_ | refine DL.w_set ?_ | refine DL.w_setO ?_ | refine DL.w_if ?_ | refine DL.w_ret ?_ | refine DL.w_drop ?_
  | refine DL.w_par ?_ | refine DL.w_parL ?_ | refine DL.w_parR ?_ | refine DL.w_parLL ?_ | refine DL.w_asg ?_ | refine DL.w_for ?_ | refine DL.w_vsNil ?_ | refine DL.w_dIn ?_ | refine DL.w_dPut ?_
  | refine DL.w_gdN ?_ | refine DL.w_gdNil ?_ | refine DL.w_gdCons ?_
  | refine DL.w_c ?_ | refine DL.w_asL ?_ | refine DL.w_asU ?_ | refine DL.w_newL ?_ | refine DL.w_nil ?_ | refine DL.w_cons ?_ | refine DL.w_tup ?_ | refine DL.w_lst ?_ | refine DL.w_op ?_
  | refine DL.w_lenL ?_ | refine DL.w_lenD ?_ | refine DL.w_tupOf ?_ | refine DL.w_ifE ?_ | refine DL.w_cat ?_ | refine DL.w_rep ?_ | refine DL.w_call ?_ | refine DL.w_callP ?_
  | refine DL.w_xNil ?_ | refine DL.w_xCons ?_ | refine DL.w_all ?_ | refine DL.w_reprA ?_ | refine DL.w_isi ?_ | refine DL.w_andV ?_ | refine DL.w_newD ?_ | refine DL.w_dict0 ?_
  | refine DL.w_slD ?_ | refine DL.w_slU ?_ | refine DL.w_noP ?_ | refine DL.w_part ?_ | refine DL.w_listZip ?_ | refine DL.w_sortSI ?_ | refine DL.w_listRng ?_ | refine DL.w_setD ?_ | refine DL.w_dictL ?_ | refine DL.w_dictU ?_ | refine DL.w_disp ?_ | refine DL.w_psNil ?_ | refine DL.w_psCons ?_
  | refine DL.w_rng1 ?_ | refine DL.w_comp ?_ | refine DL.w_enum ?_ | refine DL.w_B ?_ | refine DL.w_and ?_ | refine DL.w_or ?_ | refine DL.w_not ?_ | refine DL.w_yes ?_
  | refine DL.w_par3 ?_ | refine DL.w_par3R ?_ | refine DL.w_par0L ?_ | refine DL.w_revL ?_ | refine DL.w_listQ ?_ | refine DL.w_star ?_ | refine DL.w_split ?_ | refine DL.w_intB ?_ | refine DL.w_dPutN ?_ | refine DL.w_dPutO ?_ | refine DL.w_listZipT ?_ | refine DL.w_callM ?_ | refine DL.w_inVar ?_ | refine DL.w_slS ?_ | refine DL.w_sortS ?_ | refine DL.w_dcomp ?_)
local macro_rules | `(tactic| walk_at "w2") => `(tactic| first
  | walk_at "w1"
  | ((with_reducible apply DL.w_var); (· rfl))
  | ((with_reducible apply DL.w_xDeck); (· rfl))
  | ((with_reducible apply DL.w_listO); (· rfl))
  | ((with_reducible apply DL.w_listD); (· rfl))
  | ((with_reducible apply DL.w_app); (· exact trivial))
  | ((with_reducible apply DL.w_popAt); (· exact trivial))
  | ((with_reducible apply DL.w_dGet); (· exact trivial))
  | ((with_reducible apply DL.w_listA); (· rfl))
  | ((with_reducible apply DL.w_ext); (· exact trivial))
  | ((with_reducible apply DL.w_dGetT); (· exact trivial))
  | ((with_reducible apply DL.w_xLast); (· exact trivial))
  | ((with_reducible apply DL.w_appA); (· rfl))
  | ((with_reducible apply DL.w_listDictO); (· rfl))
  | ((with_reducible apply DL.w_lenDictO); (· rfl))
  | ((with_reducible apply DL.w_catVarO); (· rfl))
  | ((with_reducible apply DL.w_catVarD); (· rfl))
  | ((with_reducible apply DL.w_tupLL); (· decide))
  | ((with_reducible apply DL.w_fzO); (· rfl))
  | ((with_reducible apply DL.w_fzD); (· rfl))
  | ((with_reducible apply DL.w_fz); (· rfl))
  | ((with_reducible apply DL.w_gdTup); (· rfl))
  | ((with_reducible refine And.intro ?_ ?_); (· first | rfl | exact True.intro | decide | (dsimp only [List.length_cons, List.length_nil]; decide)))
  | with_reducible refine DL.w_I0 ?_ | with_reducible refine DL.w_eqI ?_ | with_reducible refine DL.w_neI ?_ | with_reducible refine DL.w_isN ?_ | with_reducible refine DL.w_notN ?_)
local macro_rules | `(tactic| walk_at "w") => `(tactic| (repeat walk_at "w2"; try dsimp only [List.set_cons_zero, List.set_cons_succ, List.cons_append, List.nil_append, List.replicate_succ, List.replicate_zero]))
/-- a loop by what is done -/
theorem loop_done {g : DG} {b : DS} {E : DEnds} {L : List PyData} (J : List PyData → DSt → Prop)
    (step : ∀ done d rest s, done ++ d :: rest = L → J done s → ∀ N : DSt → Prop, (∀ s2, J (done ++ [d]) s2 → N s2) → g d (fun s1 => b { nx := N, rt := E.rt, ct := N, bk := E.nx } s1) s)
    (fin : ∀ s, J L s → E.nx s) {s : DSt} (h : J [] s) : dLoop g b E L s := by
  refine loop_rem (fun ds s => ∃ done, done ++ ds = L ∧ J done s) (fun d ds s ⟨done, e, h⟩ N hN => step done d ds s e h N fun s2 h2 => hN s2 ⟨done ++ [d], by rw [List.append_assoc]; exact e, h2⟩) (fun s ⟨done, e, h⟩ => fin s (by rw [List.append_nil] at e; rw [← e]; exact h)) L s ⟨[], rfl, h⟩
/-! ### marks as a dict -/
abbrev Pr := Nat × Nat
abbrev prD (p : Pr) : PyData := .tuple [.int (p.1 : Nat), .int (p.2 : Nat)]
abbrev prK (a b : Nat) : List L2.Key := [.inl (a : Int), .inl (b : Int)]
abbrev mkD (ks : List Pr) (m : Nat → Nat → Bool) : List (PyData × PyData) := ks.map fun p => (prD p, PyData.bool (m p.1 p.2))
theorem prK_inj {a b c d : Nat} (h : prK a b = prK c d) : a = c ∧ b = d := by
  have h1 := List.cons.inj h
  have h2 := List.cons.inj h1.2
  have e1 : ((a : Nat) : Int) = ((c : Nat) : Int) := Sum.inl.inj h1.1
  have e2 : ((b : Nat) : Int) = ((d : Nat) : Int) := Sum.inl.inj h2.1
  omega
theorem kT_pr (p : Pr) : kT (prD p) = some (prK p.1 p.2) := rfl
theorem mk_get {m : Nat → Nat → Bool} {a b : Nat} : ∀ {ks : List Pr}, (a, b) ∈ ks → dgetT (mkD ks m) (prK a b) = some (.bool (m a b))
  | [], h => absurd h List.not_mem_nil
  | p :: r, h => by
    show (if kT (prD p) = some (prK a b) then some (PyData.bool (m p.1 p.2)) else dgetT (mkD r m) (prK a b)) = _
    rw [kT_pr]
    by_cases e : p = (a, b)
    · subst e
      rw [if_pos rfl]
    · have e2 : ¬ some (prK p.1 p.2) = some (prK a b) := fun z => e (by
        have := prK_inj (Option.some.inj z)
        exact Prod.ext this.1 this.2)
      rw [if_neg e2]
      exact mk_get ((List.mem_cons.mp h).resolve_left fun z => e z.symm)
theorem mk_none {m : Nat → Nat → Bool} {a b : Nat} : ∀ {ks : List Pr}, ¬ (a, b) ∈ ks → dgetT (mkD ks m) (prK a b) = none
  | [], _ => rfl
  | p :: r, h => by
    show (if kT (prD p) = some (prK a b) then some (PyData.bool (m p.1 p.2)) else dgetT (mkD r m) (prK a b)) = _
    rw [kT_pr]
    have e2 : ¬ some (prK p.1 p.2) = some (prK a b) := fun z => h (by
      have := prK_inj (Option.some.inj z)
      rw [← this.1, ← this.2]
      exact List.mem_cons_self)
    rw [if_neg e2]
    exact mk_none fun z => h (List.mem_cons_of_mem _ z)
theorem mk_new {ks : List Pr} {m : Nat → Nat → Bool} {a b : Nat} (h : ¬ (a, b) ∈ ks) : dputT (mkD ks m) (prK a b) (.bool (m a b)) = mkD (ks ++ [(a, b)]) m := by
  rw [putT_new (mk_none h)]
  unfold mkD
  rw [List.map_append]
  rfl
/-- one mark more -/
def mset (m : Nat → Nat → Bool) (p : Pr) (a b : Nat) : Bool := if (a, b) = p then true else m a b
theorem mk_set {ks : List Pr} {m : Nat → Nat → Bool} {a b : Nat} (h : (a, b) ∈ ks) : dputT (mkD ks m) (prK a b) (.bool true) = mkD ks (mset m (a, b)) := by
  unfold dputT
  rw [mk_get h, if_pos (show (some (PyData.bool (m a b))).isSome = true from rfl)]
  unfold mkD
  rw [List.map_map]
  refine List.map_congr_left fun p _ => ?_
  show (if kT (prD p) = some (prK a b) then (prD p, PyData.bool true) else (prD p, PyData.bool (m p.1 p.2))) = (prD p, PyData.bool (mset m (a, b) p.1 p.2))
  rw [kT_pr]
  unfold mset
  by_cases e : (p.1, p.2) = (a, b)
  · have e1 := Prod.mk.inj e
    rw [if_pos e, if_pos (by rw [e1.1, e1.2])]
  · rw [if_neg e, if_neg fun z => e (by
      have := prK_inj (Option.some.inj z)
      rw [this.1, this.2])]
theorem mk_keys (ks : List Pr) (m : Nat → Nat → Bool) : (mkD ks m).map (·.1) = ks.map prD := by
  unfold mkD
  rw [List.map_map]
  rfl
theorem mk_head {ks : List Pr} {m : Nat → Nat → Bool} (h : ks ≠ []) : headK (mkD ks m) = false := by
  cases ks with
  | nil => exact absurd rfl h
  | cons p r => rfl
theorem noDict_prs : ∀ l : List Pr, PyData.hasDictAll (l.map prD) = false
  | [] => by simp only [List.map_nil, PyData.hasDictAll]
  | p :: l => by
    have ih := noDict_prs l
    simp only [List.map_cons, PyData.hasDictAll, PyData.hasDict, ih, Bool.or_self]
theorem canLay_prs : ∀ l : List Pr, PyData.canLayAll0 (l.map prD) = true
  | [] => rfl
  | p :: l => by
    have ih := canLay_prs l
    simp only [List.map_cons, PyData.canLayAll0, PyData.canLay0, ih, Bool.and_self]
theorem depth_prs : ∀ l : List Pr, PyData.depthAll (l.map prD) ≤ 2
  | [] => by simp only [List.map_nil, PyData.depthAll]; omega
  | p :: l => by
    have ih := depth_prs l
    simp only [List.map_cons, PyData.depthAll, PyData.depth]
    omega
theorem shaped_prs (l : List Pr) : SeqAt.shaped (.list (l.map prD)) = true := by
  have h1 := depth_prs l
  have h2 : PyData.depth (.list (l.map prD)) ≤ 64 := by simp only [PyData.depth]; omega
  show (PyData.canLay0 (.list (l.map prD)) && decide (PyData.depth (.list (l.map prD)) ≤ 64)) = true
  rw [Bool.and_eq_true]
  exact ⟨by simp only [PyData.canLay0]; exact canLay_prs l, decide_eq_true h2⟩
theorem zip_prs : ∀ a b : List Nat, List.zipWith (fun p q => PyData.tuple [p, q]) (natsD a) (natsD b) = (a.zip b).map prD
  | [], _ => by simp
  | _ :: _, [] => by simp
  | x :: a, y :: b => by
    have ih := zip_prs a b
    unfold natsD at ih ⊢
    rw [List.map_cons, List.map_cons, List.zipWith_cons_cons, List.zip_cons_cons, List.map_cons, ih]
/-! ### counting what is not marked -/
theorem cnt_le {α : Type} {p q : α → Bool} : ∀ {l : List α}, (∀ x, x ∈ l → q x = true → p x = true) → (l.filter q).length ≤ (l.filter p).length
  | [], _ => Nat.le_refl _
  | x :: l, h => by
    have ih := cnt_le (l := l) fun y hy => h y (List.mem_cons_of_mem _ hy)
    have hx := h x List.mem_cons_self
    rw [List.filter_cons, List.filter_cons]
    cases e : q x with
    | true =>
      rw [hx e, if_pos rfl, if_pos rfl, List.length_cons, List.length_cons]
      omega
    | false =>
      rw [if_neg (by decide)]
      split
      · rw [List.length_cons]
        omega
      · exact ih
theorem cnt_lt {α : Type} {p q : α → Bool} : ∀ {l : List α}, (∀ x, x ∈ l → q x = true → p x = true) → (∃ x, x ∈ l ∧ p x = true ∧ q x = false) → (l.filter q).length < (l.filter p).length
  | [], _, ⟨x, h, _⟩ => absurd h List.not_mem_nil
  | x :: l, h, ⟨y, hy, h1, h2⟩ => by
    have hx := h x List.mem_cons_self
    have hr : ∀ y, y ∈ l → q y = true → p y = true := fun y hy => h y (List.mem_cons_of_mem _ hy)
    rw [List.filter_cons, List.filter_cons]
    rcases List.mem_cons.mp hy with rfl | hy
    · rw [h2, if_neg (by decide), h1, if_pos rfl, List.length_cons]
      have := cnt_le hr
      omega
    · have ih := cnt_lt hr ⟨y, hy, h1, h2⟩
      cases e : q x with
      | true =>
        rw [hx e, if_pos rfl, if_pos rfl, List.length_cons, List.length_cons]
        omega
      | false =>
        rw [if_neg (by decide)]
        split
        · rw [List.length_cons]
          omega
        · exact ih
/-! ### differ -/
def allP (n : Nat) : List Pr := (List.range n).flatMap fun k => (List.range n).map fun j => (k, j)
theorem allP_mem {n a b : Nat} : (a, b) ∈ allP n ↔ a < n ∧ b < n := by
  unfold allP
  rw [List.mem_flatMap]
  constructor
  · rintro ⟨k, hk, h⟩
    obtain ⟨j, hj, e⟩ := List.mem_map.mp h
    cases e
    exact ⟨List.mem_range.mp hk, List.mem_range.mp hj⟩
  · rintro ⟨h1, h2⟩
    exact ⟨a, List.mem_range.mpr h1, List.mem_map.mpr ⟨b, List.mem_range.mpr h2, rfl⟩⟩
theorem allP_len (n : Nat) : ∀ l : List Nat, (l.flatMap fun k => (List.range n).map fun j => ((k, j) : Pr)).length = l.length * n
  | [] => by simp
  | k :: l => by
    rw [List.flatMap_cons, List.length_append, List.length_map, List.length_range, allP_len n l, List.length_cons, Nat.add_mul, Nat.one_mul, Nat.add_comm]
theorem rngD_nats (n : Nat) : rngD 0 n = natsD (List.range n) := by
  unfold rngD natsD
  refine List.map_congr_left fun k _ => ?_
  rw [Int.zero_add]
theorem nats_done {l : List Nat} {done : List PyData} {d : PyData} {rest : List PyData} (e : done ++ d :: rest = natsD l) : ∃ (a : List Nat) (k : Nat) (c : List Nat), done = natsD a ∧ d = .int (k : Nat) ∧ l = a ++ k :: c := by
  unfold natsD at e ⊢
  obtain ⟨a, b, rfl, h1, h2⟩ := List.append_eq_map_iff.mp e
  obtain ⟨k, c, rfl, h3, h4⟩ := List.map_eq_cons_iff.mp h2
  exact ⟨a, k, c, h1.symm, h3.symm, rfl⟩
def F_differ : FD := bodyD dB_differ 6
/-- the first marks -/
def tagM (r : Sheet) (a b : Nat) : Bool := !decide ((rowAt r a).1 = (rowAt r b).1)
/-- what is to be marked now -/
def newP (r : Sheet) (m : Nat → Nat → Bool) (p : Pr) : Bool := !m p.1 p.2 && ((rowAt r p.1).2.zip (rowAt r p.2).2).any fun q => m q.1 q.2
def fB (m : Nat → Nat → Bool) : PyData → Bool
  | .tuple [.int a, .int b] => m a.toNat b.toNat
  | _ => false
theorem zip_in {r : Sheet} (cl : Cl r) {p : Pr} (h1 : p.1 < r.length) (h2 : p.2 < r.length) {q : Pr} (hq : q ∈ (rowAt r p.1).2.zip (rowAt r p.2).2) : q.1 < r.length ∧ q.2 < r.length :=
  ⟨cl _ h1 _ (List.of_mem_zip (a := q.1) (b := q.2) hq).1, cl _ h2 _ (List.of_mem_zip (a := q.1) (b := q.2) hq).2⟩
theorem filter_any {m : Nat → Nat → Bool} : ∀ l : List Pr, (!((l.map prD).filter (fB m)).isEmpty) = l.any fun q => m q.1 q.2
  | [] => rfl
  | q :: l => by
    have ih := filter_any (m := m) l
    rw [List.map_cons, List.filter_cons, List.any_cons]
    have e : fB m (prD q) = m q.1 q.2 := rfl
    rw [e]
    cases m q.1 q.2 with
    | true => rfl
    | false =>
      rw [if_neg (by decide), ih]
      rfl
end K07

set_option Elab.async false
set_option linter.all false
set_option maxRecDepth 100000
set_option maxHeartbeats 4000000
/-! U07f: the law's marks, by data: differ. -/
namespace K07
open PySem PySem.Spec PyProof.Rows L2 GG DD PT DL LS
set_option simprocs false
local macro_rules | `(tactic| walk_at "w1") => `(tactic| with_reducible first
  | refine DL.w_seq ?_ | refine DL.w_next ?_ | refine DL.w_set ?_ | refine DL.w_setO ?_ | refine DL.w_if ?_ | refine DL.w_ret ?_ | refine DL.w_drop ?_
  | refine DL.w_par ?_ | refine DL.w_parL ?_ | refine DL.w_parR ?_ | refine DL.w_parLL ?_ | refine DL.w_asg ?_ | refine DL.w_for ?_ | refine DL.w_vsNil ?_ | refine DL.w_dIn ?_ | refine DL.w_dPut ?_
  | refine DL.w_gdN ?_ | refine DL.w_gdNil ?_ | refine DL.w_gdCons ?_
  | refine DL.w_c ?_ | refine DL.w_asL ?_ | refine DL.w_asU ?_ | refine DL.w_newL ?_ | refine DL.w_nil ?_ | refine DL.w_cons ?_ | refine DL.w_tup ?_ | refine DL.w_lst ?_ | refine DL.w_op ?_
  | refine DL.w_lenL ?_ | refine DL.w_lenD ?_ | refine DL.w_tupOf ?_ | refine DL.w_ifE ?_ | refine DL.w_cat ?_ | refine DL.w_rep ?_ | refine DL.w_call ?_ | refine DL.w_callP ?_
  | refine DL.w_xNil ?_ | refine DL.w_xCons ?_ | refine DL.w_all ?_ | refine DL.w_reprA ?_ | refine DL.w_isi ?_ | refine DL.w_andV ?_ | refine DL.w_newD ?_ | refine DL.w_dict0 ?_
  | refine DL.w_slD ?_ | refine DL.w_slU ?_ | refine DL.w_noP ?_ | refine DL.w_part ?_ | refine DL.w_listZip ?_ | refine DL.w_sortSI ?_ | refine DL.w_listRng ?_ | refine DL.w_setD ?_ | refine DL.w_dictL ?_ | refine DL.w_dictU ?_ | refine DL.w_disp ?_ | refine DL.w_psNil ?_ | refine DL.w_psCons ?_
  | refine DL.w_rng1 ?_ | refine DL.w_comp ?_ | refine DL.w_enum ?_ | refine DL.w_B ?_ | refine DL.w_and ?_ | refine DL.w_or ?_ | refine DL.w_not ?_ | refine DL.w_yes ?_
  | refine DL.w_par3 ?_ | refine DL.w_par3R ?_ | refine DL.w_par0L ?_ | refine DL.w_revL ?_ | refine DL.w_listQ ?_ | refine DL.w_star ?_ | refine DL.w_split ?_ | refine DL.w_intB ?_ | refine DL.w_dPutN ?_ | refine DL.w_dPutO ?_ | refine DL.w_listZipT ?_ | refine DL.w_callM ?_ | refine DL.w_inVar ?_ | refine DL.w_slS ?_ | refine DL.w_sortS ?_ | refine DL.w_dcomp ?_)
local macro_rules | `(tactic| walk_at "w2") => `(tactic| first
  | walk_at "w1"
  | ((with_reducible apply DL.w_var); (· rfl))
  | ((with_reducible apply DL.w_xDeck); (· rfl))
  | ((with_reducible apply DL.w_listO); (· rfl))
  | ((with_reducible apply DL.w_listD); (· rfl))
  | ((with_reducible apply DL.w_app); (· exact trivial))
  | ((with_reducible apply DL.w_popAt); (· exact trivial))
  | ((with_reducible apply DL.w_dGet); (· exact trivial))
  | ((with_reducible apply DL.w_listA); (· rfl))
  | ((with_reducible apply DL.w_ext); (· exact trivial))
  | ((with_reducible apply DL.w_dGetT); (· exact trivial))
  | ((with_reducible apply DL.w_xLast); (· exact trivial))
  | ((with_reducible apply DL.w_appA); (· rfl))
  | ((with_reducible apply DL.w_listDictO); (· rfl))
  | ((with_reducible apply DL.w_lenDictO); (· rfl))
  | ((with_reducible apply DL.w_catVarO); (· rfl))
  | ((with_reducible apply DL.w_catVarD); (· rfl))
  | ((with_reducible apply DL.w_tupLL); (· decide))
  | ((with_reducible apply DL.w_fzO); (· rfl))
  | ((with_reducible apply DL.w_fzD); (· rfl))
  | ((with_reducible apply DL.w_fz); (· rfl))
  | ((with_reducible apply DL.w_gdTup); (· rfl))
  | ((with_reducible refine And.intro ?_ ?_); (· first | rfl | exact True.intro | decide | (dsimp only [List.length_cons, List.length_nil]; decide)))
  | with_reducible refine DL.w_I0 ?_ | with_reducible refine DL.w_eqI ?_ | with_reducible refine DL.w_neI ?_ | with_reducible refine DL.w_isN ?_ | with_reducible refine DL.w_notN ?_)
local macro_rules | `(tactic| walk_at "w") => `(tactic| (repeat walk_at "w2"; try dsimp only [List.set_cons_zero, List.set_cons_succ, List.cons_append, List.nil_append, List.replicate_succ, List.replicate_zero]))
theorem natsD_inj {a b : List Nat} (h : natsD a = natsD b) : a = b := by
  have z := F2.of_map_eq (R := fun x y : Nat => x = y) (fun x y q => by
    have q : ((x : Nat) : Int) = ((y : Nat) : Int) := PyData.int.inj q
    omega) h
  have w := F2.map_eq (f := id) (g := id) (fun _ _ q => q) z
  rwa [List.map_id, List.map_id] at w
theorem natsD_snoc (a : List Nat) (k : Nat) : natsD a ++ [PyData.int (k : Nat)] = natsD (a ++ [k]) := by
  unfold natsD
  rw [List.map_append]
  rfl
theorem range_mid {n k : Nat} {a c : List Nat} (h : List.range n = a ++ k :: c) : k < n ∧ ¬ k ∈ a ∧ a.length ≤ n := by
  have hk : k ∈ List.range n := by rw [h]; simp
  have hn := List.nodup_range (n := n)
  rw [h, List.nodup_append] at hn
  refine ⟨List.mem_range.mp hk, fun z => hn.2.2 k z k List.mem_cons_self rfl, ?_⟩
  have hl : (List.range n).length = (a ++ k :: c).length := by rw [h]
  rw [List.length_range, List.length_append] at hl
  omega
theorem prs_mid {l : List Pr} {done : List PyData} {d : PyData} {rest : List PyData} (e : done ++ d :: rest = l.map prD) : ∃ (a : List Pr) (p : Pr) (c : List Pr), done = a.map prD ∧ d = prD p ∧ l = a ++ p :: c := by
  obtain ⟨a, b, rfl, h1, h2⟩ := List.append_eq_map_iff.mp e
  obtain ⟨k, c, rfl, h3, h4⟩ := List.map_eq_cons_iff.mp h2
  exact ⟨a, k, c, h1.symm, h3.symm, rfl⟩
theorem prs_inj {a b : List Pr} (h : a.map prD = b.map prD) : a = b := by
  have z := F2.of_map_eq (R := fun x y : Pr => x = y) (fun x y q => by
    have q1 := List.cons.inj (PyData.tuple.inj q)
    have q2 := List.cons.inj q1.2
    have e1 : ((x.1 : Nat) : Int) = ((y.1 : Nat) : Int) := PyData.int.inj q1.1
    have e2 : ((x.2 : Nat) : Int) = ((y.2 : Nat) : Int) := PyData.int.inj q2.1
    exact Prod.ext (by omega) (by omega)) h
  have w := F2.map_eq (f := id) (g := id) (fun _ _ q => q) z
  rwa [List.map_id, List.map_id] at w
/-- the law's marks -/
def IsMarks (r : Sheet) (kvs : List (PyData × PyData)) (m : Nat → Nat → Bool) : Prop := headK kvs = false ∧ (∀ a b, a < r.length → b < r.length → dgetT kvs (prK a b) = some (.bool (m a b))) ∧ ∀ a b, a < r.length → b < r.length → (m a b = false ↔ Bis (gr r) (gr r) a b)
/-- the marks after a round, of the pairs in l -/
def msets (m : Nat → Nat → Bool) : List Pr → Nat → Nat → Bool
  | [] => m
  | p :: l => msets (mset m p) l
theorem msets_snoc (p : Pr) : ∀ (l : List Pr) (m : Nat → Nat → Bool), msets m (l ++ [p]) = mset (msets m l) p
  | [], _ => rfl
  | q :: l, m => by rw [List.cons_append, msets, msets_snoc p l (mset m q), msets]
theorem msets_eq (a b : Nat) : ∀ (l : List Pr) (m : Nat → Nat → Bool), msets m l a b = true ↔ m a b = true ∨ (a, b) ∈ l
  | [], m => by simp [msets]
  | p :: l, m => by
    rw [msets, msets_eq a b l, List.mem_cons]
    unfold mset
    by_cases e : (a, b) = p
    · rw [if_pos e]
      simp [e]
    · rw [if_neg e]
      simp [e]
theorem noLk_nil : noLkB [] = true := rfl
theorem noLk_cons {x : DV} {xs : List DV} (h : isLk x = false) (t : noLkB xs = true) : noLkB (x :: xs) = true := by
  unfold noLkB at t ⊢
  rw [List.all_cons, h, t]
  rfl
/-- nothing or data -/
def plD : DV → Bool
  | .un => true
  | .dat _ => true
  | _ => false
theorem pl_lk {c : DV} (h : plD c = true) : isLk c = false := by
  cases c <;> first | rfl | cases h
theorem pl_own {sl : List DV} {i : Nat} {c : DV} (e : sl[i]? = some c) (h : plD c = true) : noOwnB sl [i] = true := by
  unfold noOwnB
  rw [List.all_cons, List.all_nil, e]
  cases c <;> first | rfl | cases h
theorem differ_spec {r : Sheet} (ok : ShOk r) (ar : Ar r) (hn : r.length ≤ 100) {n : Nat} {P : PyData → Nat → Prop} (h : ∀ kvs m, IsMarks r kvs m → P (.dict kvs) n) : F_differ [.dat (shD r), .dat (shD r)] n P := by
  have hsq : r.length * r.length ≤ 100 * 100 := Nat.mul_le_mul hn hn
  unfold F_differ bodyD dB_differ
  walk_at "w"
  refine w_setT (by simp) ?_
  walk_at "w"
  rw [List.length_map]
  refine ⟨by omega, by omega, ?_⟩
  rw [Int.toNat_natCast, rngD_nats]
  refine loop_done (fun done s => ∃ a c3 c4, done = natsD a ∧ s = ⟨[.dat (shD r), .dat (shD r), .owt (mkD (a.flatMap fun k => (List.range r.length).map fun j => ((k, j) : Pr)) (tagM r)), c3, c4, .un, .un, .un], n⟩ ∧ isLk c3 = false ∧ isLk c4 = false) ?_ ?_ ⟨[], .un, .un, rfl, rfl, rfl, rfl⟩
  · rintro done d rest s e ⟨a, c3, c4, rfl, rfl, hc3, hc4⟩ N hN
    obtain ⟨a', k, c, e1, rfl, e2⟩ := nats_done e
    cases natsD_inj e1
    obtain ⟨hk, hka, hal⟩ := range_mid e2
    walk_at "w"
    rw [List.length_map]
    refine ⟨by omega, by omega, ?_⟩
    rw [Int.toNat_natCast, rngD_nats]
    refine loop_done (fun done s => ∃ b c4, done = natsD b ∧ s = ⟨[.dat (shD r), .dat (shD r), .owt (mkD ((a.flatMap fun k => (List.range r.length).map fun j => ((k, j) : Pr)) ++ b.map fun j => ((k, j) : Pr)) (tagM r)), .dat (.int (k : Nat)), c4, .un, .un, .un], n⟩ ∧ isLk c4 = false) ?_ ?_ ⟨[], c4, rfl, by rw [List.map_nil, List.append_nil], hc4⟩
    · rintro done d rest s e ⟨b, c4, rfl, rfl, hc4⟩ N2 hN2
      obtain ⟨b', j, c', e1, rfl, e3⟩ := nats_done e
      cases natsD_inj e1
      obtain ⟨hj, hjb, hbl⟩ := range_mid e3
      walk_at "w"
      refine w_ixU (atI_nat (row_get hk)) ?_
      walk_at "w"
      refine w_ixU rfl ?_
      walk_at "w"
      refine w_ixU (atI_nat (row_get hj)) ?_
      walk_at "w"
      refine w_ixU rfl ?_
      refine w_neS ?_
      walk_at "w"
      have hnew : ¬ (k, j) ∈ (a.flatMap fun k => (List.range r.length).map fun j => ((k, j) : Pr)) ++ b.map fun j => ((k, j) : Pr) := fun z => by
        rcases List.mem_append.mp z with z | z
        · obtain ⟨k', h1, h2⟩ := List.mem_flatMap.mp z
          obtain ⟨j', _, h3⟩ := List.mem_map.mp h2
          cases h3
          exact hka h1
        · obtain ⟨j', h1, h3⟩ := List.mem_map.mp z
          cases h3
          exact hjb h1
      have hlen : (mkD ((a.flatMap fun k => (List.range r.length).map fun j => ((k, j) : Pr)) ++ b.map fun j => ((k, j) : Pr)) (tagM r)).length < 1000000 := by
        have := allP_len r.length a
        have h2 : a.length * r.length ≤ r.length * r.length := Nat.mul_le_mul_right _ hal
        unfold mkD
        rw [List.length_map, List.length_append, List.length_map, this]
        omega
      refine w_putNK (show 2 ≤ 1000000 by omega) rfl rfl hlen ?_
      refine hN2 _ ⟨b ++ [j], .dat (.int (j : Nat)), natsD_snoc _ _, ?_, rfl⟩
      have z := mk_new (m := tagM r) hnew
      rw [List.append_assoc] at z
      show (⟨[_, _, .owt (dputT _ (prK k j) (.bool (tagM r k j))), _, _, _, _, _], n⟩ : DSt) = _
      rw [z, List.map_append]
      rfl
    · rintro s ⟨b, c4, e1, rfl, hc4⟩
      cases natsD_inj e1
      refine hN _ ⟨a ++ [k], .dat (.int (k : Nat)), c4, natsD_snoc _ _, ?_, rfl, hc4⟩
      rw [List.flatMap_append]
      simp only [List.flatMap_cons, List.flatMap_nil, List.append_nil]
  · rintro s ⟨a, c3, c4, e1, rfl, hc3, hc4⟩
    cases natsD_inj e1
    show dWhile _ _ _ _
    rw [show ((List.range r.length).flatMap fun k => (List.range r.length).map fun j => ((k, j) : Pr)) = allP r.length from rfl]
    have hpl : (allP r.length).length = r.length * r.length := by
      unfold allP
      rw [allP_len, List.length_range]
    refine w_while (fun q s => ∃ m c3 c4 c5 c6 c7, s = ⟨[.dat (shD r), .dat (shD r), .owt (mkD (allP r.length) m), c3, c4, c5, c6, c7], n⟩ ∧ (isLk c3 = false ∧ isLk c4 = false ∧ isLk c5 = false ∧ isLk c6 = false ∧ plD c7 = true) ∧ Sound r m ∧ (∀ a b, a < r.length → b < r.length → m a b = false → (rowAt r a).1 = (rowAt r b).1) ∧ q = ((allP r.length).filter fun p => !m p.1 p.2).length) ?_ ?_
    · refine ⟨_, tagM r, c3, c4, .un, .un, .un, rfl, ⟨hc3, hc4, rfl, rfl, rfl⟩, sound_tag fun _ _ _ _ => rfl, fun a b _ _ e => ?_, rfl⟩
      unfold tagM at e
      exact not_dec_f e
    · rintro q s ⟨m, c3, c4, c5, c6, c7, rfl, hlk, hS, hT, rfl⟩
      obtain ⟨l3, l4, l5, l6, l7⟩ := hlk
      walk_at "w"
      refine w_T rfl ?_
      walk_at "w"
      refine w_forT rfl (noLk_cons rfl (noLk_cons rfl (noLk_cons rfl (noLk_cons l3 (noLk_cons l4 (noLk_cons rfl (noLk_cons l6 (noLk_cons (pl_lk l7) noLk_nil)))))))) fun ad o => ?_
      rw [mk_keys]
      refine loop_done (fun done s => ∃ D c3 c4 c6 c7, done = D.map prD ∧ s = ⟨[.dat (shD r), .dat (shD r), .lkd ad o (mkD (allP r.length) m), c3, c4, .own ((D.filter (newP r m)).map prD), c6, c7], n⟩ ∧ isLk c3 = false ∧ isLk c4 = false ∧ isLk c6 = false ∧ plD c7 = true) ?_ ?_ ⟨[], c3, c4, c6, c7, rfl, rfl, l3, l4, l6, l7⟩
      · rintro done d rest s e ⟨D, c3, c4, c6, c7, rfl, rfl, l3, l4, l6, l7⟩ N hN
        obtain ⟨D', p, c, e1, rfl, e2⟩ := prs_mid e
        cases prs_inj e1
        have hp : p ∈ allP r.length := by rw [e2]; simp
        have hp' : (p.1, p.2) ∈ allP r.length := hp
        obtain ⟨hp1, hp2⟩ := allP_mem.mp hp'
        have fin : ∀ (b : Bool), newP r m p = b → ((D ++ [p]).filter (newP r m)).map prD = (D.filter (newP r m)).map prD ++ (if b = true then [prD p] else []) := fun b hb => by
          rw [List.filter_append, List.map_append, List.filter_cons, hb]
          cases b <;> rfl
        have hlen : ((D.filter (newP r m)).map prD).length < 1000000 := by
          have h1 := List.length_filter_le (newP r m) D
          have h2 : D.length ≤ (allP r.length).length := by rw [e2, List.length_append]; omega
          rw [List.length_map]
          omega
        walk_at "w"
        refine w_getTL rfl rfl (mk_get hp') ?_
        walk_at "w"
        cases hm : m p.1 p.2 with
        | true =>
          have hnp : newP r m p = false := by unfold newP; rw [hm]; rfl
          refine w_F rfl ?_
          walk_at "w"
          refine ⟨pl_own rfl l7, ?_⟩
          unfold dLc
          walk_at "w"
          refine w_neMtL ?_
          walk_at "w"
          refine w_F rfl ?_
          walk_at "w"
          refine hN _ ⟨D ++ [p], .dat (.int (p.1 : Nat)), .dat (.int (p.2 : Nat)), .dat (.list []), c7, by rw [List.map_append]; rfl, ?_, rfl, rfl, rfl, l7⟩
          rw [fin false hnp, if_neg (by decide), List.append_nil]
        | false =>
          refine w_T rfl ?_
          walk_at "w"
          refine w_ixU (atI_nat (row_get hp1)) ?_
          walk_at "w"
          refine w_ixU rfl ?_
          walk_at "w"
          refine w_ixU (atI_nat (row_get hp2)) ?_
          walk_at "w"
          refine w_ixU rfl ?_
          walk_at "w"
          rw [zip_prs]
          have f1 := ok.fl _ hp1
          refine ⟨by rw [List.length_map, List.length_zip]; omega, pl_own rfl l7, lc_filter (fB m) (fun d hd Y Z hY hZ => ?_) ?_⟩
          · obtain ⟨q, hq, rfl⟩ := List.mem_map.mp hd
            obtain ⟨hq1, hq2⟩ := zip_in ok.cl hp1 hp2 hq
            walk_at "w"
            refine w_getTL rfl rfl (mk_get (allP_mem.mpr ⟨hq1, hq2⟩)) ?_
            walk_at "w"
            cases hmq : m q.1 q.2 with
            | true =>
              refine w_T rfl ?_
              walk_at "w"
              exact hY hmq
            | false =>
              refine w_F rfl ?_
              exact ⟨rfl, hZ hmq⟩
          · walk_at "w"
            refine w_neMtL ?_
            walk_at "w"
            rw [filter_any]
            have hnp : newP r m p = ((rowAt r p.1).2.zip (rowAt r p.2).2).any fun q => m q.1 q.2 := by unfold newP; rw [hm]; rfl
            cases ha : ((rowAt r p.1).2.zip (rowAt r p.2).2).any fun q => m q.1 q.2 with
            | true =>
              refine w_T rfl ?_
              walk_at "w"
              refine w_appK rfl hlen ?_
              refine hN _ ⟨D ++ [p], .dat (.int (p.1 : Nat)), .dat (.int (p.2 : Nat)), .dat (.list (((rowAt r p.1).2.zip (rowAt r p.2).2).map prD)), c7, by rw [List.map_append]; rfl, ?_, rfl, rfl, rfl, l7⟩
              rw [fin true (hnp.trans ha), if_pos rfl]
              rfl
            | false =>
              refine w_F rfl ?_
              walk_at "w"
              refine hN _ ⟨D ++ [p], .dat (.int (p.1 : Nat)), .dat (.int (p.2 : Nat)), .dat (.list (((rowAt r p.1).2.zip (rowAt r p.2).2).map prD)), c7, by rw [List.map_append]; rfl, ?_, rfl, rfl, rfl, l7⟩
              rw [fin false (hnp.trans ha), if_neg (by decide), List.append_nil]
      · rintro s ⟨D, c3, c4, c6, c7, e1, rfl, l3, l4, l6, l7⟩
        cases prs_inj e1
        refine ⟨rfl, noLk_cons rfl (noLk_cons rfl (noLk_cons rfl (noLk_cons l3 (noLk_cons l4 (noLk_cons rfl (noLk_cons l6 (noLk_cons (pl_lk l7) noLk_nil))))))), ?_⟩
        walk_at "w"
        refine ⟨noDict_prs _, shaped_prs _, ?_⟩
        walk_at "w"
        by_cases hE : (allP r.length).filter (newP r m) = []
        · rw [hE]
          refine w_T rfl ?_
          have hz : allP r.length ≠ [] := fun z => by
            have := allP_mem.mpr ⟨ok.ne, ok.ne⟩
            rw [z] at this
            exact absurd this List.not_mem_nil
          refine w_fzT rfl (fun z => hz (List.map_eq_nil_iff.mp z)) ?_
          walk_at "w"
          refine h _ m ⟨mk_head hz, fun a b ha hb => mk_get (allP_mem.mpr ⟨ha, hb⟩), marks_done ok.cl ar hS hT fun j k hj hk e i x y hx hy => ?_⟩
          have hnp : newP r m (j, k) = false := by
            cases q : newP r m (j, k) with
            | false => rfl
            | true =>
              have : (j, k) ∈ (allP r.length).filter (newP r m) := List.mem_filter.mpr ⟨allP_mem.mpr ⟨hj, hk⟩, q⟩
              rw [hE] at this
              exact absurd this List.not_mem_nil
          unfold newP at hnp
          rw [e] at hnp
          have hall : (((rowAt r j).2.zip (rowAt r k).2).any fun q => m q.1 q.2) = false := hnp
          rw [List.any_eq_false] at hall
          have hmem : (x, y) ∈ (rowAt r j).2.zip (rowAt r k).2 := List.mem_of_getElem? (List.getElem?_zip_eq_some.mpr ⟨hx, hy⟩)
          have z := hall _ hmem
          cases q : m x y with
          | false => rfl
          | true => exact absurd q z
        · have hlen : (mkD (allP r.length) m).length < 1000000 := by
            unfold mkD
            rw [List.length_map]
            omega
          refine w_F (by cases hq : (allP r.length).filter (newP r m) with
            | nil => exact absurd hq hE
            | cons _ _ => rfl) ?_
          walk_at "w"
          refine loop_done (fun done s => ∃ D c7, done = D.map prD ∧ s = ⟨[.dat (shD r), .dat (shD r), .owt (mkD (allP r.length) (msets m D)), c3, c4, .dat (.list (((allP r.length).filter (newP r m)).map prD)), c6, c7], n⟩ ∧ plD c7 = true) ?_ ?_ ⟨[], c7, rfl, rfl, l7⟩
          · rintro done d rest s e ⟨D, c7, rfl, rfl, l7⟩ N hN
            obtain ⟨D', p, c, e1, rfl, e2⟩ := prs_mid e
            cases prs_inj e1
            have hp : p ∈ (allP r.length).filter (newP r m) := by rw [e2]; simp
            have hp' : (p.1, p.2) ∈ allP r.length := (List.mem_filter.mp hp).1
            walk_at "w"
            refine w_putOK rfl rfl (by rw [mk_get hp']; rfl) (by unfold mkD; rw [List.length_map]; omega) ?_
            refine hN _ ⟨D ++ [p], .dat (prD p), by rw [List.map_append]; rfl, ?_, rfl⟩
            rw [msets_snoc]
            rw [← mk_set (m := msets m D) hp']
            rfl
          · rintro s ⟨D, c7, e1, rfl, l7⟩
            cases prs_inj e1
            have hinc : ∀ a b, msets m ((allP r.length).filter (newP r m)) a b = false → m a b = false := fun a b e => by
              cases q : m a b with
              | false => rfl
              | true =>
                rw [(msets_eq a b _ m).mpr (.inl q)] at e
                cases e
            refine ⟨_, ?_, msets m ((allP r.length).filter (newP r m)), c3, c4, _, c6, c7, rfl, ⟨l3, l4, rfl, l6, l7⟩, sound_more ok.cl hS fun j k hj hk e => ?_, fun a b ha hb e => hT a b ha hb (hinc a b e), rfl⟩
            · refine cnt_lt (fun p _ e => ?_) ?_
              · have e : (!msets m ((allP r.length).filter (newP r m)) p.1 p.2) = true := e
                rw [hinc p.1 p.2 (not_t e)]
                rfl
              · obtain ⟨p, hp⟩ := List.exists_mem_of_ne_nil _ hE
                have hn := (List.mem_filter.mp hp).2
                refine ⟨p, (List.mem_filter.mp hp).1, ?_, ?_⟩
                · unfold newP at hn
                  rw [Bool.and_eq_true] at hn
                  exact hn.1
                · rw [(msets_eq p.1 p.2 _ m).mpr (.inr hp)]
                  rfl
            · rcases (msets_eq j k _ m).mp e with q | q
              · exact .inl q
              · right
                have hn := (List.mem_filter.mp q).2
                unfold newP at hn
                rw [Bool.and_eq_true, List.any_eq_true] at hn
                obtain ⟨_, ⟨x, y⟩, hz, hxy⟩ := hn
                obtain ⟨i, hi⟩ := List.mem_iff_getElem?.mp hz
                obtain ⟨h1, h2⟩ := List.getElem?_zip_eq_some.mp hi
                exact ⟨i, x, y, h1, h2, hxy⟩
end K07

set_option Elab.async false
set_option linter.all false
set_option maxRecDepth 100000
set_option maxHeartbeats 4000000
/-! U07g: the law's least sheet, by data. -/
namespace K07
open PySem PySem.Spec PyProof.Rows L2 GG DD PT DL LS
set_option simprocs false
local macro_rules | `(tactic| walk_at "w1") => `(tactic| with_reducible first
  | refine DL.w_seq ?_ | refine DL.w_next ?_ | refine DL.w_set ?_ | refine DL.w_setO ?_ | refine DL.w_if ?_ | refine DL.w_ret ?_ | refine DL.w_drop ?_
  | refine DL.w_par ?_ | refine DL.w_parL ?_ | refine DL.w_parR ?_ | refine DL.w_parLL ?_ | refine DL.w_asg ?_ | refine DL.w_for ?_ | refine DL.w_vsNil ?_ | refine DL.w_dIn ?_ | refine DL.w_dPut ?_
  | refine DL.w_gdN ?_ | refine DL.w_gdNil ?_ | refine DL.w_gdCons ?_
  | refine DL.w_c ?_ | refine DL.w_asL ?_ | refine DL.w_asU ?_ | refine DL.w_newL ?_ | refine DL.w_nil ?_ | refine DL.w_cons ?_ | refine DL.w_tup ?_ | refine DL.w_lst ?_ | refine DL.w_op ?_
  | refine DL.w_lenL ?_ | refine DL.w_lenD ?_ | refine DL.w_tupOf ?_ | refine DL.w_ifE ?_ | refine DL.w_cat ?_ | refine DL.w_rep ?_ | refine DL.w_call ?_ | refine DL.w_callP ?_
  | refine DL.w_xNil ?_ | refine DL.w_xCons ?_ | refine DL.w_all ?_ | refine DL.w_reprA ?_ | refine DL.w_isi ?_ | refine DL.w_andV ?_ | refine DL.w_newD ?_ | refine DL.w_dict0 ?_
  | refine DL.w_slD ?_ | refine DL.w_slU ?_ | refine DL.w_noP ?_ | refine DL.w_part ?_ | refine DL.w_listZip ?_ | refine DL.w_sortSI ?_ | refine DL.w_listRng ?_ | refine DL.w_setD ?_ | refine DL.w_dictL ?_ | refine DL.w_dictU ?_ | refine DL.w_disp ?_ | refine DL.w_psNil ?_ | refine DL.w_psCons ?_
  | refine DL.w_rng1 ?_ | refine DL.w_comp ?_ | refine DL.w_enum ?_ | refine DL.w_B ?_ | refine DL.w_and ?_ | refine DL.w_or ?_ | refine DL.w_not ?_ | refine DL.w_yes ?_
  | refine DL.w_par3 ?_ | refine DL.w_par3R ?_ | refine DL.w_par0L ?_ | refine DL.w_revL ?_ | refine DL.w_listQ ?_ | refine DL.w_star ?_ | refine DL.w_split ?_ | refine DL.w_intB ?_ | refine DL.w_dPutN ?_ | refine DL.w_dPutO ?_ | refine DL.w_listZipT ?_ | refine DL.w_callM ?_ | refine DL.w_inVar ?_ | refine DL.w_slS ?_ | refine DL.w_sortS ?_ | refine DL.w_dcomp ?_)
local macro_rules | `(tactic| walk_at "w2") => `(tactic| first
  | walk_at "w1"
  | ((with_reducible apply DL.w_var); (· rfl))
  | ((with_reducible apply DL.w_xDeck); (· rfl))
  | ((with_reducible apply DL.w_listO); (· rfl))
  | ((with_reducible apply DL.w_listD); (· rfl))
  | ((with_reducible apply DL.w_app); (· exact trivial))
  | ((with_reducible apply DL.w_popAt); (· exact trivial))
  | ((with_reducible apply DL.w_dGet); (· exact trivial))
  | ((with_reducible apply DL.w_listA); (· rfl))
  | ((with_reducible apply DL.w_ext); (· exact trivial))
  | ((with_reducible apply DL.w_dGetT); (· exact trivial))
  | ((with_reducible apply DL.w_xLast); (· exact trivial))
  | ((with_reducible apply DL.w_appA); (· rfl))
  | ((with_reducible apply DL.w_listDictO); (· rfl))
  | ((with_reducible apply DL.w_lenDictO); (· rfl))
  | ((with_reducible apply DL.w_catVarO); (· rfl))
  | ((with_reducible apply DL.w_catVarD); (· rfl))
  | ((with_reducible apply DL.w_tupLL); (· decide))
  | ((with_reducible apply DL.w_fzO); (· rfl))
  | ((with_reducible apply DL.w_fzD); (· rfl))
  | ((with_reducible apply DL.w_fz); (· rfl))
  | ((with_reducible apply DL.w_gdTup); (· rfl))
  | ((with_reducible refine And.intro ?_ ?_); (· first | rfl | exact True.intro | decide | (dsimp only [List.length_cons, List.length_nil]; decide)))
  | with_reducible refine DL.w_I0 ?_ | with_reducible refine DL.w_eqI ?_ | with_reducible refine DL.w_neI ?_ | with_reducible refine DL.w_isN ?_ | with_reducible refine DL.w_notN ?_)
local macro_rules | `(tactic| walk_at "w") => `(tactic| (repeat walk_at "w2"; try dsimp only [List.set_cons_zero, List.set_cons_succ, List.cons_append, List.nil_append, List.replicate_succ, List.replicate_zero]))
theorem filt_nats {q : Nat → Bool} {p : PyData → Bool} (hp : ∀ k : Nat, p (.int (k : Nat)) = q k) : ∀ l : List Nat, (natsD l).filter p = natsD (l.filter q)
  | [] => rfl
  | k :: l => by
    have ih := filt_nats hp l
    unfold natsD at ih ⊢
    rw [List.map_cons, List.filter_cons, List.filter_cons, hp, ih]
    cases q k <;> rfl
theorem filt_first {q : Nat → Bool} {n i : Nat} (hi : i < n) (h1 : q i = true) (h2 : ∀ j, j < i → q j = false) : ((List.range n).filter q)[0]? = some i := by
  rw [← List.head?_eq_getElem?, List.head?_filter, List.find?_range_eq_some]
  exact ⟨h1, List.mem_range.mpr hi, fun j hj => by rw [h2 j hj]; rfl⟩
theorem first_nats {q : Nat → Bool} {p : PyData → Bool} (hp : ∀ k : Nat, p (.int (k : Nat)) = q k) {n i : Nat} (hi : i < n) (h1 : q i = true) (h2 : ∀ j, j < i → q j = false) : ((natsD (List.range n)).filter p)[0]? = some (.int (i : Nat)) := by
  rw [filt_nats hp]
  unfold natsD
  rw [List.getElem?_map, filt_first hi h1 h2]
  rfl
theorem flats_nats : ∀ l : List Nat, flatsD (natsD l) = some (l.map fun k : Nat => V.int (k : Int))
  | [] => rfl
  | k :: l => by
    have ih := flats_nats l
    unfold natsD at ih ⊢
    rw [List.map_cons, flatsD, ih]
    rfl
theorem flat_nats : ∀ l : List Nat, (l.map fun k : Nat => V.int (k : Int)).all flatV = true
  | [] => rfl
  | k :: l => by
    rw [List.map_cons, List.all_cons, flat_nats l]
    rfl
theorem inV_nats (a : Nat) : ∀ l : List Nat, inV (V.int (a : Int)) (l.map fun k : Nat => V.int (k : Int)) = decide (a ∈ l)
  | [] => rfl
  | k :: l => by
    have ih := inV_nats a l
    unfold inV at ih ⊢
    rw [List.map_cons, List.any_cons, ih]
    show ((((k : Nat) : Int) == ((a : Nat) : Int)) || decide (a ∈ l)) = _
    by_cases e : a = k
    · subst e
      rw [beq_self_eq_true, Bool.true_or, decide_eq_true List.mem_cons_self]
    · have e2 : (((k : Nat) : Int) == ((a : Nat) : Int)) = false := by
        rw [beq_eq_false_iff_ne]
        omega
      rw [e2, Bool.false_or]
      exact decide_eq_decide.mpr ⟨fun h => List.mem_cons_of_mem _ h, fun h => (List.mem_cons.mp h).resolve_left e⟩
theorem w_inVA {neg : Bool} {i a : Nat} {ad : Addr} {V : List Nat} {s : DSt} {P : PyData → DSt → Prop} (e : s.sl[i]? = some (.arg ad (natsD V))) (h : P (.bool (if neg then !decide (a ∈ V) else decide (a ∈ V))) s) : inVK neg i P (.int (a : Nat)) s := by
  unfold inVK
  show dListVar i s _
  refine w_listA e ⟨_, flats_nats V, rfl, flat_nats V, ?_⟩
  rw [inV_nats]
  exact h
def F_visited : Nat → FM
  | 0 => fun _ _ _ _ => False
  | m + 1 => bodyM (dB_visited (F_visited m)) 3
def fRow (m : Nat → Nat → Bool) (a : Nat) : PyData → Bool
  | .int k => !m k.toNat a
  | _ => false
theorem rp_first {r : Sheet} (cl : Cl r) {kvs : List (PyData × PyData)} {m : Nat → Nat → Bool} (M : IsMarks r kvs m) {a : Nat} (ha : a < r.length) : ((natsD (List.range r.length)).filter (fRow m a))[0]? = some (.int (rp r a : Nat)) := by
  obtain ⟨⟨h1, h2⟩, h3⟩ := rp_spec cl ha
  refine first_nats (q := fun k => !m k a) (fun k => rfl) h1 ?_ fun j hj => ?_
  · rw [(M.2.2 _ _ h1 ha).mpr h2]
    rfl
  · cases e : m j a with
    | true => rfl
    | false => exact absurd ((M.2.2 _ _ (Nat.lt_trans hj h1) ha).mp e) (h3 j hj)
theorem visited_spec {r : Sheet} (ok : ShOk r) {kvs : List (PyData × PyData)} {m : Nat → Nat → Bool} (M : IsMarks r kvs m) : ∀ (k a : Nat) (V W : List Nat) (n : Nat) (P : PyData → List PyData → Nat → Prop), V.Nodup → V ⊆ List.range r.length → a < r.length → r.length - V.length < k → Dfs (rp r) (gr r).ch [a] V W → P .none (natsD W) n →
    F_visited k [.dat (shD r), .dat (.dict kvs), .dat (.int (a : Nat))] (natsD V) n P
  | 0, _, _, _, _, _, _, _, _, h, _, _ => absurd h (Nat.not_lt_zero _)
  | k + 1, a, V, W, n, P, hn, hV, ha, hk, hD, hP => by
    have hln := ok.ln
    unfold F_visited bodyM dB_visited
    intro ad
    walk_at "w"
    rw [List.length_map]
    refine ⟨by omega, by omega, ?_⟩
    rw [Int.toNat_natCast, rngD_nats]
    refine ⟨by simp [natsD]; omega, rfl, lc_filter (fRow m a) (fun d hd Y Z hY hZ => ?_) ?_⟩
    · obtain ⟨j, hj, rfl⟩ := List.mem_map.mp hd
      have hj := List.mem_range.mp hj
      walk_at "w"
      refine w_getTD rfl rfl M.1 (M.2.1 j a hj ha) ?_
      walk_at "w"
      cases e : m j a with
      | true =>
        refine w_F rfl ?_
        refine ⟨rfl, hZ ?_⟩
        show (!m j a) = false
        rw [e]
        rfl
      | false =>
        refine w_T rfl ?_
        walk_at "w"
        refine hY ?_
        show (!m j a) = true
        rw [e]
        rfl
    · walk_at "w"
      refine w_ixL (atI_nat (rp_first ok.cl M ha)) ?_
      walk_at "w"
      refine w_inVA rfl ?_
      walk_at "w"
      obtain ⟨⟨q1, q2⟩, _⟩ := rp_spec ok.cl ha
      cases hD with
      | skip hm h2 =>
        cases h2
        refine w_F (by rw [decide_eq_true hm]; rfl) ?_
        walk_at "w"
        exact ⟨_, rfl, hP⟩
      | visit hm h2 =>
        rw [List.append_nil] at h2
        refine w_T (by rw [decide_eq_false hm]; rfl) ?_
        walk_at "w"
        have hVl := hn.length_le_of_subset hV
        rw [List.length_range] at hVl
        refine w_appAK rfl (by simp [natsD]; omega) ?_
        walk_at "w"
        refine w_ixU (atI_nat (row_get q1)) ?_
        walk_at "w"
        refine w_ixU rfl ?_
        walk_at "w"
        rw [natsD_snoc]
        have n2 := nodup_snoc hn hm
        have s2 := sub_snoc hV (List.mem_range.mpr q1)
        have hl2 := n2.length_le_of_subset s2
        rw [List.length_append, List.length_singleton, List.length_range] at hl2
        refine loop_rem (fun ds s => ∃ rest V' c5, ds = natsD rest ∧ s = ⟨[.dat (shD r), .dat (.dict kvs), .dat (.int (a : Nat)), .arg ad (natsD V'), .dat (.int (rp r a : Nat)), c5, .un], n⟩ ∧ V'.Nodup ∧ V' ⊆ List.range r.length ∧ V.length + 1 ≤ V'.length ∧ (∀ f, f ∈ rest → f < r.length) ∧ Dfs (rp r) (gr r).ch rest V' W) ?_ ?_ _ _ ⟨(rowAt r (rp r a)).2, V ++ [rp r a], .un, rfl, rfl, n2, s2, by rw [List.length_append, List.length_singleton]; omega, fun f hf => ok.cl _ q1 f hf, h2⟩
        · rintro d ds s ⟨rest, V', c5, e, rfl, g1, g2, g3, g4, g5⟩ N hN
          cases rest with
          | nil => cases e
          | cons f rest =>
            obtain ⟨rfl, rfl⟩ := List.cons.inj e
            obtain ⟨X, h3, h4⟩ := dfs_split g5 (s := [f]) (t := rest) rfl
            have hf := g4 f List.mem_cons_self
            obtain ⟨x1, x2, x3, _⟩ := dfs_grow (rp_in ok.cl) h3 g1 g2 fun x hx => by
              rw [List.mem_singleton] at hx
              rw [hx]
              exact List.mem_range.mpr hf
            walk_at "w"
            refine w_callMA rfl rfl ?_
            exact visited_spec ok M k f V' X n _ g1 g2 hf (by omega) h3 (hN _ ⟨rest, X, _, rfl, rfl, x1, x2, by omega, fun y hy => g4 y (List.mem_cons_of_mem _ hy), h4⟩)
        · rintro s ⟨rest, V', c5, e, rfl, g1, g2, g3, g4, g5⟩
          cases rest with
          | cons f rest => cases e
          | nil =>
            cases g5
            exact ⟨_, rfl, hP⟩
end K07

set_option Elab.async false
set_option linter.all false
set_option maxRecDepth 100000
set_option maxHeartbeats 4000000
/-! U07h: the law's least sheet, by data: least. -/
namespace K07
open PySem PySem.Spec PyProof.Rows L2 GG DD PT DL LS
set_option simprocs false
local macro_rules | `(tactic| walk_at "w1") => `(tactic| with_reducible first
  | refine DL.w_seq ?_ | refine DL.w_next ?_ | refine DL.w_set ?_ | refine DL.w_setO ?_ | refine DL.w_if ?_ | refine DL.w_ret ?_ | refine DL.w_drop ?_
  | refine DL.w_par ?_ | refine DL.w_parL ?_ | refine DL.w_parR ?_ | refine DL.w_parLL ?_ | refine DL.w_asg ?_ | refine DL.w_for ?_ | refine DL.w_vsNil ?_ | refine DL.w_dIn ?_ | refine DL.w_dPut ?_
  | refine DL.w_gdN ?_ | refine DL.w_gdNil ?_ | refine DL.w_gdCons ?_
  | refine DL.w_c ?_ | refine DL.w_asL ?_ | refine DL.w_asU ?_ | refine DL.w_newL ?_ | refine DL.w_nil ?_ | refine DL.w_cons ?_ | refine DL.w_tup ?_ | refine DL.w_lst ?_ | refine DL.w_op ?_
  | refine DL.w_lenL ?_ | refine DL.w_lenD ?_ | refine DL.w_tupOf ?_ | refine DL.w_ifE ?_ | refine DL.w_cat ?_ | refine DL.w_rep ?_ | refine DL.w_call ?_ | refine DL.w_callP ?_
  | refine DL.w_xNil ?_ | refine DL.w_xCons ?_ | refine DL.w_all ?_ | refine DL.w_reprA ?_ | refine DL.w_isi ?_ | refine DL.w_andV ?_ | refine DL.w_newD ?_ | refine DL.w_dict0 ?_
  | refine DL.w_slD ?_ | refine DL.w_slU ?_ | refine DL.w_noP ?_ | refine DL.w_part ?_ | refine DL.w_listZip ?_ | refine DL.w_sortSI ?_ | refine DL.w_listRng ?_ | refine DL.w_setD ?_ | refine DL.w_dictL ?_ | refine DL.w_dictU ?_ | refine DL.w_disp ?_ | refine DL.w_psNil ?_ | refine DL.w_psCons ?_
  | refine DL.w_rng1 ?_ | refine DL.w_comp ?_ | refine DL.w_enum ?_ | refine DL.w_B ?_ | refine DL.w_and ?_ | refine DL.w_or ?_ | refine DL.w_not ?_ | refine DL.w_yes ?_
  | refine DL.w_par3 ?_ | refine DL.w_par3R ?_ | refine DL.w_par0L ?_ | refine DL.w_revL ?_ | refine DL.w_listQ ?_ | refine DL.w_star ?_ | refine DL.w_split ?_ | refine DL.w_intB ?_ | refine DL.w_dPutN ?_ | refine DL.w_dPutO ?_ | refine DL.w_listZipT ?_ | refine DL.w_callM ?_ | refine DL.w_inVar ?_ | refine DL.w_slS ?_ | refine DL.w_sortS ?_ | refine DL.w_dcomp ?_)
local macro_rules | `(tactic| walk_at "w2") => `(tactic| first
  | walk_at "w1"
  | ((with_reducible apply DL.w_var); (· rfl))
  | ((with_reducible apply DL.w_xDeck); (· rfl))
  | ((with_reducible apply DL.w_listO); (· rfl))
  | ((with_reducible apply DL.w_listD); (· rfl))
  | ((with_reducible apply DL.w_app); (· exact trivial))
  | ((with_reducible apply DL.w_popAt); (· exact trivial))
  | ((with_reducible apply DL.w_dGet); (· exact trivial))
  | ((with_reducible apply DL.w_listA); (· rfl))
  | ((with_reducible apply DL.w_ext); (· exact trivial))
  | ((with_reducible apply DL.w_dGetT); (· exact trivial))
  | ((with_reducible apply DL.w_xLast); (· exact trivial))
  | ((with_reducible apply DL.w_appA); (· rfl))
  | ((with_reducible apply DL.w_listDictO); (· rfl))
  | ((with_reducible apply DL.w_lenDictO); (· rfl))
  | ((with_reducible apply DL.w_catVarO); (· rfl))
  | ((with_reducible apply DL.w_catVarD); (· rfl))
  | ((with_reducible apply DL.w_tupLL); (· decide))
  | ((with_reducible apply DL.w_fzO); (· rfl))
  | ((with_reducible apply DL.w_fzD); (· rfl))
  | ((with_reducible apply DL.w_fz); (· rfl))
  | ((with_reducible apply DL.w_gdTup); (· rfl))
  | ((with_reducible refine And.intro ?_ ?_); (· first | rfl | exact True.intro | decide | (dsimp only [List.length_cons, List.length_nil]; decide)))
  | with_reducible refine DL.w_I0 ?_ | with_reducible refine DL.w_eqI ?_ | with_reducible refine DL.w_neI ?_ | with_reducible refine DL.w_isN ?_ | with_reducible refine DL.w_notN ?_)
local macro_rules | `(tactic| walk_at "w") => `(tactic| (repeat walk_at "w2"; try dsimp only [List.set_cons_zero, List.set_cons_succ, List.cons_append, List.nil_append, List.replicate_succ, List.replicate_zero]))
theorem dfs_reps {rep : Nat → Nat} {ch : Nat → List Nat} {U : List Nat} (hU : ∀ v, v ∈ U → rep v ∈ U ∧ ∀ f, f ∈ ch (rep v) → f ∈ U) (hr : ∀ v, v ∈ U → rep (rep v) = rep v) {st V W : List Nat} (h : Dfs rep ch st V W) : st ⊆ U → (∀ v, v ∈ V → rep v = v) → ∀ v, v ∈ W → rep v = v := by
  induction h with
  | nil V => exact fun _ k => k
  | @skip a st V W hm h ih => exact fun z k => ih (fun q hq => z (List.mem_cons_of_mem _ hq)) k
  | @visit a st V W hm h ih =>
    intro z k
    have ha := z List.mem_cons_self
    refine ih (fun q hq => ?_) fun v hv => ?_
    · rcases List.mem_append.mp hq with hq | hq
      · exact (hU a ha).2 q hq
      · exact z (List.mem_cons_of_mem _ hq)
    · rcases List.mem_append.mp hv with hv | hv
      · exact k v hv
      · rw [List.mem_singleton] at hv
        rw [hv]
        exact hr a ha
theorem idx_le : ∀ {V : List Nat} {x j : Nat}, V[j]? = some x → idx x V ≤ j
  | [], _, _, e => by
    rw [List.getElem?_nil] at e
    cases e
  | y :: r, x, 0, e => by
    rw [List.getElem?_cons_zero] at e
    cases e
    rw [idx_hd]
    exact Nat.le_refl _
  | y :: r, x, j + 1, e => by
    rw [List.getElem?_cons_succ] at e
    have ih := idx_le e
    by_cases h : y = x
    · subst h
      rw [idx_hd]
      omega
    · rw [idx_tl h]
      omega
def F_least : FD := bodyD (dB_least (F_visited 101) F_differ) 7
def fIn (m : Nat → Nat → Bool) (W : List Nat) (f : Nat) : PyData → Bool
  | .int j => !m (W.getD j.toNat 0) f
  | _ => false
noncomputable def fFld (r : Sheet) (W : List Nat) : PyData → PyData
  | .int f => .int (idx (rp r f.toNat) W : Nat)
  | _ => .none
theorem least_at {r o : Sheet} {a : Nat} (ok : ShOk r) (ar : Ar r) (hln : r.length ≤ 100) (ha : a < r.length) (hl : LeastAt r a o) {n : Nat} {P : PyData → Nat → Prop} (h : P (shD o) n) : F_least [.dat (shD r), .dat (.int (a : Nat))] n P := by
  obtain ⟨W, hW, rfl⟩ := hl
  have h00 : [a] ⊆ List.range r.length := fun x hx => by
    rw [List.mem_singleton] at hx
    rw [hx]
    exact List.mem_range.mpr ha
  obtain ⟨g1, g2, _, _⟩ := dfs_grow (rp_in ok.cl) hW List.nodup_nil (fun _ h => absurd h List.not_mem_nil) h00
  have hrep := dfs_reps (rp_in ok.cl) (fun v hv => rp_rp ok.cl (List.mem_range.mp hv)) hW h00 fun v hv => absurd hv List.not_mem_nil
  obtain ⟨c1, c2⟩ := dfs_closed hW
  have hm : ∀ v, v ∈ W → ∀ f, f ∈ (gr r).ch v → rp r f ∈ W := fun v hv => (c2 v hv).resolve_left List.not_mem_nil
  have lt : ∀ k, k ∈ W → k < r.length := fun k hk => List.mem_range.mp (g2 hk)
  have hWl := g1.length_le_of_subset g2
  rw [List.length_range] at hWl
  unfold F_least bodyD dB_least
  walk_at "w"
  refine differ_spec ok ar (by omega) fun kvs m M => ?_
  walk_at "w"
  refine w_callMO rfl rfl ?_
  refine visited_spec (V := []) ok M 101 a W n _ List.nodup_nil (fun _ h => absurd h List.not_mem_nil) ha (by rw [List.length_nil]; omega) hW ?_
  walk_at "w"
  have first : ∀ f, f < r.length → rp r f ∈ W → ((natsD (List.range W.length)).filter (fIn m W f))[0]? = some (.int (idx (rp r f) W : Nat)) := fun f hf hfW => by
    refine first_nats (q := fun j => !m (W.getD j 0) f) (fun k => rfl) (idx_lt hfW) ?_ fun j hj => ?_
    · rw [List.getD_eq_getElem?_getD, idx_at hfW]
      show (!m (rp r f) f) = true
      rw [(M.2.2 _ _ (rp_spec ok.cl hf).1.1 hf).mpr (rp_spec ok.cl hf).1.2]
      rfl
    · have hjW : j < W.length := Nat.lt_trans hj (idx_lt hfW)
      have e : W[j]? = some W[j] := List.getElem?_eq_getElem hjW
      have hw := List.getElem_mem hjW
      rw [List.getD_eq_getElem?_getD, e]
      show (!m W[j] f) = false
      cases q : m W[j] f with
      | true => rfl
      | false =>
        have b := (M.2.2 _ _ (lt _ hw) hf).mp q
        have e2 := (rp_iff ok.cl (lt _ hw) hf).mpr b
        rw [hrep _ hw] at e2
        have := idx_le (e.trans (congrArg some e2))
        omega
  refine loop_done (fun done s => ∃ D c5 c6, done = natsD D ∧ s = ⟨[.dat (shD r), .dat (.int (a : Nat)), .dat (.dict kvs), .dat (.list (natsD W)), .own (D.map fun v => rowD ((rowAt r v).1, (rowAt r v).2.map fun f => idx (rp r f) W)), c5, c6, .un, .un], n⟩) ?_ ?_ ⟨[], .un, .un, rfl, rfl⟩
  · rintro done d rest s e ⟨D, c5, c6, rfl, rfl⟩ N hN
    obtain ⟨D', v, c, e1, rfl, e2⟩ := nats_done e
    cases natsD_inj e1
    have hv : v ∈ W := by rw [e2]; simp
    have hvr := lt v hv
    have hfl := ok.fl v hvr
    have hDl : D.length ≤ W.length := by rw [e2, List.length_append]; omega
    walk_at "w"
    refine w_ixU (atI_nat (row_get hvr)) ?_
    walk_at "w"
    refine w_ixU rfl ?_
    walk_at "w"
    refine ⟨by simp [natsD]; omega, rfl, lc_map (fFld r W) (fun d hd Y Z hY => ?_) ?_⟩
    · obtain ⟨f, hf, rfl⟩ := List.mem_map.mp hd
      have hfr := ok.cl v hvr f hf
      have hfW := hm v hv f hf
      walk_at "w"
      refine w_T rfl ?_
      walk_at "w"
      rw [List.length_map]
      refine ⟨by omega, by omega, ?_⟩
      rw [Int.toNat_natCast, rngD_nats]
      refine ⟨by simp [natsD]; omega, rfl, lc_filter (fIn m W f) (fun d hd Y2 Z2 hY2 hZ2 => ?_) ?_⟩
      · obtain ⟨j, hj, rfl⟩ := List.mem_map.mp hd
        have hj := List.mem_range.mp hj
        have e3 : W[j]? = some W[j] := List.getElem?_eq_getElem hj
        have hw := lt _ (List.getElem_mem hj)
        have eD : W.getD j 0 = W[j] := by rw [List.getD_eq_getElem?_getD, e3]; rfl
        walk_at "w"
        refine w_ixVarD rfl ?_
        walk_at "w"
        refine ⟨.int (W[j] : Nat), atI_nat (by unfold natsD; rw [List.getElem?_map, e3]; rfl), ?_⟩
        walk_at "w"
        refine w_getTD rfl rfl M.1 (M.2.1 W[j] f hw hfr) ?_
        walk_at "w"
        have eF : fIn m W f (.int (j : Nat)) = !m W[j] f := by
          show (!m (W.getD j 0) f) = _
          rw [eD]
        cases q : m W[j] f with
        | true =>
          refine w_F rfl ?_
          refine ⟨rfl, hZ2 (by rw [eF, q]; rfl)⟩
        | false =>
          refine w_T rfl ?_
          walk_at "w"
          exact hY2 (by rw [eF, q]; rfl)
      · walk_at "w"
        refine w_ixL (atI_nat (first f hfr hfW)) ?_
        exact ⟨rfl, hY⟩
    · walk_at "w"
      refine w_ixU (atI_nat (row_get hvr)) ?_
      walk_at "w"
      refine w_ixU rfl ?_
      walk_at "w"
      refine w_appK rfl (by rw [List.length_map]; omega) ?_
      refine hN _ ⟨D ++ [v], .dat (.int (v : Nat)), .dat (.list ((natsD (rowAt r v).2).map (fFld r W))), natsD_snoc _ _, ?_⟩
      have e4 : (natsD (rowAt r v).2).map (fFld r W) = natsD ((rowAt r v).2.map fun f => idx (rp r f) W) := by
        unfold natsD
        rw [List.map_map, List.map_map]
        rfl
      rw [List.map_append, e4]
      rfl
  · rintro s ⟨D, c5, c6, e1, rfl⟩
    cases natsD_inj e1
    walk_at "w"
    have e5 : (outR (gr r).tg (rp r) (gr r).ch W).map rowD = W.map fun v => rowD ((rowAt r v).1, (rowAt r v).2.map fun f => idx (rp r f) W) := by
      unfold outR
      rw [List.map_map]
      rfl
    rw [← e5]
    exact h
theorem least_spec {r o : Sheet} (ok : ShOk r) (ar : Ar r) (hln : r.length ≤ 100) (hl : Least r o) {n : Nat} {P : PyData → Nat → Prop} (h : P (shD o) n) : F_least [.dat (shD r), .dat (.int 0)] n P := least_at ok ar hln ok.ne hl h
end K07

set_option Elab.async false
set_option linter.all false
set_option maxRecDepth 100000
set_option maxHeartbeats 4000000
/-! U07i: names and tags, by data. -/
namespace K07
open PySem PySem.Spec PyProof.Rows L2 GG DD PT DL LS
set_option simprocs false
local macro_rules | `(tactic| walk_at "w1") => `(tactic| with_reducible first
  | refine DL.w_seq ?_ | refine DL.w_next ?_ | refine DL.w_set ?_ | refine DL.w_setO ?_ | refine DL.w_if ?_ | refine DL.w_ret ?_ | refine DL.w_drop ?_
  | refine DL.w_par ?_ | refine DL.w_parL ?_ | refine DL.w_parR ?_ | refine DL.w_parLL ?_ | refine DL.w_asg ?_ | refine DL.w_for ?_ | refine DL.w_vsNil ?_ | refine DL.w_dIn ?_ | refine DL.w_dPut ?_
  | refine DL.w_gdN ?_ | refine DL.w_gdNil ?_ | refine DL.w_gdCons ?_
  | refine DL.w_c ?_ | refine DL.w_asL ?_ | refine DL.w_asU ?_ | refine DL.w_newL ?_ | refine DL.w_nil ?_ | refine DL.w_cons ?_ | refine DL.w_tup ?_ | refine DL.w_lst ?_ | refine DL.w_op ?_
  | refine DL.w_lenL ?_ | refine DL.w_lenD ?_ | refine DL.w_tupOf ?_ | refine DL.w_ifE ?_ | refine DL.w_cat ?_ | refine DL.w_rep ?_ | refine DL.w_call ?_ | refine DL.w_callP ?_
  | refine DL.w_xNil ?_ | refine DL.w_xCons ?_ | refine DL.w_all ?_ | refine DL.w_reprA ?_ | refine DL.w_isi ?_ | refine DL.w_andV ?_ | refine DL.w_newD ?_ | refine DL.w_dict0 ?_
  | refine DL.w_slD ?_ | refine DL.w_slU ?_ | refine DL.w_noP ?_ | refine DL.w_part ?_ | refine DL.w_listZip ?_ | refine DL.w_sortSI ?_ | refine DL.w_listRng ?_ | refine DL.w_setD ?_ | refine DL.w_dictL ?_ | refine DL.w_dictU ?_ | refine DL.w_disp ?_ | refine DL.w_psNil ?_ | refine DL.w_psCons ?_
  | refine DL.w_rng1 ?_ | refine DL.w_comp ?_ | refine DL.w_enum ?_ | refine DL.w_B ?_ | refine DL.w_and ?_ | refine DL.w_or ?_ | refine DL.w_not ?_ | refine DL.w_yes ?_
  | refine DL.w_par3 ?_ | refine DL.w_par3R ?_ | refine DL.w_par0L ?_ | refine DL.w_revL ?_ | refine DL.w_listQ ?_ | refine DL.w_star ?_ | refine DL.w_split ?_ | refine DL.w_intB ?_ | refine DL.w_dPutN ?_ | refine DL.w_dPutO ?_ | refine DL.w_listZipT ?_ | refine DL.w_callM ?_ | refine DL.w_inVar ?_ | refine DL.w_slS ?_ | refine DL.w_sortS ?_ | refine DL.w_dcomp ?_)
local macro_rules | `(tactic| walk_at "w2") => `(tactic| first
  | walk_at "w1"
  | ((with_reducible apply DL.w_var); (· rfl))
  | ((with_reducible apply DL.w_xDeck); (· rfl))
  | ((with_reducible apply DL.w_listO); (· rfl))
  | ((with_reducible apply DL.w_listD); (· rfl))
  | ((with_reducible apply DL.w_app); (· exact trivial))
  | ((with_reducible apply DL.w_popAt); (· exact trivial))
  | ((with_reducible apply DL.w_dGet); (· exact trivial))
  | ((with_reducible apply DL.w_listA); (· rfl))
  | ((with_reducible apply DL.w_ext); (· exact trivial))
  | ((with_reducible apply DL.w_dGetT); (· exact trivial))
  | ((with_reducible apply DL.w_xLast); (· exact trivial))
  | ((with_reducible apply DL.w_appA); (· rfl))
  | ((with_reducible apply DL.w_listDictO); (· rfl))
  | ((with_reducible apply DL.w_lenDictO); (· rfl))
  | ((with_reducible apply DL.w_catVarO); (· rfl))
  | ((with_reducible apply DL.w_catVarD); (· rfl))
  | ((with_reducible apply DL.w_tupLL); (· decide))
  | ((with_reducible apply DL.w_fzO); (· rfl))
  | ((with_reducible apply DL.w_fzD); (· rfl))
  | ((with_reducible apply DL.w_fz); (· rfl))
  | ((with_reducible apply DL.w_gdTup); (· rfl))
  | ((with_reducible refine And.intro ?_ ?_); (· first | rfl | exact True.intro | decide | (dsimp only [List.length_cons, List.length_nil]; decide)))
  | with_reducible refine DL.w_I0 ?_ | with_reducible refine DL.w_eqI ?_ | with_reducible refine DL.w_neI ?_ | with_reducible refine DL.w_isN ?_ | with_reducible refine DL.w_notN ?_)
local macro_rules | `(tactic| walk_at "w") => `(tactic| (repeat walk_at "w2"; try dsimp only [List.set_cons_zero, List.set_cons_succ, List.cons_append, List.nil_append, List.replicate_succ, List.replicate_zero]))
/-! ### pick -/
def F_pick : FD := bodyD (dB_pick F_draw) 0
theorem pick_list {ds : List PyData} {n : Nat} {P : PyData → Nat → Prop} (hn : n < 1000000) (h1 : 1 ≤ ds.length) (h2 : ds.length < 1000000) (h : ∀ d, d ∈ ds → P d (n + 1)) : F_pick [.deck, .dat (.list ds)] n P := by
  unfold F_pick bodyD dB_pick
  walk_at "w"
  refine w_draw hn h1 h2 fun v hv => ?_
  exact ⟨ds[v], atI_nat (List.getElem?_eq_getElem hv), h _ (List.getElem_mem hv)⟩
theorem pick_tup {ds : List PyData} {n : Nat} {P : PyData → Nat → Prop} (hn : n < 1000000) (h1 : 1 ≤ ds.length) (h2 : ds.length < 1000000) (h : ∀ d, d ∈ ds → P d (n + 1)) : F_pick [.deck, .dat (.tuple ds)] n P := by
  unfold F_pick bodyD dB_pick
  walk_at "w"
  refine w_draw hn h1 h2 fun v hv => ?_
  exact ⟨ds[v], atI_nat (List.getElem?_eq_getElem hv), h _ (List.getElem_mem hv)⟩
theorem cmul_l {i j : Int} (h : -(2 ^ 64) < i ∧ i < 2 ^ 64) : CMul i j := .inl h
/-! ### names -/
def lettersL : List Nat := ("abcdefghijklmnopqrstuvwxyz" : Str).cps.toList
def letterS (i : Nat) : Str := ⟨#[lettersL.getD i 0]⟩
theorem letters_at : ∀ i, i < 26 → lettersL[i]? = some (lettersL.getD i 0) := by decide +kernel
def wordsL : List Str := ["case", "part", "tag", "call", "ask", "same", "is", "not", "both", "either", "yes", "no", "and", "or", "none", "one", "root", "union", "take", "never", "number", "plus", "least", "most", "make", "test", "gather", "else", "rank", "tags", "voids"]
theorem words_eq : Txt.split "case part tag call ask same is not both either yes no and or none one root union take" " " ++ Txt.split "never number plus least most make test gather else rank tags voids" " " = wordsL := by decide +kernel
theorem words_at : ∀ i, i < 31 → wordsL[i]? = some (wordsL.getD i "") := by decide +kernel
def nm (w f k : Nat) : Str := [letterS ((f + 5 * k) % 26), wordsL.getD ((f + 3 * k) % 31) "", cutS "zyxwvuts" none (some ((1 + k % 8 : Nat) : Int)), "abcdefg" ++ letterS ((f + 5 * k) % 26)].getD w ""
structure NameOk (x : Str) : Prop where
  vo : x ≠ "void"
  lv : (PyData.str x).leavesShort 40 = true
  sz : x.cps.size ≤ 8
  so : PyData.strOk x = true
theorem nm_ok : ∀ w, w < 4 → ∀ f, f < 26 → ∀ k, k < 6 → nm w f k ≠ "void" ∧ (PyData.str (nm w f k)).leavesShort 40 = true ∧ (nm w f k).cps.size ≤ 8 ∧ PyData.strOk (nm w f k) = true := by decide +kernel
theorem nm_ne : ∀ w, w < 4 → ∀ f, f < 26 → ∀ k, k < 6 → ∀ j, j < 6 → j = k ∨ nm w f j ≠ nm w f k := by decide +kernel
theorem pick4 {a b c d : Str} : ∀ w, w < 4 → ([.str a, .str b, .str c, .str d] : List PyData)[w]? = some (.str ([a, b, c, d].getD w ""))
  | 0, _ => rfl
  | 1, _ => rfl
  | 2, _ => rfl
  | 3, _ => rfl
  | _ + 4, h => by omega
theorem strs_map : ∀ l : List Str, strsD (l.map PyData.str) = some l
  | [] => rfl
  | x :: l => by
    have ih := strs_map l
    rw [List.map_cons, strsD, ih]
    rfl
structure NmOk (l : List Str) (many : Nat) : Prop where
  nd : l.Nodup
  ok : ∀ x, x ∈ l → NameOk x
  ln : l.length = many
def F_names : FD := bodyD (dB_names F_draw) 7
theorem names_spec {n many : Nat} {P : PyData → Nat → Prop} (hn : n + 10 ≤ 1000000) (hm : many ≤ 6) (h : ∀ l, NmOk l many → P (.list (l.map PyData.str)) (n + 2)) : F_names [.deck, .dat (.int (many : Nat))] n P := by
  unfold F_names bodyD dB_names
  walk_at "w"
  refine w_draw (L := 4) (by omega) (by omega) (by omega) fun w hw => ?_
  walk_at "w"
  refine w_draw (L := 26) (by omega) (by omega) (by omega) fun f hf => ?_
  walk_at "w"
  refine ⟨by rw [List.length_map, List.length_map]; decide +kernel, ?_⟩
  walk_at "w"
  rw [← List.map_append, words_eq]
  refine ⟨by omega, by omega, ?_⟩
  rw [Int.toNat_natCast, rngD_nats]
  refine loop_done (fun done s => ∃ a c7 c8, done = natsD a ∧ s = ⟨[.deck, .dat (.int (many : Nat)), .dat (.str "abcdefghijklmnopqrstuvwxyz"), .dat (.int (w : Nat)), .dat (.int (f : Nat)), .dat (.list (wordsL.map PyData.str)), .own ((a.map (nm w f)).map PyData.str), c7, c8], n + 1 + 1⟩) ?_ ?_ ⟨[], .un, .un, rfl, rfl⟩
  · rintro done d rest s e ⟨a, c7, c8, rfl, rfl⟩ N hN
    obtain ⟨a', k, c, e1, rfl, e2⟩ := nats_done e
    cases natsD_inj e1
    obtain ⟨hk, hka, hal⟩ := range_mid e2
    have q1 : ((f : Int) + 5 * (k : Int)) % 26 = (((f + 5 * k) % 26 : Nat) : Int) := by omega
    have q2 : ((f : Int) + 3 * (k : Int)) % 31 = (((f + 3 * k) % 31 : Nat) : Int) := by omega
    have q3 : (1 : Int) + (k : Int) % 8 = ((1 + k % 8 : Nat) : Int) := by omega
    have l1 : (f + 5 * k) % 26 < 26 := Nat.mod_lt _ (by omega)
    have l2 : (f + 3 * k) % 31 < 31 := Nat.mod_lt _ (by omega)
    walk_at "w"
    refine w_oI ?_ ?_
    · exact cmul_l (by decide)
    walk_at "w"
    refine w_oI ?_ ?_
    · decide
    rw [q1]
    refine w_ixS (by decide) (atI_nat (letters_at _ l1)) ?_
    walk_at "w"
    refine w_ixVarD rfl ?_
    walk_at "w"
    refine w_oI ?_ ?_
    · exact cmul_l (by decide)
    walk_at "w"
    refine w_oI ?_ ?_
    · decide
    walk_at "w"
    rw [q2]
    refine ⟨_, atI_nat (by rw [List.getElem?_map, words_at _ l2]; rfl), ?_⟩
    walk_at "w"
    refine w_B0 ?_
    walk_at "w"
    refine w_T (by rw [decide_eq_true_eq]; omega) ?_
    walk_at "w"
    refine w_oI ?_ ?_
    · decide
    walk_at "w"
    rw [q3]
    refine w_catS (Nat.le_trans (Nat.add_le_add (show (Str.ofString "abcdefg").length ≤ 10 by decide) (Nat.le_refl 1)) (by omega)) ?_
    walk_at "w"
    refine w_ixL (atI_nat (pick4 w hw)) ?_
    refine w_appK rfl (by rw [List.length_map, List.length_map]; omega) ?_
    refine hN _ ⟨a ++ [k], .dat (.int (k : Nat)), .dat (.str (letterS ((f + 5 * k) % 26))), natsD_snoc _ _, ?_⟩
    rw [List.map_append, List.map_append]
    rfl
  · rintro s ⟨a, c7, c8, e1, rfl⟩
    cases natsD_inj e1
    walk_at "w"
    refine ⟨_, strs_map _, by rw [List.length_map, List.length_range]; omega, fun ys hp hs => ?_⟩
    walk_at "w"
    refine h ys ⟨?_, fun x hx => ?_, by rw [hp.length_eq, List.length_map, List.length_range]⟩
    · refine hp.nodup_iff.mpr ?_
      unfold List.Nodup
      rw [List.pairwise_map]
      refine List.nodup_range.imp_of_mem fun {i j} hi hj hne => ?_
      exact (nm_ne w hw f hf j (Nat.lt_of_lt_of_le (List.mem_range.mp hj) hm) i (Nat.lt_of_lt_of_le (List.mem_range.mp hi) hm)).resolve_left hne
    · obtain ⟨k, hk, rfl⟩ := List.mem_map.mp (hp.subset hx)
      obtain ⟨a1, a2, a3, a4⟩ := nm_ok w hw f hf k (Nat.lt_of_lt_of_le (List.mem_range.mp hk) hm)
      exact ⟨a1, a2, a3, a4⟩
/-! ### tags -/
/-- each item gives something of its own, with at most k draws each -/
theorem lc_two {g : DG} {t : DT} {e : DE} {base : List DV} {P : List PyData → Nat → Prop} {n : Nat} {items : List PyData} (R : PyData → PyData → Prop) (k : Nat)
    (step : ∀ d, d ∈ items → ∀ m, m + k ≤ n + k * items.length → ∀ (Y : PyData → Nat → Prop) (Z : Nat → Prop), (∀ y m', R d y → m' ≤ m + k → Y y m') →
      g d (fun s1 => t s1 fun b s2 => if b = true then e s2 fun y s3 => s3.sl = s1.sl ∧ Y y s3.n else s2.sl = s1.sl ∧ Z s2.n) ⟨base, m⟩)
    (fin : ∀ ys m, F2 R items ys → m ≤ n + k * items.length → P ys m) : dLc g t e base items [] n P := by
  refine lc_rem (fun ds acc m => ∃ done, done ++ ds = items ∧ F2 R done acc ∧ m + k * ds.length ≤ n + k * items.length) (fun d ds acc m h Y Z hY hZ => ?_) (fun acc m h => ?_) items [] n ⟨[], rfl, .nil, Nat.le_refl _⟩
  · obtain ⟨done, h1, h3, h5⟩ := h
    rw [List.length_cons, Nat.mul_add, Nat.mul_one] at h5
    refine step d (by rw [← h1]; simp) m (by omega) Y Z fun y m' hR a2 => hY _ _ ⟨done ++ [d], by rw [List.append_assoc]; exact h1, h3.append (.cons hR .nil), by omega⟩
  · obtain ⟨done, h1, h3, h5⟩ := h
    rw [List.append_nil] at h1
    subst h1
    exact fin acc m h3 (by simpa using h5)
abbrev Tag := Str × Nat
abbrev tagD (t : Tag) : PyData := .tuple [.str t.1, .int (t.2 : Nat)]
abbrev tagsD (ts : List Tag) : PyData := .tuple (ts.map tagD)
structure TgOk (ts : List Tag) : Prop where
  nd : (ts.map (·.1)).Nodup
  ok : ∀ t, t ∈ ts → NameOk t.1 ∧ t.2 ≤ 3
  p : 0 < ts.length
  ln : ts.length ≤ 6
theorem tags_of {R : PyData → PyData → Prop} (hR : ∀ x y, R (.str x) y → ∃ c : Nat, c ≤ 3 ∧ y = tagD (x, c)) : ∀ {l : List Str} {ys : List PyData}, F2 R (l.map PyData.str) ys → ∃ ts : List Tag, ys = ts.map tagD ∧ ts.map (·.1) = l ∧ ∀ t, t ∈ ts → t.2 ≤ 3
  | [], _, h => by
    cases h
    exact ⟨[], rfl, rfl, fun t h => absurd h List.not_mem_nil⟩
  | x :: l, _, h => by
    rw [List.map_cons] at h
    cases h with
    | cons h t =>
      obtain ⟨c, hc, rfl⟩ := hR _ _ h
      obtain ⟨ts, rfl, e, h3⟩ := tags_of hR t
      refine ⟨(x, c) :: ts, rfl, by rw [List.map_cons, e], fun t ht => ?_⟩
      rcases List.mem_cons.mp ht with rfl | ht
      · exact hc
      · exact h3 t ht
def F_tags : FD := bodyD (dB_tags F_names F_draw F_pick) 2
theorem tags_spec {n : Nat} {P : PyData → Nat → Prop} (hn : n + 20 ≤ 1000000) (h : ∀ ts n', TgOk ts → n' ≤ n + 10 → P (tagsD ts) n') : F_tags [.deck] n P := by
  unfold F_tags bodyD dB_tags
  walk_at "w"
  refine w_draw (L := 6) (by omega) (by omega) (by omega) fun v hv => ?_
  have e1 : (1 : Int) + (v : Int) = ((1 + v : Nat) : Int) := by omega
  walk_at "w"
  rw [e1]
  refine names_spec (by omega) (by omega) fun l hl => ?_
  walk_at "w"
  have hll := hl.ln
  refine ⟨by rw [List.length_map]; omega, rfl, lc_two (fun d y => ∃ c : Nat, c ≤ 3 ∧ ∃ x, d = .str x ∧ y = tagD (x, c)) 1 (fun d hd m hm Y Z hY => ?_) fun ys m hys hm => ?_⟩
  · obtain ⟨x, hx, rfl⟩ := List.mem_map.mp hd
    rw [List.length_map] at hm
    walk_at "w"
    refine w_T rfl ?_
    walk_at "w"
    refine pick_list (by omega) (by decide) (by decide) fun d hd => ?_
    have hd' : d ∈ ([0, 0, 1, 2, 2, 3] : List Nat).map fun c => PyData.int (c : Nat) := hd
    obtain ⟨c, hc, rfl⟩ := List.mem_map.mp hd'
    have hc3 : ∀ c, c ∈ ([0, 0, 1, 2, 2, 3] : List Nat) → c ≤ 3 := by decide
    walk_at "w"
    exact hY _ _ ⟨c, hc3 c hc, x, rfl, rfl⟩ (Nat.le_refl _)
  · rw [List.length_map] at hm
    obtain ⟨ts, rfl, e2, e3⟩ := tags_of (fun x y ⟨c, hc, x', ex, hy⟩ => by
      cases ex
      exact ⟨c, hc, hy⟩) hys
    walk_at "w"
    have hl2 : ts.length = 1 + v := by rw [← hll, ← e2, List.length_map]
    refine h ts m ⟨by rw [e2]; exact hl.nd, fun t ht => ⟨hl.ok _ (by rw [← e2]; exact List.mem_map.mpr ⟨t, ht, rfl⟩), e3 t ht⟩, by omega, by omega⟩ (by omega)
end K07

set_option Elab.async false
set_option linter.all false
set_option maxRecDepth 100000
set_option maxHeartbeats 4000000
/-! U07j: rows, by data. -/
namespace K07
open PySem PySem.Spec PyProof.Rows L2 GG DD PT DL LS
set_option simprocs false
local macro_rules | `(tactic| walk_at "w1") => `(tactic| with_reducible first
  | refine DL.w_seq ?_ | refine DL.w_next ?_ | refine DL.w_set ?_ | refine DL.w_setO ?_ | refine DL.w_if ?_ | refine DL.w_ret ?_ | refine DL.w_drop ?_
  | refine DL.w_par ?_ | refine DL.w_parL ?_ | refine DL.w_parR ?_ | refine DL.w_parLL ?_ | refine DL.w_asg ?_ | refine DL.w_for ?_ | refine DL.w_vsNil ?_ | refine DL.w_dIn ?_ | refine DL.w_dPut ?_
  | refine DL.w_gdN ?_ | refine DL.w_gdNil ?_ | refine DL.w_gdCons ?_
  | refine DL.w_c ?_ | refine DL.w_asL ?_ | refine DL.w_asU ?_ | refine DL.w_newL ?_ | refine DL.w_nil ?_ | refine DL.w_cons ?_ | refine DL.w_tup ?_ | refine DL.w_lst ?_ | refine DL.w_op ?_
  | refine DL.w_lenL ?_ | refine DL.w_lenD ?_ | refine DL.w_tupOf ?_ | refine DL.w_ifE ?_ | refine DL.w_cat ?_ | refine DL.w_rep ?_ | refine DL.w_call ?_ | refine DL.w_callP ?_
  | refine DL.w_xNil ?_ | refine DL.w_xCons ?_ | refine DL.w_all ?_ | refine DL.w_reprA ?_ | refine DL.w_isi ?_ | refine DL.w_andV ?_ | refine DL.w_newD ?_ | refine DL.w_dict0 ?_
  | refine DL.w_slD ?_ | refine DL.w_slU ?_ | refine DL.w_noP ?_ | refine DL.w_part ?_ | refine DL.w_listZip ?_ | refine DL.w_sortSI ?_ | refine DL.w_listRng ?_ | refine DL.w_setD ?_ | refine DL.w_dictL ?_ | refine DL.w_dictU ?_ | refine DL.w_disp ?_ | refine DL.w_psNil ?_ | refine DL.w_psCons ?_
  | refine DL.w_rng1 ?_ | refine DL.w_comp ?_ | refine DL.w_enum ?_ | refine DL.w_B ?_ | refine DL.w_and ?_ | refine DL.w_or ?_ | refine DL.w_not ?_ | refine DL.w_yes ?_
  | refine DL.w_par3 ?_ | refine DL.w_par3R ?_ | refine DL.w_par0L ?_ | refine DL.w_revL ?_ | refine DL.w_listQ ?_ | refine DL.w_star ?_ | refine DL.w_split ?_ | refine DL.w_intB ?_ | refine DL.w_dPutN ?_ | refine DL.w_dPutO ?_ | refine DL.w_listZipT ?_ | refine DL.w_callM ?_ | refine DL.w_inVar ?_ | refine DL.w_slS ?_ | refine DL.w_sortS ?_ | refine DL.w_dcomp ?_)
local macro_rules | `(tactic| walk_at "w2") => `(tactic| first
  | walk_at "w1"
  | ((with_reducible apply DL.w_var); (· rfl))
  | ((with_reducible apply DL.w_xDeck); (· rfl))
  | ((with_reducible apply DL.w_listO); (· rfl))
  | ((with_reducible apply DL.w_listD); (· rfl))
  | ((with_reducible apply DL.w_app); (· exact trivial))
  | ((with_reducible apply DL.w_popAt); (· exact trivial))
  | ((with_reducible apply DL.w_dGet); (· exact trivial))
  | ((with_reducible apply DL.w_listA); (· rfl))
  | ((with_reducible apply DL.w_ext); (· exact trivial))
  | ((with_reducible apply DL.w_dGetT); (· exact trivial))
  | ((with_reducible apply DL.w_xLast); (· exact trivial))
  | ((with_reducible apply DL.w_appA); (· rfl))
  | ((with_reducible apply DL.w_listDictO); (· rfl))
  | ((with_reducible apply DL.w_lenDictO); (· rfl))
  | ((with_reducible apply DL.w_catVarO); (· rfl))
  | ((with_reducible apply DL.w_catVarD); (· rfl))
  | ((with_reducible apply DL.w_tupLL); (· decide))
  | ((with_reducible apply DL.w_fzO); (· rfl))
  | ((with_reducible apply DL.w_fzD); (· rfl))
  | ((with_reducible apply DL.w_fz); (· rfl))
  | ((with_reducible apply DL.w_gdTup); (· rfl))
  | ((with_reducible refine And.intro ?_ ?_); (· first | rfl | exact True.intro | decide | (dsimp only [List.length_cons, List.length_nil]; decide)))
  | with_reducible refine DL.w_I0 ?_ | with_reducible refine DL.w_eqI ?_ | with_reducible refine DL.w_neI ?_ | with_reducible refine DL.w_isN ?_ | with_reducible refine DL.w_notN ?_)
local macro_rules | `(tactic| walk_at "w") => `(tactic| (repeat walk_at "w2"; try dsimp only [List.set_cons_zero, List.set_cons_succ, List.cons_append, List.nil_append, List.replicate_succ, List.replicate_zero]))
theorem noDict_tags : ∀ l : List Tag, PyData.hasDictAll (l.map tagD) = false
  | [] => by simp only [List.map_nil, PyData.hasDictAll]
  | p :: l => by
    have ih := noDict_tags l
    simp only [List.map_cons, PyData.hasDictAll, PyData.hasDict, ih, Bool.or_self]
theorem canLay_tags : ∀ l : List Tag, (∀ t, t ∈ l → PyData.strOk t.1 = true) → PyData.canLayAll0 (l.map tagD) = true
  | [], _ => rfl
  | p :: l, h => by
    have ih := canLay_tags l fun t ht => h t (List.mem_cons_of_mem _ ht)
    have hp := h p List.mem_cons_self
    simp only [List.map_cons, PyData.canLayAll0, PyData.canLay0, ih, hp, Bool.and_self]
theorem depth_tags : ∀ l : List Tag, PyData.depthAll (l.map tagD) ≤ 2
  | [] => by simp only [List.map_nil, PyData.depthAll]; omega
  | p :: l => by
    have ih := depth_tags l
    simp only [List.map_cons, PyData.depthAll, PyData.depth]
    omega
theorem shaped_tags (l : List Tag) (h : ∀ t, t ∈ l → PyData.strOk t.1 = true) : SeqAt.shaped (.list (l.map tagD)) = true := by
  have h1 := depth_tags l
  have h2 : PyData.depth (.list (l.map tagD)) ≤ 64 := by simp only [PyData.depth]; omega
  show (PyData.canLay0 (.list (l.map tagD)) && decide (PyData.depth (.list (l.map tagD)) ≤ 64)) = true
  rw [Bool.and_eq_true]
  exact ⟨by simp only [PyData.canLay0]; exact canLay_tags l h, decide_eq_true h2⟩
theorem eqv_tags : ∀ l : List Tag, PyData.eqv (.list (l.map tagD)) (.list []) = l.isEmpty
  | [] => by simp only [List.map_nil, PyData.eqv, PyData.eqvAll, List.isEmpty_nil]
  | p :: l => by simp only [List.map_cons, PyData.eqv, PyData.eqvAll, List.isEmpty_cons]
def fW : PyData → Bool
  | .tuple [.str _, .int c] => decide (0 < c)
  | _ => false
theorem filt_tags : ∀ l : List Tag, (l.map tagD).filter fW = (l.filter fun t => decide ((0 : Int) < (t.2 : Nat))).map tagD
  | [] => rfl
  | p :: l => by
    have ih := filt_tags l
    rw [List.map_cons, List.filter_cons, List.filter_cons, ih]
    show (if decide ((0 : Int) < (p.2 : Nat)) = true then _ else _) = _
    cases decide ((0 : Int) < (p.2 : Nat)) <;> rfl
abbrev voidT : Tag := ("void", 0)
structure RowsOk (ts : List Tag) (r : Sheet) : Prop where
  sg : ∀ w, w ∈ r → (w.1, w.2.length) ∈ ts ++ [voidT]
  cl : ∀ w, w ∈ r → ∀ f, f ∈ w.2 → f < r.length
  ne : 0 < r.length
  ln : r.length ≤ 25
def F_rows : FD := bodyD (dB_rows F_draw F_pick) 10
def fCh (name : Str) (many : Nat) : PyData → PyData
  | .int k => rowD (name, List.replicate many (k.toNat + 1))
  | _ => .none
theorem nats_rep (m k : Nat) : natsD (List.replicate m k) = List.replicate m (.int (k : Nat)) := by
  unfold natsD
  rw [List.map_replicate]
theorem rows_spec {ts : List Tag} (tg : TgOk ts) {n : Nat} {P : PyData → Nat → Prop} (hn : n + 100 ≤ 1000000) (h : ∀ r n', RowsOk ts r → n' ≤ n + 80 → P (shD r) n') : F_rows [.deck, .dat (tagsD ts)] n P := by
  have htl := tg.ln
  have htp := tg.p
  unfold F_rows bodyD dB_rows
  walk_at "w"
  refine ⟨by rw [List.length_map]; show _ + 1 ≤ _; omega, ?_⟩
  walk_at "w"
  refine w_draw (L := 6) (by omega) (by omega) (by omega) fun way hway => ?_
  walk_at "w"
  refine ⟨by rw [List.length_map]; omega, rfl, lc_filter fW (fun d hd Y Z hY hZ => ?_) ?_⟩
  · obtain ⟨t, ht, rfl⟩ := List.mem_map.mp hd
    walk_at "w"
    refine w_ixU rfl ?_
    walk_at "w"
    refine w_B0 ?_
    walk_at "w"
    refine w_ite (fun he => ?_) fun he => ?_
    · walk_at "w"
      exact hY he
    · exact ⟨rfl, hZ he⟩
  walk_at "w"
  rw [filt_tags]
  generalize hwd : (ts.filter fun t => decide ((0 : Int) < (t.2 : Nat))) = wide
  have hsub : ∀ t, t ∈ wide → t ∈ ts ∧ 0 < t.2 := fun t ht => by
    rw [← hwd] at ht
    obtain ⟨h1, h2⟩ := List.mem_filter.mp ht
    have := of_decide_eq_true h2
    exact ⟨h1, by omega⟩
  have hwl : wide.length ≤ ts.length := by
    rw [← hwd]
    exact List.length_filter_le _ _
  have hsome : ts.map tagD ++ [.tuple [.str "void", .int 0]] = (ts ++ [voidT]).map tagD := by
    rw [List.map_append]
    rfl
  rw [hsome]
  have hP1 : 1 ≤ (ts.map tagD).length := by rw [List.length_map]; exact htp
  have path2 : ∀ (c6 c7 c8 c9 c10 c11 : DV) (n1 : Nat), n1 ≤ n + 1 → dSeq (dSet (dOp (oI0 fun i j => i + j) (dC (.int 1)) (dCall 2 F_draw (xDeck 0 (xCons (dC (.int 12)) xNil)))) 8) (dSeq (dFor (dRng1 (dVar 8)) (gdN 9) (dSeq (dAsg (dCall 2 F_pick (xDeck 0 (xCons (dIfE (dB (dOp (oEq false) (dCall 2 F_draw (xDeck 0 (xCons (dC (.int 3)) xNil))) (dC (.int 0)))) (dVar 2) (dVar 1)) xNil))) (gdTup 2 (gdCons (gdN 6) (gdCons (gdN 7) gdNil)))) (dApp 4 (dTup (dCons (dVar 6) (dCons (dTupOf (dComp (dRng1 (dVar 7)) (gdN 11) dYes (dCall 2 F_draw (xDeck 0 (xCons (dVar 8) xNil))) [11])) dNil)))))) (dRet (dTupOf (dListVar 4)))) { nx := fun s => P .none s.n, rt := fun v s => P v s.n } ⟨[.deck, .dat (tagsD ts), .dat (.list ((ts ++ [voidT]).map tagD)), .dat (.int (way : Nat)), .own [], .dat (.list (wide.map tagD)), c6, c7, c8, c9, .un, .un], n1⟩ := by
    intro c6 c7 c8 c9 c10 c11 n1 hn1
    walk_at "w"
    refine w_draw (L := 12) (by omega) (by omega) (by omega) fun v hv => ?_
    have e1 : (1 : Int) + (v : Int) = ((v + 1 : Nat) : Int) := by omega
    walk_at "w"
    rw [e1]
    generalize hc : v + 1 = cnt
    refine ⟨by omega, by omega, ?_⟩
    rw [Int.toNat_natCast]
    refine loop_rem (fun ds s => ∃ (own : List LS.Row) (x6 x7 x9 : DV), s.sl = [.deck, .dat (tagsD ts), .dat (.list ((ts ++ [voidT]).map tagD)), .dat (.int (way : Nat)), .own (own.map rowD), .dat (.list (wide.map tagD)), x6, x7, .dat (.int (cnt : Nat)), x9, .un, .un] ∧ (∀ r, r ∈ own → (r.1, r.2.length) ∈ ts ++ [voidT]) ∧ (∀ r, r ∈ own → ∀ f, f ∈ r.2 → f < cnt) ∧ own.length + ds.length = cnt ∧ s.n + 5 * ds.length ≤ n + 76) (fun d ds s hJ N hN => ?_) (fun s hJ => ?_) _ _ ⟨[], _, _, _, rfl, (fun r hr => absurd hr List.not_mem_nil), (fun r hr => absurd hr List.not_mem_nil), by rw [rng_len]; simp, by rw [rng_len]; show n1 + 1 + 5 * cnt ≤ _; omega⟩
    · obtain ⟨own, x6, x7, x9, hs, h1, h2, h3, h4⟩ := hJ
      obtain ⟨sl, n2⟩ := s
      simp only at hs h4
      subst hs
      rw [List.length_cons] at h3 h4
      walk_at "w"
      refine w_draw (L := 3) (by omega) (by omega) (by omega) fun u hu => ?_
      walk_at "w"
      have go : ∀ (t : Tag), t ∈ ts ++ [voidT] → gdTup 2 (gdCons (gdN 6) (gdCons (gdN 7) gdNil)) (tagD t) (fun s1 => dApp 4 (dTup (dCons (dVar 6) (dCons (dTupOf (dComp (dRng1 (dVar 7)) (gdN 11) dYes (dCall 2 F_draw (xDeck 0 (xCons (dVar 8) xNil))) [11])) dNil))) { nx := N, rt := fun v s => P v s.n, bk := dRet (dTupOf (dListVar 4)) { nx := fun s => P .none s.n, rt := fun v s => P v s.n }, ct := N } s1) ⟨[.deck, .dat (tagsD ts), .dat (.list ((ts ++ [voidT]).map tagD)), .dat (.int (way : Nat)), .own (own.map rowD), .dat (.list (wide.map tagD)), x6, x7, .dat (.int (cnt : Nat)), .dat d, .un, .un], n2 + 1 + 1⟩ := by
        intro t ht
        have h3t : t.2 ≤ 3 := by
          rcases List.mem_append.mp ht with ht | ht
          · exact (tg.ok t ht).2
          · rw [List.mem_singleton.mp ht]
            exact Nat.zero_le _
        walk_at "w"
        refine ⟨by omega, by omega, ?_⟩
        rw [Int.toNat_natCast]
        refine ⟨by rw [rng_len]; omega, rfl, lc_all (fun y => ∃ u : Nat, u < cnt ∧ y = .int (u : Nat)) 1 (fun d hd m hm1 hm2 Y Z hY => ?_) fun ys m hl hR hm1 hm2 => ?_⟩
        · rw [rng_len] at hm2
          walk_at "w"
          refine w_T rfl ?_
          walk_at "w"
          refine w_draw (by omega) (by omega) (by omega) fun u hu => ⟨rfl, hY _ _ ⟨u, hu, rfl⟩ (Nat.le_succ _) (Nat.le_refl _)⟩
        · rw [rng_len] at hl hm2
          obtain ⟨fs, rfl, hfl, hf⟩ := nats_of hR
          walk_at "w"
          refine w_appK rfl (by rw [List.length_map]; omega) ?_
          refine hN _ ⟨own ++ [(t.1, fs)], _, _, _, by rw [show (own ++ [((t.1, fs) : LS.Row)]).map rowD = own.map rowD ++ [rowD (t.1, fs)] from List.map_append]; rfl, fun r hr => ?_, fun r hr => ?_, by rw [List.length_append, List.length_singleton]; omega, by show m + _ ≤ _; omega⟩
          · rcases List.mem_append.mp hr with hr | hr
            · exact h1 r hr
            · rw [List.mem_singleton.mp hr]
              show (t.1, fs.length) ∈ _
              rw [hfl, hl]
              exact ht
          · rcases List.mem_append.mp hr with hr | hr
            · exact h2 r hr
            · rw [List.mem_singleton.mp hr]
              exact hf
      refine w_ite (fun he => ?_) fun he => ?_
      · walk_at "w"
        refine pick_list (by omega) (by rw [List.length_map, List.length_append]; omega) (by rw [List.length_map, List.length_append, List.length_singleton]; omega) fun d2 hd2 => ?_
        obtain ⟨t, ht, rfl⟩ := List.mem_map.mp hd2
        exact go t ht
      · walk_at "w"
        refine pick_tup (by omega) hP1 (by rw [List.length_map]; omega) fun d2 hd2 => ?_
        obtain ⟨t, ht, rfl⟩ := List.mem_map.mp hd2
        exact go t (List.mem_append_left _ ht)
    · obtain ⟨own, x6, x7, x9, hs, h1, h2, h3, h4⟩ := hJ
      obtain ⟨sl, n2⟩ := s
      simp only at hs h4
      subst hs
      rw [List.length_nil, Nat.add_zero] at h3
      walk_at "w"
      exact h own n2 ⟨h1, by rw [h3]; exact h2, by omega, by omega⟩ (by omega)
  refine w_ite (fun he => ?_) fun he => ?_
  · walk_at "w"
    refine ⟨noDict_tags _, by decide, shaped_tags _ fun t ht => (tg.ok t (hsub t ht).1).1.so, by decide, ?_⟩
    walk_at "w"
    rw [eqv_tags]
    refine w_ite (fun he => ?_) fun he => ?_
    · have hw0 : 1 ≤ wide.length := by
        cases wide with
        | nil => cases he
        | cons t r => exact Nat.succ_le_succ (Nat.zero_le _)
      walk_at "w"
      refine pick_list (by omega) (by rw [List.length_map]; exact hw0) (by rw [List.length_map]; omega) fun d hd => ?_
      obtain ⟨t, ht, rfl⟩ := List.mem_map.mp hd
      obtain ⟨ht1, ht2⟩ := hsub t ht
      have ht3 := (tg.ok t ht1).2
      walk_at "w"
      refine w_draw (L := 23) (by omega) (by omega) (by omega) fun v hv => ?_
      have e1 : (1 : Int) + (v : Int) = ((v + 1 : Nat) : Int) := by omega
      have e2 : (1 : Int) + (v : Int) - 1 = ((v : Nat) : Int) := by omega
      walk_at "w"
      rw [e2, e1]
      refine ⟨by omega, by omega, ?_⟩
      rw [Int.toNat_natCast, rngD_nats]
      refine ⟨by simp [natsD]; omega, rfl, lc_map (fCh t.1 t.2) (fun d hd Y Z hY => ?_) ?_⟩
      · obtain ⟨k, hk, rfl⟩ := List.mem_map.mp hd
        walk_at "w"
        refine w_T rfl ?_
        walk_at "w"
        refine w_rep1 (by omega) ?_
        walk_at "w"
        have e3 : (k : Int) + 1 = ((k + 1 : Nat) : Int) := by omega
        rw [e3, ← nats_rep]
        exact hY
      · walk_at "w"
        refine pick_list (by omega) (show 1 ≤ 3 by omega) (show 3 < 1000000 by omega) fun d hd => ?_
        have hd' : d ∈ ([0, v + 1, v + 1] : List Nat).map fun c => PyData.int (c : Nat) := hd
        obtain ⟨x, hx, rfl⟩ := List.mem_map.mp hd'
        have hx1 : x ≤ v + 1 := by
          rcases List.mem_cons.mp hx with rfl | hx
          · omega
          · rcases List.mem_cons.mp hx with rfl | hx
            · omega
            · rw [List.mem_singleton.mp hx]
              omega
        walk_at "w"
        refine w_rep1 (by omega) ?_
        walk_at "w"
        refine ⟨by simp [natsD]; omega, ?_⟩
        walk_at "w"
        have e4 : (natsD (List.range v)).map (fCh t.1 t.2) ++ [.tuple [.str t.1, .tuple (List.replicate t.2 (.int (x : Nat)))], .tuple [.str "void", .tuple []]] = ((List.range v).map (fun k => ((t.1, List.replicate t.2 (k + 1)) : LS.Row)) ++ [(t.1, List.replicate t.2 x), ("void", [])]).map rowD := by
          rw [List.map_append, ← nats_rep]
          unfold natsD
          rw [List.map_map, List.map_map]
          rfl
        rw [e4]
        refine h _ _ ⟨fun w hw => ?_, fun w hw f hf => ?_, by simp, by simp; omega⟩ (by omega)
        · rcases List.mem_append.mp hw with hw | hw
          · obtain ⟨k, _, rfl⟩ := List.mem_map.mp hw
            rw [List.length_replicate]
            exact List.mem_append_left _ ht1
          · rcases List.mem_cons.mp hw with rfl | hw
            · rw [List.length_replicate]
              exact List.mem_append_left _ ht1
            · rw [List.mem_singleton.mp hw]
              exact List.mem_append_right _ (List.mem_singleton.mpr rfl)
        · rw [List.length_append, List.length_map, List.length_range]
          show f < v + 2
          rcases List.mem_append.mp hw with hw | hw
          · obtain ⟨k, hk, rfl⟩ := List.mem_map.mp hw
            rw [List.eq_of_mem_replicate hf]
            have := List.mem_range.mp hk
            omega
          · rcases List.mem_cons.mp hw with rfl | hw
            · rw [List.eq_of_mem_replicate hf]
              omega
            · rw [List.mem_singleton.mp hw] at hf
              exact absurd hf List.not_mem_nil
    · exact path2 _ _ _ _ .un .un _ (Nat.le_refl _)
  · walk_at "w"
    refine w_F rfl ?_
    exact path2 _ _ _ _ .un .un _ (Nat.le_refl _)
end K07

set_option Elab.async false
set_option linter.all false
set_option maxRecDepth 100000
set_option maxHeartbeats 4000000
/-! U07k: copies, by data. -/
namespace K07
open PySem PySem.Spec PyProof.Rows L2 GG DD PT DL LS
set_option simprocs false
local macro_rules | `(tactic| walk_at "w1") => `(tactic| with_reducible first
  | refine DL.w_seq ?_ | refine DL.w_next ?_ | refine DL.w_set ?_ | refine DL.w_setO ?_ | refine DL.w_if ?_ | refine DL.w_ret ?_ | refine DL.w_drop ?_
  | refine DL.w_par ?_ | refine DL.w_parL ?_ | refine DL.w_parR ?_ | refine DL.w_parLL ?_ | refine DL.w_asg ?_ | refine DL.w_for ?_ | refine DL.w_vsNil ?_ | refine DL.w_dIn ?_ | refine DL.w_dPut ?_
  | refine DL.w_gdN ?_ | refine DL.w_gdNil ?_ | refine DL.w_gdCons ?_
  | refine DL.w_c ?_ | refine DL.w_asL ?_ | refine DL.w_asU ?_ | refine DL.w_newL ?_ | refine DL.w_nil ?_ | refine DL.w_cons ?_ | refine DL.w_tup ?_ | refine DL.w_lst ?_ | refine DL.w_op ?_
  | refine DL.w_lenL ?_ | refine DL.w_lenD ?_ | refine DL.w_tupOf ?_ | refine DL.w_ifE ?_ | refine DL.w_cat ?_ | refine DL.w_rep ?_ | refine DL.w_call ?_ | refine DL.w_callP ?_
  | refine DL.w_xNil ?_ | refine DL.w_xCons ?_ | refine DL.w_all ?_ | refine DL.w_reprA ?_ | refine DL.w_isi ?_ | refine DL.w_andV ?_ | refine DL.w_newD ?_ | refine DL.w_dict0 ?_
  | refine DL.w_slD ?_ | refine DL.w_slU ?_ | refine DL.w_noP ?_ | refine DL.w_part ?_ | refine DL.w_listZip ?_ | refine DL.w_sortSI ?_ | refine DL.w_listRng ?_ | refine DL.w_setD ?_ | refine DL.w_dictL ?_ | refine DL.w_dictU ?_ | refine DL.w_disp ?_ | refine DL.w_psNil ?_ | refine DL.w_psCons ?_
  | refine DL.w_rng1 ?_ | refine DL.w_comp ?_ | refine DL.w_enum ?_ | refine DL.w_B ?_ | refine DL.w_and ?_ | refine DL.w_or ?_ | refine DL.w_not ?_ | refine DL.w_yes ?_
  | refine DL.w_par3 ?_ | refine DL.w_par3R ?_ | refine DL.w_par0L ?_ | refine DL.w_revL ?_ | refine DL.w_listQ ?_ | refine DL.w_star ?_ | refine DL.w_split ?_ | refine DL.w_intB ?_ | refine DL.w_dPutN ?_ | refine DL.w_dPutO ?_ | refine DL.w_listZipT ?_ | refine DL.w_callM ?_ | refine DL.w_inVar ?_ | refine DL.w_slS ?_ | refine DL.w_sortS ?_ | refine DL.w_dcomp ?_)
local macro_rules | `(tactic| walk_at "w2") => `(tactic| first
  | walk_at "w1"
  | ((with_reducible apply DL.w_var); (· rfl))
  | ((with_reducible apply DL.w_xDeck); (· rfl))
  | ((with_reducible apply DL.w_listO); (· rfl))
  | ((with_reducible apply DL.w_listD); (· rfl))
  | ((with_reducible apply DL.w_app); (· exact trivial))
  | ((with_reducible apply DL.w_popAt); (· exact trivial))
  | ((with_reducible apply DL.w_dGet); (· exact trivial))
  | ((with_reducible apply DL.w_listA); (· rfl))
  | ((with_reducible apply DL.w_ext); (· exact trivial))
  | ((with_reducible apply DL.w_dGetT); (· exact trivial))
  | ((with_reducible apply DL.w_xLast); (· exact trivial))
  | ((with_reducible apply DL.w_appA); (· rfl))
  | ((with_reducible apply DL.w_listDictO); (· rfl))
  | ((with_reducible apply DL.w_lenDictO); (· rfl))
  | ((with_reducible apply DL.w_catVarO); (· rfl))
  | ((with_reducible apply DL.w_catVarD); (· rfl))
  | ((with_reducible apply DL.w_tupLL); (· decide))
  | ((with_reducible apply DL.w_fzO); (· rfl))
  | ((with_reducible apply DL.w_fzD); (· rfl))
  | ((with_reducible apply DL.w_fz); (· rfl))
  | ((with_reducible apply DL.w_gdTup); (· rfl))
  | ((with_reducible refine And.intro ?_ ?_); (· first | rfl | exact True.intro | decide | (dsimp only [List.length_cons, List.length_nil]; decide)))
  | with_reducible refine DL.w_I0 ?_ | with_reducible refine DL.w_eqI ?_ | with_reducible refine DL.w_neI ?_ | with_reducible refine DL.w_isN ?_ | with_reducible refine DL.w_notN ?_)
local macro_rules | `(tactic| walk_at "w") => `(tactic| (repeat walk_at "w2"; try dsimp only [List.set_cons_zero, List.set_cons_succ, List.cons_append, List.nil_append, List.replicate_succ, List.replicate_zero]))
/-- what copies there are -/
structure CopyOf (r q : Sheet) (spots : List Nat) : Prop where
  len : q.length = spots.length
  z : spots[0]? = some 0
  row : ∀ (i : Nat) (w : LS.Row), q[i]? = some w → ∃ k, spots[i]? = some k ∧ k < r.length ∧ w.1 = (rowAt r k).1 ∧ F2 (fun f g => spots[f]? = some g) w.2 (rowAt r k).2
  ln : q.length ≤ 61
theorem copy_row {r q : Sheet} {spots : List Nat} (h : CopyOf r q spots) {i : Nat} (hi : i < q.length) : ∃ k, spots[i]? = some k ∧ k < r.length ∧ (rowAt q i).1 = (rowAt r k).1 ∧ F2 (fun f g => spots[f]? = some g) (rowAt q i).2 (rowAt r k).2 := h.row i _ (row_some hi)
theorem copy_cl {r q : Sheet} {spots : List Nat} (h : CopyOf r q spots) : Cl q := fun i hi f hf => by
  obtain ⟨k, h1, h2, h3, h4⟩ := copy_row h hi
  obtain ⟨j, hj⟩ := List.mem_iff_getElem?.mp hf
  obtain ⟨g, _, hg⟩ := h4.at hj
  rw [h.len]
  exact (List.getElem?_eq_some_iff.mp hg).1
theorem copy_pos {r q : Sheet} {spots : List Nat} (h : CopyOf r q spots) : 0 < q.length := by
  rw [h.len]
  exact (List.getElem?_eq_some_iff.mp h.z).1
theorem copy_bis {r q : Sheet} {spots : List Nat} (h : CopyOf r q spots) : Bis (gr q) (gr r) 0 0 :=
  ⟨fun i k => i < q.length ∧ spots[i]? = some k, ⟨copy_pos h, h.z⟩, fun i k ⟨hi, e⟩ => by
    obtain ⟨k', h1, h2, h3, h4⟩ := copy_row h hi
    rw [h1] at e
    cases e
    exact ⟨hi, h2, h3, h4.monoMem fun f g hf hg z => ⟨copy_cl h i hi f hf, z⟩⟩⟩
theorem erase_map {α β : Type} (f : α → β) (l : List α) (v : Nat) : (l.map f).eraseIdx v = (l.eraseIdx v).map f := by
  rw [List.eraseIdx_eq_take_drop_succ, List.eraseIdx_eq_take_drop_succ, List.map_append, List.map_take, List.map_drop]
def F_copies : FD := bodyD (dB_copies F_pick F_draw) 7
def fSp (spots : List Nat) (f : Nat) : PyData → Bool
  | .int j => decide (((spots.getD j.toNat 0 : Nat) : Int) = (f : Nat))
  | _ => false
theorem copies_spec {r : Sheet} (ok : ShOk r) (hln : r.length ≤ 30) (h3 : ∀ k, k < r.length → (rowAt r k).2.length ≤ 3) {n : Nat} {P : PyData → Nat → Prop} (hn : n + 400 ≤ 1000000) (h : ∀ q spots n', CopyOf r q spots → n' ≤ n + 300 → P (shD q) n') : F_copies [.deck, .dat (shD r)] n P := by
  have hne := ok.ne
  unfold F_copies bodyD dB_copies
  walk_at "w"
  rw [List.length_map]
  refine ⟨by omega, by omega, ?_⟩
  rw [Int.toNat_natCast, rngD_nats]
  have hcx : ∃ c : Nat, 1 ≤ c ∧ c ≤ 4 ∧ c * r.length ≤ 60 ∧ atI [PyData.int 4, PyData.int 2] (if decide ((15 : Int) < (r.length : Nat)) then 1 else 0) = some (.int (c : Nat)) := by
    by_cases hb : (15 : Int) < (r.length : Nat)
    · rw [decide_eq_true hb]
      exact ⟨2, by omega, by omega, by omega, rfl⟩
    · rw [decide_eq_false hb]
      exact ⟨4, by omega, by omega, by omega, rfl⟩
  obtain ⟨c, hc1, hc4, hcr, hat⟩ := hcx
  refine loop_done (fun done s => ∃ (a L : List Nat) (c4 : DV), done = natsD a ∧ s.sl = [.deck, .dat (shD r), .own (natsD [0]), .own (natsD L), c4, .un, .un, .un, .un] ∧ (∀ k, k ∈ a → 0 < k → k ∈ L) ∧ (∀ x, x ∈ L → x < r.length) ∧ L.length ≤ c * a.length ∧ s.n ≤ n + a.length) (fun done d rest s e hJ N hN => ?_) (fun s hJ => ?_) ⟨[], [], .un, rfl, rfl, (fun k hk => absurd hk List.not_mem_nil), (fun k hk => absurd hk List.not_mem_nil), Nat.zero_le _, Nat.le_refl _⟩
  · obtain ⟨a, L, c4, rfl, hs, g1, g2, g3, g4⟩ := hJ
    obtain ⟨sl, n1⟩ := s
    simp only at hs g4
    subst hs
    obtain ⟨a', k, b, e1, rfl, e2⟩ := nats_done e
    cases natsD_inj e1
    obtain ⟨hk, hka, hal⟩ := range_mid e2
    have hcl : c * a.length ≤ c * r.length := Nat.mul_le_mul_left _ hal
    walk_at "w"
    refine w_B0 ?_
    walk_at "w"
    rw [List.length_map]
    refine w_B0 ?_
    walk_at "w"
    refine w_ixL hat ?_
    walk_at "w"
    refine w_draw (by omega) hc1 (by omega) fun v hv => ?_
    walk_at "w"
    have e3 : (if decide ((0 : Int) < (k : Nat)) then (1 : Int) else 0) + (v : Int) = (((if 0 < k then 1 else 0) + v : Nat) : Int) := by
      by_cases hz : 0 < k
      · rw [if_pos (by rw [decide_eq_true_eq]; omega), if_pos hz]
        omega
      · rw [if_neg (by rw [decide_eq_true_eq]; omega), if_neg hz]
        omega
    rw [e3]
    generalize hm : (if 0 < k then 1 else 0) + v = m
    have hm4 : m ≤ c := by
      rw [← hm]
      split <;> omega
    have hmk : 0 < k → 0 < m := fun z => by
      rw [← hm, if_pos z]
      omega
    refine ⟨by omega, by omega, by show 1 * _ ≤ _; omega, ?_⟩
    walk_at "w"
    rw [Int.toNat_natCast, rep_one, ← nats_rep]
    refine ⟨by simp [natsD]; omega, ?_⟩
    walk_at "w"
    refine hN _ ⟨a ++ [k], L ++ List.replicate m k, .dat (.int (k : Nat)), natsD_snoc _ _, ?_, fun x hx hx0 => ?_, fun x hx => ?_, ?_, ?_⟩
    · unfold natsD
      rw [List.map_append]
    · rcases List.mem_append.mp hx with hx | hx
      · exact List.mem_append_left _ (g1 x hx hx0)
      · rw [List.mem_singleton] at hx
        subst hx
        exact List.mem_append_right _ (List.mem_replicate.mpr ⟨by have := hmk hx0; omega, rfl⟩)
    · rcases List.mem_append.mp hx with hx | hx
      · exact g2 x hx
      · rw [List.eq_of_mem_replicate hx]
        exact hk
    · rw [List.length_append, List.length_append, List.length_singleton, List.length_replicate, Nat.mul_add, Nat.mul_one]
      omega
    · show n1 + 1 ≤ _
      rw [List.length_append, List.length_singleton]
      omega
  · obtain ⟨a, L, c4, e1, hs, g1, g2, g3, g4⟩ := hJ
    obtain ⟨sl, n1⟩ := s
    simp only at hs g4
    subst hs
    cases natsD_inj e1
    rw [List.length_range] at g3 g4
    have hL : L.length ≤ 60 := Nat.le_trans g3 hcr
    walk_at "w"
    refine w_while (fun c s => ∃ old left : List Nat, s.sl = [.deck, .dat (shD r), .own (natsD old), .own (natsD left), c4, .un, .un, .un, .un] ∧ left.length = c ∧ (∀ k, k < r.length → k ∈ old ∨ k ∈ left) ∧ (∀ k, k ∈ old → k < r.length) ∧ (∀ k, k ∈ left → k < r.length) ∧ old[0]? = some 0 ∧ old.length + left.length ≤ 61 ∧ s.n + left.length ≤ n + 100) ⟨L.length, [0], L, rfl, rfl, fun k hk => ?_, fun k hk => ?_, g2, rfl, by show 1 + _ ≤ _; omega, by show n1 + _ ≤ _; omega⟩ fun c s hI => ?_
    · rcases Nat.eq_zero_or_pos k with z | z
      · exact .inl (List.mem_singleton.mpr z)
      · exact .inr (g1 k (List.mem_range.mpr hk) z)
    · rw [List.mem_singleton.mp hk]
      exact hne
    obtain ⟨old, left, hs, h1, h2, h4, h5, h6, h7, h8⟩ := hI
    obtain ⟨sl, n2⟩ := s
    simp only at hs h8
    subst hs
    walk_at "w"
    refine ⟨noDict_nats _, shaped_nats _, ?_⟩
    refine w_ite (fun ht => ?_) fun hf => ?_
    · walk_at "w"
      rw [List.length_map]
      have hl0 : 0 < left.length := by
        cases left with
        | nil => cases ht
        | cons x r => exact Nat.succ_pos _
      refine w_draw (by omega) (by omega) (by omega) fun v hv => ?_
      refine w_popK (d := .int (left[v] : Nat)) rfl (by rw [List.length_map]; omega) (by rw [List.getElem?_map, List.getElem?_eq_getElem hv]; rfl) ?_
      refine w_appK rfl (by rw [List.length_map]; omega) ?_
      have hle : (left.eraseIdx v).length = left.length - 1 := List.length_eraseIdx_of_lt hv
      refine ⟨left.length - 1, by omega, old ++ [left[v]], left.eraseIdx v, ?_, hle, fun k hk => ?_, fun k hk => ?_, fun k hk => h5 k (of_erase hk), ?_, by rw [List.length_append, hle, List.length_singleton]; omega, by rw [hle]; show n2 + 1 + _ ≤ _; omega⟩
      · show [DV.deck, _, _, DV.own ((natsD left).eraseIdx v), _, _, _, _, _] = _
        rw [erase_map, natsD, natsD, List.map_append]
        rfl
      · rcases h2 k hk with z | z
        · exact .inl (List.mem_append_left _ z)
        · rcases mem_erase hv z with z | z
          · exact .inl (List.mem_append_right _ (by rw [z]; exact List.mem_singleton.mpr rfl))
          · exact .inr z
      · rcases List.mem_append.mp hk with hk | hk
        · exact h4 k hk
        · rw [List.mem_singleton.mp hk]
          exact h5 _ (List.getElem_mem hv)
      · rw [List.getElem?_append_left (List.getElem?_eq_some_iff.mp h6).1]
        exact h6
    · have hl0 : left = [] := by
        cases left with
        | nil => rfl
        | cons x r => cases hf
      subst hl0
      have h2' : ∀ k, k < r.length → k ∈ old := fun k hk => (h2 k hk).elim id fun z => absurd z List.not_mem_nil
      rw [List.length_nil, Nat.add_zero] at h7 h8
      walk_at "w"
      refine loop_done (fun done s => ∃ (D : List Nat) (q : Sheet) (x4 x6 : DV), done = natsD D ∧ s.sl = [.deck, .dat (shD r), .dat (.list (natsD old)), .own [], x4, .own (q.map rowD), x6, .un, .un] ∧ q.length = D.length ∧ (∀ (i : Nat) (w : LS.Row), q[i]? = some w → ∃ k, D[i]? = some k ∧ k < r.length ∧ w.1 = (rowAt r k).1 ∧ F2 (fun f g => old[f]? = some g) w.2 (rowAt r k).2) ∧ s.n ≤ n + 100 + 3 * D.length) (fun done d rest s e hJ N hN => ?_) (fun s hJ => ?_) ⟨[], [], _, _, rfl, rfl, rfl, (fun i w hw => by rw [List.getElem?_nil] at hw; cases hw), by show n2 ≤ _; omega⟩
      · obtain ⟨D, q, x4, x6, rfl, hs, j1, j2, j3⟩ := hJ
        obtain ⟨sl, n3⟩ := s
        simp only at hs j3
        subst hs
        obtain ⟨D', k, b, e1, rfl, e2⟩ := nats_done e
        cases natsD_inj e1
        have hkm : k ∈ old := by rw [e2]; simp
        have hk := h4 k hkm
        have hk3 := h3 k hk
        have hDl : D.length ≤ old.length := by rw [e2, List.length_append]; omega
        walk_at "w"
        refine w_ixU (atI_nat (row_get hk)) ?_
        walk_at "w"
        refine w_ixU rfl ?_
        walk_at "w"
        refine ⟨by simp [natsD]; omega, rfl, lc_two (fun d y => ∃ f g : Nat, d = .int (f : Nat) ∧ y = .int (g : Nat) ∧ old[g]? = some f) 1 (fun d hd m hm Y Z hY => ?_) fun ys m hys hm => ?_⟩
        · obtain ⟨f, hf, rfl⟩ := List.mem_map.mp hd
          have hfr := ok.cl k hk f hf
          rw [List.length_map] at hm
          walk_at "w"
          refine w_T rfl ?_
          walk_at "w"
          rw [List.length_map]
          refine ⟨by omega, by omega, ?_⟩
          rw [Int.toNat_natCast, rngD_nats]
          refine ⟨by simp [natsD]; omega, rfl, lc_filter (fSp old f) (fun d hd Y2 Z2 hY2 hZ2 => ?_) ?_⟩
          · obtain ⟨j, hj, rfl⟩ := List.mem_map.mp hd
            have hj := List.mem_range.mp hj
            have e3 : old[j]? = some old[j] := List.getElem?_eq_getElem hj
            have eD : old.getD j 0 = old[j] := by rw [List.getD_eq_getElem?_getD, e3]; rfl
            have eF : fSp old f (.int (j : Nat)) = decide ((old[j] : Int) = (f : Nat)) := by
              show decide (((old.getD j 0 : Nat) : Int) = (f : Nat)) = _
              rw [eD]
            walk_at "w"
            refine w_ixVarD rfl ?_
            walk_at "w"
            refine ⟨.int (old[j] : Nat), atI_nat (by unfold natsD; rw [List.getElem?_map, e3]; rfl), ?_⟩
            walk_at "w"
            refine w_ite (fun he => ?_) fun he => ?_
            · walk_at "w"
              exact hY2 (eF.trans he)
            · exact ⟨rfl, hZ2 (eF.trans he)⟩
          · walk_at "w"
            have ef := filt_nats (q := fun j => decide (((old.getD j 0 : Nat) : Int) = (f : Nat))) (p := fSp old f) (fun k => rfl) (List.range old.length)
            rw [ef]
            obtain ⟨i0, hi0⟩ := List.mem_iff_getElem?.mp (h2' f hfr)
            have hpos : i0 ∈ (List.range old.length).filter fun j => decide (((old.getD j 0 : Nat) : Int) = (f : Nat)) := List.mem_filter.mpr ⟨List.mem_range.mpr (List.getElem?_eq_some_iff.mp hi0).1, by
              rw [List.getD_eq_getElem?_getD, hi0]
              exact decide_eq_true rfl⟩
            have hfl := List.length_filter_le (fun j => decide (((old.getD j 0 : Nat) : Int) = (f : Nat))) (List.range old.length)
            rw [List.length_range] at hfl
            refine pick_list (by omega) (by rw [List.length_map]; exact List.length_pos_of_mem hpos) (by rw [List.length_map]; omega) fun d hd => ⟨rfl, ?_⟩
            obtain ⟨g, hg, rfl⟩ := List.mem_map.mp hd
            obtain ⟨hg1, hg2⟩ := List.mem_filter.mp hg
            have hg1 := List.mem_range.mp hg1
            have hg2 := of_decide_eq_true hg2
            refine hY _ _ ⟨f, g, rfl, rfl, ?_⟩ (Nat.le_refl _)
            rw [List.getD_eq_getElem?_getD, List.getElem?_eq_getElem hg1] at hg2
            rw [List.getElem?_eq_getElem hg1]
            have : old[g] = f := by
              have z : ((old[g] : Nat) : Int) = (f : Nat) := hg2
              omega
            rw [this]
        · rw [List.length_map] at hm
          have hgs : ∀ {xs : List Nat} {ys : List PyData}, F2 (fun d y => ∃ f g : Nat, d = .int (f : Nat) ∧ y = .int (g : Nat) ∧ old[g]? = some f) (natsD xs) ys → ∃ gs : List Nat, ys = natsD gs ∧ F2 (fun g f => old[g]? = some f) gs xs := by
            intro xs
            induction xs with
            | nil =>
              intro ys h
              cases h
              exact ⟨[], rfl, .nil⟩
            | cons x xs ih =>
              intro ys h
              rw [natsD, List.map_cons] at h
              cases h with
              | cons h t =>
                obtain ⟨f, g, ef, rfl, hg⟩ := h
                have : x = f := by
                  have z : ((x : Nat) : Int) = (f : Nat) := PyData.int.inj ef
                  omega
                subst this
                obtain ⟨gs, rfl, t2⟩ := ih t
                exact ⟨g :: gs, rfl, .cons hg t2⟩
          obtain ⟨gs, rfl, hF⟩ := hgs hys
          walk_at "w"
          refine w_ixU (atI_nat (row_get hk)) ?_
          walk_at "w"
          refine w_ixU rfl ?_
          walk_at "w"
          refine w_appK rfl (by rw [List.length_map, j1]; omega) ?_
          refine hN _ ⟨D ++ [k], q ++ [((rowAt r k).1, gs)], _, _, natsD_snoc _ _, by rw [show (q ++ [(((rowAt r k).1, gs) : LS.Row)]).map rowD = q.map rowD ++ [rowD ((rowAt r k).1, gs)] from List.map_append]; rfl, by rw [List.length_append, List.length_append, j1]; rfl, fun i w hw => ?_, by show m ≤ _; rw [List.length_append, List.length_singleton]; omega⟩
          rcases Nat.lt_trichotomy i q.length with z | z | z
          · rw [List.getElem?_append_left z] at hw
            obtain ⟨k', p1, p2⟩ := j2 i w hw
            exact ⟨k', by rw [List.getElem?_append_left (List.getElem?_eq_some_iff.mp p1).1]; exact p1, p2⟩
          · subst z
            rw [List.getElem?_append_right (Nat.le_refl _), Nat.sub_self] at hw
            cases hw
            exact ⟨k, by rw [j1, List.getElem?_append_right (Nat.le_refl _), Nat.sub_self]; rfl, hk, rfl, hF⟩
          · rw [List.getElem?_eq_none (by rw [List.length_append]; show q.length + 1 ≤ i; omega)] at hw
            cases hw
      · obtain ⟨D, q, x4, x6, e1, hs, j1, j2, j3⟩ := hJ
        obtain ⟨sl, n3⟩ := s
        simp only at hs j3
        subst hs
        cases natsD_inj e1
        walk_at "w"
        exact h q old n3 ⟨j1, h6, j2, by omega⟩ (by omega)
end K07

set_option Elab.async false
set_option linter.all false
set_option maxRecDepth 100000
set_option maxHeartbeats 4000000
/-! U07l: the law, by data. -/
namespace K07
open PySem PySem.Spec PyProof.Rows L2 GG DD PT DL LS
set_option simprocs false
local macro_rules | `(tactic| walk_at "w1") => `(tactic| with_reducible first
  | refine DL.w_seq ?_ | refine DL.w_next ?_ | refine DL.w_set ?_ | refine DL.w_setO ?_ | refine DL.w_if ?_ | refine DL.w_ret ?_ | refine DL.w_drop ?_
  | refine DL.w_par ?_ | refine DL.w_parL ?_ | refine DL.w_parR ?_ | refine DL.w_parLL ?_ | refine DL.w_asg ?_ | refine DL.w_for ?_ | refine DL.w_vsNil ?_ | refine DL.w_dIn ?_ | refine DL.w_dPut ?_
  | refine DL.w_gdN ?_ | refine DL.w_gdNil ?_ | refine DL.w_gdCons ?_
  | refine DL.w_c ?_ | refine DL.w_asL ?_ | refine DL.w_asU ?_ | refine DL.w_newL ?_ | refine DL.w_nil ?_ | refine DL.w_cons ?_ | refine DL.w_tup ?_ | refine DL.w_lst ?_ | refine DL.w_op ?_
  | refine DL.w_lenL ?_ | refine DL.w_lenD ?_ | refine DL.w_tupOf ?_ | refine DL.w_ifE ?_ | refine DL.w_cat ?_ | refine DL.w_rep ?_ | refine DL.w_call ?_ | refine DL.w_callP ?_
  | refine DL.w_xNil ?_ | refine DL.w_xCons ?_ | refine DL.w_all ?_ | refine DL.w_reprA ?_ | refine DL.w_isi ?_ | refine DL.w_andV ?_ | refine DL.w_newD ?_ | refine DL.w_dict0 ?_
  | refine DL.w_slD ?_ | refine DL.w_slU ?_ | refine DL.w_noP ?_ | refine DL.w_part ?_ | refine DL.w_listZip ?_ | refine DL.w_sortSI ?_ | refine DL.w_listRng ?_ | refine DL.w_setD ?_ | refine DL.w_dictL ?_ | refine DL.w_dictU ?_ | refine DL.w_disp ?_ | refine DL.w_psNil ?_ | refine DL.w_psCons ?_
  | refine DL.w_rng1 ?_ | refine DL.w_comp ?_ | refine DL.w_enum ?_ | refine DL.w_B ?_ | refine DL.w_and ?_ | refine DL.w_or ?_ | refine DL.w_not ?_ | refine DL.w_yes ?_
  | refine DL.w_par3 ?_ | refine DL.w_par3R ?_ | refine DL.w_par0L ?_ | refine DL.w_revL ?_ | refine DL.w_listQ ?_ | refine DL.w_star ?_ | refine DL.w_split ?_ | refine DL.w_intB ?_ | refine DL.w_dPutN ?_ | refine DL.w_dPutO ?_ | refine DL.w_listZipT ?_ | refine DL.w_callM ?_ | refine DL.w_inVar ?_ | refine DL.w_slS ?_ | refine DL.w_sortS ?_ | refine DL.w_dcomp ?_)
local macro_rules | `(tactic| walk_at "w2") => `(tactic| first
  | walk_at "w1"
  | ((with_reducible apply DL.w_var); (· rfl))
  | ((with_reducible apply DL.w_xDeck); (· rfl))
  | ((with_reducible apply DL.w_listO); (· rfl))
  | ((with_reducible apply DL.w_listD); (· rfl))
  | ((with_reducible apply DL.w_app); (· exact trivial))
  | ((with_reducible apply DL.w_popAt); (· exact trivial))
  | ((with_reducible apply DL.w_dGet); (· exact trivial))
  | ((with_reducible apply DL.w_listA); (· rfl))
  | ((with_reducible apply DL.w_ext); (· exact trivial))
  | ((with_reducible apply DL.w_dGetT); (· exact trivial))
  | ((with_reducible apply DL.w_xLast); (· exact trivial))
  | ((with_reducible apply DL.w_appA); (· rfl))
  | ((with_reducible apply DL.w_listDictO); (· rfl))
  | ((with_reducible apply DL.w_lenDictO); (· rfl))
  | ((with_reducible apply DL.w_catVarO); (· rfl))
  | ((with_reducible apply DL.w_catVarD); (· rfl))
  | ((with_reducible apply DL.w_tupLL); (· decide))
  | ((with_reducible apply DL.w_fzO); (· rfl))
  | ((with_reducible apply DL.w_fzD); (· rfl))
  | ((with_reducible apply DL.w_fz); (· rfl))
  | ((with_reducible apply DL.w_gdTup); (· rfl))
  | ((with_reducible refine And.intro ?_ ?_); (· first | rfl | exact True.intro | decide | (dsimp only [List.length_cons, List.length_nil]; decide)))
  | with_reducible refine DL.w_I0 ?_ | with_reducible refine DL.w_eqI ?_ | with_reducible refine DL.w_neI ?_ | with_reducible refine DL.w_isN ?_ | with_reducible refine DL.w_notN ?_)
local macro_rules | `(tactic| walk_at "w") => `(tactic| (repeat walk_at "w2"; try dsimp only [List.set_cons_zero, List.set_cons_succ, List.cons_append, List.nil_append, List.replicate_succ, List.replicate_zero]))
theorem val_small {D : Nat} : ∀ k : Nat, k < 100 → Val D 10 (.int (k : Nat)) := by
  have h : ∀ k : Nat, k < 100 → (PyData.int (k : Nat)).showable = true ∧ (PyData.int (k : Nat)).leavesShort 40 = true ∧ (PyData.int (k : Nat)).weight ≤ 10 := by decide +kernel
  intro k hk
  exact ⟨(h k hk).1, (h k hk).2.1, by simp only [PyData.depth]; omega, (h k hk).2.2⟩
/-- a small sheet -/
structure Sm (q : Sheet) : Prop where
  ne : 0 < q.length
  ln : q.length ≤ 64
  tg : ∀ w, w ∈ q → (PyData.str w.1).leavesShort 40 = true ∧ w.1.cps.size ≤ 8
  fl : ∀ w, w ∈ q → w.2.length ≤ 3
  cl : ∀ w, w ∈ q → ∀ f, f ∈ w.2 → f < q.length
theorem Sm.ok {q : Sheet} (h : Sm q) : ShOk q := ⟨fun k hk f hf => h.cl _ (row_mem hk) f hf, h.ne, by have := h.ln; omega, fun k hk => by have := h.fl _ (row_mem hk); omega⟩
theorem val_row {q : Sheet} (h : Sm q) {w : LS.Row} (hw : w ∈ q) : Val 2 45 (rowD w) := by
  have hfl := h.fl w hw
  have hln := h.ln
  have z : Vals' 0 (w.2.length * 11) (natsD w.2) := by
    have y := vals_all (D := 0) (V := 10) (ds := natsD w.2) fun d hd => by
      obtain ⟨f, hf, rfl⟩ := List.mem_map.mp hd
      exact val_small f (by have := h.cl w hw f hf; omega)
    rw [natsD, List.length_map] at y
    exact y
  exact (vT2 (val_str (D := 0) (W := 8) (h.tg w hw).1 (h.tg w hw).2) (val_tup z)).mono (by omega) (by omega)
theorem val_sh {q : Sheet} (h : Sm q) : Val 3 3000 (shD q) := by
  have y := vals_all (D := 2) (V := 45) (ds := q.map rowD) fun d hd => by
    obtain ⟨w, hw, rfl⟩ := List.mem_map.mp hd
    exact val_row h hw
  rw [List.length_map] at y
  have hln := h.ln
  exact (val_tup y).mono (by omega) (by omega)
theorem Sm.shows {q : Sheet} (h : Sm q) : Shows (shD q) := (val_sh h).shows (by omega) (by decide)
/-! ### sheets of one value -/
theorem rows_sm {ts : List Tag} (tg : TgOk ts) {r : Sheet} (h : RowsOk ts r) : Sm r ∧ Ar r ∧ ∀ k, k < r.length → (rowAt r k).2.length ≤ 3 := by
  have vt : (PyData.str "void").leavesShort 40 = true ∧ ("void" : Str).cps.size ≤ 8 := by decide
  have key : ∀ w, w ∈ r → ((PyData.str w.1).leavesShort 40 = true ∧ w.1.cps.size ≤ 8) ∧ w.2.length ≤ 3 := fun w hw => by
    rcases List.mem_append.mp (h.sg w hw) with z | z
    · have z2 := tg.ok _ z
      exact ⟨⟨z2.1.lv, z2.1.sz⟩, z2.2⟩
    · have z := Prod.mk.inj (List.mem_singleton.mp z)
      rw [z.1, z.2]
      exact ⟨vt, by omega⟩
  refine ⟨⟨h.ne, by have := h.ln; omega, fun w hw => (key w hw).1, fun w hw => (key w hw).2, h.cl⟩, fun j k hj hk e => ?_, fun k hk => (key _ (row_mem hk)).2⟩
  have uniq : ∀ {l : List Tag} {x : Str} {a b : Nat}, (l.map (·.1)).Nodup → (x, a) ∈ l → (x, b) ∈ l → a = b := by
    intro l x a b hn ha hb
    induction l with
    | nil => exact absurd ha List.not_mem_nil
    | cons t l ih =>
      rw [List.map_cons, List.nodup_cons] at hn
      rcases List.mem_cons.mp ha with e1 | ha <;> rcases List.mem_cons.mp hb with e2 | hb
      · rw [← e2] at e1
        exact (Prod.mk.inj e1).2
      · exact absurd (List.mem_map.mpr ⟨_, hb, by rw [← e1]⟩) hn.1
      · exact absurd (List.mem_map.mpr ⟨_, ha, by rw [← e2]⟩) hn.1
      · exact ih hn.2 ha hb
  have novoid : ∀ {a : Nat}, ¬ (("void" : Str), a) ∈ ts := fun z => (tg.ok _ z).1.vo rfl
  have z1 := h.sg _ (row_mem hj)
  have z2 := h.sg _ (row_mem hk)
  rw [e] at z1
  rcases List.mem_append.mp z1 with z1 | z1 <;> rcases List.mem_append.mp z2 with z2 | z2
  · exact uniq tg.nd z1 z2
  · rw [(Prod.mk.inj (List.mem_singleton.mp z2)).1] at z1
    exact absurd z1 novoid
  · rw [(Prod.mk.inj (List.mem_singleton.mp z1)).1] at z2
    exact absurd z2 novoid
  · rw [(Prod.mk.inj (List.mem_singleton.mp z1)).2, (Prod.mk.inj (List.mem_singleton.mp z2)).2]
theorem copy_sm {r q : Sheet} {spots : List Nat} (sr : Sm r) (h : CopyOf r q spots) : Sm q := by
  have key : ∀ w, w ∈ q → ∃ k, k < r.length ∧ w.1 = (rowAt r k).1 ∧ w.2.length = (rowAt r k).2.length := fun w hw => by
    obtain ⟨i, hi⟩ := List.mem_iff_getElem?.mp hw
    obtain ⟨k, _, h2, h3, h4⟩ := h.row i w hi
    exact ⟨k, h2, h3, h4.len⟩
  refine ⟨copy_pos h, by have := h.ln; omega, fun w hw => ?_, fun w hw => ?_, fun w hw f hf => ?_⟩
  · obtain ⟨k, h2, h3, h4⟩ := key w hw
    rw [h3]
    exact sr.tg _ (row_mem h2)
  · obtain ⟨k, h2, h3, h4⟩ := key w hw
    rw [h4]
    exact sr.fl _ (row_mem h2)
  · obtain ⟨i, hi⟩ := List.mem_iff_getElem?.mp hw
    have hil := (List.getElem?_eq_some_iff.mp hi).1
    have e : rowAt q i = w := by
      unfold rowAt
      rw [List.getD_eq_getElem?_getD, hi]
      rfl
    exact copy_cl h i hil f (by rw [e]; exact hf)
theorem least_sm {r o : Sheet} {a : Nat} (sr : Sm r) (ha : a < r.length) (hl : LeastAt r a o) : Sm o := by
  obtain ⟨c, p, l, _, k⟩ := least_ok sr.ok.cl ha hl
  refine ⟨p, by have := sr.ln; omega, fun w hw => ?_, fun w hw => ?_, fun w hw f hf => ?_⟩
  · obtain ⟨j, h1, h2, h3⟩ := k w hw
    rw [h2]
    exact sr.tg _ (row_mem h1)
  · obtain ⟨j, h1, h2, h3⟩ := k w hw
    rw [h3]
    exact sr.fl _ (row_mem h1)
  · obtain ⟨i, hi⟩ := List.mem_iff_getElem?.mp hw
    have hil := (List.getElem?_eq_some_iff.mp hi).1
    have e : rowAt o i = w := by
      unfold rowAt
      rw [List.getD_eq_getElem?_getD, hi]
      rfl
    exact c i hil f (by rw [e]; exact hf)
theorem least_ar {r o : Sheet} {a : Nat} (sr : Sm r) (ar : Ar r) (ha : a < r.length) (hl : LeastAt r a o) : Ar o := by
  obtain ⟨_, _, _, _, k⟩ := least_ok sr.ok.cl ha hl
  intro i j hi hj e
  obtain ⟨x, hx, x1, x2⟩ := k _ (row_mem hi)
  obtain ⟨y, hy, y1, y2⟩ := k _ (row_mem hj)
  rw [x2, y2]
  exact ar x y hx hy (by rw [← x1, ← y1, e])
theorem copy_ar {r q : Sheet} {spots : List Nat} (ar : Ar r) (h : CopyOf r q spots) : Ar q := by
  intro i j hi hj e
  obtain ⟨x, _, hx, x1, x2⟩ := copy_row h hi
  obtain ⟨y, _, hy, y1, y2⟩ := copy_row h hj
  rw [x2.len, y2.len]
  exact ar x y hx hy (by rw [← x1, ← y1, e])
end K07

set_option Elab.async false
set_option linter.all false
set_option maxRecDepth 100000
set_option maxHeartbeats 4000000
/-! U07m: nodes at paths, by data. -/
namespace K07
open PySem PySem.Spec PyProof.Rows L2 GG DD PT DL LS
set_option simprocs false
local macro_rules | `(tactic| walk_at "w1") => `(tactic| with_reducible first
  | refine DL.w_seq ?_ | refine DL.w_next ?_ | refine DL.w_set ?_ | refine DL.w_setO ?_ | refine DL.w_if ?_ | refine DL.w_ret ?_ | refine DL.w_drop ?_
  | refine DL.w_par ?_ | refine DL.w_parL ?_ | refine DL.w_parR ?_ | refine DL.w_parLL ?_ | refine DL.w_asg ?_ | refine DL.w_for ?_ | refine DL.w_vsNil ?_ | refine DL.w_dIn ?_ | refine DL.w_dPut ?_
  | refine DL.w_gdN ?_ | refine DL.w_gdNil ?_ | refine DL.w_gdCons ?_
  | refine DL.w_c ?_ | refine DL.w_asL ?_ | refine DL.w_asU ?_ | refine DL.w_newL ?_ | refine DL.w_nil ?_ | refine DL.w_cons ?_ | refine DL.w_tup ?_ | refine DL.w_lst ?_ | refine DL.w_op ?_
  | refine DL.w_lenL ?_ | refine DL.w_lenD ?_ | refine DL.w_tupOf ?_ | refine DL.w_ifE ?_ | refine DL.w_cat ?_ | refine DL.w_rep ?_ | refine DL.w_call ?_ | refine DL.w_callP ?_
  | refine DL.w_xNil ?_ | refine DL.w_xCons ?_ | refine DL.w_all ?_ | refine DL.w_reprA ?_ | refine DL.w_isi ?_ | refine DL.w_andV ?_ | refine DL.w_newD ?_ | refine DL.w_dict0 ?_
  | refine DL.w_slD ?_ | refine DL.w_slU ?_ | refine DL.w_noP ?_ | refine DL.w_part ?_ | refine DL.w_listZip ?_ | refine DL.w_sortSI ?_ | refine DL.w_listRng ?_ | refine DL.w_setD ?_ | refine DL.w_dictL ?_ | refine DL.w_dictU ?_ | refine DL.w_disp ?_ | refine DL.w_psNil ?_ | refine DL.w_psCons ?_
  | refine DL.w_rng1 ?_ | refine DL.w_comp ?_ | refine DL.w_enum ?_ | refine DL.w_B ?_ | refine DL.w_and ?_ | refine DL.w_or ?_ | refine DL.w_not ?_ | refine DL.w_yes ?_
  | refine DL.w_par3 ?_ | refine DL.w_par3R ?_ | refine DL.w_par0L ?_ | refine DL.w_revL ?_ | refine DL.w_listQ ?_ | refine DL.w_star ?_ | refine DL.w_split ?_ | refine DL.w_intB ?_ | refine DL.w_dPutN ?_ | refine DL.w_dPutO ?_ | refine DL.w_listZipT ?_ | refine DL.w_callM ?_ | refine DL.w_inVar ?_ | refine DL.w_slS ?_ | refine DL.w_sortS ?_ | refine DL.w_dcomp ?_
  | refine DL.w_notV ?_ | refine DL.w_neg ?_ | refine DL.w_raise ?_ | refine DL.w_callX ?_ | refine DL.w_callPX ?_ | refine DL.w_chain ?_ | refine DL.w_B0 ?_ | refine DL.w_tryAs ?_)
local macro_rules | `(tactic| walk_at "w2") => `(tactic| first
  | walk_at "w1"
  | ((with_reducible apply DL.w_var); (· rfl))
  | ((with_reducible apply DL.w_xDeck); (· rfl))
  | ((with_reducible apply DL.w_listO); (· rfl))
  | ((with_reducible apply DL.w_isS); (· rfl))
  | ((with_reducible apply DL.w_listD); (· rfl))
  | ((with_reducible apply DL.w_app); (· exact trivial))
  | ((with_reducible apply DL.w_popAt); (· exact trivial))
  | ((with_reducible apply DL.w_dGet); (· exact trivial))
  | ((with_reducible apply DL.w_listA); (· rfl))
  | ((with_reducible apply DL.w_ext); (· exact trivial))
  | ((with_reducible apply DL.w_dGetT); (· exact trivial))
  | ((with_reducible apply DL.w_xLast); (· exact trivial))
  | ((with_reducible apply DL.w_appA); (· rfl))
  | ((with_reducible apply DL.w_listDictO); (· rfl))
  | ((with_reducible apply DL.w_lenDictO); (· rfl))
  | ((with_reducible apply DL.w_catVarO); (· rfl))
  | ((with_reducible apply DL.w_catVarD); (· rfl))
  | ((with_reducible apply DL.w_tupLL); (· decide))
  | ((with_reducible apply DL.w_fzO); (· rfl))
  | ((with_reducible apply DL.w_fzD); (· rfl))
  | ((with_reducible apply DL.w_fz); (· rfl))
  | ((with_reducible apply DL.w_gdTup); (· rfl))
  | ((with_reducible refine And.intro ?_ ?_); (· first | rfl | exact True.intro | decide | (dsimp only [List.length_cons, List.length_nil]; decide)))
  | with_reducible refine DL.w_I0 ?_ | with_reducible refine DL.w_eqI ?_ | with_reducible refine DL.w_neI ?_ | with_reducible refine DL.w_isN ?_ | with_reducible refine DL.w_notN ?_)
local macro_rules | `(tactic| walk_at "w") => `(tactic| (repeat walk_at "w2"; try dsimp only [List.set_cons_zero, List.set_cons_succ, List.cons_append, List.nil_append, List.replicate_succ, List.replicate_zero]))
def F_is_integer : FD := bodyD dB_is_integer 0
theorem is_integer_spec {i : Int} {n : Nat} {P : PyData → Nat → Prop} (h : P (.bool true) n) : F_is_integer [.dat (.int i)] n P := by
  unfold F_is_integer bodyD dB_is_integer
  walk_at "w"
  refine ⟨true, by rfl, ?_⟩
  walk_at "w"
  refine w_T rfl ?_
  walk_at "w"
  refine ⟨false, by rfl, ?_⟩
  exact h
def F_is_index : FD := bodyD (dB_is_index F_is_integer) 0
theorem is_index_spec {i c : Int} {n : Nat} {P : PyData → Nat → Prop} (h : P (.bool (decide (0 ≤ i) && decide (i < c))) n) : F_is_index [.dat (.int i), .dat (.int c)] n P := by
  unfold F_is_index bodyD dB_is_index
  walk_at "w"
  refine is_integer_spec ?_
  walk_at "w"
  refine w_T rfl ?_
  walk_at "w"
  by_cases h1 : 0 ≤ i
  · rw [decide_eq_true h1, Bool.true_and] at h
    refine w_T (decide_eq_true h1) ?_
    walk_at "w"
    exact h
  · rw [decide_eq_false h1, Bool.false_and] at h
    refine w_F (decide_eq_false h1) ?_
    exact h
/-- one step -/
def stepAt (r : Sheet) (k : Nat) (i : Int) : Option Nat := if 0 ≤ i ∧ i < ((rowAt r k).2.length : Nat) then (rowAt r k).2[i.toNat]? else none
/-- the row that a path leads to -/
def atPath (r : Sheet) : Nat → List Int → Option Nat
  | k, [] => some k
  | k, i :: p => match stepAt r k i with
    | some j => atPath r j p
    | none => none
theorem at_cons (r : Sheet) (k : Nat) (i : Int) (p : List Int) : atPath r k (i :: p) = match stepAt r k i with
    | some j => atPath r j p
    | none => none := rfl
abbrev pathD (p : List Int) : PyData := .tuple (p.map PyData.int)
theorem step_some {r : Sheet} (ok : ShOk r) {k : Nat} (hk : k < r.length) {i : Int} {j : Nat} (h : stepAt r k i = some j) : j < r.length ∧ 0 ≤ i ∧ i < ((rowAt r k).2.length : Nat) ∧ (rowAt r k).2[i.toNat]? = some j := by
  unfold stepAt at h
  split at h
  · rename_i h1
    exact ⟨ok.cl k hk j (List.mem_of_getElem? h), h1.1, h1.2, h⟩
  · cases h
theorem step_none {r : Sheet} {k : Nat} {i : Int} (h : stepAt r k i = none) : (decide (0 ≤ i) && decide (i < ((rowAt r k).2.length : Nat))) = false := by
  unfold stepAt at h
  split at h
  · rename_i h1
    exfalso
    have := List.getElem?_eq_none_iff.mp h
    omega
  · rename_i h1
    by_cases h2 : 0 ≤ i
    · rw [decide_eq_true h2, Bool.true_and]
      exact decide_eq_false fun z => h1 ⟨h2, z⟩
    · rw [decide_eq_false h2, Bool.false_and]
theorem at_lt {r : Sheet} (ok : ShOk r) : ∀ (p : List Int) (k j : Nat), k < r.length → atPath r k p = some j → j < r.length
  | [], k, j, hk, h => by
    cases h
    exact hk
  | i :: p, k, j, hk, h => by
    unfold atPath at h
    cases e : stepAt r k i with
    | none =>
      rw [e] at h
      cases h
    | some x =>
      rw [e] at h
      exact at_lt ok p x j (step_some ok hk e).1 h
theorem at_app (r : Sheet) : ∀ (p q : List Int) (k : Nat), atPath r k (p ++ q) = (atPath r k p).bind fun j => atPath r j q
  | [], q, k => rfl
  | i :: p, q, k => by
    show (match stepAt r k i with
      | some j => atPath r j (p ++ q)
      | none => none) = Option.bind (match stepAt r k i with
      | some j => atPath r j p
      | none => none) _
    cases e : stepAt r k i with
    | none => rfl
    | some j => exact at_app r p q j
theorem atI_pos {xs : List PyData} {i : Int} {d : PyData} (h0 : 0 ≤ i) (h : xs[i.toNat]? = some d) : atI xs i = some d := by
  obtain ⟨n, rfl⟩ := Int.eq_ofNat_of_zero_le h0
  exact atI_nat h
def F_row_at (cN : Addr) : FDX := bodyX (dB_row_at cN F_is_index) 3
theorem row_at_spec {cN : Addr} {r : Sheet} (ok : ShOk r) {p : List Int} {n : Nat} {P : PyData → Nat → Prop} {PX : Addr → List (Str × PyData) → Nat → Prop} (h : ∀ k, k < r.length → atPath r 0 p = some k → P (.int (k : Nat)) n) (hx : atPath r 0 p = none → PX cN [("path", pathD p)] n) : F_row_at cN [.dat (shD r), .dat (pathD p)] n P PX := by
  unfold F_row_at bodyX dB_row_at
  walk_at "w"
  refine loop_rem (fun ds s => ∃ (q : List Int) (k : Nat) (c3 c4 : DV), ds = q.map PyData.int ∧ s = ⟨[.dat (shD r), .dat (pathD p), .dat (.int (k : Nat)), c3, c4], n⟩ ∧ k < r.length ∧ atPath r k q = atPath r 0 p) ?_ ?_ _ _ ⟨p, 0, _, _, rfl, rfl, ok.ne, rfl⟩
  · rintro d ds s ⟨q, k, c3, c4, e, rfl, hk, hq⟩ N hN
    cases q with
    | nil => cases e
    | cons i q =>
      cases e
      walk_at "w"
      refine w_ixU (atI_nat (row_get hk)) ?_
      walk_at "w"
      refine w_ixU rfl ?_
      walk_at "w"
      rw [List.length_map]
      refine is_index_spec ?_
      rw [at_cons] at hq
      cases es : stepAt r k i with
      | none =>
        rw [es] at hq
        rw [step_none es]
        walk_at "w"
        refine w_T rfl ?_
        walk_at "w"
        exact hx hq.symm
      | some j =>
        rw [es] at hq
        obtain ⟨h1, h2, h3, h4⟩ := step_some ok hk es
        rw [decide_eq_true h2, decide_eq_true h3]
        walk_at "w"
        refine w_F rfl ?_
        walk_at "w"
        refine w_ixU (atI_pos h2 (d := .int (j : Nat)) (by unfold natsD; rw [List.getElem?_map, h4]; rfl)) ?_
        walk_at "w"
        exact hN _ ⟨q, j, _, _, rfl, rfl, h1, hq⟩
  · rintro s ⟨q, k, c3, c4, e, rfl, hk, hq⟩
    cases q with
    | cons i q => cases e
    | nil =>
      walk_at "w"
      exact h k hk hq.symm
def F_tag_at (cN : Addr) : FDX := bodyX (dB_tag_at (F_row_at cN)) 0
theorem tag_at_spec {cN : Addr} {r : Sheet} (ok : ShOk r) {p : List Int} {n : Nat} {P : PyData → Nat → Prop} {PX : Addr → List (Str × PyData) → Nat → Prop} (h : ∀ k, k < r.length → atPath r 0 p = some k → P (.str (rowAt r k).1) n) (hx : atPath r 0 p = none → PX cN [("path", pathD p)] n) : F_tag_at cN [.dat (shD r), .dat (pathD p)] n P PX := by
  unfold F_tag_at bodyX dB_tag_at
  walk_at "w"
  refine row_at_spec ok (fun k hk e => ?_) hx
  refine w_ixU (atI_nat (row_get hk)) ?_
  walk_at "w"
  refine w_ixU rfl ?_
  exact h k hk e
def F_part_at (cN : Addr) : FDX := bodyX (dB_part_at F_reduced (F_row_at cN)) 0
theorem part_at_spec {cN : Addr} {r : Sheet} (ok : ShOk r) {p : List Int} {n : Nat} {P : PyData → Nat → Prop} {PX : Addr → List (Str × PyData) → Nat → Prop} (h : ∀ k o, k < r.length → atPath r 0 p = some k → LeastAt r k o → P (shD o) n) (hx : atPath r 0 p = none → PX cN [("path", pathD p)] n) : F_part_at cN [.dat (shD r), .dat (pathD p)] n P PX := by
  unfold F_part_at bodyX dB_part_at
  walk_at "w"
  refine row_at_spec ok (fun k hk e => ?_) hx
  walk_at "w"
  obtain ⟨o, ho⟩ := least_exists ok.cl hk
  refine reduced_at ok hk ho ?_
  exact h k o hk e ho
def F_all_parts : FD := bodyD (dB_all_parts F_least_sheet F_renum) 2
def fPart (ps : Nat → Sheet) : PyData → PyData
  | .int i => shD (ps i.toNat)
  | _ => .none
abbrev partsD (ps : Nat → Sheet) (m : Nat) : PyData := .tuple ((List.range m).map fun k => shD (ps k))
theorem all_parts_spec {r o : Sheet} (ok : ShOk r) (oo : ShOk o) (hl : Least r o) {ps : Nat → Sheet} (hp : ∀ k, k < o.length → LeastAt o k (ps k)) {n : Nat} {P : PyData → Nat → Prop} (h : P (partsD ps o.length) n) : F_all_parts [.dat (shD r)] n P := by
  have oln := oo.ln
  unfold F_all_parts bodyD dB_all_parts
  walk_at "w"
  refine least_sheet_spec ok hl ?_
  walk_at "w"
  rw [List.length_map]
  refine ⟨by omega, by omega, ?_⟩
  rw [Int.toNat_natCast, rngD_nats]
  refine ⟨by simp [natsD]; omega, rfl, lc_map (fPart ps) (fun d hd Y Z hY => ?_) ?_⟩
  · obtain ⟨k, hk, rfl⟩ := List.mem_map.mp hd
    have hk := List.mem_range.mp hk
    obtain ⟨W, hW⟩ := walk_rows oo.cl hk
    walk_at "w"
    refine w_T rfl ?_
    walk_at "w"
    refine renum_spec (g := gr o) (U := List.range o.length) (.inr ⟨_, rfl, fun x hx => row_get (List.mem_range.mp hx)⟩) (fun v hv f hf => List.mem_range.mpr (oo.cl v (List.mem_range.mp hv) f hf)) (fun v hv => oo.fl v (List.mem_range.mp hv)) (by rw [List.length_range]; omega) (List.mem_range.mpr hk) hW ?_
    rw [least_from ok.cl ok.ne hl hk (hp k hk) hW]
    exact ⟨rfl, hY⟩
  · walk_at "w"
    have e : (natsD (List.range o.length)).map (fPart ps) = (List.range o.length).map fun k => shD (ps k) := by
      unfold natsD
      rw [List.map_map]
      rfl
    rw [e]
    exact h
end K07

set_option Elab.async false
set_option linter.all false
set_option maxRecDepth 100000
set_option maxHeartbeats 4000000
/-! U07n: heard, right, the parts, by data. -/
namespace K07
open PySem PySem.Spec PyProof.Rows L2 GG DD PT DL LS
set_option simprocs false
local macro_rules | `(tactic| walk_at "w1") => `(tactic| with_reducible first
  | refine DL.w_seq ?_ | refine DL.w_next ?_ | refine DL.w_set ?_ | refine DL.w_setO ?_ | refine DL.w_if ?_ | refine DL.w_ret ?_ | refine DL.w_drop ?_
  | refine DL.w_par ?_ | refine DL.w_parL ?_ | refine DL.w_parR ?_ | refine DL.w_parLL ?_ | refine DL.w_asg ?_ | refine DL.w_for ?_ | refine DL.w_vsNil ?_ | refine DL.w_dIn ?_ | refine DL.w_dPut ?_
  | refine DL.w_gdN ?_ | refine DL.w_gdNil ?_ | refine DL.w_gdCons ?_
  | refine DL.w_c ?_ | refine DL.w_asL ?_ | refine DL.w_asU ?_ | refine DL.w_newL ?_ | refine DL.w_nil ?_ | refine DL.w_cons ?_ | refine DL.w_tup ?_ | refine DL.w_lst ?_ | refine DL.w_op ?_
  | refine DL.w_lenL ?_ | refine DL.w_lenD ?_ | refine DL.w_tupOf ?_ | refine DL.w_ifE ?_ | refine DL.w_cat ?_ | refine DL.w_rep ?_ | refine DL.w_call ?_ | refine DL.w_callP ?_
  | refine DL.w_xNil ?_ | refine DL.w_xCons ?_ | refine DL.w_all ?_ | refine DL.w_reprA ?_ | refine DL.w_isi ?_ | refine DL.w_andV ?_ | refine DL.w_newD ?_ | refine DL.w_dict0 ?_
  | refine DL.w_slD ?_ | refine DL.w_slU ?_ | refine DL.w_noP ?_ | refine DL.w_part ?_ | refine DL.w_listZip ?_ | refine DL.w_sortSI ?_ | refine DL.w_listRng ?_ | refine DL.w_setD ?_ | refine DL.w_dictL ?_ | refine DL.w_dictU ?_ | refine DL.w_disp ?_ | refine DL.w_psNil ?_ | refine DL.w_psCons ?_
  | refine DL.w_rng1 ?_ | refine DL.w_comp ?_ | refine DL.w_enum ?_ | refine DL.w_B ?_ | refine DL.w_and ?_ | refine DL.w_or ?_ | refine DL.w_not ?_ | refine DL.w_yes ?_
  | refine DL.w_par3 ?_ | refine DL.w_par3R ?_ | refine DL.w_par0L ?_ | refine DL.w_revL ?_ | refine DL.w_listQ ?_ | refine DL.w_star ?_ | refine DL.w_split ?_ | refine DL.w_intB ?_ | refine DL.w_dPutN ?_ | refine DL.w_dPutO ?_ | refine DL.w_listZipT ?_ | refine DL.w_callM ?_ | refine DL.w_inVar ?_ | refine DL.w_slS ?_ | refine DL.w_sortS ?_ | refine DL.w_dcomp ?_
  | refine DL.w_notV ?_ | refine DL.w_neg ?_ | refine DL.w_raise ?_ | refine DL.w_callX ?_ | refine DL.w_callPX ?_ | refine DL.w_chain ?_ | refine DL.w_B0 ?_ | refine DL.w_tryAs ?_)
local macro_rules | `(tactic| walk_at "w2") => `(tactic| first
  | walk_at "w1"
  | ((with_reducible apply DL.w_var); (· rfl))
  | ((with_reducible apply DL.w_xDeck); (· rfl))
  | ((with_reducible apply DL.w_listO); (· rfl))
  | ((with_reducible apply DL.w_isS); (· rfl))
  | ((with_reducible apply DL.w_listD); (· rfl))
  | ((with_reducible apply DL.w_app); (· exact trivial))
  | ((with_reducible apply DL.w_popAt); (· exact trivial))
  | ((with_reducible apply DL.w_dGet); (· exact trivial))
  | ((with_reducible apply DL.w_listA); (· rfl))
  | ((with_reducible apply DL.w_ext); (· exact trivial))
  | ((with_reducible apply DL.w_dGetT); (· exact trivial))
  | ((with_reducible apply DL.w_xLast); (· exact trivial))
  | ((with_reducible apply DL.w_appA); (· rfl))
  | ((with_reducible apply DL.w_listDictO); (· rfl))
  | ((with_reducible apply DL.w_lenDictO); (· rfl))
  | ((with_reducible apply DL.w_catVarO); (· rfl))
  | ((with_reducible apply DL.w_catVarD); (· rfl))
  | ((with_reducible apply DL.w_tupLL); (· decide))
  | ((with_reducible apply DL.w_fzO); (· rfl))
  | ((with_reducible apply DL.w_fzD); (· rfl))
  | ((with_reducible apply DL.w_fz); (· rfl))
  | ((with_reducible apply DL.w_gdTup); (· rfl))
  | ((with_reducible refine And.intro ?_ ?_); (· first | rfl | exact True.intro | decide | (dsimp only [List.length_cons, List.length_nil]; decide)))
  | with_reducible refine DL.w_I0 ?_ | with_reducible refine DL.w_eqI ?_ | with_reducible refine DL.w_neI ?_ | with_reducible refine DL.w_isN ?_ | with_reducible refine DL.w_notN ?_)
local macro_rules | `(tactic| walk_at "w") => `(tactic| (repeat walk_at "w2"; try dsimp only [List.set_cons_zero, List.set_cons_succ, List.cons_append, List.nil_append, List.replicate_succ, List.replicate_zero]))
def F_heard (cN : Addr) : FD := bodyD (dB_heard cN (F_tag_at cN) (F_part_at cN)) 2
abbrev someD (t : Str) (o : Sheet) (way : Nat) : PyData := .list [.str "is", if way < 2 then .str t else shD o]
abbrev noneD (p : List Int) : PyData := .list [.str "none", pathD p, .bool true]
theorem heard_some {cN : Addr} {r o : Sheet} (ok : ShOk r) {p : List Int} {k : Nat} (e : atPath r 0 p = some k) (ho : LeastAt r k o) {way n : Nat} (hw : way < 4) {P : PyData → Nat → Prop} (h : P (someD (rowAt r k).1 o way) n) : F_heard cN [.dat (shD r), .dat (pathD p), .dat (.int (way : Nat))] n P := by
  have tg : ∀ j, j < r.length → atPath r 0 p = some j → j = k := fun j _ q => Option.some.inj (q.symm.trans e)
  have no : ¬ atPath r 0 p = none := fun q => by
    rw [e] at q
    cases q
  have lo : ∀ j o', j < r.length → atPath r 0 p = some j → LeastAt r j o' → o' = o := fun j o' hj q ho' => by
    cases tg j hj q
    exact least_bis ok.cl ok.cl (Bis.refl (g := gr r) ok.cl hj) ho ho'
  unfold F_heard bodyD dB_heard
  walk_at "w"
  rcases (show way = 0 ∨ way = 1 ∨ way = 2 ∨ way = 3 by omega) with rfl | rfl | rfl | rfl
  · refine w_T rfl ?_
    walk_at "w"
    refine tag_at_spec ok (fun j hj q => ?_) fun q => absurd q no
    cases tg j hj q
    walk_at "w"
    exact h
  · refine w_F rfl ?_
    walk_at "w"
    refine w_T rfl ?_
    walk_at "w"
    refine tag_at_spec ok (fun j hj q => ?_) fun q => absurd q no
    cases tg j hj q
    walk_at "w"
    exact h
  · refine w_F rfl ?_
    walk_at "w"
    refine w_F rfl ?_
    walk_at "w"
    refine w_T rfl ?_
    walk_at "w"
    refine part_at_spec ok (fun j o' hj q ho' => ?_) fun q => absurd q no
    cases lo j o' hj q ho'
    walk_at "w"
    exact h
  · refine w_F rfl ?_
    walk_at "w"
    refine w_F rfl ?_
    walk_at "w"
    refine w_F rfl ?_
    walk_at "w"
    refine part_at_spec ok (fun j o' hj q ho' => ?_) fun q => absurd q no
    cases lo j o' hj q ho'
    walk_at "w"
    exact h
theorem heard_none {cN : Addr} {r : Sheet} (ok : ShOk r) {p : List Int} (e : atPath r 0 p = none) {way n : Nat} (hw : way < 4) {P : PyData → Nat → Prop} (h : P (noneD p) n) : F_heard cN [.dat (shD r), .dat (pathD p), .dat (.int (way : Nat))] n P := by
  have no : ∀ j, ¬ atPath r 0 p = some j := fun j q => by
    rw [e] at q
    cases q
  unfold F_heard bodyD dB_heard
  walk_at "w"
  rcases (show way = 0 ∨ way = 1 ∨ way = 2 ∨ way = 3 by omega) with rfl | rfl | rfl | rfl
  · refine w_T rfl ?_
    walk_at "w"
    refine tag_at_spec ok (fun j hj q => absurd q (no j)) fun _ => ⟨rfl, rfl, fun a => ?_⟩
    walk_at "w"
    refine w_xf rfl rfl ?_
    walk_at "w"
    refine w_T rfl ?_
    walk_at "w"
    exact h
  · refine w_F rfl ?_
    walk_at "w"
    refine w_T rfl ?_
    walk_at "w"
    refine tag_at_spec ok (fun j hj q => absurd q (no j)) fun _ => ⟨rfl, rfl, fun a => ?_⟩
    walk_at "w"
    refine w_xf rfl rfl ?_
    walk_at "w"
    refine w_T rfl ?_
    walk_at "w"
    exact h
  · refine w_F rfl ?_
    walk_at "w"
    refine w_F rfl ?_
    walk_at "w"
    refine w_T rfl ?_
    walk_at "w"
    refine part_at_spec ok (fun j o' hj q ho' => absurd q (no j)) fun _ => ⟨rfl, rfl, fun a => ?_⟩
    walk_at "w"
    refine w_xf rfl rfl ?_
    walk_at "w"
    refine w_T rfl ?_
    walk_at "w"
    exact h
  · refine w_F rfl ?_
    walk_at "w"
    refine w_F rfl ?_
    walk_at "w"
    refine w_F rfl ?_
    walk_at "w"
    refine part_at_spec ok (fun j o' hj q ho' => absurd q (no j)) fun _ => ⟨rfl, rfl, fun a => ?_⟩
    walk_at "w"
    refine w_xf rfl rfl ?_
    walk_at "w"
    refine w_T rfl ?_
    walk_at "w"
    exact h
end K07

set_option Elab.async false
set_option linter.all false
set_option maxRecDepth 100000
set_option maxHeartbeats 4000000
/-! U07o: right, by data. -/
namespace K07
open PySem PySem.Spec PyProof.Rows L2 GG DD PT DL LS
set_option simprocs false
local macro_rules | `(tactic| walk_at "w1") => `(tactic| with_reducible first
  | refine DL.w_seq ?_ | refine DL.w_next ?_ | refine DL.w_set ?_ | refine DL.w_setO ?_ | refine DL.w_if ?_ | refine DL.w_ret ?_ | refine DL.w_drop ?_
  | refine DL.w_par ?_ | refine DL.w_parL ?_ | refine DL.w_parR ?_ | refine DL.w_parLL ?_ | refine DL.w_asg ?_ | refine DL.w_for ?_ | refine DL.w_vsNil ?_ | refine DL.w_dIn ?_ | refine DL.w_dPut ?_
  | refine DL.w_gdN ?_ | refine DL.w_gdNil ?_ | refine DL.w_gdCons ?_
  | refine DL.w_c ?_ | refine DL.w_asL ?_ | refine DL.w_asU ?_ | refine DL.w_newL ?_ | refine DL.w_nil ?_ | refine DL.w_cons ?_ | refine DL.w_tup ?_ | refine DL.w_lst ?_ | refine DL.w_op ?_
  | refine DL.w_lenL ?_ | refine DL.w_lenD ?_ | refine DL.w_tupOf ?_ | refine DL.w_ifE ?_ | refine DL.w_cat ?_ | refine DL.w_rep ?_ | refine DL.w_call ?_ | refine DL.w_callP ?_
  | refine DL.w_xNil ?_ | refine DL.w_xCons ?_ | refine DL.w_all ?_ | refine DL.w_reprA ?_ | refine DL.w_isi ?_ | refine DL.w_andV ?_ | refine DL.w_newD ?_ | refine DL.w_dict0 ?_
  | refine DL.w_slD ?_ | refine DL.w_slU ?_ | refine DL.w_noP ?_ | refine DL.w_part ?_ | refine DL.w_listZip ?_ | refine DL.w_sortSI ?_ | refine DL.w_listRng ?_ | refine DL.w_setD ?_ | refine DL.w_dictL ?_ | refine DL.w_dictU ?_ | refine DL.w_disp ?_ | refine DL.w_psNil ?_ | refine DL.w_psCons ?_
  | refine DL.w_rng1 ?_ | refine DL.w_comp ?_ | refine DL.w_enum ?_ | refine DL.w_B ?_ | refine DL.w_and ?_ | refine DL.w_or ?_ | refine DL.w_not ?_ | refine DL.w_yes ?_
  | refine DL.w_par3 ?_ | refine DL.w_par3R ?_ | refine DL.w_par0L ?_ | refine DL.w_revL ?_ | refine DL.w_listQ ?_ | refine DL.w_star ?_ | refine DL.w_split ?_ | refine DL.w_intB ?_ | refine DL.w_dPutN ?_ | refine DL.w_dPutO ?_ | refine DL.w_listZipT ?_ | refine DL.w_callM ?_ | refine DL.w_inVar ?_ | refine DL.w_slS ?_ | refine DL.w_sortS ?_ | refine DL.w_dcomp ?_
  | refine DL.w_notV ?_ | refine DL.w_neg ?_ | refine DL.w_raise ?_ | refine DL.w_callX ?_ | refine DL.w_callPX ?_ | refine DL.w_chain ?_ | refine DL.w_B0 ?_ | refine DL.w_tryAs ?_)
local macro_rules | `(tactic| walk_at "w2") => `(tactic| first
  | walk_at "w1"
  | ((with_reducible apply DL.w_var); (· rfl))
  | ((with_reducible apply DL.w_xDeck); (· rfl))
  | ((with_reducible apply DL.w_listO); (· rfl))
  | ((with_reducible apply DL.w_isS); (· rfl))
  | ((with_reducible apply DL.w_listD); (· rfl))
  | ((with_reducible apply DL.w_app); (· exact trivial))
  | ((with_reducible apply DL.w_popAt); (· exact trivial))
  | ((with_reducible apply DL.w_dGet); (· exact trivial))
  | ((with_reducible apply DL.w_listA); (· rfl))
  | ((with_reducible apply DL.w_ext); (· exact trivial))
  | ((with_reducible apply DL.w_dGetT); (· exact trivial))
  | ((with_reducible apply DL.w_xLast); (· exact trivial))
  | ((with_reducible apply DL.w_appA); (· rfl))
  | ((with_reducible apply DL.w_listDictO); (· rfl))
  | ((with_reducible apply DL.w_lenDictO); (· rfl))
  | ((with_reducible apply DL.w_catVarO); (· rfl))
  | ((with_reducible apply DL.w_catVarD); (· rfl))
  | ((with_reducible apply DL.w_tupLL); (· decide))
  | ((with_reducible apply DL.w_fzO); (· rfl))
  | ((with_reducible apply DL.w_fzD); (· rfl))
  | ((with_reducible apply DL.w_fz); (· rfl))
  | ((with_reducible apply DL.w_gdTup); (· rfl))
  | ((with_reducible refine And.intro ?_ ?_); (· first | rfl | exact True.intro | decide | (dsimp only [List.length_cons, List.length_nil]; decide)))
  | with_reducible refine DL.w_I0 ?_ | with_reducible refine DL.w_eqI ?_ | with_reducible refine DL.w_neI ?_ | with_reducible refine DL.w_isN ?_ | with_reducible refine DL.w_notN ?_)
local macro_rules | `(tactic| walk_at "w") => `(tactic| (repeat walk_at "w2"; try dsimp only [List.set_cons_zero, List.set_cons_succ, List.cons_append, List.nil_append, List.replicate_succ, List.replicate_zero]))
set_option pp.maxSteps 1500
set_option pp.deepTerms false
/-- a path that can be shown -/
structure POk (p : List Int) : Prop where
  ln : p.length ≤ 34
  vl : ∀ i, i ∈ p → Val 0 140 (.int i)
theorem val_path {p : List Int} (h : POk p) : Val 1 4800 (pathD p) := by
  have y := vals_all (D := 0) (V := 140) (ds := p.map PyData.int) fun d hd => by
    obtain ⟨i, hi, rfl⟩ := List.mem_map.mp hd
    exact h.vl i hi
  rw [List.length_map] at y
  have := h.ln
  exact (val_tup y).mono (by omega) (by omega)
theorem kept_shows {r : Sheet} {p : List Int} (sr : Sm r) (hp : POk p) : Shows (.tuple [shD r, pathD p]) := (vT2 (val_sh sr) (val_path hp)).shows (by omega) (by decide)
def F_right (cN : Addr) : FD := bodyD (dB_right (F_heard cN) F_least) 5
def fHeard (t : Str) (o : Sheet) : PyData → PyData
  | .int i => someD t o i.toNat
  | _ => .none
theorem right_some {cN : Addr} {r : Sheet} (sr : Sm r) (ar : Ar r) {p : List Int} (hp : POk p) {k : Nat} (e : atPath r 0 p = some k) {n : Nat} {P : PyData → Nat → Prop} (h : P (.bool true) n) : F_right cN [.dat (shD r), .dat (pathD p), .dat (.int (k : Nat))] n P := by
  have hk := at_lt sr.ok p 0 k sr.ok.ne e
  obtain ⟨o, ho⟩ := least_exists sr.ok.cl hk
  have so := least_sm sr hk ho
  have ks := kept_shows sr hp
  have htg := sr.tg _ (row_mem hk)
  have v1 : Val 1 13 (.list [.str "is", .str (rowAt r k).1]) := (vL2 (val_str (D := 0) (W := 2) (by decide) (by decide)) (val_str (D := 0) (W := 8) htg.1 htg.2)).mono (by omega) (by omega)
  have v2 : Val 4 3010 (.list [.str "is", shD o]) := (vL2 (val_str (D := 0) (W := 2) (by decide) (by decide)) (val_sh so)).mono (by omega) (by omega)
  have ts : Shows (.list [.list [.str "is", .str (rowAt r k).1], .list [.str "is", .str (rowAt r k).1], .list [.str "is", shD o], .list [.str "is", shD o]]) := by
    have y := vals_all (D := 4) (V := 3010) (ds := [.list [.str "is", .str (rowAt r k).1], .list [.str "is", .str (rowAt r k).1], .list [.str "is", shD o], .list [.str "is", shD o]]) fun d hd => by
      rcases List.mem_cons.mp hd with rfl | hd
      · exact v1.mono (by omega) (by omega)
      · rcases List.mem_cons.mp hd with rfl | hd
        · exact v1.mono (by omega) (by omega)
        · rcases List.mem_cons.mp hd with rfl | hd
          · exact v2
          · rw [List.mem_singleton.mp hd]
            exact v2
    exact (val_lst y).shows (by omega) (by show 4 * 3011 ≤ 399000; decide)
  unfold F_right bodyD dB_right
  walk_at "w"
  refine ⟨ks, ?_⟩
  walk_at "w"
  refine lc_map (fHeard (rowAt r k).1 o) (fun d hd Y Z hY => ?_) ?_
  · have e4 : rngD 0 (Int.toNat 4) = natsD (List.range 4) := rngD_nats 4
    rw [e4] at hd
    obtain ⟨w, hw, rfl⟩ := List.mem_map.mp hd
    have hw := List.mem_range.mp hw
    walk_at "w"
    refine w_T rfl ?_
    walk_at "w"
    refine heard_some sr.ok e ho hw ?_
    exact ⟨rfl, hY⟩
  · have e4 : (rngD 0 (Int.toNat 4)).map (fHeard (rowAt r k).1 o) = [.list [.str "is", .str (rowAt r k).1], .list [.str "is", .str (rowAt r k).1], .list [.str "is", shD o], .list [.str "is", shD o]] := rfl
    rw [e4]
    walk_at "w"
    refine w_F rfl ?_
    walk_at "w"
    refine w_ixU (atI_nat (row_get hk)) ?_
    walk_at "w"
    refine w_ixU rfl ?_
    walk_at "w"
    refine least_at sr.ok ar (by have := sr.ln; omega) hk ho ?_
    walk_at "w"
    refine ⟨ts, ?_⟩
    walk_at "w"
    refine ⟨ts, ?_⟩
    walk_at "w"
    refine w_eqS ?_
    rw [decide_eq_true rfl]
    walk_at "w"
    refine w_T rfl ?_
    walk_at "w"
    refine ⟨ks, ?_⟩
    walk_at "w"
    refine w_eqS ?_
    rw [decide_eq_true rfl]
    exact h
def fHeardN (p : List Int) : PyData → PyData := fun _ => noneD p
theorem right_none {cN : Addr} {r : Sheet} (sr : Sm r) {p : List Int} (hp : POk p) (e : atPath r 0 p = none) {n : Nat} {P : PyData → Nat → Prop} (h : P (.bool true) n) : F_right cN [.dat (shD r), .dat (pathD p), .dat .none] n P := by
  have ks := kept_shows sr hp
  have v1 : Val 2 14500 (noneD p) := by
    have y := vals_all (D := 1) (V := 4800) (ds := [.str "none", pathD p, .bool true]) fun d hd => by
      rcases List.mem_cons.mp hd with rfl | hd
      · exact (val_str (D := 1) (W := 4) (by decide) (by decide)).mono (by omega) (by omega)
      · rcases List.mem_cons.mp hd with rfl | hd
        · exact val_path hp
        · rw [List.mem_singleton.mp hd]
          exact val_bool _
    exact (val_lst y).mono (by omega) (by show 3 * 4801 ≤ 14500; decide)
  have ts : Shows (.list [noneD p, noneD p, noneD p, noneD p]) := (vLn (Nat.le_refl 4) v1).shows (by omega) (by decide)
  unfold F_right bodyD dB_right
  walk_at "w"
  refine ⟨ks, ?_⟩
  walk_at "w"
  refine lc_map (fHeardN p) (fun d hd Y Z hY => ?_) ?_
  · have e4 : rngD 0 (Int.toNat 4) = natsD (List.range 4) := rngD_nats 4
    rw [e4] at hd
    obtain ⟨w, hw, rfl⟩ := List.mem_map.mp hd
    have hw := List.mem_range.mp hw
    walk_at "w"
    refine w_T rfl ?_
    walk_at "w"
    refine heard_none sr.ok e hw ?_
    exact ⟨rfl, hY⟩
  · have e4 : (rngD 0 (Int.toNat 4)).map (fHeardN p) = List.replicate 4 (noneD p) := rfl
    rw [e4]
    walk_at "w"
    refine w_T rfl ?_
    walk_at "w"
    refine ⟨ts, ?_⟩
    walk_at "w"
    have e5 : (List.replicate (Int.toNat 4) [noneD p]).flatten = [noneD p, noneD p, noneD p, noneD p] := rep_one _ _
    rw [e5]
    walk_at "w"
    refine ⟨ts, ?_⟩
    walk_at "w"
    refine w_eqS ?_
    rw [decide_eq_true rfl]
    walk_at "w"
    refine w_T rfl ?_
    walk_at "w"
    refine ⟨ks, ?_⟩
    walk_at "w"
    refine w_eqS ?_
    rw [decide_eq_true rfl]
    exact h
end K07

set_option Elab.async false
set_option linter.all false
set_option maxRecDepth 100000
set_option maxHeartbeats 4000000
/-! U07p: the parts, by data. -/
namespace K07
open PySem PySem.Spec PyProof.Rows L2 GG DD PT DL LS
set_option simprocs false
local macro_rules | `(tactic| walk_at "w1") => `(tactic| with_reducible first
  | refine DL.w_seq ?_ | refine DL.w_next ?_ | refine DL.w_set ?_ | refine DL.w_setO ?_ | refine DL.w_if ?_ | refine DL.w_ret ?_ | refine DL.w_drop ?_
  | refine DL.w_par ?_ | refine DL.w_parL ?_ | refine DL.w_parR ?_ | refine DL.w_parLL ?_ | refine DL.w_asg ?_ | refine DL.w_for ?_ | refine DL.w_vsNil ?_ | refine DL.w_dIn ?_ | refine DL.w_dPut ?_
  | refine DL.w_gdN ?_ | refine DL.w_gdNil ?_ | refine DL.w_gdCons ?_
  | refine DL.w_c ?_ | refine DL.w_asL ?_ | refine DL.w_asU ?_ | refine DL.w_newL ?_ | refine DL.w_nil ?_ | refine DL.w_cons ?_ | refine DL.w_tup ?_ | refine DL.w_lst ?_ | refine DL.w_op ?_
  | refine DL.w_lenL ?_ | refine DL.w_lenD ?_ | refine DL.w_tupOf ?_ | refine DL.w_ifE ?_ | refine DL.w_cat ?_ | refine DL.w_rep ?_ | refine DL.w_call ?_ | refine DL.w_callP ?_
  | refine DL.w_xNil ?_ | refine DL.w_xCons ?_ | refine DL.w_all ?_ | refine DL.w_reprA ?_ | refine DL.w_isi ?_ | refine DL.w_andV ?_ | refine DL.w_newD ?_ | refine DL.w_dict0 ?_
  | refine DL.w_slD ?_ | refine DL.w_slU ?_ | refine DL.w_noP ?_ | refine DL.w_part ?_ | refine DL.w_listZip ?_ | refine DL.w_sortSI ?_ | refine DL.w_listRng ?_ | refine DL.w_setD ?_ | refine DL.w_dictL ?_ | refine DL.w_dictU ?_ | refine DL.w_disp ?_ | refine DL.w_psNil ?_ | refine DL.w_psCons ?_
  | refine DL.w_rng1 ?_ | refine DL.w_comp ?_ | refine DL.w_enum ?_ | refine DL.w_B ?_ | refine DL.w_and ?_ | refine DL.w_or ?_ | refine DL.w_not ?_ | refine DL.w_yes ?_
  | refine DL.w_par3 ?_ | refine DL.w_par3R ?_ | refine DL.w_par0L ?_ | refine DL.w_revL ?_ | refine DL.w_listQ ?_ | refine DL.w_star ?_ | refine DL.w_split ?_ | refine DL.w_intB ?_ | refine DL.w_dPutN ?_ | refine DL.w_dPutO ?_ | refine DL.w_listZipT ?_ | refine DL.w_callM ?_ | refine DL.w_inVar ?_ | refine DL.w_slS ?_ | refine DL.w_sortS ?_ | refine DL.w_dcomp ?_
  | refine DL.w_notV ?_ | refine DL.w_neg ?_ | refine DL.w_raise ?_ | refine DL.w_callX ?_ | refine DL.w_callPX ?_ | refine DL.w_chain ?_ | refine DL.w_B0 ?_ | refine DL.w_tryAs ?_)
local macro_rules | `(tactic| walk_at "w2") => `(tactic| first
  | walk_at "w1"
  | ((with_reducible apply DL.w_var); (· rfl))
  | ((with_reducible apply DL.w_xDeck); (· rfl))
  | ((with_reducible apply DL.w_listO); (· rfl))
  | ((with_reducible apply DL.w_isS); (· rfl))
  | ((with_reducible apply DL.w_listD); (· rfl))
  | ((with_reducible apply DL.w_app); (· exact trivial))
  | ((with_reducible apply DL.w_popAt); (· exact trivial))
  | ((with_reducible apply DL.w_dGet); (· exact trivial))
  | ((with_reducible apply DL.w_listA); (· rfl))
  | ((with_reducible apply DL.w_ext); (· exact trivial))
  | ((with_reducible apply DL.w_dGetT); (· exact trivial))
  | ((with_reducible apply DL.w_xLast); (· exact trivial))
  | ((with_reducible apply DL.w_appA); (· rfl))
  | ((with_reducible apply DL.w_listDictO); (· rfl))
  | ((with_reducible apply DL.w_lenDictO); (· rfl))
  | ((with_reducible apply DL.w_catVarO); (· rfl))
  | ((with_reducible apply DL.w_catVarD); (· rfl))
  | ((with_reducible apply DL.w_tupLL); (· decide))
  | ((with_reducible apply DL.w_fzO); (· rfl))
  | ((with_reducible apply DL.w_fzD); (· rfl))
  | ((with_reducible apply DL.w_fz); (· rfl))
  | ((with_reducible apply DL.w_gdTup); (· rfl))
  | ((with_reducible refine And.intro ?_ ?_); (· first | rfl | exact True.intro | decide | (dsimp only [List.length_cons, List.length_nil]; decide)))
  | with_reducible refine DL.w_I0 ?_ | with_reducible refine DL.w_eqI ?_ | with_reducible refine DL.w_neI ?_ | with_reducible refine DL.w_isN ?_ | with_reducible refine DL.w_notN ?_)
local macro_rules | `(tactic| walk_at "w") => `(tactic| (repeat walk_at "w2"; try dsimp only [List.set_cons_zero, List.set_cons_succ, List.cons_append, List.nil_append, List.replicate_succ, List.replicate_zero]))
def F_parts_right : FD := bodyD (dB_parts_right F_least F_all_parts) 4
theorem parts_right_spec {r : Sheet} (sr : Sm r) (ar : Ar r) {n : Nat} {P : PyData → Nat → Prop} (h : P (.bool true) n) : F_parts_right [.dat (shD r)] n P := by
  obtain ⟨o, hl⟩ := least_exists sr.ok.cl sr.ne
  have so := least_sm sr sr.ne hl
  have ao := least_ar sr ar sr.ne hl
  have oln := so.ln
  have ex : ∀ k : Nat, ∃ p : Sheet, k < o.length → LeastAt o k p := fun k => by
    by_cases hk : k < o.length
    · obtain ⟨p, hp⟩ := least_exists so.ok.cl hk
      exact ⟨p, fun _ => hp⟩
    · exact ⟨[], fun z => absurd z hk⟩
  obtain ⟨ps, hps⟩ := Classical.axiomOfChoice ex
  have vp : Val 4 192100 (partsD ps o.length) := by
    have y := vals_all (D := 3) (V := 3000) (ds := (List.range o.length).map fun k => shD (ps k)) fun d hd => by
      obtain ⟨k, hk, rfl⟩ := List.mem_map.mp hd
      have hk := List.mem_range.mp hk
      exact val_sh (least_sm so hk (hps k hk))
    rw [List.length_map, List.length_range] at y
    exact (val_tup y).mono (by omega) (by omega)
  have ts : Shows (.list [partsD ps o.length, partsD ps o.length]) := (vL2 vp vp).shows (by omega) (by decide)
  unfold F_parts_right bodyD dB_parts_right
  walk_at "w"
  refine least_spec sr.ok ar (by have := sr.ln; omega) hl ?_
  walk_at "w"
  refine ⟨sr.shows, ?_⟩
  walk_at "w"
  rw [List.length_map]
  refine ⟨by omega, by omega, ?_⟩
  rw [Int.toNat_natCast, rngD_nats]
  refine ⟨by simp [natsD]; omega, rfl, lc_map (fPart ps) (fun d hd Y Z hY => ?_) ?_⟩
  · obtain ⟨k, hk, rfl⟩ := List.mem_map.mp hd
    have hk := List.mem_range.mp hk
    walk_at "w"
    refine w_T rfl ?_
    walk_at "w"
    refine least_at so.ok ao (by omega) hk (hps k hk) ?_
    exact ⟨rfl, hY⟩
  · have e : (natsD (List.range o.length)).map (fPart ps) = (List.range o.length).map fun k => shD (ps k) := by
      unfold natsD
      rw [List.map_map]
      rfl
    rw [e]
    walk_at "w"
    refine all_parts_spec sr.ok so.ok hl hps ?_
    walk_at "w"
    refine all_parts_spec sr.ok so.ok hl hps ?_
    walk_at "w"
    refine ⟨ts, ?_⟩
    walk_at "w"
    refine ⟨ts, ?_⟩
    walk_at "w"
    refine w_eqS ?_
    rw [decide_eq_true rfl]
    walk_at "w"
    refine w_T rfl ?_
    walk_at "w"
    refine ⟨sr.shows, ?_⟩
    walk_at "w"
    refine w_eqS ?_
    rw [decide_eq_true rfl]
    exact h
end K07

set_option Elab.async false
set_option linter.all false
set_option maxRecDepth 100000
set_option maxHeartbeats 4000000
/-! U07q: drawn paths, by data. -/
namespace K07
open PySem PySem.Spec PyProof.Rows L2 GG DD PT DL LS
set_option simprocs false
local macro_rules | `(tactic| walk_at "w1") => `(tactic| with_reducible first
  | refine DL.w_seq ?_ | refine DL.w_next ?_ | refine DL.w_set ?_ | refine DL.w_setO ?_ | refine DL.w_if ?_ | refine DL.w_ret ?_ | refine DL.w_drop ?_
  | refine DL.w_par ?_ | refine DL.w_parL ?_ | refine DL.w_parR ?_ | refine DL.w_parLL ?_ | refine DL.w_asg ?_ | refine DL.w_for ?_ | refine DL.w_vsNil ?_ | refine DL.w_dIn ?_ | refine DL.w_dPut ?_
  | refine DL.w_gdN ?_ | refine DL.w_gdNil ?_ | refine DL.w_gdCons ?_
  | refine DL.w_c ?_ | refine DL.w_asL ?_ | refine DL.w_asU ?_ | refine DL.w_newL ?_ | refine DL.w_nil ?_ | refine DL.w_cons ?_ | refine DL.w_tup ?_ | refine DL.w_lst ?_ | refine DL.w_op ?_
  | refine DL.w_lenL ?_ | refine DL.w_lenD ?_ | refine DL.w_tupOf ?_ | refine DL.w_ifE ?_ | refine DL.w_cat ?_ | refine DL.w_rep ?_ | refine DL.w_call ?_ | refine DL.w_callP ?_
  | refine DL.w_xNil ?_ | refine DL.w_xCons ?_ | refine DL.w_all ?_ | refine DL.w_reprA ?_ | refine DL.w_isi ?_ | refine DL.w_andV ?_ | refine DL.w_newD ?_ | refine DL.w_dict0 ?_
  | refine DL.w_slD ?_ | refine DL.w_slU ?_ | refine DL.w_noP ?_ | refine DL.w_part ?_ | refine DL.w_listZip ?_ | refine DL.w_sortSI ?_ | refine DL.w_listRng ?_ | refine DL.w_setD ?_ | refine DL.w_dictL ?_ | refine DL.w_dictU ?_ | refine DL.w_disp ?_ | refine DL.w_psNil ?_ | refine DL.w_psCons ?_
  | refine DL.w_rng1 ?_ | refine DL.w_comp ?_ | refine DL.w_enum ?_ | refine DL.w_B ?_ | refine DL.w_and ?_ | refine DL.w_or ?_ | refine DL.w_not ?_ | refine DL.w_yes ?_
  | refine DL.w_par3 ?_ | refine DL.w_par3R ?_ | refine DL.w_par0L ?_ | refine DL.w_revL ?_ | refine DL.w_listQ ?_ | refine DL.w_star ?_ | refine DL.w_split ?_ | refine DL.w_intB ?_ | refine DL.w_dPutN ?_ | refine DL.w_dPutO ?_ | refine DL.w_listZipT ?_ | refine DL.w_callM ?_ | refine DL.w_inVar ?_ | refine DL.w_slS ?_ | refine DL.w_sortS ?_ | refine DL.w_dcomp ?_
  | refine DL.w_notV ?_ | refine DL.w_neg ?_ | refine DL.w_raise ?_ | refine DL.w_callX ?_ | refine DL.w_callPX ?_ | refine DL.w_chain ?_ | refine DL.w_B0 ?_ | refine DL.w_tryAs ?_)
local macro_rules | `(tactic| walk_at "w2") => `(tactic| first
  | walk_at "w1"
  | ((with_reducible apply DL.w_var); (· rfl))
  | ((with_reducible apply DL.w_xDeck); (· rfl))
  | ((with_reducible apply DL.w_listO); (· rfl))
  | ((with_reducible apply DL.w_isS); (· rfl))
  | ((with_reducible apply DL.w_listD); (· rfl))
  | ((with_reducible apply DL.w_app); (· exact trivial))
  | ((with_reducible apply DL.w_popAt); (· exact trivial))
  | ((with_reducible apply DL.w_dGet); (· exact trivial))
  | ((with_reducible apply DL.w_listA); (· rfl))
  | ((with_reducible apply DL.w_ext); (· exact trivial))
  | ((with_reducible apply DL.w_dGetT); (· exact trivial))
  | ((with_reducible apply DL.w_xLast); (· exact trivial))
  | ((with_reducible apply DL.w_appA); (· rfl))
  | ((with_reducible apply DL.w_listDictO); (· rfl))
  | ((with_reducible apply DL.w_lenDictO); (· rfl))
  | ((with_reducible apply DL.w_catVarO); (· rfl))
  | ((with_reducible apply DL.w_catVarD); (· rfl))
  | ((with_reducible apply DL.w_tupLL); (· decide))
  | ((with_reducible apply DL.w_fzO); (· rfl))
  | ((with_reducible apply DL.w_fzD); (· rfl))
  | ((with_reducible apply DL.w_fz); (· rfl))
  | ((with_reducible apply DL.w_gdTup); (· rfl))
  | ((with_reducible refine And.intro ?_ ?_); (· first | rfl | exact True.intro | decide | (dsimp only [List.length_cons, List.length_nil]; decide)))
  | with_reducible refine DL.w_I0 ?_ | with_reducible refine DL.w_eqI ?_ | with_reducible refine DL.w_neI ?_ | with_reducible refine DL.w_isN ?_ | with_reducible refine DL.w_notN ?_)
local macro_rules | `(tactic| walk_at "w") => `(tactic| (repeat walk_at "w2"; try dsimp only [List.set_cons_zero, List.set_cons_succ, List.cons_append, List.nil_append, List.replicate_succ, List.replicate_zero]))
set_option pp.maxSteps 1500
def F_path : FD := bodyD (dB_path F_draw) 5
theorem len3 : ∀ v, v < 3 → ∃ c : Nat, 4 ≤ c ∧ c ≤ 30 ∧ ([PyData.int 4, PyData.int 9, PyData.int 30] : List PyData)[v]? = some (.int (c : Nat)) := fun v hv => by
  rcases (show v = 0 ∨ v = 1 ∨ v = 2 by omega) with rfl | rfl | rfl
  · exact ⟨4, by omega, by omega, rfl⟩
  · exact ⟨9, by omega, by omega, rfl⟩
  · exact ⟨30, by omega, by omega, rfl⟩
theorem path_spec {r : Sheet} (sr : Sm r) {n : Nat} {P : PyData → Nat → Prop} (hn : n + 100 ≤ 1000000) (h : ∀ p k n', k < r.length → atPath r 0 p = some k → p.length ≤ 30 → (∀ i, i ∈ p → 0 ≤ i ∧ i < 3) → n' ≤ n + 40 → P (.tuple [pathD p, .int (k : Nat)]) n') : F_path [.deck, .dat (shD r)] n P := by
  unfold F_path bodyD dB_path
  walk_at "w"
  refine w_draw (L := 3) (by omega) (by omega) (by omega) fun v hv => ?_
  obtain ⟨c, hc1, hc2, hc⟩ := len3 v hv
  refine w_ixL (atI_nat hc) ?_
  walk_at "w"
  refine w_draw (by omega) (by omega) (by omega) fun m hm => ?_
  refine ⟨by omega, by omega, ?_⟩
  rw [Int.toNat_natCast, rngD_nats]
  refine loop_rem (fun ds s => ∃ (p : List Int) (k : Nat) (c4 c5 c6 : DV) (n' : Nat), s = ⟨[.deck, .dat (shD r), .dat (.int (k : Nat)), .dat (pathD p), c4, c5, c6], n'⟩ ∧ k < r.length ∧ atPath r 0 p = some k ∧ p.length + ds.length ≤ 30 ∧ (∀ i, i ∈ p → 0 ≤ i ∧ i < 3) ∧ n' + ds.length ≤ n + 40) ?_ ?_ _ _ ⟨[], 0, _, _, _, _, rfl, sr.ne, rfl, by simp [natsD]; omega, fun i hi => absurd hi List.not_mem_nil, by simp [natsD]; omega⟩
  · rintro d ds s ⟨p, k, c4, c5, c6, n', rfl, hk, e, hl, hp, hn'⟩ N hN
    rw [List.length_cons] at hl hn'
    have hfl := sr.fl _ (row_mem hk)
    walk_at "w"
    refine w_ixU (atI_nat (row_get hk)) ?_
    walk_at "w"
    refine w_ixU rfl ?_
    walk_at "w"
    refine w_eqMt ?_
    walk_at "w"
    rw [nats_empty]
    cases ef : (rowAt r k).2.isEmpty with
    | true =>
      refine w_T rfl ?_
      walk_at "w"
      exact h p k n' hk e (by omega) hp (by omega)
    | false =>
      refine w_F rfl ?_
      walk_at "w"
      have hpos : 1 ≤ (rowAt r k).2.length := by
        cases q : (rowAt r k).2 with
        | nil => rw [q] at ef; cases ef
        | cons a b => rw [List.length_cons]; omega
      rw [List.length_map]
      refine w_draw (by omega) hpos (by omega) fun x hx => ?_
      have ex : (rowAt r k).2[x]? = some (rowAt r k).2[x] := List.getElem?_eq_getElem hx
      walk_at "w"
      refine w_ixU (atI_nat (v := PyData.int ((rowAt r k).2[x] : Nat)) (by unfold natsD; rw [List.getElem?_map, ex]; rfl)) ?_
      walk_at "w"
      refine w_catU (by rw [List.length_map]; show p.length + 1 ≤ 1000000; omega) ?_
      walk_at "w"
      have st : stepAt r k (x : Nat) = some (rowAt r k).2[x] := by
        unfold stepAt
        rw [if_pos ⟨by omega, by omega⟩, Int.toNat_natCast]
        exact ex
      refine hN _ ⟨p ++ [(x : Int)], (rowAt r k).2[x], .dat d, .dat (.tuple (natsD (rowAt r k).2)), .dat (.int (x : Nat)), n' + 1, ?_, sr.ok.cl k hk _ (List.getElem_mem hx), ?_, ?_, fun i hi => ?_, ?_⟩
      · rw [show pathD (p ++ [(x : Int)]) = .tuple (p.map PyData.int ++ [PyData.int (x : Nat)]) from congrArg PyData.tuple (List.map_append (l₁ := p) (l₂ := [(x : Int)]))]
      · rw [at_app, e]
        show atPath r k [(x : Int)] = _
        rw [at_cons, st]
        rfl
      · rw [List.length_append, List.length_singleton]
        omega
      · rcases List.mem_append.mp hi with hi | hi
        · exact hp i hi
        · rw [List.mem_singleton.mp hi]
          omega
      · omega
  · rintro s ⟨p, k, c4, c5, c6, n', rfl, hk, e, hl, hp, hn'⟩
    walk_at "w"
    exact h p k n' hk e (by omega) hp (by omega)
end K07

set_option Elab.async false
set_option linter.all false
set_option maxRecDepth 100000
set_option maxHeartbeats 4000000
/-! U07r: the law, by data. -/
namespace K07
open PySem PySem.Spec PyProof.Rows L2 GG DD PT DL LS
set_option simprocs false
local macro_rules | `(tactic| walk_at "w1") => `(tactic| with_reducible first
  | refine DL.w_seq ?_ | refine DL.w_next ?_ | refine DL.w_set ?_ | refine DL.w_setO ?_ | refine DL.w_if ?_ | refine DL.w_ret ?_ | refine DL.w_drop ?_
  | refine DL.w_par ?_ | refine DL.w_parL ?_ | refine DL.w_parR ?_ | refine DL.w_parLL ?_ | refine DL.w_asg ?_ | refine DL.w_for ?_ | refine DL.w_vsNil ?_ | refine DL.w_dIn ?_ | refine DL.w_dPut ?_
  | refine DL.w_gdN ?_ | refine DL.w_gdNil ?_ | refine DL.w_gdCons ?_
  | refine DL.w_c ?_ | refine DL.w_asL ?_ | refine DL.w_asU ?_ | refine DL.w_newL ?_ | refine DL.w_nil ?_ | refine DL.w_cons ?_ | refine DL.w_tup ?_ | refine DL.w_lst ?_ | refine DL.w_op ?_
  | refine DL.w_lenL ?_ | refine DL.w_lenD ?_ | refine DL.w_tupOf ?_ | refine DL.w_ifE ?_ | refine DL.w_cat ?_ | refine DL.w_rep ?_ | refine DL.w_call ?_ | refine DL.w_callP ?_
  | refine DL.w_xNil ?_ | refine DL.w_xCons ?_ | refine DL.w_all ?_ | refine DL.w_reprA ?_ | refine DL.w_isi ?_ | refine DL.w_andV ?_ | refine DL.w_newD ?_ | refine DL.w_dict0 ?_
  | refine DL.w_slD ?_ | refine DL.w_slU ?_ | refine DL.w_noP ?_ | refine DL.w_part ?_ | refine DL.w_listZip ?_ | refine DL.w_sortSI ?_ | refine DL.w_listRng ?_ | refine DL.w_setD ?_ | refine DL.w_dictL ?_ | refine DL.w_dictU ?_ | refine DL.w_disp ?_ | refine DL.w_psNil ?_ | refine DL.w_psCons ?_
  | refine DL.w_rng1 ?_ | refine DL.w_comp ?_ | refine DL.w_enum ?_ | refine DL.w_B ?_ | refine DL.w_and ?_ | refine DL.w_or ?_ | refine DL.w_not ?_ | refine DL.w_yes ?_
  | refine DL.w_par3 ?_ | refine DL.w_par3R ?_ | refine DL.w_par0L ?_ | refine DL.w_revL ?_ | refine DL.w_listQ ?_ | refine DL.w_star ?_ | refine DL.w_split ?_ | refine DL.w_intB ?_ | refine DL.w_dPutN ?_ | refine DL.w_dPutO ?_ | refine DL.w_listZipT ?_ | refine DL.w_callM ?_ | refine DL.w_inVar ?_ | refine DL.w_slS ?_ | refine DL.w_sortS ?_ | refine DL.w_dcomp ?_
  | refine DL.w_notV ?_ | refine DL.w_neg ?_ | refine DL.w_raise ?_ | refine DL.w_callX ?_ | refine DL.w_callPX ?_ | refine DL.w_chain ?_ | refine DL.w_B0 ?_ | refine DL.w_tryAs ?_)
local macro_rules | `(tactic| walk_at "w2") => `(tactic| first
  | walk_at "w1"
  | ((with_reducible apply DL.w_var); (· rfl))
  | ((with_reducible apply DL.w_xDeck); (· rfl))
  | ((with_reducible apply DL.w_listO); (· rfl))
  | ((with_reducible apply DL.w_isS); (· rfl))
  | ((with_reducible apply DL.w_listD); (· rfl))
  | ((with_reducible apply DL.w_app); (· exact trivial))
  | ((with_reducible apply DL.w_popAt); (· exact trivial))
  | ((with_reducible apply DL.w_dGet); (· exact trivial))
  | ((with_reducible apply DL.w_listA); (· rfl))
  | ((with_reducible apply DL.w_ext); (· exact trivial))
  | ((with_reducible apply DL.w_dGetT); (· exact trivial))
  | ((with_reducible apply DL.w_xLast); (· exact trivial))
  | ((with_reducible apply DL.w_appA); (· rfl))
  | ((with_reducible apply DL.w_listDictO); (· rfl))
  | ((with_reducible apply DL.w_lenDictO); (· rfl))
  | ((with_reducible apply DL.w_catVarO); (· rfl))
  | ((with_reducible apply DL.w_catVarD); (· rfl))
  | ((with_reducible apply DL.w_tupLL); (· decide))
  | ((with_reducible apply DL.w_fzO); (· rfl))
  | ((with_reducible apply DL.w_fzD); (· rfl))
  | ((with_reducible apply DL.w_fz); (· rfl))
  | ((with_reducible apply DL.w_gdTup); (· rfl))
  | ((with_reducible refine And.intro ?_ ?_); (· first | rfl | exact True.intro | decide | (dsimp only [List.length_cons, List.length_nil]; decide)))
  | with_reducible refine DL.w_I0 ?_ | with_reducible refine DL.w_eqI ?_ | with_reducible refine DL.w_neI ?_ | with_reducible refine DL.w_isN ?_ | with_reducible refine DL.w_notN ?_)
local macro_rules | `(tactic| walk_at "w") => `(tactic| (repeat walk_at "w2"; try dsimp only [List.set_cons_zero, List.set_cons_succ, List.cons_append, List.nil_append, List.replicate_succ, List.replicate_zero]))
set_option pp.maxSteps 1500
theorem val_m1 : Val 0 140 (.int (-1)) := ⟨by decide +kernel, by decide +kernel, by simp only [PyData.depth]; omega, by decide +kernel⟩
theorem val_big : Val 0 140 (.int ((10 : Int) ^ (39 : Int).toNat)) := ⟨by decide +kernel, by decide +kernel, by simp only [PyData.depth]; omega, by decide +kernel⟩
theorem val_n {k : Nat} (h : k < 100) : Val 0 140 (.int (k : Nat)) := (val_small (D := 0) k h).mono (by omega) (by omega)
theorem big_pos : (64 : Int) < (10 : Int) ^ (39 : Int).toNat := by decide +kernel
theorem pathD_app (p q : List Int) : PyData.tuple (p.map PyData.int ++ q.map PyData.int) = pathD (p ++ q) := congrArg PyData.tuple (List.map_append (l₁ := p) (l₂ := q)).symm
theorem step_big {r : Sheet} {k : Nat} {i : Int} (h : ((rowAt r k).2.length : Nat) ≤ i) : stepAt r k i = none := if_neg fun z => by omega
theorem step_neg {r : Sheet} {k : Nat} {i : Int} (h : i < 0) : stepAt r k i = none := if_neg fun z => by omega
/-- paths that lead to no node -/
theorem lost_ok {r : Sheet} (sr : Sm r) {p : List Int} {k : Nat} (hk : k < r.length) (e : atPath r 0 p = some k) (hl : p.length ≤ 30) (hp : ∀ i, i ∈ p → 0 ≤ i ∧ i < 3) {d : PyData} {m : Int} (hm : m = ((rowAt r k).2.length : Nat))
    (hd : d ∈ ([.tuple (p.map PyData.int ++ [.int m]), .tuple (p.map PyData.int ++ [.int (-1)]), .tuple (p.map PyData.int ++ [.int m, .int 0]), .tuple (p.map PyData.int ++ [.int ((10 : Int) ^ (39 : Int).toNat)]), .tuple ([.int (0 - 1)] ++ p.map PyData.int), .tuple ([.int 3] ++ p.map PyData.int)] : List PyData)) :
    ∃ q, d = pathD q ∧ atPath r 0 q = none ∧ POk q := by
  have hfl := sr.fl _ (row_mem hk)
  have hf0 := sr.fl _ (row_mem sr.ne)
  have vp : ∀ i, i ∈ p → Val 0 140 (.int i) := fun i hi => by
    obtain ⟨h1, h2⟩ := hp i hi
    obtain ⟨n, rfl⟩ := Int.eq_ofNat_of_zero_le h1
    exact val_n (by omega)
  have vm : Val 0 140 (.int m) := by
    rw [hm]
    exact val_n (by omega)
  have pk : ∀ q : List Int, q.length ≤ 2 → (∀ i, i ∈ q → Val 0 140 (.int i)) → POk (p ++ q) ∧ POk (q ++ p) := fun q h1 h2 => ⟨⟨by rw [List.length_append]; omega, fun i hi => (List.mem_append.mp hi).elim (vp i) (h2 i)⟩, ⟨by rw [List.length_append]; omega, fun i hi => (List.mem_append.mp hi).elim (h2 i) (vp i)⟩⟩
  have no : ∀ (i : Int) (q : List Int), stepAt r k i = none → atPath r 0 (p ++ (i :: q)) = none := fun i q h => by
    rw [at_app, e]
    show atPath r k (i :: q) = none
    rw [at_cons, h]
  have no0 : ∀ (i : Int) (q : List Int), stepAt r 0 i = none → atPath r 0 (i :: q) = none := fun i q h => by rw [at_cons, h]
  have big := big_pos
  rcases List.mem_cons.mp hd with rfl | hd
  · exact ⟨p ++ [m], pathD_app p [m], no m [] (step_big (by omega)), (pk [m] (by show 1 ≤ 2; omega) fun i hi => by rw [List.mem_singleton.mp hi]; exact vm).1⟩
  · rcases List.mem_cons.mp hd with rfl | hd
    · exact ⟨p ++ [-1], pathD_app p [-1], no (-1) [] (step_neg (by omega)), (pk [-1] (by decide) fun i hi => by rw [List.mem_singleton.mp hi]; exact val_m1).1⟩
    · rcases List.mem_cons.mp hd with rfl | hd
      · refine ⟨p ++ [m, 0], pathD_app p [m, 0], no m [0] (step_big (by omega)), (pk [m, 0] (by show 2 ≤ 2; omega) fun i hi => ?_).1⟩
        rcases List.mem_cons.mp hi with rfl | hi
        · exact vm
        · rw [List.mem_singleton.mp hi]
          exact val_n (k := 0) (by omega)
      · rcases List.mem_cons.mp hd with rfl | hd
        · exact ⟨p ++ [(10 : Int) ^ (39 : Int).toNat], pathD_app p [(10 : Int) ^ (39 : Int).toNat], no _ [] (step_big (by omega)), (pk [(10 : Int) ^ (39 : Int).toNat] (by show 1 ≤ 2; omega) fun i hi => by rw [List.mem_singleton.mp hi]; exact val_big).1⟩
        · rcases List.mem_cons.mp hd with rfl | hd
          · exact ⟨[0 - 1] ++ p, pathD_app [0 - 1] p, no0 (0 - 1) p (step_neg (by omega)), (pk [0 - 1] (by decide) fun i hi => by rw [List.mem_singleton.mp hi]; exact val_m1).2⟩
          · rw [List.mem_singleton.mp hd]
            exact ⟨[3] ++ p, pathD_app [3] p, no0 3 p (step_big (by omega)), (pk [3] (by decide) fun i hi => by rw [List.mem_singleton.mp hi]; exact val_n (k := 3) (by omega)).2⟩
theorem law_holds (cN : Addr) : dB_law F_tags F_rows F_path F_parts_right (F_right cN) F_copies F_pick { nx := fun _ => False, rt := fun v _ => v = .bool true } ⟨.un :: .deck :: List.replicate 8 .un, 0⟩ := by
  unfold dB_law
  walk_at "w"
  refine loop_rem (fun ds s => ∃ x2 x3 x4 x5 x6 x7 x8 x9 : DV, s.sl = [.un, .deck, x2, x3, x4, x5, x6, x7, x8, x9] ∧ s.n + 2000 * ds.length ≤ 7000) (fun d ds s hJ N hN => ?_) (fun s hJ => ?_) _ _ ⟨_, _, _, _, _, _, _, _, rfl, by show 0 + 2000 * 3 ≤ _; omega⟩
  · obtain ⟨x2, x3, x4, x5, x6, x7, x8, x9, hs, h1⟩ := hJ
    obtain ⟨sl, n⟩ := s
    simp only at hs h1
    subst hs
    rw [List.length_cons] at h1
    walk_at "w"
    refine tags_spec (by omega) fun ts n1 tg hn1 => ?_
    walk_at "w"
    refine rows_spec tg (by omega) fun r n2 ro hn2 => ?_
    obtain ⟨sr, ar, h3⟩ := rows_sm tg ro
    have hrl := ro.ln
    walk_at "w"
    refine parts_right_spec sr ar ?_
    walk_at "w"
    refine w_F rfl ?_
    walk_at "w"
    refine copies_spec sr.ok (by omega) h3 (by omega) fun q sp n3 cq hn3 => ?_
    walk_at "w"
    refine parts_right_spec (copy_sm sr cq) (copy_ar ar cq) ?_
    walk_at "w"
    refine w_F rfl ?_
    walk_at "w"
    refine right_some (p := []) (k := 0) sr ar ⟨by decide, fun i hi => absurd hi List.not_mem_nil⟩ rfl ?_
    walk_at "w"
    refine w_F rfl ?_
    walk_at "w"
    refine loop_rem (fun ds s => ∃ x5 x6 x7 x8 x9 : DV, s.sl = [.un, .deck, .dat d, .dat (tagsD ts), .dat (shD r), x5, x6, x7, x8, x9] ∧ s.n + 100 * ds.length ≤ n + 1500) (fun d' ds' s hJ N' hN' => ?_) (fun s hJ => ?_) _ _ ⟨_, _, _, _, _, rfl, by show n3 + 100 * 4 ≤ _; omega⟩
    · obtain ⟨x5, x6, x7, x8, x9, hs, h4⟩ := hJ
      obtain ⟨sl, n4⟩ := s
      simp only at hs h4
      subst hs
      rw [List.length_cons] at h4
      walk_at "w"
      refine path_spec sr (by omega) fun p k n5 hk e hl hp hn5 => ?_
      walk_at "w"
      refine w_ixU (atI_nat (row_get hk)) ?_
      walk_at "w"
      refine w_ixU rfl ?_
      walk_at "w"
      rw [List.length_map]
      have hpl : (p.map PyData.int).length ≤ 30 := by rw [List.length_map]; exact hl
      refine w_catU (by show _ + 1 ≤ _; omega) ?_
      walk_at "w"
      refine w_catU (by show _ + 1 ≤ _; omega) ?_
      walk_at "w"
      refine w_catU (by show _ + 2 ≤ _; omega) ?_
      walk_at "w"
      refine w_oI ⟨by omega, by omega, by decide⟩ ?_
      walk_at "w"
      refine w_catU (by show _ + 1 ≤ _; omega) ?_
      walk_at "w"
      refine w_catU (by show 1 + _ ≤ _; omega) ?_
      walk_at "w"
      refine w_catU (by show 1 + _ ≤ _; omega) ?_
      walk_at "w"
      refine w_appK rfl (by show 5 < 1000000; decide) ?_
      walk_at "w"
      refine right_some sr ar ⟨by omega, fun i hi => ?_⟩ e ?_
      · obtain ⟨h5, h6⟩ := hp i hi
        obtain ⟨z, rfl⟩ := Int.eq_ofNat_of_zero_le h5
        exact val_n (by omega)
      walk_at "w"
      refine w_F rfl ?_
      walk_at "w"
      refine pick_list (by omega) (show 1 ≤ 6 by omega) (show 6 < 1000000 by omega) fun d2 hd2 => ?_
      obtain ⟨q, rfl, hq, hpq⟩ := lost_ok sr hk e hl hp rfl hd2
      walk_at "w"
      refine right_none sr hpq hq ?_
      walk_at "w"
      refine w_F rfl ?_
      walk_at "w"
      exact hN' _ ⟨_, _, _, _, _, rfl, by show n5 + 1 + _ ≤ _; omega⟩
    · obtain ⟨x5, x6, x7, x8, x9, hs, h4⟩ := hJ
      obtain ⟨sl, n4⟩ := s
      simp only at hs h4
      subst hs
      exact hN _ ⟨_, _, _, _, _, _, _, _, rfl, by
        simp only [List.length_nil] at h4
        show n4 + _ ≤ _
        omega⟩
  · obtain ⟨x2, x3, x4, x5, x6, x7, x8, x9, hs, h1⟩ := hJ
    obtain ⟨sl, n⟩ := s
    simp only at hs h1
    subst hs
    walk_at "w"
end K07

set_option Elab.async false
set_option linter.all false
set_option maxRecDepth 100000
set_option maxHeartbeats 4000000
/-! FN07: what the head tells, joined. -/
namespace K07
open PySem PySem.Spec PyProof.Rows L2 GG DD PT DL
section
variable {P : Program} {w : World} {K : PySem.W.Frag} {mg : Str → Option Value} {base : Heap}
theorem all_mk {h : Heap} (X : K.In h) (G : h.Ns mainGlobals mg)
    {fa d0 d1 d2 d3 d4 d5 d6 d7 d8 d9 d10 d11 d12 d13 d14 d15 d16 d17 d18 d19 d20 d21 d22 d23 d24 d25 d26 : Addr}
    {oc0 kV0 dc0 pm0 cd0 ct0 oc1 kV1 dc1 pm1 cd1 ct1 oc2 kV2 dc2 pm2 cd2 ct2 oc3 kV3 dc3 pm3 cd3 ct3 oc4 kV4 dc4 pm4 cd4 ct4 oc5 kV5 dc5 pm5 cd5 ct5 oc6 kV6 dc6 pm6 cd6 ct6 oc7 kV7 dc7 pm7 cd7 ct7 oc8 kV8 dc8 pm8 cd8 ct8 oc9 kV9 dc9 pm9 cd9 ct9 oc10 kV10 dc10 pm10 cd10 ct10 oc11 kV11 dc11 pm11 cd11 ct11 oc12 kV12 dc12 pm12 cd12 ct12 oc13 kV13 dc13 pm13 cd13 ct13 oc14 kV14 dc14 pm14 cd14 ct14 oc15 kV15 dc15 pm15 cd15 ct15 oc16 kV16 dc16 pm16 cd16 ct16 oc17 kV17 dc17 pm17 cd17 ct17 oc18 kV18 dc18 pm18 cd18 ct18 oc19 kV19 dc19 pm19 cd19 ct19 oc20 kV20 dc20 pm20 cd20 ct20 oc21 kV21 dc21 pm21 cd21 ct21 oc22 kV22 dc22 pm22 cd22 ct22 oc23 kV23 dc23 pm23 cd23 ct23 oc24 kV24 dc24 pm24 cd24 ct24 oc25 kV25 dc25 pm25 cd25 ct25 oc26 kV26 dc26 pm26 cd26 ct26 : Value}
    {od0 an0 od1 an1 od2 an2 od3 an3 od4 an4 od5 an5 od6 an6 od7 an7 od8 an8 od9 an9 od10 an10 od11 an11 od12 an12 od13 an13 od14 an14 od15 an15 od16 an16 od17 an17 od18 an18 od19 an19 od20 an20 od21 an21 od22 an22 od23 an23 od24 an24 od25 an25 od26 an26 : Option Addr}
    {sl0 sl1 sl2 sl3 sl4 sl5 sl6 sl7 sl8 sl9 sl10 sl11 sl12 sl13 sl14 sl15 sl16 sl17 sl18 sl19 sl20 sl21 sl22 sl23 sl24 sl25 sl26 : Array (Option Value)}
    (ad0 : PySem.W.nsIn K mainGlobals "_law_deck" = some (some (.ref d0)))
    (ld0 : K.lookup d0 = some ⟨oc0, od0, .func (PySem.W.fnOf "_law_deck" "_law_deck" (defArgs s_deck) (defBody s_deck) (defScope s_deck) .none kV0 dc0 pm0 an0 cd0 ct0), sl0⟩)
    (cc0 : PySem.W.codeIn K cd0 "_law_deck" = true)
    (kd0 : PySem.W.keepIn K (.ref d0) = true)
    (ad1 : PySem.W.nsIn K mainGlobals "_law_draw" = some (some (.ref d1)))
    (ld1 : K.lookup d1 = some ⟨oc1, od1, .func (PySem.W.fnOf "_law_draw" "_law_draw" (defArgs s_draw) (defBody s_draw) (defScope s_draw) .none kV1 dc1 pm1 an1 cd1 ct1), sl1⟩)
    (cc1 : PySem.W.codeIn K cd1 "_law_draw" = true)
    (kd1 : PySem.W.keepIn K (.ref d1) = true)
    (ad2 : PySem.W.nsIn K mainGlobals "numbered" = some (some (.ref d2)))
    (ld2 : K.lookup d2 = some ⟨oc2, od2, .func (PySem.W.fnOf "numbered" "numbered" (defArgs s_numbered) (defBody s_numbered) (defScope s_numbered) .none kV2 dc2 pm2 an2 cd2 ct2), sl2⟩)
    (cc2 : PySem.W.codeIn K cd2 "numbered" = true)
    (kd2 : PySem.W.keepIn K (.ref d2) = true)
    (ad3 : PySem.W.nsIn K mainGlobals "reached" = some (some (.ref d3)))
    (ld3 : K.lookup d3 = some ⟨oc3, od3, .func (PySem.W.fnOf "reached" "reached" (defArgs s_reached) (defBody s_reached) (defScope s_reached) .none kV3 dc3 pm3 an3 cd3 ct3), sl3⟩)
    (cc3 : PySem.W.codeIn K cd3 "reached" = true)
    (kd3 : PySem.W.keepIn K (.ref d3) = true)
    (ad4 : PySem.W.nsIn K mainGlobals "classes_of" = some (some (.ref d4)))
    (ld4 : K.lookup d4 = some ⟨oc4, od4, .func (PySem.W.fnOf "classes_of" "classes_of" (defArgs s_classes_of) (defBody s_classes_of) (defScope s_classes_of) .none kV4 dc4 pm4 an4 cd4 ct4), sl4⟩)
    (cc4 : PySem.W.codeIn K cd4 "classes_of" = true)
    (kd4 : PySem.W.keepIn K (.ref d4) = true)
    (ad5 : PySem.W.nsIn K mainGlobals "renumbered" = some (some (.ref d5)))
    (ld5 : K.lookup d5 = some ⟨oc5, od5, .func (PySem.W.fnOf "renumbered" "renumbered" (defArgs s_renumbered) (defBody s_renumbered) (defScope s_renumbered) .none kV5 dc5 pm5 an5 cd5 ct5), sl5⟩)
    (cc5 : PySem.W.codeIn K cd5 "renumbered" = true)
    (kd5 : PySem.W.keepIn K (.ref d5) = true)
    (ad6 : PySem.W.nsIn K mainGlobals "reduced" = some (some (.ref d6)))
    (ld6 : K.lookup d6 = some ⟨oc6, od6, .func (PySem.W.fnOf "reduced" "reduced" (defArgs s_reduced) (defBody s_reduced) (defScope s_reduced) .none kV6 dc6 pm6 an6 cd6 ct6), sl6⟩)
    (cc6 : PySem.W.codeIn K cd6 "reduced" = true)
    (kd6 : PySem.W.keepIn K (.ref d6) = true)
    (ad7 : PySem.W.nsIn K mainGlobals "is_integer" = some (some (.ref d7)))
    (ld7 : K.lookup d7 = some ⟨oc7, od7, .func (PySem.W.fnOf "is_integer" "is_integer" (defArgs s_is_integer) (defBody s_is_integer) (defScope s_is_integer) .none kV7 dc7 pm7 an7 cd7 ct7), sl7⟩)
    (cc7 : PySem.W.codeIn K cd7 "is_integer" = true)
    (kd7 : PySem.W.keepIn K (.ref d7) = true)
    (ad8 : PySem.W.nsIn K mainGlobals "is_index" = some (some (.ref d8)))
    (ld8 : K.lookup d8 = some ⟨oc8, od8, .func (PySem.W.fnOf "is_index" "is_index" (defArgs s_is_index) (defBody s_is_index) (defScope s_is_index) .none kV8 dc8 pm8 an8 cd8 ct8), sl8⟩)
    (cc8 : PySem.W.codeIn K cd8 "is_index" = true)
    (kd8 : PySem.W.keepIn K (.ref d8) = true)
    (ad9 : PySem.W.nsIn K mainGlobals "least_sheet" = some (some (.ref d9)))
    (ld9 : K.lookup d9 = some ⟨oc9, od9, .func (PySem.W.fnOf "least_sheet" "least_sheet" (defArgs s_least_sheet) (defBody s_least_sheet) (defScope s_least_sheet) .none kV9 dc9 pm9 an9 cd9 ct9), sl9⟩)
    (cc9 : PySem.W.codeIn K cd9 "least_sheet" = true)
    (kd9 : PySem.W.keepIn K (.ref d9) = true)
    (ad10 : PySem.W.nsIn K mainGlobals "row_at" = some (some (.ref d10)))
    (ld10 : K.lookup d10 = some ⟨oc10, od10, .func (PySem.W.fnOf "row_at" "row_at" (defArgs s_row_at) (defBody s_row_at) (defScope s_row_at) .none kV10 dc10 pm10 an10 cd10 ct10), sl10⟩)
    (cc10 : PySem.W.codeIn K cd10 "row_at" = true)
    (kd10 : PySem.W.keepIn K (.ref d10) = true)
    (ad11 : PySem.W.nsIn K mainGlobals "tag_at" = some (some (.ref d11)))
    (ld11 : K.lookup d11 = some ⟨oc11, od11, .func (PySem.W.fnOf "tag_at" "tag_at" (defArgs s_tag_at) (defBody s_tag_at) (defScope s_tag_at) .none kV11 dc11 pm11 an11 cd11 ct11), sl11⟩)
    (cc11 : PySem.W.codeIn K cd11 "tag_at" = true)
    (kd11 : PySem.W.keepIn K (.ref d11) = true)
    (ad12 : PySem.W.nsIn K mainGlobals "part_at" = some (some (.ref d12)))
    (ld12 : K.lookup d12 = some ⟨oc12, od12, .func (PySem.W.fnOf "part_at" "part_at" (defArgs s_part_at) (defBody s_part_at) (defScope s_part_at) .none kV12 dc12 pm12 an12 cd12 ct12), sl12⟩)
    (cc12 : PySem.W.codeIn K cd12 "part_at" = true)
    (kd12 : PySem.W.keepIn K (.ref d12) = true)
    (ad13 : PySem.W.nsIn K mainGlobals "all_parts" = some (some (.ref d13)))
    (ld13 : K.lookup d13 = some ⟨oc13, od13, .func (PySem.W.fnOf "all_parts" "all_parts" (defArgs s_all_parts) (defBody s_all_parts) (defScope s_all_parts) .none kV13 dc13 pm13 an13 cd13 ct13), sl13⟩)
    (cc13 : PySem.W.codeIn K cd13 "all_parts" = true)
    (kd13 : PySem.W.keepIn K (.ref d13) = true)
    (ad14 : PySem.W.nsIn K mainGlobals "_law_pick" = some (some (.ref d14)))
    (ld14 : K.lookup d14 = some ⟨oc14, od14, .func (PySem.W.fnOf "_law_pick" "_law_pick" (defArgs s_pick) (defBody s_pick) (defScope s_pick) .none kV14 dc14 pm14 an14 cd14 ct14), sl14⟩)
    (cc14 : PySem.W.codeIn K cd14 "_law_pick" = true)
    (kd14 : PySem.W.keepIn K (.ref d14) = true)
    (ad15 : PySem.W.nsIn K mainGlobals "_law_names" = some (some (.ref d15)))
    (ld15 : K.lookup d15 = some ⟨oc15, od15, .func (PySem.W.fnOf "_law_names" "_law_names" (defArgs s_names) (defBody s_names) (defScope s_names) .none kV15 dc15 pm15 an15 cd15 ct15), sl15⟩)
    (cc15 : PySem.W.codeIn K cd15 "_law_names" = true)
    (kd15 : PySem.W.keepIn K (.ref d15) = true)
    (ad16 : PySem.W.nsIn K mainGlobals "_law_tags" = some (some (.ref d16)))
    (ld16 : K.lookup d16 = some ⟨oc16, od16, .func (PySem.W.fnOf "_law_tags" "_law_tags" (defArgs s_tags) (defBody s_tags) (defScope s_tags) .none kV16 dc16 pm16 an16 cd16 ct16), sl16⟩)
    (cc16 : PySem.W.codeIn K cd16 "_law_tags" = true)
    (kd16 : PySem.W.keepIn K (.ref d16) = true)
    (ad17 : PySem.W.nsIn K mainGlobals "_law_rows" = some (some (.ref d17)))
    (ld17 : K.lookup d17 = some ⟨oc17, od17, .func (PySem.W.fnOf "_law_rows" "_law_rows" (defArgs s_rows) (defBody s_rows) (defScope s_rows) .none kV17 dc17 pm17 an17 cd17 ct17), sl17⟩)
    (cc17 : PySem.W.codeIn K cd17 "_law_rows" = true)
    (kd17 : PySem.W.keepIn K (.ref d17) = true)
    (ad18 : PySem.W.nsIn K mainGlobals "_law_copies" = some (some (.ref d18)))
    (ld18 : K.lookup d18 = some ⟨oc18, od18, .func (PySem.W.fnOf "_law_copies" "_law_copies" (defArgs s_copies) (defBody s_copies) (defScope s_copies) .none kV18 dc18 pm18 an18 cd18 ct18), sl18⟩)
    (cc18 : PySem.W.codeIn K cd18 "_law_copies" = true)
    (kd18 : PySem.W.keepIn K (.ref d18) = true)
    (ad19 : PySem.W.nsIn K mainGlobals "_law_differ" = some (some (.ref d19)))
    (ld19 : K.lookup d19 = some ⟨oc19, od19, .func (PySem.W.fnOf "_law_differ" "_law_differ" (defArgs s_differ) (defBody s_differ) (defScope s_differ) .none kV19 dc19 pm19 an19 cd19 ct19), sl19⟩)
    (cc19 : PySem.W.codeIn K cd19 "_law_differ" = true)
    (kd19 : PySem.W.keepIn K (.ref d19) = true)
    (ad20 : PySem.W.nsIn K mainGlobals "_law_visited" = some (some (.ref d20)))
    (ld20 : K.lookup d20 = some ⟨oc20, od20, .func (PySem.W.fnOf "_law_visited" "_law_visited" (defArgs s_visited) (defBody s_visited) (defScope s_visited) .none kV20 dc20 pm20 an20 cd20 ct20), sl20⟩)
    (cc20 : PySem.W.codeIn K cd20 "_law_visited" = true)
    (kd20 : PySem.W.keepIn K (.ref d20) = true)
    (ad21 : PySem.W.nsIn K mainGlobals "_law_least" = some (some (.ref d21)))
    (ld21 : K.lookup d21 = some ⟨oc21, od21, .func (PySem.W.fnOf "_law_least" "_law_least" (defArgs s_least) (defBody s_least) (defScope s_least) .none kV21 dc21 pm21 an21 cd21 ct21), sl21⟩)
    (cc21 : PySem.W.codeIn K cd21 "_law_least" = true)
    (kd21 : PySem.W.keepIn K (.ref d21) = true)
    (ad22 : PySem.W.nsIn K mainGlobals "_law_path" = some (some (.ref d22)))
    (ld22 : K.lookup d22 = some ⟨oc22, od22, .func (PySem.W.fnOf "_law_path" "_law_path" (defArgs s_path) (defBody s_path) (defScope s_path) .none kV22 dc22 pm22 an22 cd22 ct22), sl22⟩)
    (cc22 : PySem.W.codeIn K cd22 "_law_path" = true)
    (kd22 : PySem.W.keepIn K (.ref d22) = true)
    (ad23 : PySem.W.nsIn K mainGlobals "_law_heard" = some (some (.ref d23)))
    (ld23 : K.lookup d23 = some ⟨oc23, od23, .func (PySem.W.fnOf "_law_heard" "_law_heard" (defArgs s_heard) (defBody s_heard) (defScope s_heard) .none kV23 dc23 pm23 an23 cd23 ct23), sl23⟩)
    (cc23 : PySem.W.codeIn K cd23 "_law_heard" = true)
    (kd23 : PySem.W.keepIn K (.ref d23) = true)
    (ad24 : PySem.W.nsIn K mainGlobals "_law_right" = some (some (.ref d24)))
    (ld24 : K.lookup d24 = some ⟨oc24, od24, .func (PySem.W.fnOf "_law_right" "_law_right" (defArgs s_right) (defBody s_right) (defScope s_right) .none kV24 dc24 pm24 an24 cd24 ct24), sl24⟩)
    (cc24 : PySem.W.codeIn K cd24 "_law_right" = true)
    (kd24 : PySem.W.keepIn K (.ref d24) = true)
    (ad25 : PySem.W.nsIn K mainGlobals "_law_parts_right" = some (some (.ref d25)))
    (ld25 : K.lookup d25 = some ⟨oc25, od25, .func (PySem.W.fnOf "_law_parts_right" "_law_parts_right" (defArgs s_parts_right) (defBody s_parts_right) (defScope s_parts_right) .none kV25 dc25 pm25 an25 cd25 ct25), sl25⟩)
    (cc25 : PySem.W.codeIn K cd25 "_law_parts_right" = true)
    (kd25 : PySem.W.keepIn K (.ref d25) = true)
    (ad26 : PySem.W.nsIn K mainGlobals "law" = some (some (.ref d26)))
    (ld26 : K.lookup d26 = some ⟨oc26, od26, .func (PySem.W.fnOf "law" "law" (defArgs s_law) (defBody s_law) (defScope s_law) .none kV26 dc26 pm26 an26 cd26 ct26), sl26⟩)
    (cc26 : PySem.W.codeIn K cd26 "law" = true)
    (kd26 : PySem.W.keepIn K (.ref d26) = true)
    (n_KeyError : PySem.W.nsIn K mainGlobals "KeyError" = some none)
    (n_bool : PySem.W.nsIn K mainGlobals "bool" = some none)
    (n_enumerate : PySem.W.nsIn K mainGlobals "enumerate" = some none)
    (n_int : PySem.W.nsIn K mainGlobals "int" = some none)
    (n_isinstance : PySem.W.nsIn K mainGlobals "isinstance" = some none)
    (n_len : PySem.W.nsIn K mainGlobals "len" = some none)
    (n_list : PySem.W.nsIn K mainGlobals "list" = some none)
    (n_range : PySem.W.nsIn K mainGlobals "range" = some none)
    (n_repr : PySem.W.nsIn K mainGlobals "repr" = some none)
    (n_sorted : PySem.W.nsIn K mainGlobals "sorted" = some none)
    (n_tuple : PySem.W.nsIn K mainGlobals "tuple" = some none)
    (n_zip : PySem.W.nsIn K mainGlobals "zip" = some none)
    {cN ix0 : Addr} {ocx0 kVx0 dcx0 pmx0 cdx0 ctx0 : Value} {odx0 anx0 : Option Addr} {slx0 : Array (Option Value)}
    (ax0 : PySem.W.nsIn K mainGlobals "NoPath" = some (some (.ref cN)))
    (bx0 : PySem.W.findIn K (.ref cN) "__init__" = some (some (.ref ix0)))
    (lx0 : K.lookup ix0 = some ⟨ocx0, odx0, .func (PySem.W.fnOf "__init__" "NoPath.__init__" (defArgs (inClass (topS 3) 0)) (defBody (inClass (topS 3) 0)) (defScope (inClass (topS 3) 0)) .none kVx0 dcx0 pmx0 anx0 cdx0 ctx0), slx0⟩)
    (cx0 : PySem.W.codeIn K cdx0 "NoPath.__init__" = true)
    (kx0 : KX.xcOk K "ValueError.__new__" KX.veTail cN = true) (ky0 : XCM.oexB K cN = true) (kz0 : XCM.chkI K "path" cN ix0 = true)
    {cR : Addr} (ac_RoundCallsError : PySem.W.nsIn K mainGlobals "RoundCallsError" = some (some (.ref cR)))
    {cI : Addr} (ac_InvalidText : PySem.W.nsIn K mainGlobals "InvalidText" = some (some (.ref cI)))
    (s1 : PySem.W.specialIn K (.ref cR) "__getattribute__" = some (some (.builtin "type.__getattribute__"))) (s2 : PySem.W.readsIn K cR (.type "type") = true) (s3 : PySem.W.findCls K (.ref cR) (.type "type") "__init__" = some (.val (.builtin "ValueError.__init__")))
    (g1 : PySem.W.specialIn K (.builtin "object.__class__") "__get__" = some (some (.builtin "getset_descriptor.__get__"))) (g2 : PySem.W.takesIn K (.builtin "object.__class__") = some true)
    (k_R : PySem.W.kitOne K (.ref cN) (.ref cR) = some true)
    (k_T : PySem.W.kitAny K (.ref cN) [.ref cI, .type "KeyError"] = some false)
    (sys : SysK K)
    (hfa : mg "law" = some (.ref fa)) :
    ∃ fd : FuncData, (∀ (s : Shared) (u : Value), BindsTo s fd ⟨[u], []⟩ [("_law_script", u)]) ∧ ∀ base : Heap, K.In base → base.Ns mainGlobals mg → Fg P w K mg base 104 fa fd ["_law_script"] (spLaw K) := by
  have e := hfa.symm.trans (PySem.W.mg_of X G ad26)
  cases e
  have m_KeyError := PySem.W.mg_none_of X G n_KeyError
  have m_bool := PySem.W.mg_none_of X G n_bool
  have m_enumerate := PySem.W.mg_none_of X G n_enumerate
  have m_int := PySem.W.mg_none_of X G n_int
  have m_isinstance := PySem.W.mg_none_of X G n_isinstance
  have m_len := PySem.W.mg_none_of X G n_len
  have m_list := PySem.W.mg_none_of X G n_list
  have m_range := PySem.W.mg_none_of X G n_range
  have m_repr := PySem.W.mg_none_of X G n_repr
  have m_sorted := PySem.W.mg_none_of X G n_sorted
  have m_tuple := PySem.W.mg_none_of X G n_tuple
  have m_zip := PySem.W.mg_none_of X G n_zip
  have c_RoundCallsError := PySem.W.mg_of X G ac_RoundCallsError
  have c_InvalidText := PySem.W.mg_of X G ac_InvalidText
  have GC : KX.ClsRead K := ⟨g1, g2⟩
  have F0 := fun_mk (st := s_deck) ld0 cc0 kd0
  have bd0 := F0.binds (ps := ["_law_script"]) fun _ _ _ _ _ _ us hl => match us, hl with | [_], _ => rfl
  have F1 := fun_mk (st := s_draw) ld1 cc1 kd1
  have bd1 := F1.binds (ps := ["_law_deck_here", "_law_limit"]) fun _ _ _ _ _ _ us hl => match us, hl with | [_, _], _ => rfl
  have F2 := fun_mk (st := s_numbered) ld2 cc2 kd2
  have bd2 := F2.binds (ps := ["keys"]) fun _ _ _ _ _ _ us hl => match us, hl with | [_], _ => rfl
  have F3 := fun_mk (st := s_reached) ld3 cc3 kd3
  have bd3 := F3.binds (ps := ["rows", "root"]) fun _ _ _ _ _ _ us hl => match us, hl with | [_, _], _ => rfl
  have F4 := fun_mk (st := s_classes_of) ld4 cc4 kd4
  have bd4 := F4.binds (ps := ["rows", "used"]) fun _ _ _ _ _ _ us hl => match us, hl with | [_, _], _ => rfl
  have F5 := fun_mk (st := s_renumbered) ld5 cc5 kd5
  have bd5 := F5.binds (ps := ["rows", "root"]) fun _ _ _ _ _ _ us hl => match us, hl with | [_, _], _ => rfl
  have F6 := fun_mk (st := s_reduced) ld6 cc6 kd6
  have bd6 := F6.binds (ps := ["rows", "root"]) fun _ _ _ _ _ _ us hl => match us, hl with | [_, _], _ => rfl
  have F7 := fun_mk (st := s_is_integer) ld7 cc7 kd7
  have bd7 := F7.binds (ps := ["thing"]) fun _ _ _ _ _ _ us hl => match us, hl with | [_], _ => rfl
  have F8 := fun_mk (st := s_is_index) ld8 cc8 kd8
  have bd8 := F8.binds (ps := ["thing", "count"]) fun _ _ _ _ _ _ us hl => match us, hl with | [_, _], _ => rfl
  have F9 := fun_mk (st := s_least_sheet) ld9 cc9 kd9
  have bd9 := F9.binds (ps := ["sheet"]) fun _ _ _ _ _ _ us hl => match us, hl with | [_], _ => rfl
  have F10 := fun_mk (st := s_row_at) ld10 cc10 kd10
  have bd10 := F10.binds (ps := ["sheet", "path"]) fun _ _ _ _ _ _ us hl => match us, hl with | [_, _], _ => rfl
  have F11 := fun_mk (st := s_tag_at) ld11 cc11 kd11
  have bd11 := F11.binds (ps := ["sheet", "path"]) fun _ _ _ _ _ _ us hl => match us, hl with | [_, _], _ => rfl
  have F12 := fun_mk (st := s_part_at) ld12 cc12 kd12
  have bd12 := F12.binds (ps := ["sheet", "path"]) fun _ _ _ _ _ _ us hl => match us, hl with | [_, _], _ => rfl
  have F13 := fun_mk (st := s_all_parts) ld13 cc13 kd13
  have bd13 := F13.binds (ps := ["sheet"]) fun _ _ _ _ _ _ us hl => match us, hl with | [_], _ => rfl
  have F14 := fun_mk (st := s_pick) ld14 cc14 kd14
  have bd14 := F14.binds (ps := ["_law_deck_here", "_law_items"]) fun _ _ _ _ _ _ us hl => match us, hl with | [_, _], _ => rfl
  have F15 := fun_mk (st := s_names) ld15 cc15 kd15
  have bd15 := F15.binds (ps := ["_law_deck_here", "_law_many"]) fun _ _ _ _ _ _ us hl => match us, hl with | [_, _], _ => rfl
  have F16 := fun_mk (st := s_tags) ld16 cc16 kd16
  have bd16 := F16.binds (ps := ["_law_deck_here"]) fun _ _ _ _ _ _ us hl => match us, hl with | [_], _ => rfl
  have F17 := fun_mk (st := s_rows) ld17 cc17 kd17
  have bd17 := F17.binds (ps := ["_law_deck_here", "_law_tags_here"]) fun _ _ _ _ _ _ us hl => match us, hl with | [_, _], _ => rfl
  have F18 := fun_mk (st := s_copies) ld18 cc18 kd18
  have bd18 := F18.binds (ps := ["_law_deck_here", "_law_rows_here"]) fun _ _ _ _ _ _ us hl => match us, hl with | [_, _], _ => rfl
  have F19 := fun_mk (st := s_differ) ld19 cc19 kd19
  have bd19 := F19.binds (ps := ["_law_rows_here", "_law_far"]) fun _ _ _ _ _ _ us hl => match us, hl with | [_, _], _ => rfl
  have F20 := fun_mk (st := s_visited) ld20 cc20 kd20
  have bd20 := F20.binds (ps := ["_law_rows_here", "_law_marks", "_law_row", "_law_met"]) fun _ _ _ _ _ _ us hl => match us, hl with | [_, _, _, _], _ => rfl
  have F21 := fun_mk (st := s_least) ld21 cc21 kd21
  have bd21 := F21.binds (ps := ["_law_rows_here", "_law_root"]) fun _ _ _ _ _ _ us hl => match us, hl with | [_, _], _ => rfl
  have F22 := fun_mk (st := s_path) ld22 cc22 kd22
  have bd22 := F22.binds (ps := ["_law_deck_here", "_law_rows_here"]) fun _ _ _ _ _ _ us hl => match us, hl with | [_, _], _ => rfl
  have F23 := fun_mk (st := s_heard) ld23 cc23 kd23
  have bd23 := F23.binds (ps := ["_law_rows_here", "_law_steps", "_law_way"]) fun _ _ _ _ _ _ us hl => match us, hl with | [_, _, _], _ => rfl
  have F24 := fun_mk (st := s_right) ld24 cc24 kd24
  have bd24 := F24.binds (ps := ["_law_rows_here", "_law_steps", "_law_row"]) fun _ _ _ _ _ _ us hl => match us, hl with | [_, _, _], _ => rfl
  have F25 := fun_mk (st := s_parts_right) ld25 cc25 kd25
  have bd25 := F25.binds (ps := ["_law_rows_here"]) fun _ _ _ _ _ _ us hl => match us, hl with | [_], _ => rfl
  have F26 := fun_mk (st := s_law) ld26 cc26 kd26
  refine ⟨PySem.W.fnOf "law" "law" (defArgs s_law) (defBody s_law) (defScope s_law) .none kV26 dc26 pm26 an26 cd26 ct26, fun s u => .of_eq rfl, fun base hK hG => ?_⟩
  have T_NoPath : XC P w K mg base "NoPath" "path" "ValueError.__new__" KX.veTail cN := XCM.xc_mk (st := (inClass (topS 3) 0)) (PySem.W.mg_of X G ax0) kx0 ky0 bx0 kz0 lx0 cx0 c_RoundCallsError s1 s2 s3 ⟨rfl, rfl, rfl, by decide +kernel, rfl, by decide +kernel, by decide +kernel⟩ rfl (by rfl) (by rfl) (by rfl) (by decide) (by decide) (fun _ => ⟨_, rfl⟩) (fun us hl => match us, hl with | [_, _], _ => rfl)
  have A0 : Fg P w K mg base 1 _ _ ["_law_script"] (spDeckH K) := ok_deck F0 m_list
  have D0 : Df P w K mg base 1 "_law_deck" ["_law_script"] (spDeckH K) := ⟨⟨_, _, A0, PySem.W.mg_of X G ad0, kd0, bd0⟩⟩
  have A1 : Fg P w K mg base 1 _ _ ["_law_deck_here", "_law_limit"] (spOf K 2 (F_draw)) := ok_draw F1
  have D1 : Df P w K mg base 1 "_law_draw" ["_law_deck_here", "_law_limit"] (spOf K 2 (F_draw)) := ⟨⟨_, _, A1, PySem.W.mg_of X G ad1, kd1, bd1⟩⟩
  have A2 : Fg P w K mg base 1 _ _ ["keys"] (spOf K 1 (F_num)) := ok_numbered F2 m_len
  have D2 : Df P w K mg base 1 "numbered" ["keys"] (spOf K 1 (F_num)) := ⟨⟨_, _, A2, PySem.W.mg_of X G ad2, kd2, bd2⟩⟩
  have A3 : Fg P w K mg base 1 _ _ ["rows", "root"] (spOf K 2 (F_reached)) := ok_reached F3 m_len m_list
  have D3 : Df P w K mg base 1 "reached" ["rows", "root"] (spOf K 2 (F_reached)) := ⟨⟨_, _, A3, PySem.W.mg_of X G ad3, kd3, bd3⟩⟩
  have A4 : Fg P w K mg base 2 _ _ ["rows", "used"] (spOf K 2 (F_classes)) := ok_classes_of F4 D2 (by omega)
  have D4 : Df P w K mg base 2 "classes_of" ["rows", "used"] (spOf K 2 (F_classes)) := ⟨⟨_, _, A4, PySem.W.mg_of X G ad4, kd4, bd4⟩⟩
  have A5 : Fg P w K mg base 2 _ _ ["rows", "root"] (spOf K 2 (F_renum)) := ok_renumbered F5 D3 m_enumerate m_tuple (by omega)
  have D5 : Df P w K mg base 2 "renumbered" ["rows", "root"] (spOf K 2 (F_renum)) := ⟨⟨_, _, A5, PySem.W.mg_of X G ad5, kd5, bd5⟩⟩
  have A6 : Fg P w K mg base 3 _ _ ["rows", "root"] (spOf K 2 (F_reduced)) := ok_reduced F6 D3 D4 D5 (by omega) (by omega) (by omega)
  have D6 : Df P w K mg base 3 "reduced" ["rows", "root"] (spOf K 2 (F_reduced)) := ⟨⟨_, _, A6, PySem.W.mg_of X G ad6, kd6, bd6⟩⟩
  have A7 : Fg P w K mg base 1 _ _ ["thing"] (spOf K 1 (F_is_integer)) := ok_is_integer F7 m_bool m_int m_isinstance
  have D7 : Df P w K mg base 1 "is_integer" ["thing"] (spOf K 1 (F_is_integer)) := ⟨⟨_, _, A7, PySem.W.mg_of X G ad7, kd7, bd7⟩⟩
  have A8 : Fg P w K mg base 2 _ _ ["thing", "count"] (spOf K 2 (F_is_index)) := ok_is_index F8 D7 (by omega)
  have D8 : Df P w K mg base 2 "is_index" ["thing", "count"] (spOf K 2 (F_is_index)) := ⟨⟨_, _, A8, PySem.W.mg_of X G ad8, kd8, bd8⟩⟩
  have A9 : Fg P w K mg base 4 _ _ ["sheet"] (spOf K 1 (F_least_sheet)) := ok_least_sheet F9 D6 (by omega)
  have D9 : Df P w K mg base 4 "least_sheet" ["sheet"] (spOf K 1 (F_least_sheet)) := ⟨⟨_, _, A9, PySem.W.mg_of X G ad9, kd9, bd9⟩⟩
  have A10 : Fgx P w K mg base 3 _ _ ["sheet", "path"] (spX K 2 (F_row_at cN)) := ok_row_at F10 D8 m_len T_NoPath (by omega) (by omega)
  have D10 : DfX P w K mg base 3 "row_at" ["sheet", "path"] (spX K 2 (F_row_at cN)) := ⟨⟨_, _, A10, PySem.W.mg_of X G ad10, kd10, bd10⟩⟩
  have A11 : Fgx P w K mg base 4 _ _ ["sheet", "path"] (spX K 2 (F_tag_at cN)) := ok_tag_at F11 D10 (by omega)
  have D11 : DfX P w K mg base 4 "tag_at" ["sheet", "path"] (spX K 2 (F_tag_at cN)) := ⟨⟨_, _, A11, PySem.W.mg_of X G ad11, kd11, bd11⟩⟩
  have DK11_path_sheet : DfKX P w K mg base 4 "tag_at" ["sheet", "path"] ["path", "sheet"] [1, 0] (spX K 2 (F_tag_at cN)) := ⟨⟨_, _, A11, PySem.W.mg_of X G ad11, kd11, kb F11 (ps := ["sheet", "path"]) (ks := ["path", "sheet"]) (π := [1, 0]) fun _ _ _ _ _ _ us hl => match us, hl with | [_, _], _ => rfl⟩⟩
  have A12 : Fgx P w K mg base 4 _ _ ["sheet", "path"] (spX K 2 (F_part_at cN)) := ok_part_at F12 D6 D10 (by omega) (by omega)
  have D12 : DfX P w K mg base 4 "part_at" ["sheet", "path"] (spX K 2 (F_part_at cN)) := ⟨⟨_, _, A12, PySem.W.mg_of X G ad12, kd12, bd12⟩⟩
  have DK12_path_sheet : DfKX P w K mg base 4 "part_at" ["sheet", "path"] ["path", "sheet"] [1, 0] (spX K 2 (F_part_at cN)) := ⟨⟨_, _, A12, PySem.W.mg_of X G ad12, kd12, kb F12 (ps := ["sheet", "path"]) (ks := ["path", "sheet"]) (π := [1, 0]) fun _ _ _ _ _ _ us hl => match us, hl with | [_, _], _ => rfl⟩⟩
  have A13 : Fg P w K mg base 5 _ _ ["sheet"] (spOf K 1 (F_all_parts)) := ok_all_parts F13 D9 D5 m_len m_range m_tuple (by omega) (by omega)
  have D13 : Df P w K mg base 5 "all_parts" ["sheet"] (spOf K 1 (F_all_parts)) := ⟨⟨_, _, A13, PySem.W.mg_of X G ad13, kd13, bd13⟩⟩
  have DK13_sheet : DfK P w K mg base 5 "all_parts" ["sheet"] ["sheet"] [0] (spOf K 1 (F_all_parts)) := ⟨⟨_, _, A13, PySem.W.mg_of X G ad13, kd13, kb F13 (ps := ["sheet"]) (ks := ["sheet"]) (π := [0]) fun _ _ _ _ _ _ us hl => match us, hl with | [_], _ => rfl⟩⟩
  have A14 : Fg P w K mg base 2 _ _ ["_law_deck_here", "_law_items"] (spOf K 2 (F_pick)) := ok_pick F14 D1 m_len (by omega)
  have D14 : Df P w K mg base 2 "_law_pick" ["_law_deck_here", "_law_items"] (spOf K 2 (F_pick)) := ⟨⟨_, _, A14, PySem.W.mg_of X G ad14, kd14, bd14⟩⟩
  have A15 : Fg P w K mg base 2 _ _ ["_law_deck_here", "_law_many"] (spOf K 2 (F_names)) := ok_names F15 D1 m_range m_sorted (by omega)
  have D15 : Df P w K mg base 2 "_law_names" ["_law_deck_here", "_law_many"] (spOf K 2 (F_names)) := ⟨⟨_, _, A15, PySem.W.mg_of X G ad15, kd15, bd15⟩⟩
  have A16 : Fg P w K mg base 3 _ _ ["_law_deck_here"] (spOf K 1 (F_tags)) := ok_tags F16 D15 D1 D14 m_tuple (by omega) (by omega) (by omega)
  have D16 : Df P w K mg base 3 "_law_tags" ["_law_deck_here"] (spOf K 1 (F_tags)) := ⟨⟨_, _, A16, PySem.W.mg_of X G ad16, kd16, bd16⟩⟩
  have A17 : Fg P w K mg base 3 _ _ ["_law_deck_here", "_law_tags_here"] (spOf K 2 (F_rows)) := ok_rows F17 D1 D14 m_list m_range m_tuple (by omega) (by omega)
  have D17 : Df P w K mg base 3 "_law_rows" ["_law_deck_here", "_law_tags_here"] (spOf K 2 (F_rows)) := ⟨⟨_, _, A17, PySem.W.mg_of X G ad17, kd17, bd17⟩⟩
  have A18 : Fg P w K mg base 3 _ _ ["_law_deck_here", "_law_rows_here"] (spOf K 2 (F_copies)) := ok_copies F18 D14 D1 m_int m_len m_range m_tuple (by omega) (by omega)
  have D18 : Df P w K mg base 3 "_law_copies" ["_law_deck_here", "_law_rows_here"] (spOf K 2 (F_copies)) := ⟨⟨_, _, A18, PySem.W.mg_of X G ad18, kd18, bd18⟩⟩
  have A19 : Fg P w K mg base 1 _ _ ["_law_rows_here", "_law_far"] (spOf K 2 (F_differ)) := ok_differ F19 m_len m_list m_range m_zip
  have D19 : Df P w K mg base 1 "_law_differ" ["_law_rows_here", "_law_far"] (spOf K 2 (F_differ)) := ⟨⟨_, _, A19, PySem.W.mg_of X G ad19, kd19, bd19⟩⟩
  have A20 : Fg P w K mg base 101 _ _ ["_law_rows_here", "_law_marks", "_law_row", "_law_met"] (spMut K 4 (F_visited 101)) := fg_recM (l := 0) (F := F_visited) rfl (fun j Z => by
    have DZ : Df P w K mg base (0 + j) "_law_visited" ["_law_rows_here", "_law_marks", "_law_row", "_law_met"] (spMut K 4 (F_visited j)) := ⟨⟨_, _, Z, PySem.W.mg_of X G ad20, kd20, bd20⟩⟩
    exact ok_visited F20 DZ m_len m_range) 101
  have D20 : Df P w K mg base 101 "_law_visited" ["_law_rows_here", "_law_marks", "_law_row", "_law_met"] (spMut K 4 (F_visited 101)) := ⟨⟨_, _, A20, PySem.W.mg_of X G ad20, kd20, bd20⟩⟩
  have A21 : Fg P w K mg base 102 _ _ ["_law_rows_here", "_law_root"] (spOf K 2 (F_least)) := ok_least F21 D20 D19 m_len m_range m_tuple (by omega) (by omega)
  have D21 : Df P w K mg base 102 "_law_least" ["_law_rows_here", "_law_root"] (spOf K 2 (F_least)) := ⟨⟨_, _, A21, PySem.W.mg_of X G ad21, kd21, bd21⟩⟩
  have A22 : Fg P w K mg base 2 _ _ ["_law_deck_here", "_law_rows_here"] (spOf K 2 (F_path)) := ok_path F22 D1 m_len m_range (by omega)
  have D22 : Df P w K mg base 2 "_law_path" ["_law_deck_here", "_law_rows_here"] (spOf K 2 (F_path)) := ⟨⟨_, _, A22, PySem.W.mg_of X G ad22, kd22, bd22⟩⟩
  have A23 : Fg P w K mg base 5 _ _ ["_law_rows_here", "_law_steps", "_law_way"] (spOf K 3 (F_heard cN)) := ok_heard F23 D11 DK11_path_sheet D12 DK12_path_sheet m_isinstance T_NoPath GC c_RoundCallsError c_InvalidText k_R k_T m_KeyError (by omega) (by omega)
  have D23 : Df P w K mg base 5 "_law_heard" ["_law_rows_here", "_law_steps", "_law_way"] (spOf K 3 (F_heard cN)) := ⟨⟨_, _, A23, PySem.W.mg_of X G ad23, kd23, bd23⟩⟩
  have A24 : Fg P w K mg base 103 _ _ ["_law_rows_here", "_law_steps", "_law_row"] (spOf K 3 (F_right cN)) := ok_right F24 D23 D21 m_range m_repr sys (by omega) (by omega)
  have D24 : Df P w K mg base 103 "_law_right" ["_law_rows_here", "_law_steps", "_law_row"] (spOf K 3 (F_right cN)) := ⟨⟨_, _, A24, PySem.W.mg_of X G ad24, kd24, bd24⟩⟩
  have A25 : Fg P w K mg base 103 _ _ ["_law_rows_here"] (spOf K 1 (F_parts_right)) := ok_parts_right F25 D21 D13 DK13_sheet m_len m_range m_repr m_tuple sys (by omega) (by omega)
  have D25 : Df P w K mg base 103 "_law_parts_right" ["_law_rows_here"] (spOf K 1 (F_parts_right)) := ⟨⟨_, _, A25, PySem.W.mg_of X G ad25, kd25, bd25⟩⟩
  exact ok_law F26 D0 D16 D17 D22 D25 D24 D18 D14 m_len m_range (by omega) (by omega) (by omega) (by omega) (by omega) (by omega) (by omega) (by omega) (law_holds cN)
end
end K07

open PySem PySem.W PyProof.Rows
set_option Elab.async false
set_option maxRecDepth 100000
set_option maxHeartbeats 0
open_top head for PySem.Challenge.rw_roundcalls_k07_tags_and_parts_at_paths

set_option Elab.async false
set_option linter.all false
set_option maxRecDepth 100000
open PySem PySem.W PyProof.Rows
noncomputable def o1 (p : Params) : Obj := (boot_heap p).objs.getD 1 default
noncomputable def KS (p : Params) : Frag := (fun (K : Frag) (_ : K = (nat_lit 1, o1 p) :: head.heap_39 p) => K) _ (by delta head.heap_39; exact rfl)
def asS : List Addr := 1 :: [2,3,15,22,23,24,25,28,35,36,37,40,47,49,50,52,53,54,55,56,59,61,62,64,65,66,69,70,71,74,75,76,79,80,81,84,85,86,88,89,91,92,93,95,96,98,99,100,102,103,105,106,107,109,110,112,113,114,116,117,119,120,121,123,124,126,127,128,131,132,133,135,136,138,139,140,142,143,145,146,147,149,150,152,153,154,156,157,159,160,161,164,165,166,169,170,171,174,175,176,179,180,181,184,185,186,189,190,191,193,194,196,197,198,200,201,203,204,205,208,209,210,213,214,215,217,218,220,221]
theorem sysc (p : Params) : (o1 p).cls = .type "dict" := by kernel_rfl
theorem sysK (p : Params) : DL.SysK (KS p) := ⟨o1 p, rfl, sysc p⟩
set_option maxHeartbeats 0 in
theorem PySem.Challenge.cw_roundcalls_k07_tags_and_parts_at_paths_holds : PySem.Challenge.rw_roundcalls_k07_tags_and_parts_at_paths.Holds := by
  w_on; o_law
  o_head (kHook KS asS (fun _ => by kernel_rfl))
  case hw => w_witness2
  k_fill
  refine GG.walk_go (l := PySem.Challenge.rw_roundcalls_k07_tags_and_parts_at_paths) (n := 63) (k := 104) (sp := DL.spLaw) (x := "_law_script") rfl (by decide) rfl ⟨⟨rfl, by decide, by decide⟩, rfl⟩ (fun w h Y => PySem.W.kIn_of Y) ?F (fun K H a ns hl _ hS => ⟨a, ns, rfl, hS, hl, fun _ => rfl⟩)
  case F =>
    intro w mg fa h KX G hmg
    refine' K07.all_mk KX G ?ad0 ?ld0 ?cc0 ?kd0 ?ad1 ?ld1 ?cc1 ?kd1 ?ad2 ?ld2 ?cc2 ?kd2 ?ad3 ?ld3 ?cc3 ?kd3 ?ad4 ?ld4 ?cc4 ?kd4 ?ad5 ?ld5 ?cc5 ?kd5 ?ad6 ?ld6 ?cc6 ?kd6 ?ad7 ?ld7 ?cc7 ?kd7 ?ad8 ?ld8 ?cc8 ?kd8 ?ad9 ?ld9 ?cc9 ?kd9 ?ad10 ?ld10 ?cc10 ?kd10 ?ad11 ?ld11 ?cc11 ?kd11 ?ad12 ?ld12 ?cc12 ?kd12 ?ad13 ?ld13 ?cc13 ?kd13 ?ad14 ?ld14 ?cc14 ?kd14 ?ad15 ?ld15 ?cc15 ?kd15 ?ad16 ?ld16 ?cc16 ?kd16 ?ad17 ?ld17 ?cc17 ?kd17 ?ad18 ?ld18 ?cc18 ?kd18 ?ad19 ?ld19 ?cc19 ?kd19 ?ad20 ?ld20 ?cc20 ?kd20 ?ad21 ?ld21 ?cc21 ?kd21 ?ad22 ?ld22 ?cc22 ?kd22 ?ad23 ?ld23 ?cc23 ?kd23 ?ad24 ?ld24 ?cc24 ?kd24 ?ad25 ?ld25 ?cc25 ?kd25 ?ad26 ?ld26 ?cc26 ?kd26 ?n_KeyError ?n_bool ?n_enumerate ?n_int ?n_isinstance ?n_len ?n_list ?n_range ?n_repr ?n_sorted ?n_tuple ?n_zip ?ax0 ?bx0 ?lx0 ?cx0 ?kx0 ?ky0 ?kz0 ?ac_RoundCallsError ?ac_InvalidText ?s1 ?s2 ?s3 ?g1 ?g2 ?k_R ?k_T (sysK _) hmg
    (case ad0 => k_is)
    (case ld0 => k_is)
    (case cc0 => k_is)
    (case kd0 => k_is)
    (case ad1 => k_is)
    (case ld1 => k_is)
    (case cc1 => k_is)
    (case kd1 => k_is)
    (case ad2 => k_is)
    (case ld2 => k_is)
    (case cc2 => k_is)
    (case kd2 => k_is)
    (case ad3 => k_is)
    (case ld3 => k_is)
    (case cc3 => k_is)
    (case kd3 => k_is)
    (case ad4 => k_is)
    (case ld4 => k_is)
    (case cc4 => k_is)
    (case kd4 => k_is)
    (case ad5 => k_is)
    (case ld5 => k_is)
    (case cc5 => k_is)
    (case kd5 => k_is)
    (case ad6 => k_is)
    (case ld6 => k_is)
    (case cc6 => k_is)
    (case kd6 => k_is)
    (case ad7 => k_is)
    (case ld7 => k_is)
    (case cc7 => k_is)
    (case kd7 => k_is)
    (case ad8 => k_is)
    (case ld8 => k_is)
    (case cc8 => k_is)
    (case kd8 => k_is)
    (case ad9 => k_is)
    (case ld9 => k_is)
    (case cc9 => k_is)
    (case kd9 => k_is)
    (case ad10 => k_is)
    (case ld10 => k_is)
    (case cc10 => k_is)
    (case kd10 => k_is)
    (case ad11 => k_is)
    (case ld11 => k_is)
    (case cc11 => k_is)
    (case kd11 => k_is)
    (case ad12 => k_is)
    (case ld12 => k_is)
    (case cc12 => k_is)
    (case kd12 => k_is)
    (case ad13 => k_is)
    (case ld13 => k_is)
    (case cc13 => k_is)
    (case kd13 => k_is)
    (case ad14 => k_is)
    (case ld14 => k_is)
    (case cc14 => k_is)
    (case kd14 => k_is)
    (case ad15 => k_is)
    (case ld15 => k_is)
    (case cc15 => k_is)
    (case kd15 => k_is)
    (case ad16 => k_is)
    (case ld16 => k_is)
    (case cc16 => k_is)
    (case kd16 => k_is)
    (case ad17 => k_is)
    (case ld17 => k_is)
    (case cc17 => k_is)
    (case kd17 => k_is)
    (case ad18 => k_is)
    (case ld18 => k_is)
    (case cc18 => k_is)
    (case kd18 => k_is)
    (case ad19 => k_is)
    (case ld19 => k_is)
    (case cc19 => k_is)
    (case kd19 => k_is)
    (case ad20 => k_is)
    (case ld20 => k_is)
    (case cc20 => k_is)
    (case kd20 => k_is)
    (case ad21 => k_is)
    (case ld21 => k_is)
    (case cc21 => k_is)
    (case kd21 => k_is)
    (case ad22 => k_is)
    (case ld22 => k_is)
    (case cc22 => k_is)
    (case kd22 => k_is)
    (case ad23 => k_is)
    (case ld23 => k_is)
    (case cc23 => k_is)
    (case kd23 => k_is)
    (case ad24 => k_is)
    (case ld24 => k_is)
    (case cc24 => k_is)
    (case kd24 => k_is)
    (case ad25 => k_is)
    (case ld25 => k_is)
    (case cc25 => k_is)
    (case kd25 => k_is)
    (case ad26 => k_is)
    (case ld26 => k_is)
    (case cc26 => k_is)
    (case kd26 => k_is)
    (case n_KeyError => k_is)
    (case n_bool => k_is)
    (case n_enumerate => k_is)
    (case n_int => k_is)
    (case n_isinstance => k_is)
    (case n_len => k_is)
    (case n_list => k_is)
    (case n_range => k_is)
    (case n_repr => k_is)
    (case n_sorted => k_is)
    (case n_tuple => k_is)
    (case n_zip => k_is)
    (case ax0 => k_is)
    (case bx0 => k_is)
    (case lx0 => k_is)
    (case cx0 => k_is)
    (case ac_RoundCallsError => k_is)
    (case ac_InvalidText => k_is)
    (case s1 => k_is)
    (case s2 => k_is)
    (case s3 => k_is)
    (case g1 => k_is)
    (case g2 => k_is)
    (case kx0 => kernel_rfl)
    (case ky0 => kernel_rfl)
    (case kz0 => kernel_rfl)
    (case k_R => kernel_rfl)
    (case k_T => kernel_rfl)
#print axioms PySem.Challenge.cw_roundcalls_k07_tags_and_parts_at_paths_holds
