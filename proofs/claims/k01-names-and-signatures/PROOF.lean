import PyProof.Rows.All
import Wide.All
import OpenK.AllK
import Wide.FinOn
import HandS.ForMost
import HandS.Style
import HandS.TupAny
import HandS.IsInst
import HandS.RaiseMore
import HandS.Evl
import PyProof.ListMulRoad
import PyProof.FactsAll.tuple_2
import HandS.TupMul
import KE.KDictPairs
import HandS.AnyAll
import KE.KIsAll
import HandS.Dict
import PyProof.EqAt
import PyProof.EqKinds
import PyProof.TupleCall
import PyProof.Rows.SortShell
import PyProof.Rows.SortKeyStr
import KE.KSortTup
import HandS.SortOrd
import HandS.SortRule
import PyProof.ListRange
import HandS.Sort
import PyProof.ZipIter
import PyProof.ListCopy
import KE.KDictZip
import HandS.OwnIter
import HandS.DictTup
import HandS.Conv
import HandS.Zip0
import HandS.Words
import HandS.SetKeys
import PyProof.DictMoreH
import HandS.DictComp
import HandS.Star
import HandS.Text
import HandS.Walk
import HandS.WordsDict
import HandS.More
import HandS.GenOver
import HandS.Nested
import HandS.GenList
import HandS.Zip
import KE.KItemsList
import HandS.SortKw
import HandS.List
import HandS.TupLen
import PySem.Challenge.RW_roundcalls_k01_names_and_signatures
import KE.KNestM
set_option Elab.async false
set_option linter.all false
set_option maxRecDepth 100000
set_option maxHeartbeats 4000000
/-! GG: promises of defs that know that no repr is under way (guards), and repr of data by it. -/
namespace GG
open PySem PySem.Spec PyProof.Rows L2

/-- room for k calls, and no repr runs around -/
structure Rm (k : Nat) (A : Around) : Prop where
  room : Room k A
  plain : A.guards = some []
theorem Rm.mono {j k : Nat} {A : Around} (r : Rm k A) (h : j ≤ k) : Rm j A := ⟨r.room.mono h, r.plain⟩
theorem Rm.deep {k : Nat} {A : Around} (r : Rm (k + 1) A) (env : Env) : Rm k (A.deeper env) := ⟨r.room.deeper env, r.plain⟩

/-- a def keeps a promise wherever no repr runs around; it raises nothing -/
structure Fg (P : Program) (w : World) (K : PySem.W.Frag) (mg : Str → Option Value) (base : Heap) (k : Nat) (f : Addr) (fd : FuncData) (ps : List Str) (sp : Sp) : Prop where
  size : ∀ vs H Q, sp vs H Q E0 → vs.length = ps.length
  go : ∀ (A : Around) (outer : List Env) (s : Shared) (H : Hp) (args : Args) (us : List Value) (vs : List V) (Q : VK), Rm k A → Env0 P w K mg base A outer s H → BindsTo s fd args (ps.zip us) → Vals vs us → sp vs H Q E0 →
    codeAny (model P w) A (.call (.ref f) args) (CR CX0 outer P w H s Q E0) s
section
variable {P : Program} {w : World} {K : PySem.W.Frag} {mg : Str → Option Value} {base : Heap} {j k : Nat} {f : Addr} {fd : FuncData} {ps : List Str} {sp : Sp}
theorem Fg.mono (F : Fg P w K mg base j f fd ps sp) (h : j ≤ k) : Fg P w K mg base k f fd ps sp := ⟨F.size, fun A o s H a us vs Q r => F.go A o s H a us vs Q (r.mono h)⟩
theorem Fg.of (F : FnOk P w K mg base CX0 k f fd ps sp) : Fg P w K mg base k f fd ps sp := ⟨fun vs H Q h => F.len vs H Q E0 h, fun A o s H a us vs Q r e b v h => F.run A o s H a us vs Q E0 r.room e b v h⟩

/-- a def of the text keeps its promise: by its body's reading -/
theorem okg {x qual : Str} {st : Stmt} {N : List Str} (F : L2.Fun K x qual st f fd) (S : FnScope N ps (defScope st)) (size : ∀ vs H Q, sp vs H Q E0 → vs.length = ps.length)
    (body : ∀ (cdv : Value) (A : Around) (outer : List Env) (s : Shared) (H : Hp) (vs : List V) (Q : VK), Rm k (A.deeper (envOfC qual (defScope st) s.heap.objs.size f cdv)) → sp vs H Q E0 →
      ∃ t, PSs (cxOf CX0 P w K mg base N qual (defScope st) f cdv A outer s H E0).nox (defBody st) t ∧ t { nx := fun _ H' => Q .non H', rt := Q } (start N vs) H) :
    Fg P w K mg base (k + 1) f fd ps sp := by
  obtain ⟨oc, od, kV, doc, pm, an, cdv, ct, osl, rfl, lk, hcd⟩ := F.ex
  refine ⟨size, fun A outer s H args us vs Q hr e0 hb r hsp => ?_⟩
  have hl := size _ _ _ hsp
  have keep : ∀ b o, base.get? b = some o → s.heap.get? b = some o := fun b o e => (e0.bs b o e).1
  have KX : K.In s.heap := e0.mod.kin.keeps keep
  have lim : s.heap.NoLimit := e0.mod.nolimit.keeps keep
  have hkind : ∀ y ∈ ps.zip us, (defScope st).names.lookup y.1 = some .local ∨ ((defScope st).names.lookup y.1 = some .cell ∧ ((cellsFrom (s.heap.objs.size + 1) (defScope st).names []).lookup y.1).isSome = true) := by
    rintro ⟨n, v⟩ hy
    rcases S.par n (List.of_mem_zip hy).1 with q | q
    · exact .inl q
    · exact .inr ⟨q, PySem.W.cellsFrom_some _ _ _ (.inl q)⟩
  refine codeAny_call_function hr.room.depth (KX _ _ lk) rfl S.co S.gen rfl (PySem.W.codeRec_of KX hcd) (hb _ _ _ _ ?_)
  refine wpAny_newFunctionEnv_cells S.kind hkind fun env he s1 x => ?_
  subst he
  refine ⟨lim.keeps x.toInCall.keep, codeAny_func ?_⟩
  obtain ⟨t, ht, hq⟩ := body cdv A outer s H vs Q (hr.deep _) hsp
  have I := inv_start (CX := CX0) (E := E0) S hr.room.hd e0 hl r x
  refine wpAny_mono (ht.nox.run [] s1 (start N vs) H _ I hq) (fun fl s' hs => ?_) fun e s' hs => hs
  have fin : ∀ {σ' : L2.St} {H' : Hp} {v : V} {u : Value}, Inv (cxOf CX0 P w K mg base N qual (defScope st) f cdv A outer s H E0) [] σ' H' s' → RelV v u → Q v H' → CE outer P w H s Q u s' :=
    fun {σ' H' v u} J rv q => ⟨v, H', J.os, J.bare, J.base, J.hok, rv, q⟩
  cases fl with
  | ret u => obtain ⟨v, σ', H', J, rv, q⟩ := hs; exact fin J rv q
  | next => obtain ⟨σ', H', J, q⟩ := hs; exact fin (v := V.non) (u := Value.none) J rfl q
  | brk => obtain ⟨_, _, _, q⟩ := hs; exact q.elim
  | cont => obtain ⟨_, _, _, q⟩ := hs; exact q.elim
end

/-! ### calls of such defs -/
section
variable {X : Cx} {k : Nat} {f : Addr} {fd : FuncData} {ps ks : List Str} {sp : Sp} {x : Str} {p pos : Pos} {e : Expr} {es : List Expr} {kws : List Keyword} {t tk : TA} {g : List Value → List Value → List Value} {gV : List V → List V → List V}
def RP (X : Cx) (pins : List (Addr × Obj)) (σ : L2.St) (Q : VK) : Result → Shared → Prop := fun r s' => match r with
  | .ok (.ret v) => EP X pins σ Q v s'
  | .ok _ => False
  | .error e => X.xe e s'
theorem ret_of {pins : List (Addr × Obj)} {σ : L2.St} {H : Hp} {s s' : Shared} {Q : VK} {r : Result} (I : Inv X pins σ H s) (h : CR CX0 X.stack X.prog X.w H s Q E0 r s') : RP X pins σ Q r s' := by
  cases r with
  | error e => exact False.elim h
  | ok fl =>
    cases fl with
    | ret u => exact I.after h
    | next => exact False.elim h
    | brk => exact False.elim h
    | cont => exact False.elim h
/-- f(e, ..) -/
theorem pcall (F : Fg X.prog X.w X.K X.mg X.base k f fd ps sp) (hr : Rm k X.A) (hg : Gl X x) (hm : X.mg x = some (.ref f)) (hk : PySem.W.keepIn X.K (.ref f) = true) (hb : Binds X.K fd ps []) (ha : PA X (e :: es) t)
    (hdb : (x == ("__debug__" : Str)) = false := by decide) (he : starEach (e :: es) X.env = (false, eval e X.env) :: starEach es X.env := by rfl) (hpl : (backTo pos (starEach es X.env)).any (·.1) = false := by rfl) :
    PE X (.Call (.Name x p) (e :: es) [] pos) (tCall sp [] E0 t) := by
  refine ⟨fun pins s σ H Q I h => ?_⟩
  refine wpAny_Call_Name_kw (ld_glob I hg hm ?_ hdb)
  refine PySem.W.callWith_K (h₀ := X.base) I.ok.mod.kin hk (thn (ha.run pos pins s σ H _ I h) fun us s1 ⟨vs, H1, I1, r, q⟩ => ⟨I1.kIn, ?_⟩) he hpl
  have q' : sp vs H1 Q E0 := by rw [← List.append_nil vs]; exact q
  have hl : (us ++ []).length = ps.length := by rw [List.append_nil, ← r.length]; exact F.size _ _ _ q'
  have b := hb s1 us I1.kIn hl
  rw [List.append_nil] at b
  refine wpAny_call (codeAny_mono (F.go X.A X.stack s1 H1 ⟨us, []⟩ us vs Q hr I1.env0 b r q') fun r s' hq => ?_)
  exact ret_of I1 hq
/-- f(e, .., k = v) and f(k = v) -/
def tCallN (sp : Sp) (gV : List V → List V → List V) (t tk : TA) : TE := fun σ H Q => t σ H fun vs H1 => tk σ H1 fun zs H2 => sp (gV vs zs) H2 Q E0
theorem pcallK (F : Fg X.prog X.w X.K X.mg X.base k f fd ps sp) (hr : Rm k X.A) (hg : Gl X x) (hm : X.mg x = some (.ref f)) (hk : PySem.W.keepIn X.K (.ref f) = true) (hb : KBinds X.K fd ps ks g gV) (ha : PA X (e :: es) t) (hkw : PK X kws tk)
    (hall : (backToKw pos (keywordEach kws X.env)).all (·.1.isSome) = true := by rfl) (hks : (backToKw pos (keywordEach kws X.env)).filterMap (·.1) = ks := by rfl)
    (hdb : (x == ("__debug__" : Str)) = false := by decide) (he : starEach (e :: es) X.env = (false, eval e X.env) :: starEach es X.env := by rfl)
    (hpl : ((backTo pos (starEach (e :: es) X.env)).any (·.1) || (backToKw pos (keywordEach kws X.env)).any (·.1.isNone)) = false := by rfl) :
    PE X (.Call (.Name x p) (e :: es) kws pos) (tCallN sp gV t tk) := by
  refine ⟨fun pins s σ H Q I h => ?_⟩
  refine wpAny_Call_Name_kw (ld_glob I hg hm ?_ hdb)
  refine PySem.W.callWith_KW (h₀ := X.base) I.ok.mod.kin hk hall (thn (ha.run pos pins s σ H _ I h) fun us s1 ⟨vs, H1, I1, r, q⟩ => ?_) hpl he
  refine thn (hkw.run pos pins s1 σ H1 _ I1 q) fun ws s2 ⟨zs, H2, I2, rz, q2⟩ => ⟨I2.kIn, ?_⟩
  rw [hks]
  have r2 := hb.rel r rz
  have hl : (g us ws).length = ps.length := by rw [← r2.length]; exact F.size _ _ _ q2
  refine wpAny_call (codeAny_mono (F.go X.A X.stack s2 H2 ⟨us, ks.zip ws⟩ (g us ws) (gV vs zs) Q hr I2.env0 (hb.to s2 us ws I2.kIn hl) r2 q2) fun r s' hq => ?_)
  exact ret_of I2 hq
end

/-! ### the end of a law's row -/
theorem law_go {P : Program} {w : World} {K : PySem.W.Frag} {mg mb : Str → Option Value} {k : Nat} {fa a : Addr} {fd : FuncData} {x : Str} {sp : Sp} {s₁ : Shared} {vs : List Value} {ns : List Int}
    (KX : K.In s₁.heap) (hns : s₁.heap.Ns mainGlobals mg) (hb : s₁.heap.Ns builtinsNs mb) (hbb : ∀ x : Str, x ≠ "__name__" → mb x = bootBuiltins x) (hlim : s₁.heap.NoLimit) (hg : s₁.gens = #[])
    (ha : s₁.heap.get? a = some { cls := .type "list", data := .seq vs.toArray }) (hi : IntsAre vs ns) (hl : ns.length ≤ sizeLine) (hr : Rm k callerA)
    (F : ∀ base : Heap, K.In base → base.Ns mainGlobals mg → Fg P w K mg base k fa fd [x] sp) (hbind : ∀ (s : Shared) (u : Value), BindsTo s fd ⟨[u], []⟩ [(x, u)])
    (hsp : ∀ H : Hp, Only H → SqL K H a (ns.map V.int) → sp [.ref a] H (fun v _ => v = .bl true) E0) :
    codeAny (model P w) callerA (.call (.ref fa) ⟨[.ref a], []⟩) (fun r s' => r = .ok (.ret (.bool true)) ∧ OldK s₁.heap s'.heap ∧ s'.os = s₁.os ∧ AllBare s'.gens) s₁ := by
  have rv := vals_ints hi
  have lenV := hi.length
  have main : ∀ H : Hp, Only H → SqL K H a (ns.map V.int) → HOk P w H s₁.heap → (∀ b, H b ≠ none → b = a) → (H a ≠ none → K.lookup a = none) →
      codeAny (model P w) callerA (.call (.ref fa) ⟨[.ref a], []⟩) (fun r s' => r = .ok (.ret (.bool true)) ∧ OldK s₁.heap s'.heap ∧ s'.os = s₁.os ∧ AllBare s'.gens) s₁ := by
    intro H hO hS hok hA hK
    have only_a : ∀ {b : Addr} {u : HO}, H b = some u → b = a := fun {b u} q => hA b (by rw [q]; exact fun z => nomatch z)
    have free_dict : ∀ {b : Addr} {o : Obj} {es : Array DictEntry} {ep : Nat}, s₁.heap.get? b = some o → o.data = .dict es ep → H b = none := fun {b o es ep} e d => by
      cases q : H b with
      | none => rfl
      | some u =>
        rw [only_a q, ha] at e
        cases e
        exact nomatch (show Data.seq vs.toArray _ = Data.dict es ep from d)
    have ns_of : ∀ {b : Addr} {m : Str → Option Value}, s₁.heap.Ns b m → (hidT s₁.heap H).Ns b m := fun {b m} ⟨o, es, ep, e, d, r⟩ => ⟨o, es, ep, hidT_get e (free_dict e d), d, r⟩
    have hKb : K.In (hidT s₁.heap H) := fun b o e => hidT_get (KX b o e) (by
      cases q : H b with
      | none => rfl
      | some u =>
        have e' := only_a q
        rw [e', hK (by rw [← e', q]; exact fun z => nomatch z)] at e
        cases e)
    have hM : Mod K mg (hidT s₁.heap H) := ⟨hKb, ns_of hns, ⟨mb, ns_of hb, hbb⟩, let ⟨mc, h1, h2⟩ := hlim; ⟨mc, ns_of h1, h2⟩⟩
    have e0 : Env0 P w K mg (hidT s₁.heap H) callerA [] s₁ H := ⟨rfl, hM, fun b o e => of_hidT e, Nat.le_of_eq (hidT_size _ _), trivial, fun b hb => absurd (show b ∈ ([] : List Addr) from hb) List.not_mem_nil, hok, .of_eq hg⟩
    refine codeAny_mono ((F _ hKb (ns_of hns)).go callerA [] s₁ H ⟨[.ref a], []⟩ [.ref a] [.ref a] _ hr e0 (hbind s₁ (.ref a)) (.cons rfl .nil) (hsp H hO hS)) fun r s' h => ?_
    cases r with
    | error e => exact False.elim h
    | ok fl =>
      cases fl with
      | next => exact False.elim h
      | brk => exact False.elim h
      | cont => exact False.elim h
      | ret u =>
        obtain ⟨v, H', os, bare, un, hok', r', q⟩ := h
        obtain rfl : v = .bl true := q
        obtain rfl : u = Value.bool true := r'
        refine ⟨rfl, OldK.of_keep fun b o e => ?_, os, bare⟩
        rcases hO b with z | ⟨ob, xs, z⟩
        · exact un.keep b o e z (fun z => absurd (show b ∈ ([] : List Addr) from z) List.not_mem_nil) List.not_mem_nil
        · obtain ⟨e1, _⟩ := hok b _ z
          obtain ⟨e2, _⟩ := hok' b _ (un.frzs b ob _ z)
          rw [e] at e1
          cases e1
          exact e2
  cases hk : K.lookup a with
  | some o =>
    have e := KX a o hk
    rw [ha] at e
    cases e
    refine main (fun _ => none) (fun _ => .inl rfl) (.inr ⟨_, vs.toArray, _, hk, rfl, rfl, rfl, by rw [List.size_toArray, lenV]; exact hl, by simpa using rv⟩) (fun b u z => nomatch (show (none : Option HO) = some u from z)) (fun b z => absurd rfl z) fun z => absurd rfl z
  | none =>
    refine main (fun b => if b = a then some (.frz { cls := .type "list", data := .seq vs.toArray } (.lst (ns.map V.int))) else none) (fun b => ?_) (.inl (.inr ⟨{ cls := .type "list", data := .seq vs.toArray }, if_pos rfl⟩)) (fun b u z => ?_) (fun b z => ?_) fun _ => hk
    · by_cases hb : b = a
      · exact .inr ⟨_, _, if_pos hb⟩
      · exact .inl (if_neg hb)
    · by_cases hb : b = a
      · have z' := (if_pos hb).symm.trans z
        cases z'
        subst hb
        exact ⟨ha, by rw [List.length_map]; exact hl, vs, _, rv, ha⟩
      · have z' := (if_neg hb).symm.trans z
        cases z'
    · by_cases hb : b = a
      · exact hb
      · exact absurd (if_neg hb) z

theorem walk_go {l : PySem.W.OpenLaw} {n k : Nat} {q : Program} {loose : List Str} {XP : (Str → Option Value) → Heap → Prop} {YP : World → Heap → Prop} {d : DefRec} {K : Params → PySem.W.Frag} {sp : PySem.W.Frag → Sp} {x : Str}
    (hn : l.most = some n) (hn2 : n ≤ sizeLine) (hdf : d.params.defaults = []) (hr : Rm k callerA)
    (hY : ∀ (w : World) (h : Heap), YP w h → (K w.params).In h)
    (F : ∀ (w : World) (mg : Str → Option Value) (fa : Addr) (h : Heap), (K w.params).In h → h.Ns mainGlobals mg → mg d.name = some (.ref fa) →
      ∃ fd : FuncData, (∀ (s : Shared) (u : Value), BindsTo s fd ⟨[u], []⟩ [(x, u)]) ∧
        ∀ base : Heap, (K w.params).In base → base.Ns mainGlobals mg → Fg l.prog w (K w.params) mg base k fa fd [x] (sp (K w.params)))
    (hsp : ∀ (K : PySem.W.Frag) (H : Hp) (a : Addr) (ns : List Int), ns.length ≤ n → Only H → SqL K H a (ns.map V.int) → sp K [.ref a] H (fun v _ => v = .bl true) E0) :
    PySem.W.WalkO q loose XP YP l.row.toRowW d [] (fun f vs => PySem.call f vs) := by
  refine Att.attach_call hn hdf fun w s₀ s₁ mg mb fa o pm cd doc a vs ns G Y ho hd hcd hmg hobj hints hlen hg => ?_
  have KX := hY w _ Y
  obtain ⟨fd, hb, hF⟩ := F w mg fa _ KX G.T.g hmg
  exact law_go KX G.T.g G.T.b G.T.builtins G.T.nolimit hg hobj hints (Nat.le_trans hlen hn2) hr hF hb (fun H hO hS => hsp _ H a ns hlen hO hS)

/-! ### repr of data -/
def keyD : L2.Key → PyData
  | .inl i => .int i
  | .inr z => .str z
def flatV0 : V → Option PyData
  | .non => some .none
  | .bl b => some (.bool b)
  | .int i => some (.int i)
  | .str x => some (.str x)
  | _ => none
/-- the data of a dict's entries, all of them flat -/
def entsD : List (L2.Key × V) → Option (List (PyData × PyData))
  | [] => some []
  | (k, v) :: r => match flatV0 v, entsD r with
    | some d, some ds => some ((keyD k, d) :: ds)
    | _, _ => none
/-- what repr reads: data without dicts; dicts of flat things; tuples of both where no list stands beside a dict -/
inductive Dt (K : PySem.W.Frag) (H : Hp) : V → PyData → Prop
  | base {v : V} {d : PyData} : Dp K H v d → Dt K H v d
  | dic {a : Addr} {kvs : List (L2.Key × V)} {ds : List (PyData × PyData)} : H a = some (.dK kvs) → entsD kvs = some ds → Dt K H (.ref a) (.dict ds)
section
variable {X : Cx} {pins : List (Addr × Obj)} {σ : L2.St} {H : Hp} {s : Shared}
mutual
theorem dp_noDict {K : PySem.W.Frag} {H : Hp} : ∀ (d : PyData) (v : V), Dp K H v d → d.hasDict = false
  | .none, _, _ => by simp only [PyData.hasDict]
  | .bool _, _, _ => by simp only [PyData.hasDict]
  | .int _, _, _ => by simp only [PyData.hasDict]
  | .str _, _, _ => by simp only [PyData.hasDict]
  | .list ds, _, h => by
    cases h with
    | lst _ ha =>
      simp only [PyData.hasDict]
      exact dpAll_noDict ds _ ha
  | .tuple ds, _, h => by
    cases h with
    | tup _ ha =>
      simp only [PyData.hasDict]
      exact dpAll_noDict ds _ ha
  | .dict _, _, h => by cases h
theorem dpAll_noDict {K : PySem.W.Frag} {H : Hp} : ∀ (ds : List PyData) (vs : List V), DpAll K H vs ds → PyData.hasDictAll ds = false
  | [], _, _ => by simp only [PyData.hasDictAll]
  | d :: ds, _, h => by
    cases h with
    | cons h1 h2 => simp only [PyData.hasDictAll, dp_noDict d _ h1, dpAll_noDict ds _ h2, Bool.or_self]
end
mutual
theorem dp_mono {K : PySem.W.Frag} {H H' : Hp} (hl : ∀ a xs, SqL K H a xs → SqL K H' a xs) (ht : ∀ a xs, SqT K H a xs → SqT K H' a xs) : ∀ (d : PyData) (v : V), Dp K H v d → Dp K H' v d
  | .none, _, h => by cases h; exact .non
  | .bool b, _, h => by cases h; exact .bl b
  | .int i, _, h => by cases h; exact .int i
  | .str x, _, h => by cases h; exact .str x
  | .list ds, _, h => by
    cases h with
    | lst hs ha => exact .lst (hl _ _ hs) (dpAll_mono hl ht ds _ ha)
  | .tuple ds, _, h => by
    cases h with
    | tup hs ha => exact .tup (ht _ _ hs) (dpAll_mono hl ht ds _ ha)
  | .dict _, _, h => by cases h
theorem dpAll_mono {K : PySem.W.Frag} {H H' : Hp} (hl : ∀ a xs, SqL K H a xs → SqL K H' a xs) (ht : ∀ a xs, SqT K H a xs → SqT K H' a xs) : ∀ (ds : List PyData) (vs : List V), DpAll K H vs ds → DpAll K H' vs ds
  | [], _, h => by cases h; exact .nil
  | d :: ds, _, h => by
    cases h with
    | cons h1 h2 => exact .cons (dp_mono hl ht d _ h1) (dpAll_mono hl ht ds _ h2)
end
theorem same_t {K : PySem.W.Frag} {H H' : Hp} {a : Addr} {xs : List V} (e : Same H H') (h : SqT K H a xs) : SqT K H' a xs := by
  rcases h with (h | ⟨o, h⟩) | h
  · exact .inl (.inl (e _ _ h))
  · exact .inl (.inr ⟨o, e _ _ h⟩)
  · exact .inr h
theorem Dt.same {K : PySem.W.Frag} {H H' : Hp} {v : V} {d : PyData} (h : Dt K H v d) (e : Same H H') : Dt K H' v d := by
  cases h with
  | base h => exact .base (dp_mono (fun _ _ q => e.seq q) (fun _ _ q => same_t e q) _ _ h)
  | dic h1 h2 => exact .dic (e _ _ h1) h2
theorem flat_reads {h : Heap} {v : V} {u : Value} {d : PyData} (e : flatV0 v = some d) (r : RelV v u) : Reads h u d [] := by
  cases v with
  | non => cases e; cases r; exact .none
  | bl b => cases e; cases r; exact .bool b
  | int i => cases e; obtain ⟨t, rfl⟩ := r; exact .int i t
  | str x => cases e; obtain ⟨t, rfl⟩ := r; exact .str x t
  | byt _ => cases e
  | flt _ => cases e
  | ref _ => cases e
  | ty _ => cases e
theorem key_reads {h : Heap} {k : L2.Key} {u : Value} (e : keyIs k u = true) : Reads h u (keyD k) [] := by
  rcases keyIs_shape e with ⟨i, t, rfl, rfl⟩ | ⟨x, t, rfl, rfl⟩
  · exact .int i t
  · exact .str x t
theorem ents_read {P : Program} {w : World} {h : Heap} : ∀ {kvs : List (L2.Key × V)} {us : List (L2.Key × Value)} {es : List DictEntry} {ds : List (PyData × PyData)}, Pairs (mixKind P w) es us → KV kvs us → entsD kvs = some ds →
    ReadsAll h (es.map (·.key)) (ds.map (·.1)) [] ∧ ReadsAll h (es.map (·.val)) (ds.map (·.2)) []
  | [], _, _, _, hp, hk, e => by
    cases hk
    cases hp
    cases e
    exact ⟨.nil, .nil⟩
  | (k, v) :: r, _, _, _, hp, hk, e => by
    cases hk with
    | cons h1 h2 =>
      cases hp with
      | cons p1 p2 p3 =>
        unfold entsD at e
        cases e1 : flatV0 v with
        | none =>
          rw [e1] at e
          cases e
        | some d =>
          cases e2 : entsD r with
          | none =>
            rw [e1, e2] at e
            cases e
          | some ds =>
            rw [e1, e2] at e
            cases e
            obtain ⟨q1, q2⟩ := ents_read p3 h2 e2
            obtain ⟨ek, rv⟩ := h1
            have e1' : flatV0 (k, v).2 = some d := e1
            refine ⟨?_, ?_⟩
            · have z : Reads h _ (keyD k) [] := key_reads (k := k) (by
                have y := p1
                rw [mixKind_is] at y
                rw [← ek] at y
                exact y)
              exact ReadsAll.cons z q1
            · have z : Reads h _ d [] := flat_reads (u := _) e1' (p2.symm ▸ rv)
              exact ReadsAll.cons z q2
theorem Dt.reads {v : V} {u : Value} {d : PyData} (I : Inv X pins σ H s) (h : Dt X.K H v d) (r : RelV v u) : ∃ as, Reads s.heap u d as ∧ (d.hasDict = true → sysModules ∉ as) := by
  cases h with
  | base h =>
    obtain ⟨as, q⟩ := Dp.reads I d v u h r
    exact ⟨as, q, PyData.noDict_hsm (dp_noDict d v h)⟩
  | @dic a kvs ds h1 h2 =>
    obtain rfl : u = Value.ref a := r
    obtain ⟨hz, hs, us, rk, o, es, ep, ho, hx, hd, _, hp, _⟩ : kvs.length ≤ sizeLine ∧ (a == sysModules) = false ∧ ∃ vs, KV kvs vs ∧ s.heap.DictOf (mixKind X.prog X.w) a vs := I.hok a _ h1
    obtain ⟨q1, q2⟩ := ents_read (h := s.heap) hp rk h2
    refine ⟨_, Reads.dict ho hx.1 hd q1 q2, fun _ z => ?_⟩
    have z' : sysModules ∈ [a] := z
    have e := List.mem_singleton.mp z'
    rw [e, beq_self_eq_true] at hs
    cases hs
/-- repr(x) -/
def rRepr (K : PySem.W.Frag) : List V → Hp → VK → Prop := fun xs H Q => ∃ x d, xs = [x] ∧ Dt K H x d ∧ d.showable = true ∧ d.depth ≤ 60 ∧ d.shown.length ≤ sizeLine ∧ Q (.str d.shown) H
theorem call_repr {k : Nat} (hr : Rm k X.A) : CallR X (.builtin "repr") (rRepr X.K) := by
  intro pins s σ H xs us Q I r h
  obtain ⟨x, d, rfl, hx, hs, hd, hz, q⟩ := h
  obtain ⟨u, rfl, ru⟩ := vals1 r
  obtain ⟨as, hreads, hsm⟩ := hx.reads I ru
  have hu := hr.room.un
  cases x with
  | non =>
    cases ru
    cases hreads
    exact PySem.P.repr_of_none ⟨.str _, H, I.tok _, ⟨_, rfl⟩, q⟩
  | bl b =>
    cases ru
    cases hreads
    refine PySem.P.repr_of_bool ⟨.str _, H, I.tok _, ⟨_, rfl⟩, ?_⟩
    simp only [PyData.shown] at q
    exact q
  | int i =>
    obtain ⟨t, rfl⟩ := ru
    cases hreads
    simp only [PyData.shown] at q
    exact PySem.P.repr_of_int (by simpa [PyData.showable] using hs) ⟨.str _, H, I.tok _, ⟨_, rfl⟩, q⟩
  | str y =>
    obtain ⟨t, rfl⟩ := ru
    cases hreads
    simp only [PyData.shown] at q hz
    exact PySem.P.repr_of_str ⟨.str _, H, I.tok _, ⟨_, rfl⟩, q⟩ hz
  | byt y =>
    obtain ⟨t, rfl⟩ := ru
    cases hreads
  | flt y =>
    obtain ⟨t, rfl⟩ := ru
    cases hreads
  | ty y =>
    cases ru
    cases hreads
  | ref a =>
    cases ru
    exact repr_of_reads' hreads hs hsm hr.plain (by omega) (fun _ _ e => e) (fun h' u tk hk => ⟨.str _, H, I.kept hk, ⟨u, rfl⟩, q⟩) hz
end
end GG

/-! TBX: the tables of code objects of the law's defs with generator expressions. -/
namespace DL
open PySem
def tabs : List Addr := [30, 44]
end DL

set_option Elab.async false
set_option linter.all false
set_option maxRecDepth 100000
set_option maxHeartbeats 4000000
/-! DD: defs by their names (Df, dcall); heaps; data that is made while a deck stands (EvP). -/
namespace DD
open PySem PySem.Spec PyProof.Rows L2 GG
/-- a def of the text by its name, with its promise -/
structure Df (P : Program) (w : World) (K : PySem.W.Frag) (mg : Str → Option Value) (base : Heap) (k : Nat) (nm : Str) (ps : List Str) (sp : Sp) : Prop where
  ex : ∃ f fd, Fg P w K mg base k f fd ps sp ∧ mg nm = some (.ref f) ∧ PySem.W.keepIn K (.ref f) = true ∧ Binds K fd ps []
section
variable {X : Cx} {k : Nat} {nm : Str} {ps : List Str} {sp : Sp} {p pos : Pos} {e : Expr} {es : List Expr} {t : TA}
theorem dcall (D : Df X.prog X.w X.K X.mg X.base k nm ps sp) (hr : Rm k X.A) (hg : Gl X nm) (ha : PA X (e :: es) t)
    (hdb : (nm == ("__debug__" : Str)) = false := by decide) (he : starEach (e :: es) X.env = (false, eval e X.env) :: starEach es X.env := by rfl) (hpl : (backTo pos (starEach es X.env)).any (·.1) = false := by rfl) :
    PE X (.Call (.Name nm p) (e :: es) [] pos) (tCall sp [] E0 t) := by
  obtain ⟨f, fd, F, hm, hk, hb⟩ := D.ex
  exact pcall F hr hg hm hk hb ha hdb he hpl
end

/-! ### heaps -/
theorem same_upd {H : Hp} {p : Addr} {o : HO} (h : H p = none) : Same H (upd H p o) := fun b x e => by
  rw [upd_ne (ne_of_none e h)]
  exact e
theorem ne_new {H : Hp} {a p : Addr} {o : HO} (e : H a = some o) (n : H p = none) : a ≠ p := ne_of_none e n
/-- what stood stands, but at p and l -/
def But (p l : Addr) (H H' : Hp) : Prop := ∀ b o, b ≠ p → b ≠ l → H b = some o → H' b = some o
theorem But.refl (p l : Addr) (H : Hp) : But p l H H := fun _ _ _ _ h => h
theorem But.trans {p l : Addr} {H H1 H2 : Hp} (a : But p l H H1) (b : But p l H1 H2) : But p l H H2 := fun c o h1 h2 h => b c o h1 h2 (a c o h1 h2 h)
theorem But.of {p l : Addr} {H H' : Hp} (s : Same H H') : But p l H H' := fun b o _ _ h => s b o h
theorem But.left {p l : Addr} {H H' : Hp} {o : HO} (s : But p l H H') : But p l H (upd H' p o) := fun b u h1 h2 h => by
  rw [upd_ne h1]
  exact s b u h1 h2 h
theorem But.right {p l : Addr} {H H' : Hp} {o : HO} (s : But p l H H') : But p l H (upd H' l o) := fun b u h1 h2 h => by
  rw [upd_ne h2]
  exact s b u h1 h2 h
theorem sq {K : PySem.W.Frag} {H : Hp} {a : Addr} {xs : List V} (h : H a = some (.lst xs)) : SqL K H a xs := .inl (.inl h)
theorem sqt {K : PySem.W.Frag} {H : Hp} {a : Addr} {xs : List V} (h : H a = some (.tup xs)) : SqT K H a xs := .inl (.inl h)
theorem szl {n : Nat} (h : n ≤ 1000) : n < sizeLine := Nat.lt_of_le_of_lt h (by decide)
theorem szi {n : Nat} (h : n ≤ 1000) : n ≤ sizeLine := Nat.le_of_lt (szl h)
theorem But.seq {K : PySem.W.Frag} {p l a : Addr} {H H' : Hp} {xs : List V} (b : But p l H H') (h1 : a ≠ p) (h2 : a ≠ l) (h : SqL K H a xs) : SqL K H' a xs := by
  rcases h with (h | ⟨o, h⟩) | h
  · exact .inl (.inl (b _ _ h1 h2 h))
  · exact .inl (.inr ⟨o, b _ _ h1 h2 h⟩)
  · exact .inr h

/-! ### data made while other things (S) stand -/
open Classical in
/-- the heap without the things of S -/
noncomputable def Hd (S : Addr → Prop) (H : Hp) : Hp := fun b => if S b then none else H b
theorem hd_ne {S : Addr → Prop} {b : Addr} {H : Hp} (h : ¬ S b) : Hd S H b = H b := if_neg h
theorem hd_some {S : Addr → Prop} {b : Addr} {H : Hp} {o : HO} (h : Hd S H b = some o) : ¬ S b ∧ H b = some o := by
  unfold Hd at h
  by_cases z : S b
  · rw [if_pos z] at h
    cases h
  · rw [if_neg z] at h
    exact ⟨z, h⟩
theorem hd_sub (S : Addr → Prop) (H : Hp) : Same (Hd S H) H := fun b o h => (hd_some h).2
theorem But.hd {S : Addr → Prop} {p l : Addr} {H H' : Hp} (b : But p l H H') (sp : S p) (sl : S l) : Same (Hd S H) (Hd S H') := fun a o h => by
  obtain ⟨h1, h3⟩ := hd_some h
  rw [hd_ne h1]
  exact b a o (fun e => h1 (by rw [e]; exact sp)) (fun e => h1 (by rw [e]; exact sl)) h3
theorem hdS {S : Addr → Prop} {H H' : Hp} (s : Same H H') : Same (Hd S H) (Hd S H') := fun a o h => by
  obtain ⟨h1, h3⟩ := hd_some h
  rw [hd_ne h1]
  exact s a o h3
/-- something of S is changed -/
theorem hd_upd {S : Addr → Prop} {H : Hp} {a : Addr} {o : HO} (s : S a) : Same (Hd S H) (Hd S (upd H a o)) := fun b u h => by
  obtain ⟨h1, h3⟩ := hd_some h
  rw [hd_ne h1, upd_ne (fun e : b = a => h1 (by rw [e]; exact s))]
  exact h3
/-- the things of S stand -/
def Taken (H : Hp) (S : Addr → Prop) : Prop := ∀ b, S b → ∃ o, H b = some o
theorem Taken.same {H H' : Hp} {S : Addr → Prop} (t : Taken H S) (s : Same H H') : Taken H' S := fun b h => (t b h).imp fun o h => s _ _ h
theorem Taken.ne {H : Hp} {S : Addr → Prop} {q : Addr} (t : Taken H S) (n : H q = none) : ¬ S q := fun h => by
  obtain ⟨o, e⟩ := t q h
  rw [n] at e
  cases e
section
variable {K : PySem.W.Frag} {S : Addr → Prop} {σ : L2.St} {H : Hp}
/-- an expression gives data d, apart from S; nothing that stood changes -/
def EvP (K : PySem.W.Frag) (S : Addr → Prop) (te : TE) (σ : L2.St) (d : PyData) : Prop := ∀ H1, Taken H1 S → ∀ Q : VK, (∀ v H2, Same H1 H2 → Dp K (Hd S H2) v d → Q v H2) → te σ H1 Q
def EvPs (K : PySem.W.Frag) (S : Addr → Prop) (ta : TA) (σ : L2.St) (ds : List PyData) : Prop := ∀ H1, Taken H1 S → ∀ Q : List V → Hp → Prop, (∀ vs H2, Same H1 H2 → DpAll K (Hd S H2) vs ds → Q vs H2) → ta σ H1 Q
theorem dp_same {H H' : Hp} {v : V} {d : PyData} (s : Same H H') (h : Dp K H v d) : Dp K H' v d := dp_mono (fun _ _ q => s.seq q) (fun _ _ q => same_t s q) _ _ h
theorem dpAll_same {H H' : Hp} {vs : List V} {ds : List PyData} (s : Same H H') (h : DpAll K H vs ds) : DpAll K H' vs ds := dpAll_mono (fun _ _ q => s.seq q) (fun _ _ q => same_t s q) _ _ h
theorem dpAll_len {H : Hp} : ∀ {vs : List V} {ds : List PyData}, DpAll K H vs ds → vs.length = ds.length
  | _, _, .nil => rfl
  | _, _, .cons _ h => by rw [List.length_cons, List.length_cons, dpAll_len h]
theorem evp_c {v : V} {d : PyData} (h : ∀ H, Dp K H v d) : EvP K S (tC v) σ d := fun H1 _ Q q => q v H1 (Same.refl _) (h _)
theorem evp_int {i : Int} : EvP K S (tC (.int i)) σ (.int i) := evp_c fun _ => .int i
theorem evp_str {x : Str} : EvP K S (tC (.str x)) σ (.str x) := evp_c fun _ => .str x
theorem evp_bl {b : Bool} : EvP K S (tC (.bl b)) σ (.bool b) := evp_c fun _ => .bl b
theorem evp_non : EvP K S (tC .non) σ .none := evp_c fun _ => .non
theorem evps_nil : EvPs K S tNil σ [] := fun H1 _ Q q => q [] H1 (Same.refl _) .nil
theorem evps_cons {te : TE} {ta : TA} {d : PyData} {ds : List PyData} (h : EvP K S te σ d) (hs : EvPs K S ta σ ds) : EvPs K S (tCons te ta) σ (d :: ds) := fun H1 t Q q =>
  h H1 t _ fun v H2 s2 hv => hs H2 (t.same s2) _ fun vs H3 s3 hvs => q (v :: vs) H3 (s2.trans s3) (.cons (dp_same (hdS s3) hv) hvs)
theorem evp_tup {ta : TA} {ds : List PyData} (hs : EvPs K S ta σ ds) (hl : ds.length ≤ 1000) : EvP K S (tTup ta) σ (.tuple ds) := fun H1 t Q q =>
  hs H1 t _ fun vs H2 s2 hvs => ⟨by rw [dpAll_len hvs]; exact szi hl, fun a na => by
    have n1 := (t.same s2).ne na
    have s3 : Same H2 (upd H2 a (.tup vs)) := same_upd na
    exact q _ _ (s2.trans s3) (.tup (sqt (by rw [hd_ne n1]; exact upd_same)) (dpAll_same (hdS s3) hvs))⟩
theorem evp_lst {ta : TA} {ds : List PyData} (hs : EvPs K S ta σ ds) (hl : ds.length ≤ 1000) : EvP K S (tLst ta) σ (.list ds) := fun H1 t Q q =>
  hs H1 t _ fun vs H2 s2 hvs => ⟨by rw [dpAll_len hvs]; exact szi hl, fun a na => by
    have n1 := (t.same s2).ne na
    have s3 : Same H2 (upd H2 a (.lst vs)) := same_upd na
    exact q _ _ (s2.trans s3) (.lst (sq (by rw [hd_ne n1]; exact upd_same)) (dpAll_same (hdS s3) hvs))⟩
/-- the same for what may hold dicts -/
def EvT (K : PySem.W.Frag) (S : Addr → Prop) (te : TE) (σ : L2.St) (d : PyData) : Prop := ∀ H1, Taken H1 S → ∀ Q : VK, (∀ v H2, Same H1 H2 → Dt K (Hd S H2) v d → Q v H2) → te σ H1 Q
theorem EvP.t {te : TE} {d : PyData} (h : EvP K S te σ d) : EvT K S te σ d := fun H1 t Q q => h H1 t Q fun v H2 s hv => q v H2 s (.base hv)
inductive DtAll (K : PySem.W.Frag) (H : Hp) : List V → List PyData → Prop
  | nil : DtAll K H [] []
  | cons {v : V} {vs : List V} {d : PyData} {ds : List PyData} : Dt K H v d → DtAll K H vs ds → DtAll K H (v :: vs) (d :: ds)
theorem DtAll.len {H : Hp} : ∀ {vs : List V} {ds : List PyData}, DtAll K H vs ds → vs.length = ds.length
  | _, _, .nil => rfl
  | _, _, .cons _ h => by rw [List.length_cons, List.length_cons, DtAll.len h]
theorem DtAll.same {H H' : Hp} (s : Same H H') : ∀ {vs : List V} {ds : List PyData}, DtAll K H vs ds → DtAll K H' vs ds
  | _, _, .nil => .nil
  | _, _, .cons h t => .cons (h.same s) (t.same s)
theorem DtAll.append {H : Hp} : ∀ {vs us : List V} {ds es : List PyData}, DtAll K H vs ds → DtAll K H us es → DtAll K H (vs ++ us) (ds ++ es)
  | _, _, _, _, .nil, h => h
  | _, _, _, _, .cons h t, k => .cons h (t.append k)
theorem DtAll.mem {H : Hp} : ∀ {vs : List V} {ds : List PyData} {v : V}, DtAll K H vs ds → v ∈ vs → ∃ d, d ∈ ds ∧ Dt K H v d
  | _, _, _, .nil, h => absurd h List.not_mem_nil
  | _, _, _, .cons (d := d) h t, m => by
    rcases List.mem_cons.mp m with e | m
    · exact ⟨d, List.mem_cons_self, e ▸ h⟩
    · obtain ⟨d', h1, h2⟩ := t.mem m
      exact ⟨d', List.mem_cons_of_mem _ h1, h2⟩
def EvTs (K : PySem.W.Frag) (S : Addr → Prop) (ta : TA) (σ : L2.St) (ds : List PyData) : Prop := ∀ H1, Taken H1 S → ∀ Q : List V → Hp → Prop, (∀ vs H2, Same H1 H2 → DtAll K (Hd S H2) vs ds → Q vs H2) → ta σ H1 Q
theorem evts_nil : EvTs K S tNil σ [] := fun H1 _ Q q => q [] H1 (Same.refl _) .nil
theorem evts_cons {te : TE} {ta : TA} {d : PyData} {ds : List PyData} (h : EvT K S te σ d) (hs : EvTs K S ta σ ds) : EvTs K S (tCons te ta) σ (d :: ds) := fun H1 t Q q =>
  h H1 t _ fun v H2 s2 hv => hs H2 (t.same s2) _ fun vs H3 s3 hvs => q (v :: vs) H3 (s2.trans s3) (.cons (hv.same (hdS s3)) hvs)
/-- a written dict with one text key and an int -/
theorem evt_dict1 {k : Str} {i : Int} : EvT K S (tDisp [(tC (.str k), tC (.int i))]) σ (.dict [(.str k, .int i)]) := fun H1 t Q q => fun a na => by
  have n1 := t.ne na
  refine ⟨upd_same, [(.inr k, .int i)], rfl, (by show 1 ≤ 15; decide), ?_⟩
  rw [upd_upd]
  refine q _ _ (same_upd na) (.dic (kvs := [(.inr k, .int i)]) (by rw [hd_ne n1]; exact upd_same) rfl)
end
/-! ### one layer of a reading -/
theorem rd_lst {ta : TA} {σ : L2.St} {H : Hp} {Q : VK} (h : ta σ H fun xs H1 => xs.length ≤ sizeLine ∧ ∀ a, H1 a = none → Q (.ref a) (upd H1 a (.lst xs))) : tLst ta σ H Q := h
theorem rd_tup {ta : TA} {σ : L2.St} {H : Hp} {Q : VK} (h : ta σ H fun xs H1 => xs.length ≤ sizeLine ∧ ∀ a, H1 a = none → Q (.ref a) (upd H1 a (.tup xs))) : tTup ta σ H Q := h
theorem rd_set {te : TE} {i : Nat} {u : TS} {D : Ends} {σ : L2.St} {H : Hp} (h : te σ H fun v H1 => u D (σ.set i (some v)) H1) : tSeq (tAsg te (gName i)) u D σ H := h
theorem rd_ret {te : TE} {D : Ends} {σ : L2.St} {H : Hp} (h : te σ H D.rt) : tRet te D σ H := h
theorem rd_op {r : R2} {ta tb : TE} {σ : L2.St} {H : Hp} {Q : VK} (h : ta σ H fun x H1 => tb σ H1 fun y H2 => r x y H2 Q) : tOp r ta tb σ H Q := h
theorem rd_cons {te : TE} {ta : TA} {σ : L2.St} {H : Hp} {Q : List V → Hp → Prop} (h : te σ H fun x H1 => ta σ H1 fun xs H2 => Q (x :: xs) H2) : tCons te ta σ H Q := h
theorem rd_nil {σ : L2.St} {H : Hp} {Q : List V → Hp → Prop} (h : Q [] H) : tNil σ H Q := h
theorem rd_call {sp : Sp} {ta : TA} {σ : L2.St} {H : Hp} {Q : VK} (h : ta σ H fun vs H1 => sp (vs ++ []) H1 Q E0) : tCall sp [] E0 ta σ H Q := h
theorem rd_cb {r : List V → Hp → VK → Prop} {ta : TA} {σ : L2.St} {H : Hp} {Q : VK} (h : ta σ H fun vs H1 => r vs H1 Q) : tCB r ta σ H Q := h
theorem rd_var {i : Nat} {v : V} {σ : L2.St} {H : Hp} {Q : VK} (e : σ[i]? = some (some v)) (h : Q v H) : tVar i σ H Q := ⟨v, e, h⟩
theorem rd_c {v : V} {σ : L2.St} {H : Hp} {Q : VK} (h : Q v H) : tC v σ H Q := h
theorem rd_test {te : TE} {σ : L2.St} {H : Hp} {Q : Bool → Hp → Prop} (h : te σ H fun x H' => ∃ k, x = .bl k ∧ Q k H') : tTest te σ H Q := h
theorem rd_if {c : TT} {t u v : TS} {D : Ends} {σ : L2.St} {H : Hp} (h : c σ H fun b H1 => if b = true then t { D with nx := v D } σ H1 else u { D with nx := v D } σ H1) : tSeq (tIfS c t u) v D σ H := h
end DD

set_option Elab.async false
set_option linter.all false
set_option maxRecDepth 100000
set_option maxHeartbeats 4000000
/-! LP: loops and comprehensions of a known number of turns. -/
namespace DD
open PySem PySem.Spec PyProof.Rows L2 GG
theorem pT {c : Prop} [Decidable c] {a b : Prop} (hc : c) (h : a) : ite c a b := (if_pos hc).mpr h
theorem pF {c : Prop} [Decidable c] {a b : Prop} (hc : ¬ c) (h : b) : ite c a b := (if_neg hc).mpr h
theorem rd_next {u : TS} {D : Ends} {σ : L2.St} {H : Hp} (h : u D σ H) : tNext { D with nx := u D } σ H := h
theorem rd_nx {D : Ends} {σ : L2.St} {H : Hp} (h : D.nx σ H) : tNext D σ H := h
theorem rd_ifS {c : TT} {t u : TS} {D : Ends} {σ : L2.St} {H : Hp} (h : c σ H fun b H1 => if b = true then t D σ H1 else u D σ H1) : tIfS c t u D σ H := h
theorem rd_seq {u v : TS} {D : Ends} {σ : L2.St} {H : Hp} (h : u { D with nx := v D } σ H) : tSeq u v D σ H := h
theorem rd_asg {te : TE} {g : TG} {u : TS} {D : Ends} {σ : L2.St} {H : Hp} (h : te σ H fun x H1 => g x σ H1 (u D)) : tSeq (tAsg te g) u D σ H := h
theorem rd_par {i j : Nat} {ta : TA} {u : TS} {D : Ends} {σ : L2.St} {H : Hp} (h : ta σ H fun vs H1 => ∃ v w, vs = [v, w] ∧ u D ((σ.set i (some v)).set j (some w)) H1) : tSeq (tPar i j ta) u D σ H := h
theorem rd_yes {σ : L2.St} {H : Hp} {P R : Hp → Prop} (h : P H) : tYes σ H fun b H4 => if b = true then P H4 else R H4 := (if_pos rfl : (if true = true then P H else R H) = P H).mpr h
section
variable {wi : TI} {J : It} {g : TG} {tt : TT} {tb : TS} {te : TE} {vs : List Nat} {σ : L2.St} {H H1 : Hp} {Q : VK} {D : Ends}
def ForOk (J : It) (g : TG) (tb : TS) (D : Ends) (σ : L2.St) (H1 : Hp) : Prop := ∃ W : Nat → Nat → L2.St → Hp → Prop, (∃ m, W 0 m σ H1) ∧ ∀ i m σ H, W i m σ H →
  (J.stop i H ∧ D.nx σ H) ∨ (J.go i H ∧ ∃ N : L2.St → Hp → Prop, (∀ σ' H', N σ' H' → ∃ m', m' < m ∧ W (i + 1) m' σ' H') ∧ ∀ x H', J.yld i H x H' → g x σ H' fun σ2 H2 => tb { D with nx := N, ct := N, bk := D.nx } σ2 H2)
theorem rd_for (h : wi σ H fun J H1 => ForOk J g tb D σ H1) : tFor wi g tb D σ H := h
/-- for, n turns: I by the turn -/
theorem for_in (n : Nat) (I : Nat → L2.St → Hp → Prop) (h0 : I 0 σ H1)
    (hstop : ∀ σ' H', I n σ' H' → J.stop n H' ∧ D.nx σ' H')
    (hgo : ∀ i σ' H', i < n → I i σ' H' → J.go i H' ∧ ∀ N : L2.St → Hp → Prop, (∀ σ2 H2, I (i + 1) σ2 H2 → N σ2 H2) → ∀ x H2, J.yld i H' x H2 → g x σ' H2 fun σ3 H3 => tb { D with nx := N, ct := N, bk := D.nx } σ3 H3) :
    ForOk J g tb D σ H1 := by
  refine ⟨fun i m σ' H' => i + m = n ∧ I i σ' H', ⟨n, Nat.zero_add n, h0⟩, fun i m σ' H' ⟨e, h⟩ => ?_⟩
  by_cases hm : m = 0
  · subst hm
    have e' : i = n := by omega
    subst e'
    exact .inl (hstop _ _ h)
  · obtain ⟨h1, h2⟩ := hgo i σ' H' (by omega) h
    exact .inr ⟨h1, fun σ2 H2 => I (i + 1) σ2 H2, fun σ2 H2 k => ⟨m - 1, by omega, by omega, k⟩, h2 _ fun _ _ k => k⟩
def LcOk (J : It) (g : TG) (tt : TT) (te : TE) (vs : List Nat) (Q : VK) (σ : L2.St) (H1 : Hp) : Prop := ∀ D, H1 D = none → ∃ W : Nat → Nat → Hp → Prop, (∃ m, W 0 m (upd H1 D (.lst []))) ∧ ∀ i m H, W i m H →
  (J.stop i H ∧ Q (.ref D) H) ∨ (J.go i H ∧ ∃ Nx : Hp → Prop, (∀ H', Nx H' → ∃ m', m' < m ∧ W (i + 1) m' H') ∧ ∀ x H', J.yld i H x H' → g x (wipe σ vs) H' fun σ2 H2 => wipe σ2 vs = wipe σ vs ∧ tt σ2 H2 fun b H3 =>
    if b = true then te σ2 H3 fun y H4 => ∃ acc, H4 D = some (.lst acc) ∧ acc.length < sizeLine ∧ Nx (upd H4 D (.lst (acc ++ [y]))) else Nx H3)
theorem rd_lc (h : wi σ H fun J H1 => LcOk J g tt te vs Q σ H1) : tLc wi g tt te vs σ H Q := h
/-- a comprehension, n turns: I by the new list, the turn, what is there -/
theorem lc_in (n : Nat) (hn : n ≤ 1000) (I : Addr → Nat → List V → Hp → Prop)
    (h0 : ∀ L, H1 L = none → I L 0 [] (upd H1 L (.lst [])))
    (hstop : ∀ L acc H', H' L = some (.lst acc) → I L n acc H' → J.stop n H' ∧ Q (.ref L) H')
    (hgo : ∀ L i acc H', i < n → H' L = some (.lst acc) → I L i acc H' → J.go i H' ∧ ∀ (P : VK) (R : Hp → Prop), (∀ y H2, H2 L = some (.lst acc) → I L (i + 1) (acc ++ [y]) (upd H2 L (.lst (acc ++ [y]))) → P y H2) → (∀ H2, H2 L = some (.lst acc) → I L (i + 1) acc H2 → R H2) →
      ∀ x H2, J.yld i H' x H2 → g x (wipe σ vs) H2 fun σ2 H3 => wipe σ2 vs = wipe σ vs ∧ tt σ2 H3 fun b H4 => if b = true then te σ2 H4 P else R H4) :
    LcOk J g tt te vs Q σ H1 := by
  refine fun L hL => ⟨fun i m H' => i + m = n ∧ ∃ acc, H' L = some (.lst acc) ∧ acc.length ≤ i ∧ I L i acc H', ⟨n, Nat.zero_add n, [], upd_same, Nat.zero_le _, h0 L hL⟩, fun i m H' ⟨e, acc, h1, h2, h3⟩ => ?_⟩
  by_cases hm : m = 0
  · subst hm
    have e' : i = n := by omega
    subst e'
    exact .inl (hstop L acc H' h1 h3)
  · obtain ⟨k1, k2⟩ := hgo L i acc H' (by omega) h1 h3
    refine .inr ⟨k1, fun H2 => ∃ acc', H2 L = some (.lst acc') ∧ acc'.length ≤ i + 1 ∧ I L (i + 1) acc' H2, fun H2 k => ⟨m - 1, by omega, by omega, k⟩, k2 _ _ (fun y H2 z1 z2 => ⟨acc, z1, szl (by omega), acc ++ [y], upd_same, by rw [List.length_append]; exact Nat.succ_le_succ h2, z2⟩) fun H2 z1 z2 => ⟨acc, z1, by omega, z2⟩⟩
theorem rd_rng1 {ta : TA} {R : It → Hp → Prop} (h : ta σ H fun vs H1 => ∃ j : Int, vs = [.int j] ∧ -(2 ^ 62) ≤ j ∧ j < 2 ^ 62 ∧ R (Itr 0 j.toNat) H1) : iRng1 ta σ H R := h
theorem rng_n {n : Nat} (hn : n ≤ 1000) : -(2 ^ 62) ≤ (n : Int) ∧ (n : Int) < 2 ^ 62 := by
  constructor
  · have a : (0 : Int) ≤ (n : Int) := Int.natCast_nonneg n
    exact Int.le_trans (by decide) a
  · have a : (n : Int) ≤ 1000 := by omega
    exact Int.lt_of_le_of_lt a (by decide)
theorem rd_enum {K : PySem.W.Frag} {ta : TA} {R : It → Hp → Prop} (h : ta σ H fun vs H1 => ∃ a xs, vs = [.ref a] ∧ SqL K H1 a xs ∧ R (Ite K a) H1) : iEnum K ta σ H R := h
theorem rd_zip {K : PySem.W.Frag} {ta : TA} {R : It → Hp → Prop} (h : ta σ H fun vs H1 => ∃ a b xs ys, vs = [.ref a, .ref b] ∧ SqL K H1 a xs ∧ SqL K H1 b ys ∧ R (Itz K a b) H1) : iZip K ta σ H R := h
theorem rd_ilist {K : PySem.W.Frag} {tl : TE} {R : It → Hp → Prop} (h : tl σ H fun x H1 => ∃ a, x = .ref a ∧ (∃ xs, SqL K H1 a xs) ∧ R (Itl K a) H1) : iList K tl σ H R := h
theorem rd_or {t u : TT} {Q : Bool → Hp → Prop} (h : t σ H fun c H1 => if c = true then Q true H1 else u σ H1 Q) : tOr t u σ H Q := h
theorem rd_and {t u : TT} {Q : Bool → Hp → Prop} (h : t σ H fun c H1 => if c = true then u σ H1 Q else Q false H1) : tAnd t u σ H Q := h
theorem rd_not {t : TT} {Q : Bool → Hp → Prop} (h : t σ H fun c H1 => Q (!c) H1) : tNot t σ H Q := h
theorem rd_tb {te : TE} {Q : Bool → Hp → Prop} (h : te σ H fun x H1 => ∃ c, x = .bl c ∧ Q c H1) : tB te σ H Q := h
theorem rd_gnn {K : PySem.W.Frag} {i j : Nat} {a : Addr} {v w : V} {Q : L2.St → Hp → Prop} (h : SqT K H a [v, w]) (q : Q ((σ.set i (some v)).set j (some w)) H) : gTup K 2 (gCons (gName i) (gCons (gName j) gNil)) (.ref a) σ H Q := ⟨a, _, rfl, h, rfl, _, _, rfl, _, _, rfl, rfl, q⟩
theorem rd_gnt {K : PySem.W.Frag} {i j k : Nat} {a b : Addr} {v w z : V} {Q : L2.St → Hp → Prop} (h : SqT K H a [v, .ref b]) (h2 : SqT K H b [w, z]) (q : Q (((σ.set i (some v)).set j (some w)).set k (some z)) H) : gTup K 2 (gCons (gName i) (gCons (gTup K 2 (gCons (gName j) (gCons (gName k) gNil))) gNil)) (.ref a) σ H Q :=
  ⟨a, _, rfl, h, rfl, _, _, rfl, _, _, rfl, b, _, rfl, h2, rfl, _, _, rfl, _, _, rfl, rfl, rfl, q⟩
theorem dp_bools {K : PySem.W.Frag} {a : Addr} (js : List Nat) (f : Nat → Bool) (h : H a = some (.lst (js.map fun j => V.bl (f j)))) : Dp K H (.ref a) (.list (js.map fun j => .bool (f j))) := by
  refine .lst (sq h) ?_
  induction js generalizing a with
  | nil => exact .nil
  | cons j js ih => 
    have key : ∀ js : List Nat, DpAll K H (js.map fun j => V.bl (f j)) (js.map fun j => .bool (f j)) := fun js => by
      induction js with
      | nil => exact .nil
      | cons j js ih => exact .cons (.bl _) ih
    exact key _
/-- [e for j in range(n)], e reads what stands and changes nothing -/
theorem lc_rng {ta : TA} {i9 : Nat} (n : Nat) (hn : n ≤ 1000) (f : Nat → V) (hta : ∀ R : List V → Hp → Prop, R [.int n] H → ta σ H R) (hw : ∀ j : Int, wipe ((wipe σ vs).set i9 (some (.int j))) vs = wipe σ vs)
    (he : ∀ j, j < n → ∀ H', Same H H' → ∀ P : VK, P (f j) H' → te ((wipe σ vs).set i9 (some (.int j))) H' P)
    (q : ∀ L H', Same H H' → H L = none → H' L = some (.lst ((List.range n).map f)) → Q (.ref L) H') : tLc (iRng1 ta) (gName i9) tYes te vs σ H Q := by
  refine rd_lc (rd_rng1 (hta _ ⟨n, rfl, (rng_n hn).1, (rng_n hn).2, ?_⟩))
  rw [Int.toNat_natCast]
  refine lc_in n hn (fun L i acc H' => H L = none ∧ Same H H' ∧ acc = (List.range i).map f) (fun L hL => ⟨hL, same_upd hL, rfl⟩) (fun L acc H' h1 ⟨h2, h3, h4⟩ => ⟨Nat.le_refl n, q L H' h3 h2 (by rw [h1, h4])⟩) fun L i acc H' hi h1 ⟨h2, h3, h4⟩ => ⟨hi, fun P R hP hR x H2 ⟨e1, e2⟩ => ?_⟩
  subst e1
  subst e2
  subst h4
  rw [Int.zero_add]
  refine ⟨hw _, rd_yes (he i hi H2 h3 _ (hP _ _ h1 ⟨h2, ?_, ?_⟩))⟩
  · exact fun b o z => by
      rw [upd_ne (ne_of_none z h2)]
      exact h3 b o z
  · rw [List.range_succ, List.map_append]
    rfl
end
end DD

set_option Elab.async false
set_option linter.all false
set_option maxRecDepth 100000
set_option maxHeartbeats 4000000
/-! RPU: tuple * int, any int that is not too great. -/
namespace RPU
open PySem PySem.Spec PyProof.Rows L2
theorem tuple_mul0 (l : Addr) (items : Array Value) (n : Nat) (dd : Option Addr) (sl : Array (Option Value)) (x : Int) (u : Tok) (c0 : (decide (x < -(2 ^ 63)) || decide (x ≥ 2 ^ 63)) = false) (c1 : (items.isEmpty || x == 1) = false) (c2 : (decide (x ≤ 0) || items.isEmpty) = true) :
    Meets (Builtin.«tuple.__mul__» ⟨[.ref l, .int x u], []⟩) (fun _ R s => s.heap.get? l = some { cls := .type "tuple", dict := dd, data := .seq items n, slots := sl } ∧
      R (.ok (.ret (Value.ref s.heap.objs.size))) { s with heap := s.heap.push { cls := Value.type "tuple", data := Data.seq #[] }, toks := s.toks }) :=
  .of_wp fun prog w A R s h => by
    obtain ⟨hp, g, d, tk, os⟩ := s
    obtain ⟨hl, h⟩ := h
    have f1 := AutoSeq1.idx_int
    wp_walk using wpAny_loadPart' hl
    repeat (first
      | (refine wpAny_ite_false (decide_eq_false (by rw [c0]; exact Bool.false_ne_true)) ?_; wp_walk using wpAny_loadPart' hl)
      | (refine wpAny_ite_false (decide_eq_false (by rw [c1]; exact Bool.false_ne_true)) ?_; wp_walk using wpAny_loadPart' hl)
      | (refine wpAny_ite_true (decide_eq_true c2) ?_; wp_walk using wpAny_loadPart' hl))
    exact ⟨_, rfl, h⟩
theorem tuple_mul1 (l : Addr) (items : Array Value) (n : Nat) (dd : Option Addr) (sl : Array (Option Value)) (x : Int) (u : Tok) (c0 : (decide (x < -(2 ^ 63)) || decide (x ≥ 2 ^ 63)) = false) (c1 : (items.isEmpty || x == 1) = true) :
    Meets (Builtin.«tuple.__mul__» ⟨[.ref l, .int x u], []⟩) (fun _ R s => s.heap.get? l = some { cls := .type "tuple", dict := dd, data := .seq items n, slots := sl } ∧
      R (.ok (.ret (Value.ref l))) s) :=
  .of_wp fun prog w A R s h => by
    obtain ⟨hp, g, d, tk, os⟩ := s
    obtain ⟨hl, h⟩ := h
    have f1 := AutoSeq1.idx_int
    wp_walk using wpAny_loadPart' hl
    repeat (first
      | (refine wpAny_ite_false (decide_eq_false (by rw [c0]; exact Bool.false_ne_true)) ?_; wp_walk using wpAny_loadPart' hl)
      | (refine wpAny_ite_true (decide_eq_true c1) ?_; wp_walk using wpAny_loadPart' hl))
    exact ⟨_, rfl, h⟩
/-- t * k: nothing at k <= 0, t itself at k = 1 or where t is empty -/
def rRepU (K : PySem.W.Frag) : R2 := fun x y H Q => ∃ l k xs, x = .ref l ∧ y = .int k ∧ SqT K H l xs ∧ -(2 ^ 62) ≤ k ∧ k ≤ 1000 ∧ xs.length ≤ 1000 ∧ (xs = [] ∨ k = 1 → Q (.ref l) H) ∧ (xs ≠ [] → k ≠ 1 → ∀ p, H p = none → Q (.ref p) (upd H p (.tup (List.replicate k.toNat xs).flatten)))
theorem op_repU {X : Cx} : OpR X (binaryOp .Mult) (rRepU X.K) := by
  intro pins s σ H x y v u Q I rx ry h
  obtain ⟨l, k, xs, rfl, rfl, hT, h0, h1, hz, q1, q2⟩ := h
  by_cases big : xs ≠ [] ∧ 2 ≤ k
  · exact op_repT pins s σ H (.ref l) (.int k) v u Q I rx ry ⟨l, k, xs, rfl, rfl, hT, big.1, big.2, h1, hz, q2 big.1 (by omega)⟩
  cases rx
  obtain ⟨t, rfl⟩ := ry
  obtain ⟨its, r, ⟨⟨cls, dd, data, sl⟩, ho, hc, n, hd⟩, hs⟩ := I.tuple hT
  simp only at hc hd
  subst hc hd
  have hle : its.length = xs.length := r.length.symm
  have c0 : (decide (k < -(2 ^ 63)) || decide (k ≥ 2 ^ 63)) = false := by
    rw [decide_eq_false (by omega), decide_eq_false (by omega)] <;> rfl
  by_cases same : xs = [] ∨ k = 1
  · have c1 : (its.toArray.isEmpty || k == 1) = true := by
      rcases same with e | e
      · have e2 : its = [] := List.eq_nil_of_length_eq_zero (by rw [hle, e]; rfl)
        rw [e2]
        rfl
      · rw [e]
        simp
    refine wpAny_binaryOp_repeat_ref (T := "tuple") (U := "int") (by decide) ⟨_, ho, rfl⟩ (fun s' => typeIs_int s' k t) noFill_tuple_mul F.fills_int_mul F.slot_int_rmul repeat_tuple F.slot_int_index.lookup
      (call_meets F.slot_int_rmul (typeIs_int s k t) F.entry_int_rmul (F.args_int_rmul_2 _ _) (int_rmul_tuple k t l its.toArray n dd sl)
        ⟨ho, rfl, ⟨_, ho, rfl⟩, call_meets F.slot_tuple_mul ⟨_, ho, rfl⟩ F.entry_tuple_mul (F.args_tuple_mul_2 _ _) (tuple_mul1 l its.toArray n dd sl k t c0 c1) ⟨ho, ?_⟩⟩)
    exact ⟨.ref l, H, I, rfl, q1 same⟩
  · have hne : xs ≠ [] := fun e => same (.inl e)
    have hk1 : k ≠ 1 := fun e => same (.inr e)
    have hk : k ≤ 0 := by
      by_cases z : 2 ≤ k
      · exact absurd ⟨hne, z⟩ big
      · omega
    have hn : its ≠ [] := fun e => hne (by
      rw [e] at hle
      exact List.eq_nil_of_length_eq_zero hle.symm)
    have hi : its.toArray.isEmpty = false := by
      cases its with
      | nil => exact absurd rfl hn
      | cons a b => rfl
    have c1 : (its.toArray.isEmpty || k == 1) = false := by
      rw [hi, Bool.false_or]
      exact beq_eq_false_iff_ne.mpr hk1
    have c2 : (decide (k ≤ 0) || its.toArray.isEmpty) = true := by
      rw [decide_eq_true hk] <;> rfl
    refine wpAny_binaryOp_repeat_ref (T := "tuple") (U := "int") (by decide) ⟨_, ho, rfl⟩ (fun s' => typeIs_int s' k t) noFill_tuple_mul F.fills_int_mul F.slot_int_rmul repeat_tuple F.slot_int_index.lookup
      (call_meets F.slot_int_rmul (typeIs_int s k t) F.entry_int_rmul (F.args_int_rmul_2 _ _) (int_rmul_tuple k t l its.toArray n dd sl)
        ⟨ho, rfl, ⟨_, ho, rfl⟩, call_meets F.slot_tuple_mul ⟨_, ho, rfl⟩ F.entry_tuple_mul (F.args_tuple_mul_2 _ _) (tuple_mul0 l its.toArray n dd sl k t c0 c1 c2) ⟨ho, ?_⟩⟩)
    have e0 : (List.replicate k.toNat xs).flatten = [] := by
      have : k.toNat = 0 := by omega
      rw [this]
      rfl
    have q3 := q2 hne hk1
    rw [e0] at q3
    refine ⟨.ref s.heap.objs.size, _, I.laid (t' := s.toks) (o := .tup []) (fun b ob q => Heap.get?_push_of_some _ q) (Nat.le_refl _) ?_, rfl, q3 _ (I.hok.fresh (Nat.le_refl _))⟩
    exact ⟨Nat.zero_le _, [], .nil, IsTup.new _ _⟩
end RPU

set_option Elab.async false
set_option linter.all false
set_option maxRecDepth 100000
set_option maxHeartbeats 4000000
/-! PT: tuples that are known to have no dict of their own (a new tuple's very object is kept in mind), and dict(t) of such a tuple. -/
namespace PT
open PySem PySem.Spec PyProof.Rows L2 GG
/-- a tuple without a dict of its own -/
def PlT (K : PySem.W.Frag) (H : Hp) (a : Addr) (xs : List V) : Prop := (∃ o, H a = some (.frz o (.tup xs)) ∧ o.dict = none) ∨
  ∃ (o : Obj) (its : Array Value) (n : Nat), K.lookup a = some o ∧ o.cls = .type "tuple" ∧ o.dict = none ∧ o.data = .seq its n ∧ its.size ≤ sizeLine ∧ Vals xs its.toList
theorem PlT.sq {K : PySem.W.Frag} {H : Hp} {a : Addr} {xs : List V} (h : PlT K H a xs) : SqT K H a xs := by
  rcases h with ⟨o, h, _⟩ | ⟨o, its, n, h1, h2, _, h3, h4, h5⟩
  · exact .inl (.inr ⟨o, h⟩)
  · exact .inr ⟨o, its, n, h1, h2, h3, h4, h5⟩
theorem PlT.same {K : PySem.W.Frag} {H H' : Hp} {a : Addr} {xs : List V} (s : Same H H') (h : PlT K H a xs) : PlT K H' a xs := by
  rcases h with ⟨o, h, e⟩ | h
  · exact .inl ⟨o, s _ _ h, e⟩
  · exact .inr h
/-- a new tuple is there -/
abbrev NewT (H : Hp) (xs : List V) (Q : VK) : Prop := ∀ p o, H p = none → o.dict = none → Q (.ref p) (upd H p (.frz o (.tup xs)))
section
variable {X : Cx} {pins : List (Addr × Obj)} {σ : L2.St} {H : Hp} {s : Shared}
/-- laid: the tuple's object as it was pushed -/
theorem laidT (I : Inv X pins σ H s) {xs : List V} {us : List Value} (r : Vals xs us) (hz : xs.length ≤ sizeLine) {Q : VK} (q : NewT H xs Q) :
    EP X pins σ Q (.ref s.heap.objs.size) { s with heap := s.heap.push { cls := .type "tuple", data := .seq us.toArray } } := by
  have hg : (s.heap.push { cls := .type "tuple", data := .seq us.toArray }).get? s.heap.objs.size = some { cls := .type "tuple", data := .seq us.toArray } := Heap.get?_push_size _ rfl
  refine ⟨.ref s.heap.objs.size, _, I.laid (t' := s.toks) (o := .frz { cls := .type "tuple", data := .seq us.toArray } (.tup xs)) (fun b u e => Heap.get?_push_of_some _ e) (Nat.le_refl _) ?_, rfl, q _ _ (I.hok.fresh (Nat.le_refl _)) rfl⟩
  exact ⟨hg, hz, us, r, ⟨_, hg, rfl, _, rfl⟩⟩
end
section
variable {X : Cx} {pos : Pos} {es : List Expr} {t : TA}
def tTupP (t : TA) : TE := fun σ H Q => t σ H fun xs H1 => xs.length ≤ sizeLine ∧ NewT H1 xs Q
theorem pe_tupP {x1} (h : PA X es t) : PE X (.Tuple es x1 pos) (tTupP t) := by
  refine ⟨fun pins s σ H Q I hq => ?_⟩
  refine wpAny_Tuple_spliced (thn (h.run pos pins s σ H _ I hq) fun us s1 ⟨xs, H1, I1, r, z, q⟩ => ⟨by rw [← r.length]; exact z, ?_⟩)
  exact laidT I1 r z q
/-- tuple(xs) of a list, of a tuple -/
def rToP (K : PySem.W.Frag) : List V → Hp → VK → Prop := fun xs H Q => ∃ p ys, xs = [.ref p] ∧ ((SqL K H p ys ∧ NewT H ys Q) ∨ (SqT K H p ys ∧ Q (.ref p) H))
theorem call_tuple_ofP : CallR X (.type "tuple") (rToP X.K) := by
  intro pins s σ H xs us Q I r h
  obtain ⟨p, ys, rfl, h⟩ := h
  obtain ⟨u, rfl, rx⟩ := vals1 r
  cases rx
  rcases h with ⟨hq, q⟩ | ⟨hq, q⟩
  · obtain ⟨its, r', pl, hz⟩ := I.list hq
    have hlen := r'.length
    refine call_tuple_list pl.isList (fun h' kp => ?_) (by simp only [List.size_toArray] <;> omega)
    exact laidT (s := { s with heap := h' }) (I.kept (t' := s.toks) kp) r' hz q
  · exact call_tuple_of pins s σ H [.ref p] [Value.ref p] Q I (.cons rfl .nil) ⟨p, ys, rfl, .inr ⟨hq, q⟩⟩
def rCatP (K : PySem.W.Frag) : R2 := fun x y H Q => ∃ a b xs ys, x = .ref a ∧ y = .ref b ∧ SqT K H a xs ∧ SqT K H b ys ∧ xs.length + ys.length ≤ sizeLine ∧
  (xs = [] → Q (.ref b) H) ∧ (xs ≠ [] → ys = [] → Q (.ref a) H) ∧ (xs ≠ [] → ys ≠ [] → NewT H (xs ++ ys) Q)
theorem op_catP : OpR X (binaryOp .Add) (rCatP X.K) := by
  intro pins s σ H x y v u Q I rx ry h
  obtain ⟨a, b, xs, ys, rfl, rfl, ha, hb, hz, q0, q1, q2⟩ := h
  by_cases hx : xs = []
  · exact op_catA pins s σ H (.ref a) (.ref b) v u Q I rx ry ⟨a, b, xs, ys, rfl, rfl, ha, hb, hz, q0, q1, fun z => absurd hx z⟩
  · cases rx
    cases ry
    obtain ⟨its, r1, p1, _⟩ := I.tuple ha
    obtain ⟨its2, r2, p2, _⟩ := I.tuple hb
    refine HT.cat_tup p1 p2 (fun z => hx (r1.nil_iff.mp z)) (fun z => ⟨.ref a, H, I, rfl, q1 hx (r2.nil_iff.mp z)⟩) (fun z => ?_) (by rw [← r1.length, ← r2.length]; exact hz)
    exact laidT I (r1.append r2) (by rw [List.length_append]; exact hz) (q2 hx fun w => z (r2.nil_iff.mpr w))
def rSlP (K : PySem.W.Frag) : V → Option Int → Option Int → Hp → VK → Prop := fun x lo hi H Q => ∃ a xs, x = .ref a ∧ SqT K H a xs ∧
  (HT.sIx xs.length 0 lo = 0 ∧ HT.sIx xs.length xs.length hi = xs.length → Q (.ref a) H) ∧ (¬ (HT.sIx xs.length 0 lo = 0 ∧ HT.sIx xs.length xs.length hi = xs.length) → NewT H (cutV xs lo hi) Q)
theorem sl_tupP : SlR X (rSlP X.K) := by
  intro pins s σ H x v vl vu lo hi sl Q I rx hs pl pu h
  obtain ⟨a, xs, rfl, hx, q1, q2⟩ := h
  by_cases hw : HT.sIx xs.length 0 lo = 0 ∧ HT.sIx xs.length xs.length hi = xs.length
  · exact sl_tupA pins s σ H (.ref a) v vl vu lo hi sl Q I rx hs pl pu ⟨a, xs, rfl, hx, q1, fun z => absurd hw z⟩
  · cases rx
    obtain ⟨its, r, ht, hz⟩ := I.tuple hx
    have hlen : its.toArray.size = xs.length := by rw [List.size_toArray]; exact r.length.symm
    refine ⟨"tuple", _, PyProof.Rows.slot_tuple_getitem.lookup, ht.typeIs, ?_⟩
    refine HT.getItem_tuple_cut ht hs pl pu (by rw [hlen]; exact hw) ?_ (by rw [hlen]; exact hz)
    rw [hlen]
    exact laidT I ((r.drop (HT.sIx xs.length 0 lo)).take (HT.sIx xs.length xs.length hi - HT.sIx xs.length 0 lo)) (Nat.le_trans (cutV_length xs lo hi) hz) (q2 hw)
/-- t * k -/
def rRepP (K : PySem.W.Frag) : R2 := fun x y H Q => ∃ l k xs, x = .ref l ∧ y = .int k ∧ SqT K H l xs ∧ -(2 ^ 62) ≤ k ∧ k ≤ 1000 ∧ xs.length ≤ 1000 ∧ (xs = [] ∨ k = 1 → Q (.ref l) H) ∧ (xs ≠ [] → k ≠ 1 → NewT H (List.replicate k.toNat xs).flatten Q)
theorem op_repP : OpR X (binaryOp .Mult) (rRepP X.K) := by
  intro pins s σ H x y v u Q I rx ry h
  obtain ⟨l, k, xs, rfl, rfl, hT, h0, h1, hz, q1, q2⟩ := h
  by_cases same : xs = [] ∨ k = 1
  · exact RPU.op_repU pins s σ H (.ref l) (.int k) v u Q I rx ry ⟨l, k, xs, rfl, rfl, hT, h0, h1, hz, q1, fun a b => absurd same (fun z => z.elim a b)⟩
  cases rx
  obtain ⟨t, rfl⟩ := ry
  obtain ⟨its, r, ⟨⟨cls, dd, data, sl⟩, ho, hc, n, hd⟩, hs⟩ := I.tuple hT
  simp only at hc hd
  subst hc hd
  have hle : its.length = xs.length := r.length.symm
  have hne : xs ≠ [] := fun e => same (.inl e)
  have hk1 : k ≠ 1 := fun e => same (.inr e)
  have hn : its ≠ [] := fun e => hne (by
    rw [e] at hle
    exact List.eq_nil_of_length_eq_zero hle.symm)
  have hi : its.toArray.isEmpty = false := by
    cases its with
    | nil => exact absurd rfl hn
    | cons a b => rfl
  have c0 : (decide (k < -(2 ^ 63)) || decide (k ≥ 2 ^ 63)) = false := by
    rw [decide_eq_false (by omega), decide_eq_false (by omega)] <;> rfl
  have c1 : (its.toArray.isEmpty || k == 1) = false := by
    rw [hi, Bool.false_or]
    exact beq_eq_false_iff_ne.mpr hk1
  by_cases hk : k ≤ 0
  · have c2 : (decide (k ≤ 0) || its.toArray.isEmpty) = true := by
      rw [decide_eq_true hk] <;> rfl
    refine wpAny_binaryOp_repeat_ref (T := "tuple") (U := "int") (by decide) ⟨_, ho, rfl⟩ (fun s' => typeIs_int s' k t) noFill_tuple_mul F.fills_int_mul F.slot_int_rmul repeat_tuple F.slot_int_index.lookup
      (call_meets F.slot_int_rmul (typeIs_int s k t) F.entry_int_rmul (F.args_int_rmul_2 _ _) (int_rmul_tuple k t l its.toArray n dd sl)
        ⟨ho, rfl, ⟨_, ho, rfl⟩, call_meets F.slot_tuple_mul ⟨_, ho, rfl⟩ F.entry_tuple_mul (F.args_tuple_mul_2 _ _) (RPU.tuple_mul0 l its.toArray n dd sl k t c0 c1 c2) ⟨ho, ?_⟩⟩)
    have e0 : (List.replicate k.toNat xs).flatten = [] := by
      have : k.toNat = 0 := by omega
      rw [this]
      rfl
    have q3 := q2 hne hk1
    rw [e0] at q3
    exact laidT I (us := []) .nil (Nat.zero_le _) q3
  · have c2 : (decide (k ≤ 0) || its.toArray.isEmpty) = false := by
      rw [hi, Bool.or_false]
      exact decide_eq_false hk
    have hsz0 : its.toArray.size = xs.length := by rw [List.size_toArray, hle]
    have hm : ((its.toArray.size : Nat) : Int) * k ≤ 1000000 := by
      rw [hsz0]
      have a1 : ((xs.length : Nat) : Int) * k ≤ 1000 * k := Int.mul_le_mul_of_nonneg_right (by omega) (by omega)
      omega
    have flen : (List.replicate k.toNat its).flatten.length ≤ sizeLine := by
      rw [PyProof.Rows.lm_len_rep_flat, hle, sizeLine_eq]
      have a1 : k.toNat * xs.length ≤ 1000 * 1000 := Nat.mul_le_mul (by omega) hz
      omega
    have flen2 : (List.replicate k.toNat xs).flatten.length ≤ sizeLine := by
      rw [PyProof.Rows.lm_len_rep_flat, sizeLine_eq]
      have a1 : k.toNat * xs.length ≤ 1000 * 1000 := Nat.mul_le_mul (by omega) hz
      omega
    have c4 : Builtin.Tuple.tupleTooMany (((its.toArray.size : Nat) : Int) * k) = false := by
      unfold Builtin.Tuple.tupleTooMany
      rw [sizeLine_eq]
      exact decide_eq_false (by omega)
    refine wpAny_binaryOp_repeat_ref (T := "tuple") (U := "int") (by decide) ⟨_, ho, rfl⟩ (fun s' => typeIs_int s' k t) noFill_tuple_mul F.fills_int_mul F.slot_int_rmul repeat_tuple F.slot_int_index.lookup
      (call_meets F.slot_int_rmul (typeIs_int s k t) F.entry_int_rmul (F.args_int_rmul_2 _ _) (int_rmul_tuple k t l its.toArray n dd sl)
        ⟨ho, rfl, ⟨_, ho, rfl⟩, call_meets F.slot_tuple_mul ⟨_, ho, rfl⟩ F.entry_tuple_mul (F.args_tuple_mul_2 _ _) (tuple_mulW l its.toArray n dd sl k t c0 c1 c2 (by omega) c4 (by rw [size_rep, List.size_toArray]; exact flen)) ⟨ho, ?_⟩⟩)
    rw [size_rep]
    exact laidT I (r.rep k.toNat) flen2 (q2 hne hk1)
/-- the pairs of a plain tuple -/
theorem pairs_at {pins : List (Addr × Obj)} {σ : L2.St} {H : Hp} {s : Shared} (I : Inv X pins σ H s) : ∀ {ps : List Addr} {kvs : List (L2.Key × V)}, Paired (fun p kv => SqT X.K H p [kV kv.1, kv.2]) ps kvs →
    ∃ qs : List (Value × Value), ∃ prs : List (L2.Key × Value), KV kvs prs ∧ qs.length = ps.length ∧ prs.length = ps.length ∧ (∀ (j : Nat) (k v : Value), qs[j]? = some (k, v) → (∃ b : Addr, ps[j]? = some b ∧ IsTup s.heap b #[k, v]) ∧ ∃ kk, prs[j]? = some (kk, v) ∧ keyIs kk k = true)
  | _, _, .nil => ⟨[], [], .nil, rfl, rfl, fun j k v e => by simp at e⟩
  | _, _, .cons (a := p) (b := kv) h t => by
    obtain ⟨qs, prs, r, h1, h2, h3⟩ := pairs_at I t
    obtain ⟨its, rv, ht, _⟩ := I.tuple h
    obtain ⟨u, y, ei, ru, ry⟩ := vals2 rv
    subst ei
    refine ⟨(u, y) :: qs, (kv.1, y) :: prs, .cons ⟨rfl, ry⟩ r, by rw [List.length_cons, List.length_cons, h1], by rw [List.length_cons, List.length_cons, h2], fun j k v e => ?_⟩
    cases j with
    | zero =>
      have e' : (u, y) = (k, v) := Option.some.inj e
      cases e'
      exact ⟨⟨p, rfl, ht⟩, kv.1, rfl, kV_is (P := X.prog) (w := X.w) ru⟩
    | succ j =>
      obtain ⟨⟨b, e1, e2⟩, kk, e3, e4⟩ := h3 j k v (by simpa using e)
      exact ⟨⟨b, by simpa using e1, e2⟩, kk, by simpa using e3, e4⟩
/-- dict(t) of a tuple of pairs (key, value): later pairs win, the place is the first one's -/
def rDictT (K : PySem.W.Frag) : List V → Hp → VK → Prop := fun xs H Q => ∃ (a : Addr) (ps : List Addr) (kvs : List (L2.Key × V)), xs = [.ref a] ∧ PlT K H a (ps.map V.ref) ∧ Paired (fun p kv => SqT K H p [kV kv.1, kv.2]) ps kvs ∧
    ∀ p, H p = none → Q (.ref p) (upd H p (.dK (mergeK [] kvs)))
theorem call_dictT (hcalm : X.calm = true) : CallR X (.type "dict") (rDictT X.K) := by
  intro pins s σ H xs us Q I r q
  obtain ⟨a, ps, kvs, ex, hq, hp, q⟩ := q
  subst ex
  obtain ⟨u, eu, rx⟩ := vals1 r
  subst eu
  cases rx
  obtain ⟨qs, prs, rel, l1, l2, hpr⟩ := pairs_at I hp
  have plain : ∃ items : Array Value, PySem.PlainSeq "tuple" s.heap a items ∧ items.toList = ps.map Value.ref ∧ ps.length ≤ sizeLine := by
    rcases hq with ⟨o, h, e⟩ | ⟨o, its, n, h1, h2, e, h3, h4, h5⟩
    · obtain ⟨g, hz, its, rv, o', ho', hc', n, hd'⟩ := (show ObjOk X.prog X.w H s.heap a (.frz o (.tup (ps.map V.ref))) from I.hok a _ h)
      rw [g] at ho'
      cases ho'
      have ei := refs_at rv
      subst ei
      exact ⟨_, ⟨o, n, g, hc', e, hd'⟩, rfl, by rw [List.length_map] at hz; exact hz⟩
    · have ei := refs_at h5
      have hl : its.size = ps.length := by
        rw [← Array.length_toList, ei, List.length_map]
      exact ⟨its, ⟨o, n, I.kIn a o h1, h2, e, h3⟩, ei, by omega⟩
  obtain ⟨items, hps, hi, hz⟩ := plain
  have hsz : items.size = ps.length := by rw [← Array.length_toList, hi, List.length_map]
  have hget : ∀ (j : Nat) (b : Addr), ps[j]? = some b → items[j]? = some (.ref b) := fun j b e => by
    rw [← Array.getElem?_toList, hi, List.getElem?_map, e]
    rfl
  have P := PySem.PairArg.tuple (prog := X.prog) (w := X.w) a items (fun j => (ps[j]?).getD 0) qs
  refine PySem.call_dict_pairs (knd := mixKind X.prog X.w) (kvs := prs) P (I.ok.hd hcalm) ⟨hps, by rw [hsz, l1], fun j k v e => ?_⟩ ⟨by rw [l2, l1], fun j k v e => ?_⟩ (by rw [l1]; exact hz) fun h' tk hd' k => ?_
  · obtain ⟨⟨b, e1, e2⟩, _⟩ := hpr j k v e
    have e3 : (ps[j]?).getD 0 = b := by rw [e1]; rfl
    show items[j]? = some (Value.ref ((ps[j]?).getD 0)) ∧ PairAt s.heap ((ps[j]?).getD 0) k v
    rw [e3]
    exact ⟨hget j b e1, .inl e2⟩
  · obtain ⟨_, kk, e3, e4⟩ := hpr j k v e
    exact ⟨kk, e3, e4⟩
  · have hm : (s.heap.objs.size == sysModules) = false := beq_eq_false_iff_ne.mpr (Nat.ne_of_gt I.big)
    have hlen : (mergeK [] kvs).length ≤ sizeLine := by
      refine Nat.le_trans (length_mergeK kvs []) ?_
      rw [List.length_nil, Nat.zero_add, rel.length, l2]
      exact hz
    exact ⟨.ref s.heap.objs.size, upd H s.heap.objs.size (.dK (mergeK [] kvs)), I.laid (t' := tk) (fun b o e => k b o List.not_mem_nil e) (Nat.le_refl _) (show ObjOk X.prog X.w _ _ _ (.dK (mergeK [] kvs)) from ⟨hlen, hm, merged [] prs, KV.merge rel .nil, hd'⟩), rfl, q _ (I.hok.fresh (Nat.le_refl _))⟩
end
end PT

set_option Elab.async false
set_option linter.all false
set_option maxRecDepth 100000
set_option maxHeartbeats 4000000
/-! DLa: data in the heap (Da), the abstract state of a def's slots (DV, DSt), what ties it to the heap (Rl). -/
namespace DL
open PySem PySem.Spec PyProof.Rows L2 GG DD PT
mutual
/-- a value is this data, whatever is inside -/
inductive Da (K : PySem.W.Frag) (H : Hp) : V → PyData → Prop
  | non : Da K H .non .none
  | bl (b : Bool) : Da K H (.bl b) (.bool b)
  | int (i : Int) : Da K H (.int i) (.int i)
  | str (x : Str) : Da K H (.str x) (.str x)
  | lst {a : Addr} {xs : List V} {ds : List PyData} : H a = some (.lst xs) → DaAll K H xs ds → Da K H (.ref a) (.list ds)
  | tup {a : Addr} {xs : List V} {ds : List PyData} : PlT K H a xs → DaAll K H xs ds → Da K H (.ref a) (.tuple ds)
  | dic {a : Addr} {kvs : List (L2.Key × V)} {ds : List (PyData × PyData)} : H a = some (.dK kvs) → DaKv K H kvs ds → Da K H (.ref a) (.dict ds)
  | dct {a : Addr} {kvs : List (List L2.Key × V)} {ds : List (PyData × PyData)} : H a = some (.dT kvs) → kvs ≠ [] → DaKt K H kvs ds → Da K H (.ref a) (.dict ds)
inductive DaAll (K : PySem.W.Frag) (H : Hp) : List V → List PyData → Prop
  | nil : DaAll K H [] []
  | cons {v : V} {vs : List V} {d : PyData} {ds : List PyData} : Da K H v d → DaAll K H vs ds → DaAll K H (v :: vs) (d :: ds)
inductive DaKv (K : PySem.W.Frag) (H : Hp) : List (L2.Key × V) → List (PyData × PyData) → Prop
  | nil : DaKv K H [] []
  | cons {k : L2.Key} {v : V} {r : List (L2.Key × V)} {d : PyData} {ds : List (PyData × PyData)} : Da K H v d → DaKv K H r ds → DaKv K H ((k, v) :: r) ((keyD k, d) :: ds)
inductive DaKt (K : PySem.W.Frag) (H : Hp) : List (List L2.Key × V) → List (PyData × PyData) → Prop
  | nil : DaKt K H [] []
  | cons {k : List L2.Key} {v : V} {r : List (List L2.Key × V)} {d : PyData} {ds : List (PyData × PyData)} : Da K H v d → DaKt K H r ds → DaKt K H ((k, v) :: r) ((.tuple (k.map keyD), d) :: ds)
end
theorem rd_same {H H' : Hp} {a : Addr} {u : HO} (s : Same H H') (h : Rd H a u) : Rd H' a u := by
  rcases h with h | ⟨o, h⟩
  · exact .inl (s _ _ h)
  · exact .inr ⟨o, s _ _ h⟩
section
variable {K : PySem.W.Frag} {H H' : Hp}
mutual
theorem Da.same (s : Same H H') : ∀ (d : PyData) (v : V), Da K H v d → Da K H' v d
  | .none, _, h => by cases h; exact .non
  | .bool b, _, h => by cases h; exact .bl b
  | .int i, _, h => by cases h; exact .int i
  | .str x, _, h => by cases h; exact .str x
  | .list ds, _, h => by
    cases h with
    | lst hs ha => exact .lst (s _ _ hs) (DaAll.same s ds _ ha)
  | .tuple ds, _, h => by
    cases h with
    | tup hs ha => exact .tup (hs.same s) (DaAll.same s ds _ ha)
  | .dict ds, _, h => by
    cases h with
    | dic hs ha => exact .dic (s _ _ hs) (DaKv.same s ds _ ha)
    | dct hs hn ha => exact .dct (s _ _ hs) hn (DaKt.same s ds _ ha)
theorem DaAll.same (s : Same H H') : ∀ (ds : List PyData) (vs : List V), DaAll K H vs ds → DaAll K H' vs ds
  | [], _, h => by cases h; exact .nil
  | d :: ds, _, h => by
    cases h with
    | cons h1 h2 => exact .cons (Da.same s d _ h1) (DaAll.same s ds _ h2)
theorem DaKv.same (s : Same H H') : ∀ (ds : List (PyData × PyData)) (vs : List (L2.Key × V)), DaKv K H vs ds → DaKv K H' vs ds
  | [], _, h => by cases h; exact .nil
  | (k, d) :: ds, _, h => by
    cases h with
    | cons h1 h2 => exact .cons (Da.same s d _ h1) (DaKv.same s ds _ h2)
theorem DaKt.same (s : Same H H') : ∀ (ds : List (PyData × PyData)) (vs : List (List L2.Key × V)), DaKt K H vs ds → DaKt K H' vs ds
  | [], _, h => by cases h; exact .nil
  | (k, d) :: ds, _, h => by
    cases h with
    | cons h1 h2 => exact .cons (Da.same s d _ h1) (DaKt.same s ds _ h2)
end
theorem Da.of {v : V} {d : PyData} (h : Da K H v d) (s : Same H H') : Da K H' v d := Da.same s d v h
theorem DaAll.of {vs : List V} {ds : List PyData} (h : DaAll K H vs ds) (s : Same H H') : DaAll K H' vs ds := DaAll.same s ds vs h
theorem DaKv.of {vs : List (L2.Key × V)} {ds : List (PyData × PyData)} (h : DaKv K H vs ds) (s : Same H H') : DaKv K H' vs ds := DaKv.same s ds vs h
theorem DaKt.of {vs : List (List L2.Key × V)} {ds : List (PyData × PyData)} (h : DaKt K H vs ds) (s : Same H H') : DaKt K H' vs ds := DaKt.same s ds vs h
theorem DaAll.len : ∀ {vs : List V} {ds : List PyData}, DaAll K H vs ds → vs.length = ds.length
  | _, _, .nil => rfl
  | _, _, .cons _ h => by rw [List.length_cons, List.length_cons, DaAll.len h]
theorem DaAll.append : ∀ {vs us : List V} {ds es : List PyData}, DaAll K H vs ds → DaAll K H us es → DaAll K H (vs ++ us) (ds ++ es)
  | _, _, _, _, .nil, h => h
  | _, _, _, _, .cons h t, k => .cons h (t.append k)
theorem DaAll.get : ∀ {vs : List V} {ds : List PyData} {i : Nat} {v : V}, DaAll K H vs ds → vs[i]? = some v → ∃ d, ds[i]? = some d ∧ Da K H v d
  | _, _, _, _, .nil, e => by simp at e
  | _, _, 0, _, .cons h _, e => by
    simp at e
    subst e
    exact ⟨_, rfl, h⟩
  | _, _, i + 1, v, .cons _ t, e => by
    obtain ⟨d, h1, h2⟩ := t.get (i := i) (v := v) (by simpa using e)
    exact ⟨d, by simpa using h1, h2⟩
theorem DaAll.getD : ∀ {vs : List V} {ds : List PyData} {i : Nat} {d : PyData}, DaAll K H vs ds → ds[i]? = some d → ∃ v, vs[i]? = some v ∧ Da K H v d
  | _, _, _, _, .nil, e => by simp at e
  | _, _, 0, _, .cons h _, e => by
    simp at e
    subst e
    exact ⟨_, rfl, h⟩
  | _, _, i + 1, d, .cons _ t, e => by
    obtain ⟨v, h1, h2⟩ := t.getD (i := i) (d := d) (by simpa using e)
    exact ⟨v, by simpa using h1, h2⟩
theorem DaAll.take (n : Nat) : ∀ {vs : List V} {ds : List PyData}, DaAll K H vs ds → DaAll K H (vs.take n) (ds.take n) := by
  induction n with
  | zero => intro vs ds h; exact .nil
  | succ n ih =>
    intro vs ds h
    cases h with
    | nil => exact .nil
    | cons h t => exact .cons h (ih t)
theorem DaAll.drop (n : Nat) : ∀ {vs : List V} {ds : List PyData}, DaAll K H vs ds → DaAll K H (vs.drop n) (ds.drop n) := by
  induction n with
  | zero => intro vs ds h; exact h
  | succ n ih =>
    intro vs ds h
    cases h with
    | nil => exact .nil
    | cons h t => exact ih t
theorem DaAll.rev : ∀ {vs : List V} {ds : List PyData}, DaAll K H vs ds → DaAll K H vs.reverse ds.reverse
  | _, _, .nil => .nil
  | _, _, .cons h t => by
    rw [List.reverse_cons, List.reverse_cons]
    exact t.rev.append (.cons h .nil)
end

/-! ### slots -/
/-- what a slot holds: nothing that is known; data; a list of one's own (it may change); a dict of one's own; the deck -/
inductive DV where
  | un
  | dat (d : PyData)
  | own (ds : List PyData)
  | arg (a : Addr) (ds : List PyData)
  | owd (kvs : List (PyData × PyData))
  | owt (kvs : List (PyData × PyData))
  | lkd (a : Addr) (o : HO) (kvs : List (PyData × PyData))
  | deck
  | exc (a : Addr)
structure DSt where
  sl : List DV
  n : Nat
/-- the deck, if there is one -/
abbrev Wo := Option (Addr × Addr)
def MuD : Wo → Addr → Prop
  | none => fun _ => False
  | some (p, l) => fun b => b = p ∨ b = l
/-- what may change under data: the deck, the tables of code objects -/
def Mu (W : Wo) (b : Addr) : Prop := MuD W b ∨ b ∈ tabs
/-- the deck at p, its cells at l, n draws so far -/
structure Deck (H : Hp) (p l : Addr) (n : Nat) : Prop where
  at_ : ∃ (m : Int) (cs : List Int), H p = some (.lst [.ref l, .int m, .int (n : Int)]) ∧ H l = some (.lst (cs.map V.int)) ∧ 0 ≤ m ∧ m < 2147483647 ∧ cs.length ≤ 64
  ne : l ≠ p
def DkD : Wo → Hp → Nat → Prop
  | none => fun _ _ => True
  | some (p, l) => fun H n => Deck H p l n
def TbOk (H : Hp) : Prop := ∀ t ∈ tabs, GxR.TabG H t
structure DkOk (W : Wo) (H : Hp) (n : Nat) : Prop where
  dk : DkD W H n
  tb : TbOk H
theorem TbOk.same {H H' : Hp} (t : TbOk H) (s : Same H H') : TbOk H' := fun b hb => by
  obtain ⟨ps, h1, h2⟩ := t b hb
  exact ⟨ps, s _ _ h1, h2⟩
def ButW (W : Wo) (H H' : Hp) : Prop := ∀ b o, ¬ Mu W b → H b = some o → H' b = some o
theorem ButW.refl (W : Wo) (H : Hp) : ButW W H H := fun _ _ _ h => h
theorem ButW.trans {W : Wo} {H H1 H2 : Hp} (a : ButW W H H1) (b : ButW W H1 H2) : ButW W H H2 := fun c o h1 h => b c o h1 (a c o h1 h)
theorem ButW.of {W : Wo} {H H' : Hp} (s : Same H H') : ButW W H H' := fun b o _ h => s b o h
theorem Deck.same {H H' : Hp} {p l : Addr} {n : Nat} (d : Deck H p l n) (s : Same H H') : Deck H' p l n := by
  obtain ⟨⟨m, cs, h1, h2, h3⟩, h4⟩ := d
  exact ⟨⟨m, cs, s _ _ h1, s _ _ h2, h3⟩, h4⟩
theorem DkOk.same {W : Wo} {H H' : Hp} {n : Nat} (d : DkOk W H n) (s : Same H H') : DkOk W H' n := by
  refine ⟨?_, d.tb.same s⟩
  obtain ⟨d, _⟩ := d
  cases W with
  | none => trivial
  | some w => exact Deck.same d s
theorem DkOk.taken {W : Wo} {H : Hp} {n : Nat} {b : Addr} (d : DkOk W H n) (h : Mu W b) : ∃ o, H b = some o := by
  rcases h with h | h
  · obtain ⟨d, _⟩ := d
    cases W with
    | none => exact h.elim
    | some w =>
      obtain ⟨⟨m, cs, h1, h2, _⟩, _⟩ := d
      rcases h with rfl | rfl
      · exact ⟨_, h1⟩
      · exact ⟨_, h2⟩
  · obtain ⟨ps, h1, _⟩ := d.tb b h
    exact ⟨_, h1⟩
theorem DkOk.upd {W : Wo} {H : Hp} {n : Nat} {a : Addr} {o : HO} (d : DkOk W H n) (h : ¬ Mu W a) : DkOk W (upd H a o) n := by
  refine ⟨?_, fun t ht => ?_⟩
  · obtain ⟨d, _⟩ := d
    cases W with
    | none => trivial
    | some w =>
      obtain ⟨⟨m, cs, h1, h2, h3⟩, h4⟩ := d
      exact ⟨⟨m, cs, by rw [upd_ne (fun e => h (.inl (.inl e.symm)))]; exact h1, by rw [upd_ne (fun e => h (.inl (.inr e.symm)))]; exact h2, h3⟩, h4⟩
  · obtain ⟨ps, h1, h2⟩ := d.tb t ht
    have ne : t ≠ a := fun e => h (.inr (by rw [← e]; exact ht))
    exact ⟨ps, by rw [upd_ne ne]; exact h1, h2⟩
/-- what is given at the call: the written part, the deck, what the callers hide, the heap at the call -/
structure KX where
  fr : PySem.W.Frag
  W : Wo
  B0 : Addr → Prop
  H0 : Hp
  G0 : V → PyData → Prop
  Z0 : Addr → HO → Prop
instance : Coe KX PySem.W.Frag := ⟨KX.fr⟩
/-- what stays fixed in a def's body -/
structure DC where
  K : KX
  /-- what is hidden beyond the callers' own things -/
  ex : (Addr → Prop) → Addr → Prop
  sub : ∀ (p : Addr → Prop) (b : Addr), p b → ex p b
  /-- data to be kept -/
  G : V → PyData → Prop
  /-- hidden things that are as they are -/
  Z : Addr → HO → Prop
  gsub : ∀ v d, K.G0 v d → G v d
  zsub : ∀ a o, K.Z0 a o → Z a o
/-- at the call -/
@[reducible] def DC.base (K : KX) : DC := ⟨K, fun p => p, fun _ _ h => h, K.G0, K.Z0, fun _ _ h => h, fun _ _ h => h⟩
@[reducible] def DC.W (C : DC) : Wo := C.K.W
@[reducible] def DC.H0 (C : DC) : Hp := C.K.H0
/-- hidden from all data -/
@[reducible] def DC.S0 (C : DC) : Addr → Prop := C.ex C.K.B0
def isOwn : DV → Bool
  | .own _ => true
  | .arg _ _ => true
  | .owd _ => true
  | .owt _ => true
  | _ => false
/-- hidden now: the callers' things, the deck, one's own -/
def Sof (C : DC) (σ : L2.St) (δ : List DV) : Addr → Prop := fun b => C.S0 b ∨ Mu C.W b ∨ ∃ (i : Nat) (dv : DV), δ[i]? = some dv ∧ isOwn dv = true ∧ σ[i]? = some (some (V.ref b))
def SlotOk (C : DC) (S : Addr → Prop) (H : Hp) (sl : Option V) : DV → Prop
  | .un => True
  | .dat d => ∃ v, sl = some v ∧ Da C.K (Hd S H) v d
  | .own ds => ∃ a vs, sl = some (.ref a) ∧ H a = some (.lst vs) ∧ DaAll C.K (Hd S H) vs ds
  | .arg a ds => ∃ vs, sl = some (.ref a) ∧ H a = some (.lst vs) ∧ DaAll C.K (Hd S H) vs ds
  | .owd kvs => ∃ a es, sl = some (.ref a) ∧ H a = some (.dK es) ∧ DaKv C.K (Hd S H) es kvs
  | .owt kvs => ∃ a es, sl = some (.ref a) ∧ H a = some (.dT es) ∧ DaKt C.K (Hd S H) es kvs
  | .lkd a o kvs => sl = some (.ref a) ∧ C.Z a o ∧ ∃ od es, o = .frz od (.dT es) ∧ DaKt C.K (Hd S H) es kvs
  | .deck => ∃ p l, C.W = some (p, l) ∧ sl = some (.ref p)
  | .exc a => sl = some (.ref a)
structure Rl (C : DC) (σ : L2.St) (H : Hp) (s : DSt) : Prop where
  len : σ.length = s.sl.length
  slots : ∀ (i : Nat) (dv : DV), s.sl[i]? = some dv → ∃ sl : Option V, σ[i]? = some sl ∧ SlotOk C (Sof C σ s.sl) H sl dv
  nd : ∀ (i j : Nat) (a : Addr) (dv ev : DV), s.sl[i]? = some dv → s.sl[j]? = some ev → isOwn dv = true → isOwn ev = true → σ[i]? = some (some (V.ref a)) → σ[j]? = some (some (V.ref a)) → i = j
  fr : ∀ (i : Nat) (a : Addr) (dv : DV), s.sl[i]? = some dv → isOwn dv = true → σ[i]? = some (some (V.ref a)) → C.H0 a = none ∧ ¬ C.S0 a ∧ ¬ Mu C.W a
  dk : DkOk C.W H s.n
  but : ButW C.W C.H0 H
  tk : Taken H C.S0
  gh : ∀ v d, C.G v d → Da C.K (Hd (Sof C σ s.sl) H) v d
  fz : ∀ a o, C.Z a o → C.S0 a ∧ ¬ Mu C.W a ∧ H a = some o
theorem hd_mono {S S' : Addr → Prop} {H : Hp} (h : ∀ b, S' b → S b) : Same (Hd S H) (Hd S' H) := fun a o e => by
  obtain ⟨h1, h3⟩ := hd_some e
  rw [hd_ne fun z => h1 (h _ z)]
  exact h3
theorem hd_step {S : Addr → Prop} {H H' : Hp} (h : ∀ b o, ¬ S b → H b = some o → H' b = some o) : Same (Hd S H) (Hd S H') := fun a o e => by
  obtain ⟨h1, h3⟩ := hd_some e
  rw [hd_ne h1]
  exact h _ _ h1 h3
theorem SlotOk.move {C C' : DC} {S S' : Addr → Prop} {H H' : Hp} {sl : Option V} {dv : DV} (h : SlotOk C S H sl dv) (hK : C'.K = C.K) (hW : C'.W = C.W) (s : Same (Hd S H) (Hd S' H')) (o : ∀ a, isOwn dv = true → sl = some (.ref a) → ∀ u, H a = some u → H' a = some u) (hZ : ∀ a o, C.Z a o → C'.Z a o := by exact fun _ _ h => h) : SlotOk C' S' H' sl dv := by
  cases dv with
  | un => trivial
  | dat d =>
    obtain ⟨v, h1, h2⟩ := h
    exact ⟨v, h1, hK ▸ h2.of s⟩
  | own ds =>
    obtain ⟨a, vs, h1, h2, h3⟩ := h
    exact ⟨a, vs, h1, o a rfl h1 _ h2, hK ▸ h3.of s⟩
  | arg b ds =>
    obtain ⟨vs, h1, h2, h3⟩ := h
    exact ⟨vs, h1, o b rfl h1 _ h2, hK ▸ h3.of s⟩
  | owd kvs =>
    obtain ⟨a, vs, h1, h2, h3⟩ := h
    exact ⟨a, vs, h1, o a rfl h1 _ h2, hK ▸ h3.of s⟩
  | owt kvs =>
    obtain ⟨a, vs, h1, h2, h3⟩ := h
    exact ⟨a, vs, h1, o a rfl h1 _ h2, hK ▸ h3.of s⟩
  | lkd a ob kvs =>
    obtain ⟨h1, h2, od, es, h3, h4⟩ := h
    exact ⟨h1, hZ a ob h2, od, es, h3, hK ▸ h4.of s⟩
  | deck =>
    obtain ⟨p, l, h1, h2⟩ := h
    exact ⟨p, l, hW.trans h1, h2⟩
  | exc a => exact h
section
variable {C : DC} {σ : L2.St} {H : Hp} {s : DSt}
theorem Rl.own_at (R : Rl C σ H s) {i : Nat} {a : Addr} {dv : DV} (h : s.sl[i]? = some dv) (ho : isOwn dv = true) (e : σ[i]? = some (some (V.ref a))) : ∃ o, H a = some o := by
  obtain ⟨sl, h1, h2⟩ := R.slots i dv h
  rw [e] at h1
  cases h1
  cases dv with
  | own ds =>
    obtain ⟨b, vs, e1, e2, _⟩ := h2
    cases e1
    exact ⟨_, e2⟩
  | arg b ds =>
    obtain ⟨vs, e1, e2, _⟩ := h2
    cases e1
    exact ⟨_, e2⟩
  | owd ds =>
    obtain ⟨b, vs, e1, e2, _⟩ := h2
    cases e1
    exact ⟨_, e2⟩
  | owt ds =>
    obtain ⟨b, vs, e1, e2, _⟩ := h2
    cases e1
    exact ⟨_, e2⟩
  | _ => cases ho
theorem Rl.taken (R : Rl C σ H s) : Taken H (Sof C σ s.sl) := fun b hb => by
  rcases hb with hb | hb | ⟨i, dv, h1, h2, h3⟩
  · exact R.tk b hb
  · exact R.dk.taken hb
  · exact R.own_at h1 h2 h3
theorem Rl.new (R : Rl C σ H s) {a : Addr} (na : H a = none) : ¬ Sof C σ s.sl a ∧ C.H0 a = none := by
  have h1 : ¬ Sof C σ s.sl a := R.taken.ne na
  refine ⟨h1, ?_⟩
  cases e : C.H0 a with
  | none => rfl
  | some o =>
    have := R.but a o (fun z => h1 (.inr (.inl z))) e
    rw [na] at this
    cases this
/-- the heap goes on: all but the deck stands -/
theorem Rl.step (R : Rl C σ H s) {H' : Hp} {n' : Nat} (b : ButW C.W H H') (d : DkOk C.W H' n') : Rl C σ H' ⟨s.sl, n'⟩ := by
  have hs : Same (Hd (Sof C σ s.sl) H) (Hd (Sof C σ s.sl) H') := hd_step fun c o h1 h2 => b c o (fun z => h1 (.inr (.inl z))) h2
  refine ⟨R.len, fun i dv h => ?_, R.nd, R.fr, d, R.but.trans b, fun c hc => ?_, fun v x h => (R.gh v x h).of hs, fun a o h => ⟨(R.fz a o h).1, (R.fz a o h).2.1, b a o (R.fz a o h).2.1 (R.fz a o h).2.2⟩⟩
  · obtain ⟨sl, h1, h2⟩ := R.slots i dv h
    exact ⟨sl, h1, h2.move rfl rfl hs fun a ho e u hu => b a u (R.fr i a dv h ho (e ▸ h1)).2.2 hu⟩
  · by_cases z : Mu C.W c
    · exact d.taken z
    · obtain ⟨o, h⟩ := R.tk c hc
      exact ⟨o, b c o z h⟩
theorem Rl.ext (R : Rl C σ H s) {H' : Hp} (e : Same H H') : Rl C σ H' s := R.step (ButW.of e) (R.dk.same e)
/-- what is hidden stays hidden or is told, when one slot gets data -/
theorem sof_set {i : Nat} {v : Option V} {dv : DV} (ho : isOwn dv = false) (b : Addr) (h : Sof C (σ.set i v) (s.sl.set i dv) b) : Sof C σ s.sl b := by
  rcases h with h | h | ⟨j, ev, h1, h2, h3⟩
  · exact .inl h
  · exact .inr (.inl h)
  · by_cases e : i = j
    · subst e
      rw [List.getElem?_set] at h1
      by_cases hl : i < s.sl.length
      · rw [if_pos rfl, if_pos hl] at h1
        cases h1
        rw [ho] at h2
        cases h2
      · rw [if_pos rfl, if_neg hl] at h1
        cases h1
    · rw [List.getElem?_set_ne e] at h1 h3
      exact .inr (.inr ⟨j, ev, h1, h2, h3⟩)
theorem Rl.set (R : Rl C σ H s) {i : Nat} {v : V} {d : PyData} (h : Da C.K (Hd (Sof C σ s.sl) H) v d) : Rl C (σ.set i (some v)) H ⟨s.sl.set i (.dat d), s.n⟩ := by
  have hs : Same (Hd (Sof C σ s.sl) H) (Hd (Sof C (σ.set i (some v)) (s.sl.set i (.dat d))) H) := hd_mono fun b z => sof_set (s := s) rfl b z
  have key : ∀ {j : Nat} {dv : DV}, (s.sl.set i (.dat d))[j]? = some dv → isOwn dv = true → i ≠ j ∧ s.sl[j]? = some dv := fun {j dv} h1 h2 => by
    by_cases e : i = j
    · subst e
      rw [List.getElem?_set] at h1
      by_cases hl : i < s.sl.length
      · rw [if_pos rfl, if_pos hl] at h1
        cases h1
        cases h2
      · rw [if_pos rfl, if_neg hl] at h1
        cases h1
    · rw [List.getElem?_set_ne e] at h1
      exact ⟨e, h1⟩
  refine ⟨by rw [List.length_set, List.length_set]; exact R.len, fun j dv h1 => ?_, fun j k a dv ev h1 h2 h3 h4 h5 h6 => ?_, fun j a dv h1 h2 h3 => ?_, R.dk, R.but, R.tk, fun x y z => (R.gh x y z).of hs, R.fz⟩
  · by_cases e : i = j
    · subst e
      have hl : i < s.sl.length := by
        have := (List.getElem?_eq_some_iff.mp h1).1
        rw [List.length_set] at this
        exact this
      have h1' : some (DV.dat d) = some dv := by rw [← h1, List.getElem?_set, if_pos rfl, if_pos hl]
      cases h1'
      exact ⟨some v, by rw [List.getElem?_set, if_pos rfl, if_pos (by rw [R.len]; exact hl)], v, rfl, h.of hs⟩
    · rw [List.getElem?_set_ne e] at h1 ⊢
      obtain ⟨sl, e1, e2⟩ := R.slots j dv h1
      exact ⟨sl, e1, e2.move rfl rfl hs fun _ _ _ _ u => u⟩
  · obtain ⟨n1, e1⟩ := key h1 h3
    obtain ⟨n2, e2⟩ := key h2 h4
    rw [List.getElem?_set_ne n1] at h5
    rw [List.getElem?_set_ne n2] at h6
    exact R.nd j k a dv ev e1 e2 h3 h4 h5 h6
  · obtain ⟨n1, e1⟩ := key h1 h2
    rw [List.getElem?_set_ne n1] at h3
    exact R.fr j a dv e1 h2 h3
/-- a slot gets a new list -/
theorem Rl.setOwn (R : Rl C σ H s) {i : Nat} {a : Addr} {o : HO} {dv : DV} (na : H a = none) (hi : i < s.sl.length) (ho : isOwn dv = true)
    (hn : ∀ S' : Addr → Prop, Same (Hd (Sof C σ s.sl) H) (Hd S' (upd H a o)) → SlotOk C S' (upd H a o) (some (.ref a)) dv) : Rl C (σ.set i (some (.ref a))) (upd H a o) ⟨s.sl.set i dv, s.n⟩ := by
  obtain ⟨n1, n2⟩ := R.new na
  have sub : ∀ b, Sof C (σ.set i (some (.ref a))) (s.sl.set i dv) b → Sof C σ s.sl b ∨ b = a := fun b h => by
    rcases h with h | h | ⟨j, ev, h1, h2, h3⟩
    · exact .inl (.inl h)
    · exact .inl (.inr (.inl h))
    · by_cases e : i = j
      · subst e
        rw [List.getElem?_set, if_pos rfl, if_pos (by rw [R.len]; exact hi)] at h3
        cases h3
        exact .inr rfl
      · rw [List.getElem?_set_ne e] at h1 h3
        exact .inl (.inr (.inr ⟨j, ev, h1, h2, h3⟩))
  have hs : Same (Hd (Sof C σ s.sl) H) (Hd (Sof C (σ.set i (some (.ref a))) (s.sl.set i dv)) (upd H a o)) := fun b u e => by
    obtain ⟨h1, h3⟩ := hd_some e
    have hb : b ≠ a := ne_of_none h3 na
    rw [hd_ne (fun z => (sub b z).elim h1 hb), upd_ne hb]
    exact h3
  have key : ∀ {j : Nat} {ev : DV} {c : Addr}, (s.sl.set i dv)[j]? = some ev → isOwn ev = true → (σ.set i (some (.ref a)))[j]? = some (some (V.ref c)) → (j = i ∧ c = a) ∨ (j ≠ i ∧ c ≠ a ∧ s.sl[j]? = some ev ∧ σ[j]? = some (some (V.ref c))) := fun {j ev c} h1 h2 h3 => by
    by_cases e : i = j
    · subst e
      rw [List.getElem?_set, if_pos rfl, if_pos (by rw [R.len]; exact hi)] at h3
      cases h3
      exact .inl ⟨rfl, rfl⟩
    · rw [List.getElem?_set_ne e] at h1 h3
      obtain ⟨u, hu⟩ := R.own_at h1 h2 h3
      exact .inr ⟨fun z => e z.symm, ne_of_none hu na, h1, h3⟩
  refine ⟨by rw [List.length_set, List.length_set]; exact R.len, fun j ev h1 => ?_, fun j k c ev fv h1 h2 h3 h4 h5 h6 => ?_, fun j c ev h1 h2 h3 => ?_, R.dk.same (same_upd na), R.but.trans (ButW.of (same_upd na)), R.tk.same (same_upd na), fun x y z => (R.gh x y z).of hs, fun b u h => ⟨(R.fz b u h).1, (R.fz b u h).2.1, by rw [upd_ne (ne_of_none (R.fz b u h).2.2 na)]; exact (R.fz b u h).2.2⟩⟩
  · by_cases e : i = j
    · subst e
      rw [List.getElem?_set, if_pos rfl, if_pos hi] at h1
      cases h1
      exact ⟨some (.ref a), by rw [List.getElem?_set, if_pos rfl, if_pos (by rw [R.len]; exact hi)], hn _ hs⟩
    · rw [List.getElem?_set_ne e] at h1 ⊢
      obtain ⟨sl, e1, e2⟩ := R.slots j ev h1
      exact ⟨sl, e1, e2.move rfl rfl hs fun c hc ec u hu => by rw [upd_ne (ne_of_none hu na)]; exact hu⟩
  · rcases key h1 h3 h5 with ⟨rfl, rfl⟩ | ⟨q1, q2, q3, q4⟩
    · rcases key h2 h4 h6 with ⟨rfl, _⟩ | ⟨_, q2, _, _⟩
      · rfl
      · exact absurd rfl q2
    · rcases key h2 h4 h6 with ⟨_, rfl⟩ | ⟨r1, r2, r3, r4⟩
      · exact absurd rfl q2
      · exact R.nd j k c ev fv q3 r3 h3 h4 q4 r4
  · rcases key h1 h2 h3 with ⟨rfl, rfl⟩ | ⟨q1, q2, q3, q4⟩
    · exact ⟨n2, fun z => n1 (.inl z), fun z => n1 (.inr (.inl z))⟩
    · exact R.fr j c ev q3 h2 q4
/-- one's own thing at slot i changes -/
theorem Rl.mut (R : Rl C σ H s) {i : Nat} {a : Addr} {o : HO} {dv ev : DV} (h0 : s.sl[i]? = some dv) (hd : isOwn dv = true) (ho : isOwn ev = true) (e0 : σ[i]? = some (some (V.ref a)))
    (hn : Same (Hd (Sof C σ s.sl) H) (Hd (Sof C σ (s.sl.set i ev)) (upd H a o)) → SlotOk C (Sof C σ (s.sl.set i ev)) (upd H a o) (some (.ref a)) ev) : Rl C σ (upd H a o) ⟨s.sl.set i ev, s.n⟩ := by
  have hi : i < s.sl.length := (List.getElem?_eq_some_iff.mp h0).1
  obtain ⟨f1, f2, f3⟩ := R.fr i a dv h0 hd e0
  have key : ∀ {j : Nat} {fv : DV}, (s.sl.set i ev)[j]? = some fv → isOwn fv = true → ∃ gv, s.sl[j]? = some gv ∧ isOwn gv = true := fun {j fv} h1 h2 => by
    by_cases e : i = j
    · subst e
      exact ⟨dv, h0, hd⟩
    · rw [List.getElem?_set_ne e] at h1
      exact ⟨fv, h1, h2⟩
  have sub : ∀ b, Sof C σ (s.sl.set i ev) b → Sof C σ s.sl b := fun b h => by
    rcases h with h | h | ⟨j, fv, h1, h2, h3⟩
    · exact .inl h
    · exact .inr (.inl h)
    · obtain ⟨gv, g1, g2⟩ := key h1 h2
      exact .inr (.inr ⟨j, gv, g1, g2, h3⟩)
  have sa : Sof C σ s.sl a := .inr (.inr ⟨i, dv, h0, hd, e0⟩)
  have hs : Same (Hd (Sof C σ s.sl) H) (Hd (Sof C σ (s.sl.set i ev)) (upd H a o)) := fun b u e => by
    obtain ⟨h1, h3⟩ := hd_some e
    have hb : b ≠ a := fun z => h1 (z ▸ sa)
    rw [hd_ne (fun z => h1 (sub b z)), upd_ne hb]
    exact h3
  refine ⟨by rw [List.length_set]; exact R.len, fun j fv h1 => ?_, fun j k c fv gv h1 h2 h3 h4 h5 h6 => ?_, fun j c fv h1 h2 h3 => ?_, R.dk.upd f3, fun b u hb hu => ?_, fun b hb => ?_, fun x y z => (R.gh x y z).of hs, fun b u h => ⟨(R.fz b u h).1, (R.fz b u h).2.1, by rw [upd_ne (fun z : b = a => f2 (z ▸ (R.fz b u h).1))]; exact (R.fz b u h).2.2⟩⟩
  · by_cases e : i = j
    · subst e
      rw [List.getElem?_set, if_pos rfl, if_pos hi] at h1
      cases h1
      exact ⟨some (.ref a), e0, hn hs⟩
    · rw [List.getElem?_set_ne e] at h1
      obtain ⟨sl, e1, e2⟩ := R.slots j fv h1
      refine ⟨sl, e1, e2.move rfl rfl hs fun c hc ec u hu => ?_⟩
      have hca : c ≠ a := fun z => by
        subst z
        rw [ec] at e1
        exact e (R.nd i j c dv fv h0 h1 hd hc e0 e1)
      rw [upd_ne hca]
      exact hu
  · obtain ⟨gv', g1, g2⟩ := key h1 h3
    obtain ⟨gw, k1, k2⟩ := key h2 h4
    exact R.nd j k c _ _ g1 k1 g2 k2 h5 h6
  · obtain ⟨gv, g1, g2⟩ := key h1 h2
    exact R.fr j c _ g1 g2 h3
  · have hba : b ≠ a := fun z => by
      subst z
      rw [f1] at hu
      cases hu
    rw [upd_ne hba]
    exact R.but b u hb hu
  · by_cases e : b = a
    · subst e
      exact absurd hb f2
    · rw [upd_ne e]
      exact R.tk b hb
/-- one's own thing becomes data -/
theorem Rl.freeze (R : Rl C σ H s) {i : Nat} {dv : DV} {d : PyData} (h0 : s.sl[i]? = some dv) (hd : (∃ ds, dv = .own ds ∧ d = .list ds) ∨ (∃ kvs, dv = .owd kvs ∧ d = .dict kvs) ∨ ∃ kvs, dv = .owt kvs ∧ d = .dict kvs ∧ kvs ≠ []) : Rl C σ H ⟨s.sl.set i (.dat d), s.n⟩ := by
  obtain ⟨sl, e1, e2⟩ := R.slots i dv h0
  have fin : ∀ a : Addr, isOwn dv = true → sl = some (.ref a) → Da C.K (Hd (Sof C σ (s.sl.set i (.dat d))) H) (.ref a) d → Rl C σ H ⟨s.sl.set i (.dat d), s.n⟩ := fun a hdv es hda => by
    subst es
    have hset : σ.set i (some (.ref a)) = σ := by
      apply List.ext_getElem?
      intro j
      rw [List.getElem?_set]
      by_cases e : i = j
      · subst e
        rw [if_pos rfl, e1]
        rw [if_pos (List.getElem?_eq_some_iff.mp e1).1]
      · rw [if_neg e]
    have hs : Same (Hd (Sof C σ s.sl) H) (Hd (Sof C σ (s.sl.set i (.dat d))) H) := hd_mono fun b z => by
      have := sof_set (C := C) (σ := σ) (s := s) (i := i) (v := some (.ref a)) (dv := .dat d) rfl b
      rw [hset] at this
      exact this z
    have hi : i < s.sl.length := (List.getElem?_eq_some_iff.mp h0).1
    have key : ∀ {j : Nat} {fv : DV}, (s.sl.set i (.dat d))[j]? = some fv → isOwn fv = true → s.sl[j]? = some fv := fun {j fv} h1 h2 => by
      by_cases e : i = j
      · subst e
        rw [List.getElem?_set, if_pos rfl, if_pos hi] at h1
        cases h1
        cases h2
      · rw [List.getElem?_set_ne e] at h1
        exact h1
    refine ⟨by rw [List.length_set]; exact R.len, fun j fv h1 => ?_, fun j k c fv gv h1 h2 h3 h4 h5 h6 => R.nd j k c _ _ (key h1 h3) (key h2 h4) h3 h4 h5 h6, fun j c fv h1 h2 h3 => R.fr j c _ (key h1 h2) h2 h3, R.dk, R.but, R.tk, fun x y z => (R.gh x y z).of hs, R.fz⟩
    by_cases e : i = j
    · subst e
      rw [List.getElem?_set, if_pos rfl, if_pos hi] at h1
      cases h1
      exact ⟨_, e1, _, rfl, hda⟩
    · rw [List.getElem?_set_ne e] at h1
      obtain ⟨sl, q1, q2⟩ := R.slots j fv h1
      exact ⟨sl, q1, q2.move rfl rfl hs fun _ _ _ _ u => u⟩
  have hna : ∀ a : Addr, isOwn dv = true → sl = some (.ref a) → ¬ Sof C σ (s.sl.set i (.dat d)) a := fun a hdv es z => by
    subst es
    have hi : i < s.sl.length := (List.getElem?_eq_some_iff.mp h0).1
    obtain ⟨f1, f2, f3⟩ := R.fr i a dv h0 hdv e1
    rcases z with z | z | ⟨j, ev, z1, z2, z3⟩
    · exact f2 z
    · exact f3 z
    · by_cases e : i = j
      · subst e
        rw [List.getElem?_set, if_pos rfl, if_pos hi] at z1
        cases z1
        cases z2
      · rw [List.getElem?_set_ne e] at z1
        exact e (R.nd i j a dv ev h0 z1 hdv z2 e1 z3)
  have hsub : ∀ a : Addr, sl = some (.ref a) → Same (Hd (Sof C σ s.sl) H) (Hd (Sof C σ (s.sl.set i (.dat d))) H) := fun a es => hd_mono fun b z => by
    subst es
    rcases z with z | z | ⟨j, ev, z1, z2, z3⟩
    · exact .inl z
    · exact .inr (.inl z)
    · by_cases e : i = j
      · subst e
        rw [List.getElem?_set, if_pos rfl, if_pos (List.getElem?_eq_some_iff.mp h0).1] at z1
        cases z1
        cases z2
      · rw [List.getElem?_set_ne e] at z1
        exact .inr (.inr ⟨j, ev, z1, z2, z3⟩)
  rcases hd with ⟨ds, rfl, rfl⟩ | ⟨kvs, rfl, rfl⟩ | ⟨kvs, rfl, rfl, hne⟩
  · obtain ⟨a, vs, rfl, h2, h3⟩ := e2
    exact fin a rfl rfl (.lst (by rw [hd_ne (hna a rfl rfl)]; exact h2) (h3.of (hsub a rfl)))
  · obtain ⟨a, vs, rfl, h2, h3⟩ := e2
    exact fin a rfl rfl (.dic (by rw [hd_ne (hna a rfl rfl)]; exact h2) (h3.of (hsub a rfl)))
  · obtain ⟨a, vs, rfl, h2, h3⟩ := e2
    exact fin a rfl rfl (.dct (by rw [hd_ne (hna a rfl rfl)]; exact h2) (fun z => by
      subst z
      cases h3
      exact hne rfl) (h3.of (hsub a rfl)))
end
end DL

set_option Elab.async false
set_option linter.all false
set_option maxRecDepth 100000
set_option maxHeartbeats 4000000
/-! DLb: readings of expressions, tests, arguments told by data alone. -/
namespace DL
open PySem PySem.Spec PyProof.Rows L2 GG DD PT
abbrev DE := DSt → (PyData → DSt → Prop) → Prop
abbrev DT := DSt → (Bool → DSt → Prop) → Prop
abbrev DA := DSt → (List PyData → DSt → Prop) → Prop
abbrev DX := DSt → (List DV → DSt → Prop) → Prop
def XE (C : DC) (te : TE) (s : DSt) (P : PyData → DSt → Prop) : Prop := ∀ (σ : L2.St) (H : Hp) (Q : VK), Rl C σ H s → (∀ v H' d s', P d s' → Rl C σ H' s' → Da C.K (Hd (Sof C σ s'.sl) H') v d → Q v H') → te σ H Q
def RE (K : KX) (te : TE) (de : DE) : Prop := ∀ C : DC, C.K = K → ∀ s P, de s P → XE C te s P
def XT (C : DC) (tt : TT) (s : DSt) (P : Bool → DSt → Prop) : Prop := ∀ (σ : L2.St) (H : Hp) (Q : Bool → Hp → Prop), Rl C σ H s → (∀ b H' s', P b s' → Rl C σ H' s' → Q b H') → tt σ H Q
def RT (K : KX) (tt : TT) (dt : DT) : Prop := ∀ C : DC, C.K = K → ∀ s P, dt s P → XT C tt s P
def XA (C : DC) (ta : TA) (s : DSt) (P : List PyData → DSt → Prop) : Prop := ∀ (σ : L2.St) (H : Hp) (Q : List V → Hp → Prop), Rl C σ H s → (∀ vs H' ds s', P ds s' → Rl C σ H' s' → DaAll C.K (Hd (Sof C σ s'.sl) H') vs ds → Q vs H') → ta σ H Q
def RA (K : KX) (ta : TA) (da : DA) : Prop := ∀ C : DC, C.K = K → ∀ s P, da s P → XA C ta s P
/-- a list that is read: data, or one's own -/
def XL (C : DC) (te : TE) (s : DSt) (P : List PyData → DSt → Prop) : Prop := ∀ (σ : L2.St) (H : Hp) (Q : VK), Rl C σ H s → (∀ a vs H' ds s', P ds s' → Rl C σ H' s' → H' a = some (.lst vs) → DaAll C.K (Hd (Sof C σ s'.sl) H') vs ds → Q (.ref a) H') → te σ H Q
def RL (K : KX) (te : TE) (dl : DA) : Prop := ∀ C : DC, C.K = K → ∀ s P, dl s P → XL C te s P
/-- a tuple that is read -/
def XU (C : DC) (te : TE) (s : DSt) (P : List PyData → DSt → Prop) : Prop := ∀ (σ : L2.St) (H : Hp) (Q : VK), Rl C σ H s → (∀ a vs H' ds s', P ds s' → Rl C σ H' s' → SqT C.K H' a vs → DaAll C.K (Hd (Sof C σ s'.sl) H') vs ds → Q (.ref a) H') → te σ H Q
def RU (K : KX) (te : TE) (dl : DA) : Prop := ∀ C : DC, C.K = K → ∀ s P, dl s P → XU C te s P
/-- a new list -/
def XF (C : DC) (te : TE) (s : DSt) (P : List PyData → DSt → Prop) : Prop := ∀ (σ : L2.St) (H : Hp) (Q : VK), Rl C σ H s → (∀ a vs H' ds s', P ds s' → Rl C σ H' s' → H' a = none → DaAll C.K (Hd (Sof C σ s'.sl) H') vs ds → Q (.ref a) (upd H' a (.lst vs))) → te σ H Q
def RF (K : KX) (te : TE) (dl : DA) : Prop := ∀ C : DC, C.K = K → ∀ s P, dl s P → XF C te s P
/-! ### data that is kept -/
def DC.keep (C : DC) (v : V) (d : PyData) : DC := { C with G := fun x y => C.G x y ∨ (x = v ∧ y = d), gsub := fun x y h => .inl (C.gsub x y h) }
section
variable {C : DC} {σ : L2.St} {H : Hp} {s : DSt} {v : V} {d : PyData}
theorem Rl.keep (R : Rl C σ H s) (h : Da C.K (Hd (Sof C σ s.sl) H) v d) : Rl (C.keep v d) σ H s :=
  ⟨R.len, R.slots, R.nd, R.fr, R.dk, R.but, R.tk, fun x y z => z.elim (R.gh x y) fun e => by
    obtain ⟨rfl, rfl⟩ := e
    exact h, R.fz⟩
theorem Rl.kept (R : Rl (C.keep v d) σ H s) : Rl C σ H s ∧ Da C.K (Hd (Sof C σ s.sl) H) v d :=
  ⟨⟨R.len, R.slots, R.nd, R.fr, R.dk, R.but, R.tk, fun x y z => R.gh x y (.inl z), R.fz⟩, R.gh v d (.inr ⟨rfl, rfl⟩)⟩
/-- a new object is seen by data -/
theorem Rl.see (R : Rl C σ H s) {p : Addr} {o : HO} (np : H p = none) : Hd (Sof C σ s.sl) (upd H p o) p = some o := by
  rw [hd_ne (R.new np).1]
  exact upd_same
theorem Rl.kp (R : Rl C σ H s) {p : Addr} {o : HO} (np : H p = none) : Same (Hd (Sof C σ s.sl) H) (Hd (Sof C σ s.sl) (upd H p o)) := hdS (same_upd np)
end
variable {K : KX}
/-! ### values that are written, slots -/
def dC (d : PyData) : DE := fun s P => P d s
theorem re_int {i : Int} : RE K (tC (.int i)) (dC (.int i)) := fun C _ s P h σ H Q R q => q _ H _ s h R (.int i)
theorem re_str {x : Str} : RE K (tC (.str x)) (dC (.str x)) := fun C _ s P h σ H Q R q => q _ H _ s h R (.str x)
theorem re_bl {b : Bool} : RE K (tC (.bl b)) (dC (.bool b)) := fun C _ s P h σ H Q R q => q _ H _ s h R (.bl b)
theorem re_non : RE K (tC .non) (dC .none) := fun C _ s P h σ H Q R q => q _ H _ s h R .non
def dVar (i : Nat) : DE := fun s P => match s.sl[i]? with
  | some (.dat d) => P d s
  | _ => False
theorem re_var {i : Nat} : RE K (tVar i) (dVar i) := fun C _ s P h σ H Q R q => by
  unfold dVar at h
  split at h
  · rename_i d e
    obtain ⟨sl, h1, v, rfl, h3⟩ := R.slots i _ e
    exact ⟨v, h1, q v H d s h R h3⟩
  · exact h.elim
/-- a list in a slot, data or one's own -/
def dListVar (i : Nat) : DA := fun s P => match s.sl[i]? with
  | some (.dat (.list ds)) => P ds s
  | some (.own ds) => P ds s
  | some (.arg _ ds) => P ds s
  | _ => False
theorem da_list {K : PySem.W.Frag} {S : Addr → Prop} {H : Hp} {v : V} {ds : List PyData} (h : Da K (Hd S H) v (.list ds)) : ∃ a vs, v = .ref a ∧ H a = some (.lst vs) ∧ DaAll K (Hd S H) vs ds := by
  cases h with
  | lst h1 h2 => exact ⟨_, _, rfl, (hd_some h1).2, h2⟩
theorem da_tup {K : PySem.W.Frag} {S : Addr → Prop} {H : Hp} {v : V} {ds : List PyData} (h : Da K (Hd S H) v (.tuple ds)) : ∃ a vs, v = .ref a ∧ SqT K H a vs ∧ DaAll K (Hd S H) vs ds := by
  cases h with
  | tup h1 h2 => exact ⟨_, _, rfl, (h1.same (hd_sub S H)).sq, h2⟩
theorem list_at {C : DC} {σ : L2.St} {H : Hp} {s : DSt} (R : Rl C σ H s) {i : Nat} {P : List PyData → DSt → Prop} (h : dListVar i s P) : ∃ a vs ds, σ[i]? = some (some (V.ref a)) ∧ P ds s ∧ H a = some (.lst vs) ∧ DaAll C.K (Hd (Sof C σ s.sl) H) vs ds := by
  unfold dListVar at h
  split at h
  · rename_i ds e
    obtain ⟨sl, h1, v, rfl, h3⟩ := R.slots i _ e
    obtain ⟨a, vs, rfl, h4, h5⟩ := da_list h3
    exact ⟨a, vs, ds, h1, h, h4, h5⟩
  · rename_i ds e
    obtain ⟨sl, h1, a, vs, rfl, h4, h5⟩ := R.slots i _ e
    exact ⟨a, vs, ds, h1, h, h4, h5⟩
  · rename_i a ds e
    obtain ⟨sl, h1, vs, rfl, h4, h5⟩ := R.slots i _ e
    exact ⟨a, vs, ds, h1, h, h4, h5⟩
  · exact h.elim
theorem rl_var {i : Nat} : RL K (tVar i) (dListVar i) := fun C _ s P h σ H Q R q => by
  obtain ⟨a, vs, ds, h1, h2, h4, h5⟩ := list_at R h
  exact ⟨_, h1, q a vs H ds s h2 R h4 h5⟩
def dAsL (de : DE) : DA := fun s P => de s fun d s1 => match d with
  | .list ds => P ds s1
  | _ => False
theorem rl_of {te : TE} {de : DE} (h : RE K te de) : RL K te (dAsL de) := fun C hC s P hd σ H Q R q => h C hC s _ hd σ H Q R fun v H' d s' hp R' hv => by
  cases d with
  | list ds =>
    obtain ⟨a, vs, rfl, h4, h5⟩ := da_list hv
    exact q a vs H' ds s' hp R' h4 h5
  | _ => exact hp.elim
def dAsU (de : DE) : DA := fun s P => de s fun d s1 => match d with
  | .tuple ds => P ds s1
  | _ => False
theorem ru_of {te : TE} {de : DE} (h : RE K te de) : RU K te (dAsU de) := fun C hC s P hd σ H Q R q => h C hC s _ hd σ H Q R fun v H' d s' hp R' hv => by
  cases d with
  | tuple ds =>
    obtain ⟨a, vs, rfl, h4, h5⟩ := da_tup hv
    exact q a vs H' ds s' hp R' h4 h5
  | _ => exact hp.elim
/-- a new list as data -/
def dNewL (dl : DA) : DE := fun s P => dl s fun ds s1 => P (.list ds) s1
theorem re_new {te : TE} {dl : DA} (h : RF K te dl) : RE K te (dNewL dl) := fun C hC s P hd σ H Q R q => h C hC s _ hd σ H Q R fun a vs H' ds s' hp R' na hv =>
  q _ _ _ s' hp (R'.ext (same_upd na)) (.lst (R'.see na) (hv.of (R'.kp na)))
theorem rl_new {te : TE} {dl : DA} (h : RF K te dl) : RL K te dl := fun C hC s P hd σ H Q R q => h C hC s _ hd σ H Q R fun a vs H' ds s' hp R' na hv =>
  q a vs _ ds s' hp (R'.ext (same_upd na)) upd_same (hv.of (R'.kp na))
/-! ### argument lists -/
def dNil : DA := fun s P => P [] s
def dCons (de : DE) (da : DA) : DA := fun s P => de s fun d s1 => da s1 fun ds s2 => P (d :: ds) s2
theorem ra_nil : RA K tNil dNil := fun C _ s P h σ H Q R q => q [] H [] s h R .nil
theorem ra_cons {te : TE} {ta : TA} {de : DE} {da : DA} (h1 : RE K te de) (h2 : RA K ta da) : RA K (tCons te ta) (dCons de da) := fun C hC s P hd σ H Q R q =>
  rd_cons (h1 C hC s _ hd σ H _ R fun v H1 d s1 hd1 R1 hv => h2 (C.keep v d) hC s1 _ hd1 σ H1 _ (R1.keep hv) fun vs H2 ds s2 hp R2 hvs => by
    obtain ⟨R3, hv3⟩ := R2.kept
    exact q (v :: vs) H2 (d :: ds) s2 hp R3 (.cons hv3 hvs))
def dTup (da : DA) : DE := fun s P => da s fun ds s1 => ds.length ≤ 1000000 ∧ P (.tuple ds) s1
theorem sz6 : 1000000 ≤ sizeLine := by decide
theorem rd_tupP {ta : TA} {σ : L2.St} {H : Hp} {Q : VK} (h : ta σ H fun xs H1 => xs.length ≤ sizeLine ∧ NewT H1 xs Q) : tTupP ta σ H Q := h
theorem re_tup {ta : TA} {da : DA} (h : RA K ta da) : RE K (tTupP ta) (dTup da) := fun C hC s P hd σ H Q R q =>
  rd_tupP (h C hC s _ hd σ H _ R fun vs H1 ds s1 hp R1 hv => ⟨by rw [hv.len]; exact Nat.le_trans hp.1 sz6, fun a o na e => q _ _ _ s1 hp.2 (R1.ext (same_upd na)) (.tup (.inl ⟨o, R1.see na, e⟩) (hv.of (R1.kp na)))⟩)
def dLst (da : DA) : DA := fun s P => da s fun ds s1 => ds.length ≤ 1000000 ∧ P ds s1
theorem rf_lst {ta : TA} {da : DA} (h : RA K ta da) : RF K (tLst ta) (dLst da) := fun C hC s P hd σ H Q R q =>
  rd_lst (h C hC s _ hd σ H _ R fun vs H1 ds s1 hp R1 hv => ⟨by rw [hv.len]; exact Nat.le_trans hp.1 sz6, fun a na => q a vs H1 ds s1 hp.2 R1 na hv⟩)
/-! ### operations on two values -/
abbrev D2 := PyData → PyData → (PyData → Prop) → Prop
def RO (K : PySem.W.Frag) (r : R2) (ro : D2) : Prop := ∀ (S : Addr → Prop) (H : Hp) (x y : V) (d e : PyData) (P : PyData → Prop) (Q : VK), Taken H S → Da K (Hd S H) x d → Da K (Hd S H) y e → ro d e P → (∀ v H' f, P f → Same H H' → Da K (Hd S H') v f → Q v H') → r x y H Q
def dOp (ro : D2) (da db : DE) : DE := fun s P => da s fun d s1 => db s1 fun e s2 => ro d e fun f => P f s2
theorem re_op {r : R2} {ro : D2} {ta tb : TE} {da db : DE} (ho : RO K r ro) (h1 : RE K ta da) (h2 : RE K tb db) : RE K (tOp r ta tb) (dOp ro da db) := fun C hC s P hd σ H Q R q =>
  rd_op (h1 C hC s _ hd σ H _ R fun v H1 d s1 hd1 R1 hv => h2 (C.keep v d) hC s1 _ hd1 σ H1 _ (R1.keep hv) fun w H2 e s2 hp R2 hw => by
    obtain ⟨R3, hv3⟩ := R2.kept
    subst hC
    exact ho _ H2 v w d e _ Q R3.taken hv3 hw hp fun u H3 f hf s23 hu => q u H3 f s2 hf (R3.ext s23) hu)
/-- ints to an int -/
def oI (c : Int → Int → Prop) (g : Int → Int → Int) : D2 := fun d e P => match d, e with
  | .int i, .int j => c i j ∧ P (.int (g i j))
  | _, _ => False
theorem ro_I {c : Int → Int → Prop} {g : Int → Int → Int} : RO K (rI c fun i j => .int (g i j)) (oI c g) := fun S H x y d e P Q _ hx hy h q => by
  unfold oI at h
  split at h
  · cases hx
    cases hy
    exact ⟨_, _, rfl, rfl, h.1, q _ H _ h.2 (Same.refl _) (.int _)⟩
  · exact h.elim
def oI0 (g : Int → Int → Int) : D2 := fun d e P => match d, e with
  | .int i, .int j => P (.int (g i j))
  | _, _ => False
theorem ro_I0 {g : Int → Int → Int} : RO K (rI0 fun i j => .int (g i j)) (oI0 g) := fun S H x y d e P Q _ hx hy h q => by
  unfold oI0 at h
  split at h
  · cases hx
    cases hy
    exact ⟨_, _, rfl, rfl, q _ H _ h (Same.refl _) (.int _)⟩
  · exact h.elim
/-- ints to a truth -/
def oB0 (g : Int → Int → Bool) : D2 := fun d e P => match d, e with
  | .int i, .int j => P (.bool (g i j))
  | _, _ => False
theorem ro_B0 {g : Int → Int → Bool} : RO K (rI0 fun i j => .bl (g i j)) (oB0 g) := fun S H x y d e P Q _ hx hy h q => by
  unfold oB0 at h
  split at h
  · cases hx
    cases hy
    exact ⟨_, _, rfl, rfl, q _ H _ h (Same.refl _) (.bl _)⟩
  · exact h.elim
/-- texts to a truth -/
def oS (g : Str → Str → Bool) : D2 := fun d e P => match d, e with
  | .str i, .str j => P (.bool (g i j))
  | _, _ => False
theorem ro_S {g : Str → Str → Bool} : RO K (fun x y H Q => ∃ i j, x = .str i ∧ y = .str j ∧ Q (.bl (g i j)) H) (oS g) := fun S H x y d e P Q _ hx hy h q => by
  unfold oS at h
  split at h
  · cases hx
    cases hy
    exact ⟨_, _, rfl, rfl, q _ H _ h (Same.refl _) (.bl _)⟩
  · exact h.elim
def oCatS : D2 := fun d e P => match d, e with
  | .str i, .str j => i.length + j.length ≤ 1000000 ∧ P (.str (i ++ j))
  | _, _ => False
theorem ro_catS : RO K (fun x y H Q => ∃ i j, x = .str i ∧ y = .str j ∧ i.length + j.length ≤ sizeLine ∧ Q (.str (i ++ j)) H) oCatS := fun S H x y d e P Q _ hx hy h q => by
  unfold oCatS at h
  split at h
  · cases hx
    cases hy
    exact ⟨_, _, rfl, rfl, Nat.le_trans h.1 sz6, q _ H _ h.2 (Same.refl _) (.str _)⟩
  · exact h.elim
/-- == of flat things -/
def flatD : PyData → Option V
  | .none => some .non
  | .bool b => some (.bl b)
  | .int i => some (.int i)
  | .str x => some (.str x)
  | _ => none
theorem flat_v {H : Hp} {v x : V} {d : PyData} (h : Da K H v d) (e : flatD d = some x) : v = x := by
  cases d with
  | none => cases h; cases e; rfl
  | bool b => cases h; cases e; rfl
  | int i => cases h; cases e; rfl
  | str z => cases h; cases e; rfl
  | _ => cases e
def oEq (neg : Bool) : D2 := fun d e P => match flatD d, flatD e with
  | some x, some y => scal x y = true ∧ P (.bool (if neg then !decide (x = y) else decide (x = y)))
  | _, _ => False
theorem ro_eq : RO K rEq (oEq false) := fun S H x y d e P Q _ hx hy h q => by
  unfold oEq at h
  split at h
  · rename_i a b e1 e2
    obtain rfl := flat_v hx e1
    obtain rfl := flat_v hy e2
    exact ⟨h.1, q _ H _ h.2 (Same.refl _) (.bl _)⟩
  · exact h.elim
theorem ro_ne : RO K rNe (oEq true) := fun S H x y d e P Q _ hx hy h q => by
  unfold oEq at h
  split at h
  · rename_i a b e1 e2
    obtain rfl := flat_v hx e1
    obtain rfl := flat_v hy e2
    exact ⟨h.1, q _ H _ h.2 (Same.refl _) (.bl _)⟩
  · exact h.elim
mutual
/-- data without a dict, as the library has it -/
theorem Da.dp {H : Hp} : ∀ (d : PyData) (v : V), d.hasDict = false → Da K H v d → Dp K H v d
  | .none, _, _, h => by cases h; exact .non
  | .bool b, _, _, h => by cases h; exact .bl b
  | .int i, _, _, h => by cases h; exact .int i
  | .str x, _, _, h => by cases h; exact .str x
  | .list ds, _, n, h => by
    cases h with
    | lst hs ha => exact .lst (sq hs) (DaAll.dp ds _ (by simpa only [PyData.hasDict] using n) ha)
  | .tuple ds, _, n, h => by
    cases h with
    | tup hs ha => exact .tup hs.sq (DaAll.dp ds _ (by simpa only [PyData.hasDict] using n) ha)
  | .dict ds, _, n, h => by simp only [PyData.hasDict] at n; cases n
theorem DaAll.dp {H : Hp} : ∀ (ds : List PyData) (vs : List V), PyData.hasDictAll ds = false → DaAll K H vs ds → DpAll K H vs ds
  | [], _, _, h => by cases h; exact .nil
  | d :: ds, _, n, h => by
    cases h with
    | cons h1 h2 =>
      simp only [PyData.hasDictAll, Bool.or_eq_false_iff] at n
      exact .cons (Da.dp d _ n.1 h1) (DaAll.dp ds _ n.2 h2)
end
/-- == of data without dicts -/
def oEqD (neg : Bool) : D2 := fun d e P => d.hasDict = false ∧ e.hasDict = false ∧ SeqAt.shaped d = true ∧ SeqAt.shaped e = true ∧ P (.bool (if neg then !PyData.eqv d e else PyData.eqv d e))
theorem dp_hd {S : Addr → Prop} {H : Hp} {v : V} {d : PyData} (n : d.hasDict = false) (h : Da K (Hd S H) v d) : Dp K H v d := (h.of (hd_sub S H)).dp d v n
theorem ro_eqD : RO K (rEqD K) (oEqD false) := fun S H x y d e P Q _ hx hy h q => ⟨d, e, dp_hd h.1 hx, dp_hd h.2.1 hy, h.2.2.1, h.2.2.2.1, q _ H _ h.2.2.2.2 (Same.refl _) (.bl _)⟩
theorem ro_neD : RO K (rNeD K) (oEqD true) := fun S H x y d e P Q _ hx hy h q => ⟨d, e, dp_hd h.1 hx, dp_hd h.2.1 hy, h.2.2.1, h.2.2.2.1, q _ H _ h.2.2.2.2 (Same.refl _) (.bl _)⟩
/-- is None -/
def isNoneD : PyData → Bool
  | .none => true
  | _ => false
def oIsN (neg : Bool) : D2 := fun d e P => match e with
  | .none => P (.bool (if neg then !isNoneD d else isNoneD d))
  | _ => False
theorem da_none {H : Hp} {v : V} {d : PyData} (h : Da K H v d) : decide (v = .non) = isNoneD d := by
  cases h <;> rfl
theorem ro_isN : RO K (fun x y H Q => y = .non ∧ Q (.bl (decide (x = .non))) H) (oIsN false) := fun S H x y d e P Q _ hx hy h q => by
  unfold oIsN at h
  split at h
  · cases hy
    refine ⟨rfl, q _ H _ h (Same.refl _) ?_⟩
    rw [da_none hx]
    exact .bl _
  · exact h.elim
theorem ro_notN : RO K (fun x y H Q => y = .non ∧ Q (.bl (!decide (x = .non))) H) (oIsN true) := fun S H x y d e P Q _ hx hy h q => by
  unfold oIsN at h
  split at h
  · cases hy
    refine ⟨rfl, q _ H _ h (Same.refl _) ?_⟩
    rw [da_none hx]
    exact .bl _
  · exact h.elim
/-- t + u of tuples -/
def oCatU : D2 := fun d e P => match d, e with
  | .tuple a, .tuple b => a.length + b.length ≤ 1000000 ∧ P (.tuple (a ++ b))
  | _, _ => False
theorem see_of {S : Addr → Prop} {H : Hp} {p : Addr} {o : HO} (T : Taken H S) (np : H p = none) : Hd S (upd H p o) p = some o := by
  rw [hd_ne (T.ne np)]
  exact upd_same
theorem ro_catU : RO K (rCatP K) oCatU := fun S H x y d e P Q T hx hy h q => by
  unfold oCatU at h
  split at h
  · rename_i ds es
    obtain ⟨a, vs, rfl, h1, h2⟩ := da_tup hx
    obtain ⟨b, us, rfl, h3, h4⟩ := da_tup hy
    refine ⟨a, b, vs, us, rfl, rfl, h1, h3, by rw [h2.len, h4.len]; exact Nat.le_trans h.1 sz6, fun e => ?_, fun _ e => ?_, fun _ _ p o np eo => ?_⟩
    · subst e
      cases h2
      exact q _ H _ h.2 (Same.refl _) hy
    · subst e
      cases h4
      rw [List.append_nil] at h
      exact q _ H _ h.2 (Same.refl _) hx
    · exact q _ _ _ h.2 (same_upd np) (.tup (.inl ⟨o, see_of T np, eo⟩) ((h2.append h4).of (hdS (same_upd np))))
  · exact h.elim
/-- o[i] -/
def oIxL : D2 := fun d e P => match d, e with
  | .list a, .int i => ∃ x, atI a i = some x ∧ P x
  | _, _ => False
theorem atI_da {H : Hp} {vs : List V} {ds : List PyData} (h : DaAll K H vs ds) {i : Int} {x : PyData} (e : atI ds i = some x) : ∃ v, atI vs i = some v ∧ Da K H v x := by
  unfold atI at e ⊢
  rw [h.len]
  obtain ⟨j, e1, e2⟩ := Option.bind_eq_some_iff.mp e
  obtain ⟨v, h1, h2⟩ := h.getD e2
  exact ⟨v, by rw [e1]; exact h1, h2⟩
theorem ro_ixL : RO K (rIxL K) oIxL := fun S H x y d e P Q T hx hy h q => by
  unfold oIxL at h
  split at h
  · rename_i ds i
    obtain ⟨a, vs, rfl, h1, h2⟩ := da_list hx
    cases hy
    obtain ⟨z, e1, hp⟩ := h
    obtain ⟨v, e2, hv⟩ := atI_da h2 e1
    exact ⟨a, vs, i, v, rfl, rfl, sq h1, e2, q _ H _ hp (Same.refl _) hv⟩
  · exact h.elim
def oIxU : D2 := fun d e P => match d, e with
  | .tuple a, .int i => ∃ x, atI a i = some x ∧ P x
  | _, _ => False
theorem ro_ixU : RO K (rIxT K) oIxU := fun S H x y d e P Q T hx hy h q => by
  unfold oIxU at h
  split at h
  · rename_i ds i
    obtain ⟨a, vs, rfl, h1, h2⟩ := da_tup hx
    cases hy
    obtain ⟨z, e1, hp⟩ := h
    obtain ⟨v, e2, hv⟩ := atI_da h2 e1
    exact ⟨a, vs, i, v, rfl, rfl, h1, e2, q _ H _ hp (Same.refl _) hv⟩
  · exact h.elim
def oIxS : D2 := fun d e P => match d, e with
  | .str z, .int i => z.length ≤ 1000000 ∧ ∃ c, atI z.cps.toList i = some c ∧ P (.str ⟨#[c]⟩)
  | _, _ => False
theorem ro_ixS : RO K rIxS oIxS := fun S H x y d e P Q T hx hy h q => by
  unfold oIxS at h
  split at h
  · cases hx
    cases hy
    obtain ⟨hz, c, e1, hp⟩ := h
    exact ⟨_, _, c, rfl, rfl, Nat.le_trans hz sz6, e1, q _ H _ hp (Same.refl _) (.str _)⟩
  · exact h.elim
/-- the list in slot i by an index that may draw -/
def dIxVar (i : Nat) (db : DE) : DE := fun s P => (match s.sl[i]? with
  | some (.dat _) => True
  | some (.own _) => True
  | _ => False) ∧ db s fun e s1 => match e with
  | .int k => dListVar i s1 fun a s2 => ∃ x, atI a k = some x ∧ P x s2
  | _ => False
theorem re_ixVar {i : Nat} {tb : TE} {db : DE} (h : RE K tb db) : RE K (tOp (rIxL K) (tVar i) tb) (dIxVar i db) := fun C hC s P hd σ H Q R q => by
  have hsl : ∃ v, σ[i]? = some (some v) := by
    have h0 := hd.1
    split at h0
    · rename_i e
      obtain ⟨sl, h1, v, rfl, h3⟩ := R.slots i _ e
      exact ⟨v, h1⟩
    · rename_i e
      obtain ⟨sl, h1, a, vs, rfl, h3⟩ := R.slots i _ e
      exact ⟨_, h1⟩
    · exact h0.elim
  obtain ⟨v, e⟩ := hsl
  exact rd_op (rd_var e (h C hC s _ hd.2 σ H _ R fun w H1 d s1 hp R1 hw => by
    cases d with
    | int k =>
      cases hw
      obtain ⟨a, vs, ds, e1, ⟨x, ex, hp⟩, e3, e4⟩ := list_at R1 hp
      rw [e] at e1
      cases e1
      obtain ⟨u, e5, e6⟩ := atI_da e4 ex
      exact ⟨a, vs, k, u, rfl, rfl, sq e3, e5, q u H1 x s1 hp R1 e6⟩
    | _ => exact hp.elim))
/-! ### slices -/
def DO := DSt → (Option Int → DSt → Prop) → Prop
def RP (K : KX) (to : TO) (d : DO) : Prop := ∀ C : DC, C.K = K → ∀ s P, d s P → ∀ (σ : L2.St) (H : Hp) (Q : Option Int → Hp → Prop), Rl C σ H s → (∀ o H' s', P o s' → Rl C σ H' s' → Q o H') → to σ H Q
def dNoP : DO := fun s P => P none s
def dPart (de : DE) : DO := fun s P => de s fun d s1 => match d with
  | .int i => P (some i) s1
  | _ => False
theorem rp_no : RP K tNoPart dNoP := fun C _ s P h σ H Q R q => q none H s h R
theorem rp_of {te : TE} {de : DE} (h : RE K te de) : RP K (tPart te) (dPart de) := fun C hC s P hd σ H Q R q => h C hC s _ hd σ H _ R fun v H1 d s1 hp R1 hv => by
  cases d with
  | int i =>
    cases hv
    exact ⟨i, rfl, q _ H1 s1 hp R1⟩
  | _ => exact hp.elim
def cutD (xs : List PyData) (lo hi : Option Int) : List PyData := (xs.drop (HT.sIx xs.length 0 lo)).take (HT.sIx xs.length xs.length hi - HT.sIx xs.length 0 lo)
theorem cut_da {H : Hp} {vs : List V} {ds : List PyData} (h : DaAll K H vs ds) (lo hi : Option Int) : DaAll K H (cutV vs lo hi) (cutD ds lo hi) := by
  unfold cutV cutD
  rw [h.len]
  exact (h.drop _).take _
/-- xs[lo:hi] of a list: the bounds call nothing that changes it -/
def dSlL (dl : DA) (d1 d2 : DO) : DA := fun s P => dl s fun ds s1 => d1 s1 fun lo s2 => d2 s2 fun hi s3 => P (cutD ds lo hi) s3
/-- xs[lo:hi] of a list that is data -/
def dSlD (de : DE) (d1 d2 : DO) : DA := fun s P => de s fun d s1 => d1 s1 fun lo s2 => d2 s2 fun hi s3 => match d with
  | .list ds => P (cutD ds lo hi) s3
  | _ => False
theorem rf_sl {te : TE} {tl th : TO} {de : DE} {d1 d2 : DO} (h : RE K te de) (h1 : RP K tl d1) (h2 : RP K th d2) : RF K (tSl (rSlL K) te tl th) (dSlD de d1 d2) := fun C hC s P hd σ H Q R q =>
  h C hC s _ hd σ H _ R fun v H1 d s1 hd1 R1 hv => h1 (C.keep v d) hC s1 _ hd1 σ H1 _ (R1.keep hv) fun lo H2 s2 hd2 R2 => h2 (C.keep v d) hC s2 _ hd2 σ H2 _ R2 fun hi H3 s3 hp R3 => by
    obtain ⟨R4, hv4⟩ := R3.kept
    cases d with
    | list ds =>
      obtain ⟨a, vs, rfl, k1, k2⟩ := da_list hv4
      exact ⟨a, vs, rfl, sq k1, fun p np => q p _ H3 _ s3 hp R4 np (cut_da k2 lo hi)⟩
    | _ => exact hp.elim
/-- the list in slot i, cut -/
def dSlVar (i : Nat) (d1 d2 : DO) : DA := fun s P => (match s.sl[i]? with
  | some (.dat _) => True
  | some (.own _) => True
  | _ => False) ∧ d1 s fun lo s2 => d2 s2 fun hi s3 => dListVar i s3 fun ds s4 => P (cutD ds lo hi) s4
theorem rf_slVar {i : Nat} {tl th : TO} {d1 d2 : DO} (h1 : RP K tl d1) (h2 : RP K th d2) : RF K (tSl (rSlL K) (tVar i) tl th) (dSlVar i d1 d2) := fun C hC s P hd σ H Q R q => by
  have hsl : ∃ v, σ[i]? = some (some v) := by
    have h0 := hd.1
    split at h0
    · rename_i e
      obtain ⟨sl, h1, v, rfl, h3⟩ := R.slots i _ e
      exact ⟨v, h1⟩
    · rename_i e
      obtain ⟨sl, h1, a, vs, rfl, h3⟩ := R.slots i _ e
      exact ⟨_, h1⟩
    · exact h0.elim
  obtain ⟨v, e⟩ := hsl
  refine rd_var (Q := fun x H1 => tl σ H1 fun l H2 => th σ H2 fun u H3 => rSlL K x l u H3 Q) e ?_
  refine h1 C hC s _ hd.2 σ H _ R fun lo H2 s2 hd2 R2 => h2 C hC s2 _ hd2 σ H2 _ R2 fun hi H3 s3 hp R3 => ?_
  obtain ⟨a, vs, ds, e1, hp, e3, e4⟩ := list_at R3 hp
  rw [e] at e1
  cases e1
  exact ⟨a, vs, rfl, sq e3, fun p np => q p _ H3 _ s3 hp R3 np (cut_da e4 lo hi)⟩
/-- xs[lo:hi] of a tuple -/
def dSlU (de : DE) (d1 d2 : DO) : DE := fun s P => de s fun d s1 => d1 s1 fun lo s2 => d2 s2 fun hi s3 => match d with
  | .tuple ds => P (.tuple (cutD ds lo hi)) s3
  | _ => False
theorem re_slU {te : TE} {tl th : TO} {de : DE} {d1 d2 : DO} (h : RE K te de) (h1 : RP K tl d1) (h2 : RP K th d2) : RE K (tSl (rSlP K) te tl th) (dSlU de d1 d2) := fun C hC s P hd σ H Q R q =>
  h C hC s _ hd σ H _ R fun v H1 d s1 hd1 R1 hv => h1 (C.keep v d) hC s1 _ hd1 σ H1 _ (R1.keep hv) fun lo H2 s2 hd2 R2 => h2 (C.keep v d) hC s2 _ hd2 σ H2 _ R2 fun hi H3 s3 hp R3 => by
    obtain ⟨R4, hv4⟩ := R3.kept
    cases d with
    | tuple ds =>
      obtain ⟨a, vs, rfl, k1, k2⟩ := da_tup hv4
      subst hC
      refine ⟨a, vs, rfl, k1, fun e => ?_, fun _ p o np eo => q _ _ _ s3 hp (R4.ext (same_upd np)) (.tup (.inl ⟨o, R4.see np, eo⟩) ((cut_da k2 lo hi).of (R4.kp np)))⟩
      have e' : cutD ds lo hi = ds := by
        unfold cutD
        rw [← k2.len, e.1, e.2, List.drop_zero, Nat.sub_zero, k2.len, List.take_length]
      have hp' : P (.tuple (cutD ds lo hi)) s3 := hp
      rw [e'] at hp'
      exact q _ H3 _ s3 hp' R4 hv4
    | _ => exact hp.elim
/-- of a text -/
def dSlS (de : DE) (d1 d2 : DO) : DE := fun s P => de s fun d s1 => d1 s1 fun lo s2 => d2 s2 fun hi s3 => match d with
  | .str z => z.length ≤ 1000000 ∧ P (.str (cutS z lo hi)) s3
  | _ => False
theorem re_slS {te : TE} {tl th : TO} {de : DE} {d1 d2 : DO} (h : RE K te de) (h1 : RP K tl d1) (h2 : RP K th d2) : RE K (tSl rSlS te tl th) (dSlS de d1 d2) := fun C hC s P hd σ H Q R q =>
  h C hC s _ hd σ H _ R fun v H1 d s1 hd1 R1 hv => h1 C hC s1 _ hd1 σ H1 _ R1 fun lo H2 s2 hd2 R2 => h2 C hC s2 _ hd2 σ H2 _ R2 fun hi H3 s3 hp R3 => by
    cases d with
    | str z =>
      cases hv
      exact ⟨z, rfl, Nat.le_trans hp.1 sz6, q _ H3 _ s3 hp.2 R3 (.str _)⟩
    | _ => exact hp.elim
/-- xs[::-1] -/
def dRevL (dl : DA) : DA := fun s P => dl s fun ds s1 => P ds.reverse s1
theorem rf_rev {te : TE} {dl : DA} (h : RL K te dl) : RF K (tRevL K te) (dRevL dl) := fun C hC s P hd σ H Q R q =>
  h C hC s _ hd σ H _ R fun a vs H1 ds s1 hp R1 e hv => ⟨a, vs, rfl, sq e, fun p np => q p _ H1 _ s1 hp R1 np hv.rev⟩
/-! ### built-in calls -/
/-- len of a list that is read, of a tuple, of a text -/
def dLenL (dl : DA) : DE := fun s P => dl s fun ds s1 => P (.int ds.length) s1
def rLn (K : PySem.W.Frag) : List V → Hp → VK → Prop := fun xs H Q => ∃ p ys, xs = [.ref p] ∧ (SqL K H p ys ∨ SqT K H p ys) ∧ Q (.int ys.length) H
theorem re_lenL {te : TE} {dl : DA} (h : RL K te dl) : RE K (tCB (rLn K) (tCons te tNil)) (dLenL dl) := fun C hC s P hd σ H Q R q =>
  rd_cb (rd_cons (h C hC s _ hd σ H _ R fun a vs H1 ds s1 hp R1 e hv => rd_nil ⟨a, vs, rfl, .inl (sq e), by rw [hv.len]; exact q _ H1 _ s1 hp R1 (.int _)⟩))
theorem re_lenU {te : TE} {dl : DA} (h : RU K te dl) : RE K (tCB (rLn K) (tCons te tNil)) (dLenL dl) := fun C hC s P hd σ H Q R q =>
  rd_cb (rd_cons (h C hC s _ hd σ H _ R fun a vs H1 ds s1 hp R1 e hv => rd_nil ⟨a, vs, rfl, .inr (hC ▸ e), by rw [hv.len]; exact q _ H1 _ s1 hp R1 (.int _)⟩))
/-- of a list or a tuple, data -/
def dLenD (de : DE) : DE := fun s P => de s fun d s1 => match d with
  | .list ds => P (.int ds.length) s1
  | .tuple ds => P (.int ds.length) s1
  | _ => False
theorem re_lenD {te : TE} {de : DE} (h : RE K te de) : RE K (tCB (rLn K) (tCons te tNil)) (dLenD de) := fun C hC s P hd σ H Q R q =>
  rd_cb (rd_cons (h C hC s _ hd σ H _ R fun v H1 d s1 hp R1 hv => by
    cases d with
    | list ds =>
      obtain ⟨a, vs, rfl, k1, k2⟩ := da_list hv
      exact rd_nil ⟨a, vs, rfl, .inl (sq k1), by rw [k2.len]; exact q _ H1 _ s1 hp R1 (.int _)⟩
    | tuple ds =>
      obtain ⟨a, vs, rfl, k1, k2⟩ := da_tup hv
      exact rd_nil ⟨a, vs, rfl, .inr (hC ▸ k1), by rw [k2.len]; exact q _ H1 _ s1 hp R1 (.int _)⟩
    | _ => exact hp.elim))
def dLenS (de : DE) : DE := fun s P => de s fun d s1 => match d with
  | .str z => z.length ≤ 1000000 ∧ P (.int z.length) s1
  | _ => False
theorem re_lenS {te : TE} {de : DE} (h : RE K te de) : RE K (tCB (fun xs H Q => ∃ z, xs = [.str z] ∧ z.length ≤ sizeLine ∧ Q (.int z.length) H) (tCons te tNil)) (dLenS de) := fun C hC s P hd σ H Q R q =>
  rd_cb (rd_cons (h C hC s _ hd σ H _ R fun v H1 d s1 hp R1 hv => by
    cases d with
    | str z =>
      cases hv
      exact rd_nil ⟨z, rfl, Nat.le_trans hp.1 sz6, q _ H1 _ s1 hp.2 R1 (.int _)⟩
    | _ => exact hp.elim))
/-- list(xs), tuple(xs) of a list or tuple that is read -/
def rLo (K : PySem.W.Frag) : List V → Hp → VK → Prop := fun xs H Q => ∃ p ys, xs = [.ref p] ∧ (SqL K H p ys ∨ SqT K H p ys) ∧ ∀ l, H l = none → Q (.ref l) (upd H l (.lst ys))
theorem rf_listL {te : TE} {dl : DA} (h : RL K te dl) : RF K (tCB (rLo K) (tCons te tNil)) dl := fun C hC s P hd σ H Q R q =>
  rd_cb (rd_cons (h C hC s _ hd σ H _ R fun a vs H1 ds s1 hp R1 e hv => rd_nil ⟨a, vs, rfl, .inl (sq e), fun p np => q p _ H1 _ s1 hp R1 np hv⟩))
theorem rf_listU {te : TE} {dl : DA} (h : RU K te dl) : RF K (tCB (rLo K) (tCons te tNil)) dl := fun C hC s P hd σ H Q R q =>
  rd_cb (rd_cons (h C hC s _ hd σ H _ R fun a vs H1 ds s1 hp R1 e hv => rd_nil ⟨a, vs, rfl, .inr (hC ▸ e), fun p np => q p _ H1 _ s1 hp R1 np hv⟩))
def dTupOf (dl : DA) : DE := fun s P => dl s fun ds s1 => P (.tuple ds) s1
theorem re_tupL {te : TE} {dl : DA} (h : RL K te dl) : RE K (tCB (rToP K) (tCons te tNil)) (dTupOf dl) := fun C hC s P hd σ H Q R q =>
  rd_cb (rd_cons (h C hC s _ hd σ H _ R fun a vs H1 ds s1 hp R1 e hv => rd_nil ⟨a, vs, rfl, .inl ⟨sq e, fun p o np eo => q _ _ _ s1 hp (R1.ext (same_upd np)) (.tup (.inl ⟨o, R1.see np, eo⟩) (hv.of (R1.kp np)))⟩⟩))
/-- t * k of a tuple -/
def oRepU : D2 := fun d e P => match d, e with
  | .tuple a, .int k => -(2 ^ 62) ≤ k ∧ k ≤ 1000 ∧ a.length ≤ 1000 ∧ P (.tuple (List.replicate k.toNat a).flatten)
  | _, _ => False
theorem DaAll.rep {H : Hp} {vs : List V} {ds : List PyData} (h : DaAll K H vs ds) : ∀ n : Nat, DaAll K H (List.replicate n vs).flatten (List.replicate n ds).flatten
  | 0 => .nil
  | n + 1 => by
    rw [List.replicate_succ, List.replicate_succ, List.flatten_cons, List.flatten_cons]
    exact h.append (h.rep n)
theorem flat_nil (n : Nat) : (List.replicate n ([] : List PyData)).flatten = [] := by
  induction n with
  | zero => rfl
  | succ n ih => rw [List.replicate_succ, List.flatten_cons, ih]; rfl
theorem ro_repU : RO K (rRepP K) oRepU := fun S H x y d e P Q T hx hy h q => by
  unfold oRepU at h
  split at h
  · rename_i ds k
    obtain ⟨a, vs, rfl, h1, h2⟩ := da_tup hx
    cases hy
    refine ⟨a, k, vs, rfl, rfl, h1, h.1, h.2.1, by rw [h2.len]; exact h.2.2.1, fun e => ?_, fun _ _ p o np eo => ?_⟩
    · refine q _ H _ h.2.2.2 (Same.refl _) ?_
      rcases e with e | e
      · subst e
        cases h2
        rw [flat_nil]
        exact hx
      · subst e
        have e1 : (List.replicate (1 : Int).toNat ds).flatten = ds := by simp
        rw [e1]
        exact hx
    · exact q _ _ _ h.2.2.2 (same_upd np) (.tup (.inl ⟨o, see_of T np, eo⟩) ((h2.rep _).of (hdS (same_upd np))))
  · exact h.elim
/-! ### truths -/
def dAndV (da db : DE) : DE := fun s P => da s fun d s1 => match d with
  | .bool c => if c = true then db s1 P else P (.bool false) s1
  | _ => False
theorem re_and {ta tb : TE} {da db : DE} (h1 : RE K ta da) (h2 : RE K tb db) : RE K (tAndV ta tb) (dAndV da db) := fun C hC s P hd σ H Q R q =>
  h1 C hC s _ hd σ H _ R fun v H1 d s1 hp R1 hv => by
    cases d with
    | bool c =>
      cases hv
      refine ⟨c, rfl, ?_⟩
      cases c with
      | true => exact pT rfl (h2 C hC s1 _ (by simpa using hp) σ H1 _ R1 q)
      | false => exact pF (by decide) (q _ H1 _ s1 (by simpa using hp) R1 (.bl _))
    | _ => exact hp.elim
def dOrV (da db : DE) : DE := fun s P => da s fun d s1 => match d with
  | .bool c => if c = true then P (.bool true) s1 else db s1 P
  | _ => False
theorem re_or {ta tb : TE} {da db : DE} (h1 : RE K ta da) (h2 : RE K tb db) : RE K (tOrV ta tb) (dOrV da db) := fun C hC s P hd σ H Q R q =>
  h1 C hC s _ hd σ H _ R fun v H1 d s1 hp R1 hv => by
    cases d with
    | bool c =>
      cases hv
      refine ⟨c, rfl, ?_⟩
      cases c with
      | true => exact pT rfl (q _ H1 _ s1 (by simpa using hp) R1 (.bl _))
      | false => exact pF (by decide) (h2 C hC s1 _ (by simpa using hp) σ H1 _ R1 q)
    | _ => exact hp.elim
def dNotV (da : DE) : DE := fun s P => da s fun d s1 => match d with
  | .bool c => P (.bool (!c)) s1
  | _ => False
theorem re_not {ta : TE} {da : DE} (h1 : RE K ta da) : RE K (tNotV ta) (dNotV da) := fun C hC s P hd σ H Q R q =>
  h1 C hC s _ hd σ H _ R fun v H1 d s1 hp R1 hv => by
    cases d with
    | bool c =>
      cases hv
      exact ⟨c, rfl, q _ H1 _ s1 hp R1 (.bl _)⟩
    | _ => exact hp.elim
def dB (de : DE) : DT := fun s P => de s fun d s1 => match d with
  | .bool c => P c s1
  | _ => False
theorem rt_test {te : TE} {de : DE} (h : RE K te de) : RT K (tTest te) (dB de) := fun C hC s P hd σ H Q R q =>
  rd_test (h C hC s _ hd σ H _ R fun v H1 d s1 hp R1 hv => by
    cases d with
    | bool c =>
      cases hv
      exact ⟨c, rfl, q _ H1 s1 hp R1⟩
    | _ => exact hp.elim)
theorem rt_val {te : TE} {de : DE} (h : RE K te de) : RT K (tB te) (dB de) := fun C hC s P hd σ H Q R q =>
  rd_tb (h C hC s _ hd σ H _ R fun v H1 d s1 hp R1 hv => by
    cases d with
    | bool c =>
      cases hv
      exact ⟨c, rfl, q _ H1 s1 hp R1⟩
    | _ => exact hp.elim)
def dAnd (a b : DT) : DT := fun s P => a s fun c s1 => if c = true then b s1 P else P false s1
def dOr (a b : DT) : DT := fun s P => a s fun c s1 => if c = true then P true s1 else b s1 P
def dNot (a : DT) : DT := fun s P => a s fun c s1 => P (!c) s1
theorem rt_and {ta tb : TT} {da db : DT} (h1 : RT K ta da) (h2 : RT K tb db) : RT K (tAnd ta tb) (dAnd da db) := fun C hC s P hd σ H Q R q =>
  rd_and (h1 C hC s _ hd σ H _ R fun c H1 s1 hp R1 => by
    cases c with
    | true => exact pT rfl (h2 C hC s1 _ (by simpa using hp) σ H1 _ R1 q)
    | false => exact pF (by decide) (q _ H1 s1 (by simpa using hp) R1))
theorem rt_or {ta tb : TT} {da db : DT} (h1 : RT K ta da) (h2 : RT K tb db) : RT K (tOr ta tb) (dOr da db) := fun C hC s P hd σ H Q R q =>
  rd_or (h1 C hC s _ hd σ H _ R fun c H1 s1 hp R1 => by
    cases c with
    | true => exact pT rfl (q _ H1 s1 (by simpa using hp) R1)
    | false => exact pF (by decide) (h2 C hC s1 _ (by simpa using hp) σ H1 _ R1 q))
theorem rt_not {ta : TT} {da : DT} (h1 : RT K ta da) : RT K (tNot ta) (dNot da) := fun C hC s P hd σ H Q R q =>
  rd_not (h1 C hC s _ hd σ H _ R fun c H1 s1 hp R1 => q _ H1 s1 hp R1)
def dIfE (c : DT) (da db : DE) : DE := fun s P => c s fun b s1 => if b = true then da s1 P else db s1 P
theorem re_if {tc : TT} {ta tb : TE} {dc : DT} {da db : DE} (hc : RT K tc dc) (h1 : RE K ta da) (h2 : RE K tb db) : RE K (tIf tc ta tb) (dIfE dc da db) := fun C hC s P hd σ H Q R q =>
  hc C hC s _ hd σ H _ R fun c H1 s1 hp R1 => by
    cases c with
    | true => exact pT rfl (h1 C hC s1 _ (by simpa using hp) σ H1 _ R1 q)
    | false => exact pF (by decide) (h2 C hC s1 _ (by simpa using hp) σ H1 _ R1 q)
/-- one's own list against [] -/
def dNeNil (i : Nat) : DT := fun s P => dListVar i s fun ds s1 => P (!ds.isEmpty) s1
end DL

set_option Elab.async false
set_option linter.all false
set_option maxRecDepth 100000
set_option maxHeartbeats 4000000
/-! DLc: statements, calls, defs told by data alone. -/
namespace DL
open PySem PySem.Spec PyProof.Rows L2 GG DD PT
variable {K : KX}
/-! ### calls -/
def ArgOk (K : PySem.W.Frag) (W : Wo) (S : Addr → Prop) (H : Hp) (v : V) : DV → Prop
  | .dat d => Da K (Hd S H) v d
  | .deck => ∃ p l, W = some (p, l) ∧ v = .ref p
  | _ => False
inductive ArgsOk (K : PySem.W.Frag) (W : Wo) (S : Addr → Prop) (H : Hp) : List V → List DV → Prop
  | nil : ArgsOk K W S H [] []
  | cons {v : V} {vs : List V} {a : DV} {as : List DV} : ArgOk K W S H v a → ArgsOk K W S H vs as → ArgsOk K W S H (v :: vs) (a :: as)
theorem ArgsOk.len {K : PySem.W.Frag} {W : Wo} {S : Addr → Prop} {H : Hp} : ∀ {vs : List V} {as : List DV}, ArgsOk K W S H vs as → vs.length = as.length
  | _, _, .nil => rfl
  | _, _, .cons _ h => by rw [List.length_cons, List.length_cons, ArgsOk.len h]
/-- what a def does, by data: its arguments, the draws so far, what is wished -/
abbrev FD := List DV → Nat → (PyData → Nat → Prop) → Prop
/-- the promise of a def that does F and has m parameters -/
def spOf (K : PySem.W.Frag) (m : Nat) (F : FD) : Sp := fun vs H Q _ => vs.length = m ∧ ∃ (W : Wo) (S0 : Addr → Prop) (n : Nat) (as : List DV) (P : PyData → Nat → Prop), Taken H S0 ∧ DkOk W H n ∧ (∀ b, Mu W b → S0 b) ∧ ArgsOk K W S0 H vs as ∧ F as n P ∧
  ∀ v H' d n', P d n' → DkOk W H' n' → ButW W H H' → Da K (Hd S0 H') v d → Q v H'
def XX (C : DC) (ta : TA) (s : DSt) (P : List DV → DSt → Prop) : Prop := ∀ (σ : L2.St) (H : Hp) (Q : List V → Hp → Prop), Rl C σ H s → (∀ vs H' as s', P as s' → Rl C σ H' s' → ArgsOk C.K C.W (Sof C σ s'.sl) H' vs as → Q vs H') → ta σ H Q
def RX (K : KX) (ta : TA) (dx : DX) : Prop := ∀ C : DC, C.K = K → ∀ s P, dx s P → XX C ta s P
def xNil : DX := fun s P => P [] s
def xCons (de : DE) (da : DX) : DX := fun s P => de s fun d s1 => da s1 fun ds s2 => P (.dat d :: ds) s2
/-- the deck, from slot i -/
def xDeck (i : Nat) (da : DX) : DX := fun s P => match s.sl[i]? with
  | some .deck => da s fun ds s2 => P (.deck :: ds) s2
  | _ => False
theorem rx_nil : RX K tNil xNil := fun C _ s P h σ H Q R q => q [] H [] s h R .nil
theorem rx_cons {te : TE} {ta : TA} {de : DE} {da : DX} (h1 : RE K te de) (h2 : RX K ta da) : RX K (tCons te ta) (xCons de da) := fun C hC s P hd σ H Q R q =>
  rd_cons (h1 C hC s _ hd σ H _ R fun v H1 d s1 hd1 R1 hv => h2 (C.keep v d) hC s1 _ hd1 σ H1 _ (R1.keep hv) fun vs H2 ds s2 hp R2 hvs => by
    obtain ⟨R3, hv3⟩ := R2.kept
    exact q (v :: vs) H2 (.dat d :: ds) s2 hp R3 (.cons hv3 hvs))
theorem rx_deck {i : Nat} {ta : TA} {da : DX} (h2 : RX K ta da) : RX K (tCons (tVar i) ta) (xDeck i da) := fun C hC s P hd σ H Q R q => by
  unfold xDeck at hd
  split at hd
  · rename_i e
    obtain ⟨sl, h1, p, l, hW, rfl⟩ := R.slots i _ e
    exact rd_cons (rd_var h1 (h2 C hC s _ hd σ H _ R fun vs H2 ds s2 hp R2 hvs => q (.ref p :: vs) H2 (.deck :: ds) s2 hp R2 (.cons ⟨p, l, hW, rfl⟩ hvs)))
  · exact hd.elim
def dCall (m : Nat) (F : FD) (da : DX) : DE := fun s P => da s fun as s1 => as.length = m ∧ F as s1.n fun d n' => P d ⟨s1.sl, n'⟩
theorem re_call {m : Nat} {F : FD} {ta : TA} {da : DX} (h : RX K ta da) : RE K (tCall (spOf K m F) [] E0 ta) (dCall m F da) := fun C hC s P hd σ H Q R q =>
  rd_call (h C hC s _ hd σ H _ R fun vs H1 as s1 hp R1 hv => by
    subst hC
    refine ⟨by rw [List.append_nil, hv.len]; exact hp.1, C.W, Sof C σ s1.sl, s1.n, as, _, R1.taken, R1.dk, fun b hb => .inr (.inl hb), by rw [List.append_nil]; exact hv, hp.2, fun v H' d n' hP hD hB hda => ?_⟩
    exact q v H' d ⟨s1.sl, n'⟩ hP (R1.step hB hD) hda)
/-! ### statements -/
structure DEnds where
  nx : DSt → Prop
  rt : PyData → DSt → Prop
  bk : DSt → Prop := fun _ => False
  ct : DSt → Prop := fun _ => False
abbrev DS := DEnds → DSt → Prop
structure EndsOk (C : DC) (E : DEnds) (D : Ends) : Prop where
  nx : ∀ σ H s, E.nx s → Rl C σ H s → D.nx σ H
  rt : ∀ σ v H d s, E.rt d s → Rl C σ H s → Da C.K (Hd (Sof C σ s.sl) H) v d → D.rt v H
  bk : ∀ σ H s, E.bk s → Rl C σ H s → D.bk σ H
  ct : ∀ σ H s, E.ct s → Rl C σ H s → D.ct σ H
def RS (K : KX) (t : TS) (d : DS) : Prop := ∀ C : DC, C.K = K → ∀ (E : DEnds) (s : DSt), d E s → ∀ (σ : L2.St) (H : Hp) (D : Ends), Rl C σ H s → EndsOk C E D → t D σ H
def dNext : DS := fun E s => E.nx s
theorem rs_next : RS K tNext dNext := fun C _ E s h σ H D R o => o.nx σ H s h R
def dSeq (a b : DS) : DS := fun E s => a { E with nx := b E } s
theorem rs_seq {a b : TS} {da db : DS} (h1 : RS K a da) (h2 : RS K b db) : RS K (tSeq a b) (dSeq da db) := fun C hC E s h σ H D R o =>
  rd_seq (h1 C hC _ s h σ H _ R ⟨fun σ' H' s' h' R' => h2 C hC E s' h' σ' H' D R' o, o.rt, o.bk, o.ct⟩)
def dSet (de : DE) (i : Nat) : DS := fun E s => de s fun d s1 => E.nx ⟨s1.sl.set i (.dat d), s1.n⟩
theorem rs_set {te : TE} {i : Nat} {de : DE} (h : RE K te de) : RS K (tAsg te (gName i)) (dSet de i) := fun C hC E s hd σ H D R o =>
  h C hC s _ hd σ H _ R fun v H1 d s1 hp R1 hv => o.nx _ H1 _ hp (R1.set hv)
/-- a new list as one's own -/
def dSetO (dl : DA) (i : Nat) : DS := fun E s => dl s fun ds s1 => i < s1.sl.length ∧ E.nx ⟨s1.sl.set i (.own ds), s1.n⟩
theorem rs_setO {te : TE} {i : Nat} {dl : DA} (h : RF K te dl) : RS K (tAsg te (gName i)) (dSetO dl i) := fun C hC E s hd σ H D R o =>
  h C hC s _ hd σ H _ R fun a vs H1 ds s1 hp R1 na hv => o.nx _ _ _ hp.2 (R1.setOwn na hp.1 rfl fun S' hs => ⟨a, vs, rfl, upd_same, hv.of hs⟩)
def dIf (c : DT) (a b : DS) : DS := fun E s => c s fun b' s1 => if b' = true then a E s1 else b E s1
theorem rs_if {tc : TT} {a b : TS} {dc : DT} {da db : DS} (hc : RT K tc dc) (h1 : RS K a da) (h2 : RS K b db) : RS K (tIfS tc a b) (dIf dc da db) := fun C hC E s hd σ H D R o =>
  rd_ifS (hc C hC s _ hd σ H _ R fun c H1 s1 hp R1 => by
    cases c with
    | true => exact pT rfl (h1 C hC E s1 (by simpa using hp) σ H1 D R1 o)
    | false => exact pF (by decide) (h2 C hC E s1 (by simpa using hp) σ H1 D R1 o))
def dRet (de : DE) : DS := fun E s => de s E.rt
theorem rs_ret {te : TE} {de : DE} (h : RE K te de) : RS K (tRet te) (dRet de) := fun C hC E s hd σ H D R o =>
  rd_ret (h C hC s _ hd σ H _ R fun v H1 d s1 hp R1 hv => o.rt σ v H1 d s1 hp R1 hv)
def dDrop (de : DE) : DS := fun E s => de s fun _ s1 => E.nx s1
theorem rs_drop {te : TE} {de : DE} (h : RE K te de) : RS K (tDrop te) (dDrop de) := fun C hC E s hd σ H D R o =>
  h C hC s _ hd σ H _ R fun v H1 d s1 hp R1 hv => o.nx σ H1 s1 hp R1
/-- one's own thing is data from here on -/
def dFreeze (i : Nat) (b : DS) : DS := fun E s => match s.sl[i]? with
  | some (.own ds) => b E ⟨s.sl.set i (.dat (.list ds)), s.n⟩
  | some (.owd kvs) => b E ⟨s.sl.set i (.dat (.dict kvs)), s.n⟩
  | some (.owt kvs) => kvs ≠ [] ∧ b E ⟨s.sl.set i (.dat (.dict kvs)), s.n⟩
  | some (.dat _) => b E s
  | _ => False
theorem rs_freeze {i : Nat} {t : TS} {b : DS} (h : RS K t b) : RS K t (dFreeze i b) := fun C hC E s hd σ H D R o => by
  unfold dFreeze at hd
  split at hd
  · rename_i ds e
    exact h C hC E _ hd σ H D (R.freeze e (.inl ⟨ds, rfl, rfl⟩)) o
  · rename_i kvs e
    exact h C hC E _ hd σ H D (R.freeze e (.inr (.inl ⟨kvs, rfl, rfl⟩))) o
  · rename_i kvs e
    exact h C hC E _ hd.2 σ H D (R.freeze e (.inr (.inr ⟨kvs, rfl, rfl, hd.1⟩))) o
  · exact h C hC E s hd σ H D R o
  · exact hd.elim
/-- a, b = x, y -/
def dPar (i j : Nat) (da : DA) : DS := fun E s => da s fun ds s1 => match ds with
  | [d, e] => E.nx ⟨(s1.sl.set i (.dat d)).set j (.dat e), s1.n⟩
  | _ => False
theorem rs_par {i j : Nat} {ta : TA} {da : DA} (h : RA K ta da) : RS K (tPar i j ta) (dPar i j da) := fun C hC E s hd σ H D R o =>
  h C hC s _ hd σ H _ R fun vs H1 ds s1 hp R1 hv => by
    match ds, hp, hv with
    | [d, e], hp, .cons (v := v) h1 (.cons (v := w) h2 .nil) =>
      have R2 := (R1.keep (v := w) h2).set (i := i) h1
      obtain ⟨R3, h3⟩ := R2.kept
      exact ⟨v, w, rfl, o.nx _ H1 _ hp (R3.set h3)⟩
/-! ### defs -/
theorem rl_start {K : PySem.W.Frag} {W : Wo} {S0 : Addr → Prop} {H : Hp} {n : Nat} {vs : List V} {as : List DV} (m : Nat) (T : Taken H S0) (dk : DkOk W H n) (hm : ∀ b, Mu W b → S0 b) (ha : ArgsOk K W S0 H vs as) :
    Rl (DC.base ⟨K, W, S0, H, fun _ _ => False, fun _ _ => False⟩) (vs.map some ++ List.replicate m none) H ⟨as ++ List.replicate m .un, n⟩ := by
  have no : ∀ {vs : List V} {as : List DV}, ArgsOk K W S0 H vs as → ∀ (i : Nat) (dv : DV), (as ++ List.replicate m .un)[i]? = some dv → isOwn dv = true → False := by
    intro vs as ha
    induction ha with
    | nil =>
      intro i dv h ho
      rw [List.nil_append] at h
      have := List.eq_of_mem_replicate (List.mem_of_getElem? h)
      subst this
      cases ho
    | @cons v vs a as h1 h2 ih =>
      intro i dv h ho
      cases i with
      | zero =>
        simp at h
        subst h
        cases a <;> first | exact h1.elim | cases ho
      | succ i => exact ih i dv (by simpa using h) ho
  have sof : ∀ b, Sof (DC.base ⟨K, W, S0, H, fun _ _ => False, fun _ _ => False⟩) (vs.map some ++ List.replicate m none) (as ++ List.replicate m .un) b → S0 b := fun b h => by
    rcases h with h | h | ⟨i, dv, h1, h2, h3⟩
    · exact h
    · exact hm b h
    · exact (no ha i dv h1 h2).elim
  refine ⟨?_, ?_, fun i j a dv ev h1 _ h3 => (no ha i dv h1 h3).elim, fun i a dv h1 h2 => (no ha i dv h1 h2).elim, dk, ButW.refl _ _, T, fun _ _ h => h.elim, fun _ _ h => h.elim⟩
  · rw [List.length_append, List.length_append, List.length_map, List.length_replicate, List.length_replicate, ha.len]
  · have hs := hd_mono (S := S0) (S' := Sof (DC.base ⟨K, W, S0, H, fun _ _ => False, fun _ _ => False⟩) (vs.map some ++ List.replicate m none) (as ++ List.replicate m .un)) (H := H) sof
    generalize Sof (DC.base ⟨K, W, S0, H, fun _ _ => False, fun _ _ => False⟩) (vs.map some ++ List.replicate m none) (as ++ List.replicate m .un) = S at hs
    clear sof
    induction ha with
    | nil =>
      intro i dv h
      rw [List.nil_append] at h
      have := List.eq_of_mem_replicate (List.mem_of_getElem? h)
      subst this
      have hi : i < m := by
        have := (List.getElem?_eq_some_iff.mp h).1
        rw [List.length_replicate] at this
        exact this
      exact ⟨none, by simp [hi], trivial⟩
    | @cons v vs a as h1 h2 ih =>
      intro i dv h
      cases i with
      | zero =>
        simp at h
        subst h
        refine ⟨some v, by simp, ?_⟩
        cases a with
        | dat d => exact ⟨v, rfl, Da.of h1 hs⟩
        | deck =>
          obtain ⟨p, l, e1, e2⟩ := h1
          exact ⟨p, l, e1, by rw [e2]⟩
        | _ => exact h1.elim
      | succ i =>
        obtain ⟨sl, q1, q2⟩ := ih i dv (by simpa using h)
        exact ⟨sl, by simpa using q1, q2⟩
/-- a def's body, by data -/
def bodyD (d : DS) (m : Nat) : FD := fun as n P => d { nx := fun s => P .none s.n, rt := fun v s => P v s.n } ⟨as ++ List.replicate m .un, n⟩
theorem body_ok {K : PySem.W.Frag} {d : DS} {N : List Str} {k : Nat} {vs : List V} {H : Hp} {Q : VK} {X : TS → Prop} (h : ∀ W B H0 G0 Z0, ∃ t, X t ∧ RS ⟨K, W, B, H0, G0, Z0⟩ t d) (hsp : spOf K k (bodyD d (N.length - k)) vs H Q E0) : ∃ t, X t ∧ t { nx := fun _ H' => Q .non H', rt := Q } (L2.start N vs) H := by
  obtain ⟨hl, W, S0, n, as, P, T, dk, hm, ha, hF, q⟩ := hsp
  obtain ⟨t, hX, h⟩ := h W S0 H (fun _ _ => False) (fun _ _ => False)
  refine ⟨t, hX, ?_⟩
  unfold L2.start
  rw [hl]
  refine h (DC.base ⟨K, W, S0, H, fun _ _ => False, fun _ _ => False⟩) rfl _ _ hF _ H _ (rl_start _ T dk hm ha) ⟨fun σ H' s hp R => ?_, fun σ v H' d s hp R hv => ?_, fun _ _ _ h => h.elim, fun _ _ _ h => h.elim⟩
  · exact q _ H' _ _ hp R.dk R.but .non
  · exact q v H' d s.n hp R.dk R.but (hv.of (hd_mono fun b hb => .inl hb))
section
variable {P : Program} {w : World} {K : PySem.W.Frag} {mg : Str → Option Value} {base : Heap} {k : Nat} {f : Addr} {fd : FuncData} {ps : List Str}
/-- a def does what its body does -/
theorem okd {x qual : Str} {st : Stmt} {N : List Str} {d : DS} {m : Nat} (hm : ps.length = m) (F : L2.Fun K x qual st f fd) (S : FnScope N ps (defScope st))
    (body : ∀ (cdv : Value) (A : Around) (outer : List Env) (s : Shared) (H : Hp), Rm k (A.deeper (envOfC qual (defScope st) s.heap.objs.size f cdv)) → ∀ W B H0 G0 Z0,
      ∃ t, PSs (cxOf CX0 P w K mg base N qual (defScope st) f cdv A outer s H E0).nox (defBody st) t ∧ RS ⟨K, W, B, H0, G0, Z0⟩ t d) :
    Fg P w K mg base (k + 1) f fd ps (spOf K m (bodyD d (N.length - m))) :=
  okg F S (fun vs H Q h => by rw [h.1]; exact hm.symm) fun cdv A outer s H vs Q hr h => body_ok (body cdv A outer s H hr) h
end
end DL

set_option Elab.async false
set_option linter.all false
set_option maxRecDepth 100000
set_option maxHeartbeats 4000000
/-! DLd: loops and comprehensions told by data alone. -/
namespace DL
open PySem PySem.Spec PyProof.Rows L2 GG DD PT
def DC.more (C : DC) (G' : V → PyData → Prop) : DC := { C with G := fun x y => C.G x y ∨ G' x y, gsub := fun x y h => .inl (C.gsub x y h) }
section
variable {C : DC} {σ : L2.St} {H : Hp} {s : DSt}
theorem Rl.more (R : Rl C σ H s) {G' : V → PyData → Prop} (h : ∀ v d, G' v d → Da C.K (Hd (Sof C σ s.sl) H) v d) : Rl (C.more G') σ H s :=
  ⟨R.len, R.slots, R.nd, R.fr, R.dk, R.but, R.tk, fun x y z => z.elim (R.gh x y) (h x y), R.fz⟩
theorem Rl.less {G' : V → PyData → Prop} (R : Rl (C.more G') σ H s) : Rl C σ H s := ⟨R.len, R.slots, R.nd, R.fr, R.dk, R.but, R.tk, fun x y z => R.gh x y (.inl z), R.fz⟩
end
/-- data, or (w) a tuple of data that was made on the way -/
def DaF (w : Bool) (K : PySem.W.Frag) (S : Addr → Prop) (H : Hp) (v : V) (d : PyData) : Prop := Da K (Hd S H) v d ∨ (w = true ∧ ∃ a vs ds, v = .ref a ∧ d = .tuple ds ∧ SqT K H a vs ∧ DaAll K (Hd S H) vs ds)
theorem DaF.da {K : PySem.W.Frag} {S : Addr → Prop} {H : Hp} {v : V} {d : PyData} (h : DaF false K S H v d) : Da K (Hd S H) v d := h.elim id fun z => by cases z.1
theorem DaF.tup {w : Bool} {K : PySem.W.Frag} {S : Addr → Prop} {H : Hp} {v : V} {ds : List PyData} (h : DaF w K S H v (.tuple ds)) : ∃ a vs, v = .ref a ∧ SqT K H a vs ∧ DaAll K (Hd S H) vs ds := by
  rcases h with h | ⟨_, a, vs, es, e1, e2, h1, h2⟩
  · exact da_tup h
  · cases e2
    exact ⟨a, vs, e1, h1, h2⟩
/-- an iterator yields these items, as long as the data of G' stands -/
def ItOk (w : Bool) (K : KX) (G' : V → PyData → Prop) (Z' : Addr → HO → Prop) (J : It) (items : List PyData) : Prop := ∀ C : DC, C.K = K → (∀ v d, G' v d → C.G v d) → (∀ a o, Z' a o → C.Z a o) → ∀ (σ : L2.St) (H : Hp) (s : DSt), Rl C σ H s → J.stop items.length H ∧
  ∀ (i : Nat) (d : PyData), items[i]? = some d → J.go i H ∧ ∀ x H', J.yld i H x H' → Rl C σ H' s ∧ Same H H' ∧ DaF w C.K (Sof C σ s.sl) H' x d
def XI (w : Bool) (C : DC) (wi : TI) (s : DSt) (P : List PyData → DSt → Prop) : Prop := ∀ (σ : L2.St) (H : Hp) (R0 : It → Hp → Prop), Rl C σ H s → (∀ J H' items s' G' Z', P items s' → Rl (C.more G') σ H' s' → (∀ a o, Z' a o → C.Z a o) → ItOk w C.K G' Z' J items → R0 J H') → wi σ H R0
def RI (w : Bool) (K : KX) (wi : TI) (di : DA) : Prop := ∀ C : DC, C.K = K → ∀ s P, di s P → XI w C wi s P
variable {K : KX}
theorem ri_list {te : TE} {de : DE} (h : RE K te de) : RI false K (iList K te) (dAsL de) := fun C hC s P hd σ H R0 R q =>
  rd_ilist (h C hC s _ hd σ H _ R fun v H1 d s1 hp R1 hv => by
    cases d with
    | list ds =>
      obtain ⟨a, vs, rfl, k1, k2⟩ := da_list hv
      refine ⟨a, rfl, ⟨vs, sq k1⟩, q _ H1 ds s1 (fun x y => x = .ref a ∧ y = .list ds) (fun _ _ => False) hp (R1.more fun x y z => by
        obtain ⟨rfl, rfl⟩ := z
        exact hv) (fun _ _ z => z.elim) ?_⟩
      intro C' hK hG _ σ' H' s' R'
      obtain ⟨b, us, e, k3, k4⟩ := da_list (R'.gh _ _ (hG _ _ ⟨rfl, rfl⟩))
      cases e
      refine ⟨⟨us, sq k3, by rw [k4.len]; exact Nat.le_refl _⟩, fun i d hi => ?_⟩
      obtain ⟨u, hu, hud⟩ := k4.getD hi
      refine ⟨⟨us, u, sq k3, hu⟩, fun x H2 hy => ?_⟩
      obtain ⟨rfl, hy⟩ := hy
      have e := hy us (sq k3)
      rw [hu] at e
      cases e
      exact ⟨R', Same.refl _, .inl hud⟩
    | _ => exact hp.elim)
theorem ri_tup {te : TE} {de : DE} (h : RE K te de) : RI false K (iTup K te) (dAsU de) := fun C hC s P hd σ H R0 R q => by
  refine h C hC s _ hd σ H _ R fun v H1 d s1 hp R1 hv => ?_
  cases d with
  | tuple ds =>
    obtain ⟨a, vs, rfl, k1, k2⟩ := da_tup hv
    subst hC
    refine ⟨a, rfl, ⟨vs, k1⟩, q _ H1 ds s1 (fun x y => x = .ref a ∧ y = .tuple ds) (fun _ _ => False) hp (R1.more fun x y z => by
      obtain ⟨rfl, rfl⟩ := z
      exact hv) (fun _ _ z => z.elim) ?_⟩
    intro C' hK hG _ σ' H' s' R'
    obtain ⟨b, us, e, k3, k4⟩ := da_tup (R'.gh _ _ (hG _ _ ⟨rfl, rfl⟩))
    cases e
    rw [hK] at k3
    refine ⟨⟨us, k3, by rw [k4.len]; exact Nat.le_refl _⟩, fun i d hi => ?_⟩
    obtain ⟨u, hu, hud⟩ := k4.getD hi
    refine ⟨⟨us, u, k3, hu⟩, fun x H2 hy => ?_⟩
    obtain ⟨rfl, hy⟩ := hy
    have e := hy us k3
    rw [hu] at e
    cases e
    exact ⟨R', Same.refl _, .inl hud⟩
  | _ => exact hp.elim
def rngD (lo : Int) (n : Nat) : List PyData := (List.range n).map fun k => .int (lo + (k : Nat))
theorem it_rng (lo : Int) (n : Nat) : ItOk false K (fun _ _ => False) (fun _ _ => False) (Itr lo n) (rngD lo n) := fun C hK hG _ σ H s R => by
  unfold rngD
  refine ⟨by rw [List.length_map, List.length_range]; exact Nat.le_refl n, fun i d hi => ?_⟩
  rw [List.getElem?_map] at hi
  have hlt : i < n := by
    cases e : (List.range n)[i]? with
    | none => rw [e] at hi; cases hi
    | some k =>
      have := (List.getElem?_eq_some_iff.mp e).1
      rw [List.length_range] at this
      exact this
  rw [List.getElem?_range hlt] at hi
  cases hi
  refine ⟨hlt, fun x H' hy => ?_⟩
  obtain ⟨rfl, rfl⟩ := hy
  exact ⟨R, Same.refl _, .inl (.int _)⟩
def dRng1 (de : DE) : DA := fun s P => de s fun d s1 => match d with
  | .int j => -(2 ^ 62) ≤ j ∧ j < 2 ^ 62 ∧ P (rngD 0 j.toNat) s1
  | _ => False
theorem ri_rng1 {te : TE} {de : DE} (h : RE K te de) : RI false K (iRng1 (tCons te tNil)) (dRng1 de) := fun C hC s P hd σ H R0 R q =>
  rd_rng1 (rd_cons (h C hC s _ hd σ H _ R fun v H1 d s1 hp R1 hv => by
    cases d with
    | int j =>
      cases hv
      exact rd_nil ⟨j, rfl, hp.1, hp.2.1, q _ H1 _ s1 (fun _ _ => False) (fun _ _ => False) hp.2.2 (R1.more fun _ _ z => z.elim) (fun _ _ z => z.elim) (it_rng 0 _)⟩
    | _ => exact hp.elim))
def dRng2 (de df : DE) : DA := fun s P => de s fun d s1 => df s1 fun e s2 => match d, e with
  | .int i, .int j => (-(2 ^ 62) ≤ i ∧ i < 2 ^ 62 ∧ -(2 ^ 62) ≤ j ∧ j < 2 ^ 62) ∧ P (rngD i (j - i).toNat) s2
  | _, _ => False
theorem ri_rng2 {te tf : TE} {de df : DE} (h : RE K te de) (h2 : RE K tf df) : RI false K (iRng2 (tCons te (tCons tf tNil))) (dRng2 de df) := fun C hC s P hd σ H R0 R q => by
  refine rd_cons (Q := fun vs H1 => ∃ i j : Int, vs = [.int i, .int j] ∧ (-(2 ^ 62) ≤ i ∧ i < 2 ^ 62 ∧ -(2 ^ 62) ≤ j ∧ j < 2 ^ 62) ∧ R0 (Itr i (j - i).toNat) H1) (h C hC s _ hd σ H _ R fun v H1 d s1 hd1 R1 hv => rd_cons (h2 C hC s1 _ hd1 σ H1 _ R1 fun w H2 e s2 hp R2 hw => ?_))
  split at hp
  · cases hv
    cases hw
    exact rd_nil ⟨_, _, rfl, hp.1, q _ H2 _ s2 (fun _ _ => False) (fun _ _ => False) hp.2 (R2.more fun _ _ z => z.elim) (fun _ _ z => z.elim) (it_rng _ _)⟩
  · exact hp.elim
/-- enumerate(xs) -/
def enumD (ds : List PyData) : List PyData := ds.zipIdx.map fun p => .tuple [.int (p.2 : Nat), p.1]
theorem enum_get {ds : List PyData} {i : Nat} {d : PyData} (h : (enumD ds)[i]? = some d) : ∃ x, ds[i]? = some x ∧ d = .tuple [.int (i : Nat), x] := by
  unfold enumD at h
  rw [List.getElem?_map, List.getElem?_zipIdx] at h
  cases e : ds[i]? with
  | none => rw [e] at h; cases h
  | some x =>
    rw [e] at h
    exact ⟨x, rfl, by simpa using h.symm⟩
theorem enum_len {ds : List PyData} : (enumD ds).length = ds.length := by unfold enumD; rw [List.length_map, List.length_zipIdx]
def dEnum (de : DE) : DA := fun s P => de s fun d s1 => match d with
  | .list ds => P (enumD ds) s1
  | _ => False
theorem ri_enum {te : TE} {de : DE} (h : RE K te de) : RI true K (iEnum K (tCons te tNil)) (dEnum de) := fun C hC s P hd σ H R0 R q =>
  rd_enum (rd_cons (h C hC s _ hd σ H _ R fun v H1 d s1 hp R1 hv => by
    cases d with
    | list ds =>
      obtain ⟨a, vs, rfl, k1, k2⟩ := da_list hv
      refine rd_nil ⟨a, vs, rfl, sq k1, q _ H1 (enumD ds) s1 (fun x y => x = .ref a ∧ y = .list ds) (fun _ _ => False) hp (R1.more fun x y z => by
        obtain ⟨rfl, rfl⟩ := z
        exact hv) (fun _ _ z => z.elim) ?_⟩
      intro C' hK hG _ σ' H' s' R'
      obtain ⟨b, us, e, k3, k4⟩ := da_list (R'.gh _ _ (hG _ _ ⟨rfl, rfl⟩))
      cases e
      refine ⟨⟨us, sq k3, by rw [k4.len, enum_len]; exact Nat.le_refl _⟩, fun i d hi => ?_⟩
      obtain ⟨x0, hx0, rfl⟩ := enum_get hi
      obtain ⟨u, hu, hud⟩ := k4.getD hx0
      refine ⟨⟨us, u, sq k3, hu⟩, fun x H2 hy => ?_⟩
      obtain ⟨T, z, rfl, nT, rfl, hy⟩ := hy
      have e := hy us (sq k3)
      rw [hu] at e
      cases e
      exact ⟨R'.ext (same_upd nT), same_upd nT, .inr ⟨rfl, T, _, _, rfl, rfl, sqt upd_same, .cons (.int _) (.cons (hud.of (R'.kp nT)) .nil)⟩⟩
    | _ => exact hp.elim))
/-- zip(xs, ys) -/
def zipD (xs ys : List PyData) : List PyData := (xs.zip ys).map fun p => .tuple [p.1, p.2]
def dZip (de df : DE) : DA := fun s P => de s fun d s1 => df s1 fun e s2 => match d, e with
  | .list xs, .list ys => P (zipD xs ys) s2
  | _, _ => False
theorem ri_zip {te tf : TE} {de df : DE} (h : RE K te de) (h2 : RE K tf df) : RI true K (iZip K (tCons te (tCons tf tNil))) (dZip de df) := fun C hC s P hd σ H R0 R q =>
  rd_zip (rd_cons (h C hC s _ hd σ H _ R fun v H1 d s1 hd1 R1 hv => rd_cons (h2 (C.keep v d) hC s1 _ hd1 σ H1 _ (R1.keep hv) fun w H2 e s2 hp R2 hw => by
    obtain ⟨R3, hv3⟩ := R2.kept
    split at hp
    · rename_i xs ys
      obtain ⟨a, vs, rfl, k1, k2⟩ := da_list hv3
      obtain ⟨b, us, rfl, k3, k4⟩ := da_list hw
      refine rd_nil ⟨a, b, vs, us, rfl, sq k1, sq k3, q _ H2 (zipD xs ys) s2 (fun x y => (x = .ref a ∧ y = .list xs) ∨ (x = .ref b ∧ y = .list ys)) (fun _ _ => False) hp (R3.more fun x y z => by
        rcases z with ⟨rfl, rfl⟩ | ⟨rfl, rfl⟩
        · exact hv3
        · exact hw) (fun _ _ z => z.elim) ?_⟩
      intro C' hK hG _ σ' H' s' R'
      obtain ⟨a', vs', e1, j1, j2⟩ := da_list (R'.gh _ _ (hG _ _ (.inl ⟨rfl, rfl⟩)))
      cases e1
      obtain ⟨b', us', e2, j3, j4⟩ := da_list (R'.gh _ _ (hG _ _ (.inr ⟨rfl, rfl⟩)))
      cases e2
      refine ⟨⟨vs', us', sq j1, sq j3, ?_⟩, fun i d hi => ?_⟩
      · unfold zipD
        rw [List.length_map, List.length_zip, j2.len, j4.len]
        omega
      · unfold zipD at hi
        rw [List.getElem?_map] at hi
        cases ez : (xs.zip ys)[i]? with
        | none => rw [ez] at hi; cases hi
        | some pr =>
          rw [ez] at hi
          cases hi
          obtain ⟨x0, y0⟩ := pr
          obtain ⟨z1, z2⟩ := List.getElem?_zip_eq_some.mp ez
          obtain ⟨u1, hu1, hd1⟩ := j2.getD z1
          obtain ⟨u2, hu2, hd2⟩ := j4.getD z2
          refine ⟨⟨vs', us', u1, u2, sq j1, sq j3, hu1, hu2⟩, fun x H3 hy => ?_⟩
          obtain ⟨T, p1, p2, rfl, nT, rfl, y1, y2⟩ := hy
          have e1 := y1 vs' (sq j1)
          have e2 := y2 us' (sq j3)
          rw [hu1] at e1
          rw [hu2] at e2
          cases e1
          cases e2
          exact ⟨R'.ext (same_upd nT), same_upd nT, .inr ⟨rfl, T, _, _, rfl, rfl, sqt upd_same, .cons (hd1.of (R'.kp nT)) (.cons (hd2.of (R'.kp nT)) .nil)⟩⟩
    · exact hp.elim)))
/-! ### targets -/
abbrev DG := PyData → (DSt → Prop) → DSt → Prop
def RG (w : Bool) (K : KX) (g : TG) (dg : DG) : Prop := ∀ C : DC, C.K = K → ∀ (d : PyData) (N : DSt → Prop) (s : DSt), dg d N s → ∀ (σ : L2.St) (H : Hp) (v : V) (N0 : L2.St → Hp → Prop), Rl C σ H s → DaF w C.K (Sof C σ s.sl) H v d → (∀ σ' s', N s' → Rl C σ' H s' → N0 σ' H) → g v σ H N0
def gdN (i : Nat) : DG := fun d N s => N ⟨s.sl.set i (.dat d), s.n⟩
theorem rg_name {i : Nat} : RG false K (gName i) (gdN i) := fun C hC d N s h σ H v N0 R hv q => q _ _ h (R.set hv.da)
abbrev DGs := List PyData → (DSt → Prop) → DSt → Prop
def RGs (K : KX) (g : TGs) (dg : DGs) : Prop := ∀ C : DC, C.K = K → ∀ (ds : List PyData) (N : DSt → Prop) (s : DSt), dg ds N s → ∀ (σ : L2.St) (H : Hp) (vs : List V) (N0 : L2.St → Hp → Prop), Rl C σ H s → DaAll C.K (Hd (Sof C σ s.sl) H) vs ds → (∀ σ' s', N s' → Rl C σ' H s' → N0 σ' H) → g vs σ H N0
def gdNil : DGs := fun ds N s => ds = [] ∧ N s
def gdCons (a : DG) (b : DGs) : DGs := fun ds N s => match ds with
  | d :: r => a d (fun s1 => b r N s1) s
  | [] => False
theorem rgs_nil : RGs K gNil gdNil := fun C hC ds N s h σ H vs N0 R hv q => by
  obtain ⟨rfl, h⟩ := h
  cases hv
  exact ⟨rfl, q _ _ h R⟩
def pairG (vs : List V) (ds : List PyData) : V → PyData → Prop := fun x y => ∃ i : Nat, vs[i]? = some x ∧ ds[i]? = some y
theorem pair_da {H : Hp} : ∀ {vs : List V} {ds : List PyData}, DaAll K H vs ds → ∀ x y, pairG vs ds x y → Da K H x y := fun h x y ⟨i, h1, h2⟩ => by
  obtain ⟨d, e, hd⟩ := h.get h1
  rw [h2] at e
  cases e
  exact hd
theorem da_pair {H : Hp} : ∀ {vs : List V} {ds : List PyData}, vs.length = ds.length → (∀ x y, pairG vs ds x y → Da K H x y) → DaAll K H vs ds
  | [], [], _, _ => .nil
  | v :: vs, d :: ds, hl, h => .cons (h v d ⟨0, rfl, rfl⟩) (da_pair (by simpa using hl) fun x y ⟨i, h1, h2⟩ => h x y ⟨i + 1, by simpa using h1, by simpa using h2⟩)
  | [], _ :: _, hl, _ => by cases hl
  | _ :: _, [], hl, _ => by cases hl
theorem rgs_cons {t : TG} {u : TGs} {a : DG} {b : DGs} (h1 : RG false K t a) (h2 : RGs K u b) : RGs K (gCons t u) (gdCons a b) := fun C hC ds N s h σ H vs N0 R hv q => by
  cases hv with
  | nil => exact h.elim
  | @cons v r d ds' hv hr =>
    refine ⟨v, r, rfl, ?_⟩
    refine h1 (C.more (pairG r ds')) hC d _ s h σ H v _ (R.more (pair_da hr)) (.inl hv) fun σ' s' hn R' => ?_
    refine h2 C hC ds' N s' hn σ' H r N0 R'.less (da_pair hr.len fun x y z => R'.gh x y (.inr z)) q
def gdTup (n : Nat) (g : DGs) : DG := fun d N s => match d with
  | .tuple ds => ds.length = n ∧ g ds N s
  | _ => False
theorem rg_tup {w : Bool} {n : Nat} {t : TGs} {g : DGs} (h : RGs K t g) : RG w K (gTup K n t) (gdTup n g) := fun C hC d N s hd σ H v N0 R hv q => by
  cases d with
  | tuple ds =>
    obtain ⟨a, vs, rfl, k1, k2⟩ := hv.tup
    exact ⟨a, vs, rfl, hC ▸ k1, by rw [k2.len]; exact hd.1, h C hC ds N s hd.2 σ H vs N0 R k2 q⟩
  | _ => exact hd.elim
/-! ### for -/
def dLoop (g : DG) (b : DS) (E : DEnds) : List PyData → DSt → Prop
  | [], s => E.nx s
  | d :: ds, s => g d (fun s1 => b { nx := fun s2 => dLoop g b E ds s2, rt := E.rt, ct := fun s2 => dLoop g b E ds s2, bk := E.nx } s1) s
def dFor (di : DA) (g : DG) (b : DS) : DS := fun E s => di s fun items s1 => dLoop g b E items s1
theorem rs_for {w : Bool} {wi : TI} {g : TG} {tb : TS} {di : DA} {dg : DG} {db : DS} (hi : RI w K wi di) (hg : RG w K g dg) (hb : RS K tb db) : RS K (tFor wi g tb) (dFor di dg db) := fun C hC E s hd σ H D R o =>
  rd_for (hi C hC s _ hd σ H _ R fun J H1 items s1 G' Z' hp R1 hZ ok => by
    refine for_in items.length (fun i σ' H' => ∃ s', Rl (C.more G') σ' H' s' ∧ dLoop dg db E (items.drop i) s') ⟨s1, R1, hp⟩ (fun σ' H' ⟨s', R', h⟩ => ?_) fun i σ' H' hlt ⟨s', R', h⟩ => ?_
    · rw [List.drop_length] at h
      exact ⟨(ok (C.more G') rfl (fun _ _ z => .inr z) hZ σ' H' s' R').1, o.nx _ _ _ h R'.less⟩
    · obtain ⟨d, hd⟩ : ∃ d, items[i]? = some d := ⟨_, List.getElem?_eq_getElem hlt⟩
      obtain ⟨k1, k2⟩ := (ok (C.more G') rfl (fun _ _ z => .inr z) hZ σ' H' s' R').2 i d hd
      refine ⟨k1, fun N hN x H2 hy => ?_⟩
      obtain ⟨R2, s2, hx⟩ := k2 x H2 hy
      have e : items.drop i = d :: items.drop (i + 1) := by
        rw [List.drop_eq_getElem_cons hlt]
        rw [List.getElem?_eq_getElem hlt] at hd
        rw [Option.some.inj hd]
      rw [e] at h
      refine hg (C.more G') hC d _ s' h σ' H2 x _ R2 hx fun σ3 s3 h3 R3 => ?_
      exact hb (C.more G') hC _ s3 h3 σ3 H2 _ R3 ⟨fun σ4 H4 s4 h4 R4 => hN σ4 H4 ⟨s4, R4, h4⟩, fun σ4 v H4 d4 s4 h4 R4 hv => o.rt σ4 v H4 d4 s4 h4 R4.less hv, fun σ4 H4 s4 h4 R4 => o.nx σ4 H4 s4 h4 R4.less, fun σ4 H4 s4 h4 R4 => hN σ4 H4 ⟨s4, R4, h4⟩⟩)
/-- while: an invariant and a measure are to be given -/
def dWhile (c : DT) (b : DS) : DS := fun E s => ∃ I : Nat → DSt → Prop, (∃ m, I m s) ∧ ∀ m s, I m s → c s fun t s1 => if t = true then b { nx := fun s2 => ∃ m', m' < m ∧ I m' s2, rt := E.rt, ct := fun s2 => ∃ m', m' < m ∧ I m' s2, bk := E.nx } s1 else E.nx s1
theorem rs_while {tc : TT} {tb : TS} {dc : DT} {db : DS} (hc : RT K tc dc) (hb : RS K tb db) : RS K (tWhile tc tb) (dWhile dc db) := fun C hC E s hd σ H D R o => by
  obtain ⟨I, ⟨m, hm⟩, step⟩ := hd
  refine ⟨fun m σ' H' => ∃ s', Rl C σ' H' s' ∧ I m s', ⟨m, s, R, hm⟩, fun m σ' H' ⟨s', R', h'⟩ => ?_⟩
  refine hc C hC s' _ (step m s' h') σ' H' _ R' fun t H2 s2 h2 R2 => ?_
  cases t with
  | false => exact pF (by decide) (o.nx _ _ _ (by simpa using h2) R2)
  | true =>
    refine pT rfl ⟨fun σ3 H3 => ∃ m', m' < m ∧ ∃ s3, Rl C σ3 H3 s3 ∧ I m' s3, fun σ3 H3 ⟨m', l, s3, R3, h3⟩ => ⟨m', l, s3, R3, h3⟩, ?_⟩
    exact hb C hC { nx := fun s2 => ∃ m', m' < m ∧ I m' s2, rt := E.rt, ct := fun s2 => ∃ m', m' < m ∧ I m' s2, bk := E.nx } s2 (by simpa using h2) σ' H2 _ R2 ⟨fun σ4 H4 s4 ⟨m', l, h4⟩ R4 => ⟨m', l, s4, R4, h4⟩, fun σ4 v H4 d4 s4 h4 R4 hv => o.rt σ4 v H4 d4 s4 h4 R4 hv, fun σ4 H4 s4 h4 R4 => o.nx σ4 H4 s4 h4 R4, fun σ4 H4 s4 ⟨m', l, h4⟩ R4 => ⟨m', l, s4, R4, h4⟩⟩
end DL

set_option Elab.async false
set_option linter.all false
set_option maxRecDepth 100000
set_option maxHeartbeats 4000000
/-! DLe: comprehensions, methods of one's own lists. -/
namespace DL
open PySem PySem.Spec PyProof.Rows L2 GG DD PT
variable {K : KX}
section
variable {C : DC} {σ : L2.St} {H : Hp} {s : DSt}
/-- other slots over the same heap -/
theorem Rl.rewire {σ2 : L2.St} {δ2 : List DV} (R : Rl C σ H s) (hl : σ2.length = δ2.length)
    (h : ∀ (i : Nat) (dv : DV), δ2[i]? = some dv → (s.sl[i]? = some dv ∧ σ[i]? = σ2[i]?) ∨ (isOwn dv = false ∧ ∃ sl : Option V, σ2[i]? = some sl ∧ SlotOk C (Sof C σ s.sl) H sl dv)) : Rl C σ2 H ⟨δ2, s.n⟩ ∧ Same (Hd (Sof C σ s.sl) H) (Hd (Sof C σ2 δ2) H) := by
  have key : ∀ {i : Nat} {dv : DV}, δ2[i]? = some dv → isOwn dv = true → s.sl[i]? = some dv ∧ σ[i]? = σ2[i]? := fun {i dv} h1 h2 => by
    rcases h i dv h1 with q | ⟨q, _⟩
    · exact q
    · rw [h2] at q
      cases q
  have hs : Same (Hd (Sof C σ s.sl) H) (Hd (Sof C σ2 δ2) H) := hd_mono fun b z => by
    rcases z with z | z | ⟨i, dv, z1, z2, z3⟩
    · exact .inl z
    · exact .inr (.inl z)
    · obtain ⟨q1, q2⟩ := key z1 z2
      exact .inr (.inr ⟨i, dv, q1, z2, q2.trans z3⟩)
  refine ⟨⟨hl, fun i dv h1 => ?_, fun i j a dv ev h1 h2 h3 h4 h5 h6 => ?_, fun i a dv h1 h2 h3 => ?_, R.dk, R.but, R.tk, fun x y z => (R.gh x y z).of hs, R.fz⟩, hs⟩
  · rcases h i dv h1 with ⟨q1, q2⟩ | ⟨_, sl, q1, q2⟩
    · obtain ⟨sl, e1, e2⟩ := R.slots i dv q1
      exact ⟨sl, q2 ▸ e1, e2.move rfl rfl hs fun _ _ _ _ u => u⟩
    · exact ⟨sl, q1, q2.move rfl rfl hs fun _ _ _ _ u => u⟩
  · obtain ⟨q1, q2⟩ := key h1 h3
    obtain ⟨q3, q4⟩ := key h2 h4
    exact R.nd i j a dv ev q1 q3 h3 h4 (q2.trans h5) (q4.trans h6)
  · obtain ⟨q1, q2⟩ := key h1 h2
    exact R.fr i a dv q1 h2 (q2.trans h3)
def DC.hide (C : DC) (L : Addr) : DC := { C with ex := fun p b => C.ex p b ∨ b = L, sub := fun p b h => .inl (C.sub p b h) }
theorem sof_hide {L b : Addr} {δ : List DV} : Sof (C.hide L) σ δ b ↔ Sof C σ δ b ∨ b = L := by
  constructor
  · rintro ((h | h) | h | h)
    · exact .inl (.inl h)
    · exact .inr h
    · exact .inl (.inr (.inl h))
    · exact .inl (.inr (.inr h))
  · rintro ((h | h | h) | h)
    · exact .inl (.inl h)
    · exact .inr (.inl h)
    · exact .inr (.inr h)
    · exact .inl (.inr h)
/-- a new thing, hidden -/
theorem Rl.hidden (R : Rl C σ H s) {L : Addr} {o : HO} (nL : H L = none) : Rl (C.hide L) σ (upd H L o) s := by
  obtain ⟨n1, n2⟩ := R.new nL
  have hs : Same (Hd (Sof C σ s.sl) H) (Hd (Sof (C.hide L) σ s.sl) (upd H L o)) := fun b u e => by
    obtain ⟨h1, h3⟩ := hd_some e
    have hb : b ≠ L := ne_of_none h3 nL
    rw [hd_ne (fun z => (sof_hide.mp z).elim h1 hb), upd_ne hb]
    exact h3
  refine ⟨R.len, fun i dv h => ?_, R.nd, fun i a dv h1 h2 h3 => ?_, R.dk.same (same_upd nL), R.but.trans (ButW.of (same_upd nL)), fun b hb => ?_, fun x y z => (R.gh x y z).of hs, fun b u h => ⟨.inl (R.fz b u h).1, (R.fz b u h).2.1, by rw [upd_ne (ne_of_none (R.fz b u h).2.2 nL)]; exact (R.fz b u h).2.2⟩⟩
  · obtain ⟨sl, e1, e2⟩ := R.slots i dv h
    exact ⟨sl, e1, e2.move rfl rfl hs fun a ho ea u hu => by rw [upd_ne (ne_of_none hu nL)]; exact hu⟩
  · obtain ⟨f1, f2, f3⟩ := R.fr i a dv h1 h2 h3
    obtain ⟨u, hu⟩ := R.own_at h1 h2 h3
    exact ⟨f1, fun z => z.elim f2 (ne_of_none hu nL), f3⟩
  · rcases hb with hb | rfl
    · obtain ⟨u, hu⟩ := R.tk b hb
      exact ⟨u, by rw [upd_ne (ne_of_none hu nL)]; exact hu⟩
    · exact ⟨o, upd_same⟩
/-- what is hidden changes -/
theorem Rl.hmut {L : Addr} {o : HO} (R : Rl (C.hide L) σ H s) (nM : ¬ Mu C.W L) (n0 : C.H0 L = none) (nZ : ∀ u, ¬ C.Z L u) : Rl (C.hide L) σ (upd H L o) s := by
  have hL : Sof (C.hide L) σ s.sl L := sof_hide.mpr (.inr rfl)
  have hs : Same (Hd (Sof (C.hide L) σ s.sl) H) (Hd (Sof (C.hide L) σ s.sl) (upd H L o)) := hd_upd hL
  refine ⟨R.len, fun i dv h => ?_, R.nd, R.fr, R.dk.upd nM, fun b u h1 h2 => ?_, fun b hb => ?_, fun x y z => (R.gh x y z).of hs, fun b u h => ⟨(R.fz b u h).1, (R.fz b u h).2.1, by rw [upd_ne (fun z : b = L => nZ u (z ▸ h))]; exact (R.fz b u h).2.2⟩⟩
  · obtain ⟨sl, e1, e2⟩ := R.slots i dv h
    exact ⟨sl, e1, e2.move rfl rfl hs fun a ho ea u hu => by
      have f := (R.fr i a dv h ho (ea ▸ e1)).2.1
      rw [upd_ne (fun z => f (.inr z))]
      exact hu⟩
  · have hb : b ≠ L := fun z => by
      subst z
      have h2' : C.H0 b = some u := h2
      rw [n0] at h2'
      cases h2'
    rw [upd_ne hb]
    exact R.but b u h1 h2
  · by_cases e : b = L
    · subst e
      exact ⟨o, upd_same⟩
    · obtain ⟨u, hu⟩ := R.tk b hb
      exact ⟨u, by rw [upd_ne e]; exact hu⟩
def del (H : Hp) (L : Addr) : Hp := fun b => if b = L then none else H b
theorem del_ne {L b : Addr} (h : b ≠ L) : del H L b = H b := if_neg h
theorem del_upd {L : Addr} {o : HO} (h : H L = some o) : upd (del H L) L o = H := by
  funext b
  by_cases e : b = L
  · subst e
    rw [upd_same, h]
  · rw [upd_ne e, del_ne e]
/-- a hidden thing stays as it is -/
def DC.pin (C : DC) (L : Addr) (o : HO) : DC := { C with Z := fun a u => C.Z a u ∨ (a = L ∧ u = o), zsub := fun x y h => .inl (C.zsub x y h) }
theorem Rl.pin (R : Rl C σ H s) {L : Addr} {o : HO} (hS : C.S0 L) (nM : ¬ Mu C.W L) (e : H L = some o) : Rl (C.pin L o) σ H s :=
  ⟨R.len, fun i dv h => by
    obtain ⟨sl, e1, e2⟩ := R.slots i dv h
    exact ⟨sl, e1, e2.move (C' := C.pin L o) rfl rfl (Same.refl _) (fun _ _ _ _ u => u) fun a u z => .inl z⟩, R.nd, R.fr, R.dk, R.but, R.tk, R.gh, fun a u h => h.elim (R.fz a u) fun z => by
    obtain ⟨rfl, rfl⟩ := z
    exact ⟨hS, nM, e⟩⟩
/-- not a dict with tuple keys that is locked -/
def NotLk (o : HO) : Prop := ∀ od es, o ≠ .frz od (.dT es)
theorem Rl.unpin {L : Addr} {o : HO} (R : Rl (C.pin L o) σ H s) (no : NotLk o := by exact fun _ _ h => by cases h) : Rl C σ H s ∧ H L = some o := ⟨⟨R.len, fun i dv h => by
    obtain ⟨sl, e1, e2⟩ := R.slots i dv h
    refine ⟨sl, e1, ?_⟩
    cases dv with
    | lkd a ob kvs =>
      obtain ⟨h1, h2, od, es, h3, h4⟩ := e2
      rcases h2 with h2 | ⟨_, h2⟩
      · exact ⟨h1, h2, od, es, h3, h4⟩
      · exact absurd (h2.symm.trans h3) (no od es)
    | un => trivial
    | dat d => exact e2
    | own ds => exact e2
    | arg _ ds => exact e2
    | owd kvs => exact e2
    | owt kvs => exact e2
    | exc a => exact e2
    | deck => exact e2, R.nd, R.fr, R.dk, R.but, R.tk, R.gh, fun a u h => R.fz a u (.inl h)⟩, (R.fz L o (.inr ⟨rfl, rfl⟩)).2.2⟩
/-- what was hidden goes out of the way -/
theorem Rl.leave {L : Addr} (R : Rl (C.hide L) σ H s) (nS : ¬ C.S0 L) (nM : ¬ Mu C.W L) (n0 : C.H0 L = none) (hZ : ∀ a u, C.Z a u → C.S0 a) : Rl C σ (del H L) s ∧ Same (Hd (Sof (C.hide L) σ s.sl) H) (Hd (Sof C σ s.sl) (del H L)) := by
  have hs : Same (Hd (Sof (C.hide L) σ s.sl) H) (Hd (Sof C σ s.sl) (del H L)) := fun b u e => by
    obtain ⟨h1, h3⟩ := hd_some e
    have hb : b ≠ L := fun z => h1 (sof_hide.mpr (.inr z))
    rw [hd_ne (fun z => h1 (sof_hide.mpr (.inl z))), del_ne hb]
    exact h3
  refine ⟨⟨R.len, fun i dv h => ?_, R.nd, fun i a dv h1 h2 h3 => ?_, ?_, fun b u h1 h2 => ?_, fun b hb => ?_, fun x y z => (R.gh x y z).of hs, fun b u h => ⟨hZ b u h, (R.fz b u h).2.1, by rw [del_ne (fun z : b = L => nS (z ▸ hZ b u h))]; exact (R.fz b u h).2.2⟩⟩, hs⟩
  · obtain ⟨sl, e1, e2⟩ := R.slots i dv h
    refine ⟨sl, e1, e2.move rfl rfl hs fun a ho ea u hu => ?_⟩
    have f := (R.fr i a dv h ho (ea ▸ e1)).2.1
    rw [del_ne (fun z => f (.inr z))]
    exact hu
  · obtain ⟨f1, f2, f3⟩ := R.fr i a dv h1 h2 h3
    exact ⟨f1, fun z => f2 (.inl z), f3⟩
  · have d := R.dk
    show DkOk C.W (del H L) s.n
    have d' : DkOk C.W H s.n := d
    refine ⟨?_, fun t ht => ?_⟩
    · have d2 := d'.dk
      cases hW : C.W with
      | none => trivial
      | some w =>
        rw [hW] at d2 nM
        obtain ⟨⟨m, cs, h1, h2, h3⟩, h4⟩ := d2
        exact ⟨⟨m, cs, by rw [del_ne (fun e => nM (.inl (.inl e.symm)))]; exact h1, by rw [del_ne (fun e => nM (.inl (.inr e.symm)))]; exact h2, h3⟩, h4⟩
    · obtain ⟨ps, h1, h2⟩ := d'.tb t ht
      have ne : t ≠ L := fun e => nM (.inr (by rw [← e]; exact ht))
      exact ⟨ps, by rw [del_ne ne]; exact h1, h2⟩
  · have hb : b ≠ L := fun z => by
      subst z
      rw [n0] at h2
      cases h2
    rw [del_ne hb]
    exact R.but b u h1 h2
  · have e : b ≠ L := fun z => nS (z ▸ hb)
    obtain ⟨u, hu⟩ := R.tk b (.inl hb)
    exact ⟨u, by rw [del_ne e]; exact hu⟩
end
/-! ### slots wiped -/
def wipeD (sl : List DV) : List Nat → List DV
  | [] => sl
  | v :: vs => (wipeD sl vs).set v .un
theorem wipeD_len (sl : List DV) : ∀ vs : List Nat, (wipeD sl vs).length = sl.length
  | [] => rfl
  | v :: vs => by rw [wipeD, List.length_set, wipeD_len sl vs]
theorem wipeD_get (sl : List DV) (i : Nat) : ∀ vs : List Nat, (wipeD sl vs)[i]? = if i ∈ vs then (if i < sl.length then some .un else none) else sl[i]?
  | [] => by simp [wipeD]
  | v :: vs => by
    rw [wipeD, List.getElem?_set, wipeD_len, wipeD_get sl i vs]
    by_cases e : v = i
    · subst e
      simp
    · rw [if_neg e]
      have e' : i ≠ v := fun z => e z.symm
      simp [e']
theorem wipe_get (σ : L2.St) (i : Nat) : ∀ vs : List Nat, (wipe σ vs)[i]? = if i ∈ vs then (if i < σ.length then some none else none) else σ[i]?
  | [] => by simp [wipe]
  | v :: vs => by
    rw [wipe, List.getElem?_set, wipe_length, wipe_get σ i vs]
    by_cases e : v = i
    · subst e
      simp
    · rw [if_neg e]
      have e' : i ≠ v := fun z => e z.symm
      simp [e']
theorem wipe_set {σ : L2.St} {i : Nat} {v : Option V} {vs : List Nat} (h : i ∈ vs) : wipe (σ.set i v) vs = wipe σ vs := by
  apply List.ext_getElem?
  intro j
  rw [wipe_get, wipe_get, List.length_set]
  by_cases e : j ∈ vs
  · rw [if_pos e, if_pos e]
  · rw [if_neg e, if_neg e, List.getElem?_set_ne (fun z : i = j => e (by rw [← z]; exact h))]
section
variable {C : DC} {σ : L2.St} {H : Hp} {s : DSt}
theorem Rl.wiped (R : Rl C σ H s) (vs : List Nat) : Rl C (wipe σ vs) H ⟨wipeD s.sl vs, s.n⟩ ∧ Same (Hd (Sof C σ s.sl) H) (Hd (Sof C (wipe σ vs) (wipeD s.sl vs)) H) := by
  refine R.rewire (by rw [wipe_length, wipeD_len]; exact R.len) fun i dv h => ?_
  rw [wipeD_get] at h
  by_cases e : i ∈ vs
  · rw [if_pos e] at h
    by_cases hl : i < s.sl.length
    · rw [if_pos hl] at h
      cases h
      exact .inr ⟨rfl, none, by rw [wipe_get, if_pos e, if_pos (by rw [R.len]; exact hl)], trivial⟩
    · rw [if_neg hl] at h
      cases h
  · rw [if_neg e] at h
    exact .inl ⟨h, by rw [wipe_get, if_neg e]⟩
/-- the outer slots' data, to be kept -/
def outG (σ : L2.St) (δ : List DV) (vs : List Nat) : V → PyData → Prop := fun v d => ∃ i : Nat, i ∈ vs ∧ δ[i]? = some (.dat d) ∧ σ[i]? = some (some v)
theorem out_da (R : Rl C σ H s) (vs : List Nat) : ∀ v d, outG σ s.sl vs v d → Da C.K (Hd (Sof C σ s.sl) H) v d := fun v d ⟨i, _, h2, h3⟩ => by
  obtain ⟨sl, e1, u, rfl, e2⟩ := R.slots i _ h2
  rw [h3] at e1
  cases e1
  exact e2
/-- no thing of one's own stands in these slots -/
def isLk : DV → Bool
  | .lkd _ _ _ => true
  | .exc _ => true
  | _ => false
def NoOwn (δ : List DV) (vs : List Nat) : Prop := ∀ i, i ∈ vs → ∀ dv, δ[i]? = some dv → isOwn dv = false ∧ isLk dv = false
def noOwnB (δ : List DV) (vs : List Nat) : Bool := vs.all fun i => match δ[i]? with
  | some (.own _) => false
  | some (.arg _ _) => false
  | some (.owd _) => false
  | some (.owt _) => false
  | some (.lkd _ _ _) => false
  | some (.exc _) => false
  | _ => true
theorem noOwn_of {δ : List DV} {vs : List Nat} (h : noOwnB δ vs = true) : NoOwn δ vs := fun i hi dv e => by
  have z := List.all_eq_true.mp h i hi
  rw [e] at z
  cases dv <;> first | exact ⟨rfl, rfl⟩ | cases z
theorem Rl.unwiped {δ : List DV} {n : Nat} {vs : List Nat} (R : Rl C (wipe σ vs) H ⟨wipeD δ vs, n⟩) (hl : σ.length = δ.length) (no : NoOwn δ vs) (hg : ∀ v d, outG σ δ vs v d → C.G v d) (hv : ∀ (i : Nat) (dv : DV), δ[i]? = some dv → ∃ sl : Option V, σ[i]? = some sl ∧ (∀ d, dv = .dat d → ∃ v, sl = some v) ∧ (dv = .deck → ∃ p l, C.W = some (p, l) ∧ sl = some (.ref p))) :
    Rl C σ H ⟨δ, n⟩ ∧ Same (Hd (Sof C (wipe σ vs) (wipeD δ vs)) H) (Hd (Sof C σ δ) H) := by
  refine R.rewire hl fun i dv h => ?_
  by_cases e : i ∈ vs
  · refine .inr ⟨(no i e dv h).1, ?_⟩
    obtain ⟨sl, e1, e2, e3⟩ := hv i dv h
    refine ⟨sl, e1, ?_⟩
    cases dv with
    | un => trivial
    | dat d =>
      obtain ⟨v, rfl⟩ := e2 d rfl
      exact ⟨v, rfl, R.gh v d (hg v d ⟨i, e, h, e1⟩)⟩
    | own ds => exact Bool.noConfusion (no i e _ h).1
    | arg _ ds => exact Bool.noConfusion (no i e _ h).1
    | owd ds => exact Bool.noConfusion (no i e _ h).1
    | owt ds => exact Bool.noConfusion (no i e _ h).1
    | lkd a o ds => exact Bool.noConfusion (no i e _ h).2
    | exc a => exact Bool.noConfusion (no i e _ h).2
    | deck => exact e3 rfl
  · exact .inl ⟨by rw [wipeD_get, if_neg e]; exact h, by rw [wipe_get, if_neg e]⟩
theorem slots_hv (R : Rl C σ H s) : ∀ (i : Nat) (dv : DV), s.sl[i]? = some dv → ∃ sl : Option V, σ[i]? = some sl ∧ (∀ d, dv = .dat d → ∃ v, sl = some v) ∧ (dv = .deck → ∃ p l, C.W = some (p, l) ∧ sl = some (.ref p)) := fun i dv h => by
  obtain ⟨sl, e1, e2⟩ := R.slots i dv h
  refine ⟨sl, e1, fun d e => ?_, fun e => ?_⟩
  · subst e
    obtain ⟨v, h1, _⟩ := e2
    exact ⟨v, h1⟩
  · subst e
    exact e2
end
/-! ### targets that store in these slots alone -/
def RGv (w : Bool) (K : KX) (vs : List Nat) (g : TG) (dg : DG) : Prop := ∀ C : DC, C.K = K → ∀ (d : PyData) (N : DSt → Prop) (s : DSt), dg d N s → ∀ (σ : L2.St) (H : Hp) (v : V) (N0 : L2.St → Hp → Prop), Rl C σ H s → DaF w C.K (Sof C σ s.sl) H v d → (∀ σ' s', N s' → Rl C σ' H s' → wipe σ' vs = wipe σ vs → N0 σ' H) → g v σ H N0
theorem rgv_name {vs : List Nat} {i : Nat} (hi : i ∈ vs) : RGv false K vs (gName i) (gdN i) := fun C hC d N s h σ H v N0 R hv q => q _ _ h (R.set hv.da) (wipe_set hi)
def RGvs (K : KX) (ws : List Nat) (g : TGs) (dg : DGs) : Prop := ∀ C : DC, C.K = K → ∀ (ds : List PyData) (N : DSt → Prop) (s : DSt), dg ds N s → ∀ (σ : L2.St) (H : Hp) (vs : List V) (N0 : L2.St → Hp → Prop), Rl C σ H s → DaAll C.K (Hd (Sof C σ s.sl) H) vs ds → (∀ σ' s', N s' → Rl C σ' H s' → wipe σ' ws = wipe σ ws → N0 σ' H) → g vs σ H N0
theorem rgvs_nil {ws : List Nat} : RGvs K ws gNil gdNil := fun C hC ds N s h σ H vs N0 R hv q => by
  obtain ⟨rfl, h⟩ := h
  cases hv
  exact ⟨rfl, q _ _ h R rfl⟩
theorem rgvs_cons {ws : List Nat} {t : TG} {u : TGs} {a : DG} {b : DGs} (h1 : RGv false K ws t a) (h2 : RGvs K ws u b) : RGvs K ws (gCons t u) (gdCons a b) := fun C hC ds N s h σ H vs N0 R hv q => by
  cases hv with
  | nil => exact h.elim
  | @cons v r d ds' hv hr =>
    refine ⟨v, r, rfl, ?_⟩
    refine h1 (C.more (pairG r ds')) hC d _ s h σ H v _ (R.more (pair_da hr)) (.inl hv) fun σ' s' hn R' hw => ?_
    exact h2 C hC ds' N s' hn σ' H r N0 R'.less (da_pair hr.len fun x y z => R'.gh x y (.inr z)) fun σ2 s2 hn2 R2 hw2 => q σ2 s2 hn2 R2 (hw2.trans hw)
theorem rgv_tup {w : Bool} {ws : List Nat} {n : Nat} {t : TGs} {g : DGs} (h : RGvs K ws t g) : RGv w K ws (gTup K n t) (gdTup n g) := fun C hC d N s hd σ H v N0 R hv q => by
  cases d with
  | tuple ds =>
    obtain ⟨a, vs, rfl, k1, k2⟩ := hv.tup
    exact ⟨a, vs, rfl, hC ▸ k1, by rw [k2.len]; exact hd.1, h C hC ds N s hd.2 σ H vs N0 R k2 q⟩
  | _ => exact hd.elim
/-- such a target's data side: monotone, and it changes these slots alone -/
structure GW (vs : List Nat) (g : DG) : Prop where
  mono : ∀ (d : PyData) (N N' : DSt → Prop) (s : DSt), (∀ s, N s → N' s) → g d N s → g d N' s
  w : ∀ (d : PyData) (N : DSt → Prop) (s : DSt), g d N s → g d (fun s2 => N s2 ∧ wipeD s2.sl vs = wipeD s.sl vs) s
structure GWs (vs : List Nat) (g : DGs) : Prop where
  mono : ∀ (d : List PyData) (N N' : DSt → Prop) (s : DSt), (∀ s, N s → N' s) → g d N s → g d N' s
  w : ∀ (d : List PyData) (N : DSt → Prop) (s : DSt), g d N s → g d (fun s2 => N s2 ∧ wipeD s2.sl vs = wipeD s.sl vs) s
theorem wipeD_set {sl : List DV} {i : Nat} {v : DV} {vs : List Nat} (h : i ∈ vs) : wipeD (sl.set i v) vs = wipeD sl vs := by
  apply List.ext_getElem?
  intro j
  rw [wipeD_get, wipeD_get, List.length_set]
  by_cases e : j ∈ vs
  · rw [if_pos e, if_pos e]
  · rw [if_neg e, if_neg e, List.getElem?_set_ne (fun z : i = j => e (by rw [← z]; exact h))]
theorem gw_name {vs : List Nat} {i : Nat} (h : i ∈ vs) : GW vs (gdN i) := ⟨fun d N N' s hN h' => hN _ h', fun d N s h' => ⟨h', wipeD_set h⟩⟩
theorem gws_nil {vs : List Nat} : GWs vs gdNil := ⟨fun d N N' s hN h' => ⟨h'.1, hN _ h'.2⟩, fun d N s h' => ⟨h'.1, h'.2, rfl⟩⟩
theorem gws_cons {vs : List Nat} {a : DG} {b : DGs} (h1 : GW vs a) (h2 : GWs vs b) : GWs vs (gdCons a b) := ⟨fun d N N' s hN h' => by
    cases d with
    | nil => exact h'.elim
    | cons d r => exact h1.mono d _ _ s (fun s1 h => h2.mono r N N' s1 hN h) h', fun d N s h' => by
    cases d with
    | nil => exact h'.elim
    | cons d r =>
      refine h1.mono d _ _ s (fun s1 h => ?_) (h1.w d _ s h')
      exact h2.mono r _ _ s1 (fun s2 z => ⟨z.1, z.2.trans h.2⟩) (h2.w r N s1 h.1)⟩
theorem gw_tup {vs : List Nat} {n : Nat} {g : DGs} (h : GWs vs g) : GW vs (gdTup n g) := ⟨fun d N N' s hN h' => by
    cases d with
    | tuple ds => exact ⟨h'.1, h.mono ds N N' s hN h'.2⟩
    | _ => exact h'.elim, fun d N s h' => by
    cases d with
    | tuple ds => exact ⟨h'.1, h.w ds N s h'.2⟩
    | _ => exact h'.elim⟩
/-! ### comprehensions -/
def RTs (K : KX) (tt : TT) (dt : DT) : Prop := RT K tt dt
def dYes : DT := fun s P => P true s
theorem rt_yes : RT K tYes dYes := fun C hC s P h σ H Q R q => q true H s h R
def dLc (g : DG) (t : DT) (e : DE) (base : List DV) : List PyData → List PyData → Nat → (List PyData → Nat → Prop) → Prop
  | [], acc, n, P => P acc n
  | d :: ds, acc, n, P => g d (fun s1 => t s1 fun b s2 => if b = true then e s2 fun y s3 => s3.sl = s1.sl ∧ dLc g t e base ds (acc ++ [y]) s3.n P else s2.sl = s1.sl ∧ dLc g t e base ds acc s2.n P) ⟨base, n⟩
def dComp (di : DA) (g : DG) (t : DT) (e : DE) (vs : List Nat) : DA := fun s P => di s fun items s1 => items.length ≤ 1000 ∧ noOwnB s1.sl vs = true ∧ dLc g t e (wipeD s1.sl vs) items [] s1.n fun acc n => P acc ⟨s1.sl, n⟩
theorem rf_comp {w : Bool} {wi : TI} {g : TG} {tt : TT} {te : TE} {vs : List Nat} {di : DA} {dg : DG} {dt : DT} {de : DE} (hi : RI w K wi di) (hg : RGv w K vs g dg) (hgw : GW vs dg) (ht : RT K tt dt) (he : RE K te de) : RF K (tLc wi g tt te vs) (dComp di dg dt de vs) := fun C hC s P hd σ H Q R q =>
  rd_lc (hi C hC s _ hd σ H _ R fun J H1 items s1 G' Z' hp R1 hZ' ok => by
    obtain ⟨hlen, no, hp⟩ := hp
    have no := noOwn_of no
    have hv := slots_hv R1
    generalize hC1 : (C.more G').more (outG σ s1.sl vs) = C1
    have cK : C1.K = C.K := by rw [← hC1]; rfl
    have cG : ∀ v d, G' v d → C1.G v d := fun v d z => by rw [← hC1]; exact .inl (.inr z)
    have cO : ∀ v d, outG σ s1.sl vs v d → C1.G v d := fun v d z => by rw [← hC1]; exact .inr z
    have R1' : Rl C1 σ H1 s1 := by rw [← hC1]; exact R1.more (out_da R1 vs)
    have cB : ∀ {H' : Hp} {s' : DSt}, Rl C1 σ H' s' → Rl C σ H' s' := fun {H' s'} z => by
      rw [← hC1] at z
      exact z.less.less
    have cW : C1.W = C.W := by rw [← hC1]; rfl
    have cS : Sof C1 σ s1.sl = Sof C σ s1.sl := by rw [← hC1]; rfl
    have cZ : ∀ a o, Z' a o → C1.Z a o := fun a o z => by rw [← hC1]; exact hZ' a o z
    clear hC1
    have idem : wipe (wipe σ vs) vs = wipe σ vs := by
      apply List.ext_getElem?
      intro j
      rw [wipe_get, wipe_get, wipe_length]
      by_cases e : j ∈ vs
      · rw [if_pos e, if_pos e]
      · rw [if_neg e, if_neg e]
    have idemD : wipeD (wipeD s1.sl vs) vs = wipeD s1.sl vs := by
      apply List.ext_getElem?
      intro j
      rw [wipeD_get, wipeD_get, wipeD_len]
      by_cases e : j ∈ vs
      · rw [if_pos e, if_pos e]
      · rw [if_neg e, if_neg e]
    refine lc_in items.length hlen (fun L i acc H' => H1 L = none ∧ ∃ ds n', Rl (C1.hide L) (wipe σ vs) H' ⟨wipeD s1.sl vs, n'⟩ ∧ DaAll C.K (Hd (Sof (C1.hide L) (wipe σ vs) (wipeD s1.sl vs)) H') acc ds ∧ dLc dg dt de (wipeD s1.sl vs) (items.drop i) ds n' fun acc n => P acc ⟨s1.sl, n⟩)
      (fun L nL => ⟨nL, [], s1.n, ((R1'.wiped vs).1).hidden nL, .nil, hp⟩) (fun L acc H' e1 ⟨nL, ds, n', R2, hda, h⟩ => ?_) fun L i acc H' hlt e1 ⟨nL, ds, n', R2, hda, h⟩ => ?_
    · obtain ⟨n1, n2⟩ := R1'.new nL
      rw [List.drop_length] at h
      refine ⟨(ok (C1.hide L) cK (fun v d z => cG v d z) cZ (wipe σ vs) H' ⟨_, n'⟩ R2).1, ?_⟩
      obtain ⟨R3, hs3⟩ := R2.leave (fun z => n1 (.inl z)) (fun z => n1 (.inr (.inl z))) n2 fun a u z => (R1'.fz a u z).1
      obtain ⟨R4, hs4⟩ := R3.unwiped R1.len no cO (cW ▸ hv)
      have hq := q L acc (del H' L) ds ⟨s1.sl, n'⟩ h (cB R4) (if_pos rfl) (by
        have z := (hda.of hs3).of hs4
        rw [cS] at z
        exact z)
      rw [del_upd e1] at hq
      exact hq
    · obtain ⟨n1, n2⟩ := R1'.new nL
      have nZ : ∀ u, ¬ C1.Z L u := fun u z => n1 (.inl (R1'.fz L u z).1)
      obtain ⟨d, hd⟩ : ∃ d, items[i]? = some d := ⟨_, List.getElem?_eq_getElem hlt⟩
      obtain ⟨k1, k2⟩ := (ok (C1.hide L) cK cG cZ (wipe σ vs) H' ⟨_, n'⟩ R2).2 i d hd
      refine ⟨k1, fun Pk Rk hPk hRk x H2 hy => ?_⟩
      obtain ⟨R3, s23, hx⟩ := k2 x H2 hy
      have e : items.drop i = d :: items.drop (i + 1) := by
        rw [List.drop_eq_getElem_cons hlt]
        rw [List.getElem?_eq_getElem hlt] at hd
        rw [Option.some.inj hd]
      rw [e] at h
      have h' := hgw.w d _ _ h
      -- the items so far are kept; the new list stays
      generalize hC2 : ((C1.hide L).pin L (.lst acc)).more (pairG acc ds) = C2
      have cK2 : C2.K = K := by rw [← hC2]; exact cK.trans hC
      have R3k : Rl C2 (wipe σ vs) H2 ⟨wipeD s1.sl vs, n'⟩ := by
        rw [← hC2]
        refine (R3.pin (.inr rfl) (fun z => n1 (.inr (.inl z))) (s23 _ _ e1)).more ?_
        have z := pair_da (hda.of (hdS s23))
        rw [← cK] at z
        exact z
      have down : ∀ {H4 : Hp} {δ : List DV} {m : Nat}, Rl C2 (wipe σ vs) H4 ⟨δ, m⟩ → Rl (C1.hide L) (wipe σ vs) H4 ⟨δ, m⟩ ∧ H4 L = some (.lst acc) ∧ DaAll C.K (Hd (Sof (C1.hide L) (wipe σ vs) δ) H4) acc ds := fun {H4 δ m} z => by
        rw [← hC2] at z
        refine ⟨z.less.unpin.1, z.less.unpin.2, ?_⟩
        have z2 := da_pair hda.len fun x y w => z.gh x y (.inr w)
        have z3 : DaAll C1.K (Hd (Sof (C1.hide L) (wipe σ vs) δ) H4) acc ds := z2
        rw [cK] at z3
        exact z3
      have cS2 : ∀ (τ : L2.St) (δ : List DV), Sof C2 τ δ = Sof (C1.hide L) τ δ := fun τ δ => by rw [← hC2]; rfl
      have cx2 : Sof C2 (wipe σ vs) (wipeD s1.sl vs) = Sof (C1.hide L) (wipe σ vs) (wipeD s1.sl vs) := cS2 _ _
      have cKx : C2.K = C.K := cK2.trans hC.symm
      have hx2 : DaF w C2.K (Sof C2 (wipe σ vs) (wipeD s1.sl vs)) H2 x d := by
        rw [cx2, cKx, ← cK]
        exact hx
      clear hC2
      refine hg C2 cK2 d _ ⟨_, n'⟩ h' (wipe σ vs) H2 x _ R3k hx2 fun σ2 s2 hn R4 hw => ?_
      obtain ⟨hn, hwD⟩ := hn
      have hwD : wipeD s2.sl vs = wipeD s1.sl vs := hwD.trans idemD
      have hww : wipe σ2 vs = wipe σ vs := hw.trans idem
      refine ⟨hww, ?_⟩
      have back : ∀ {H4 : Hp} {s4 : DSt}, Rl C2 σ2 H4 s4 → s4.sl = s2.sl → Rl C2 (wipe σ vs) H4 ⟨wipeD s1.sl vs, s4.n⟩ ∧ Same (Hd (Sof C2 σ2 s4.sl) H4) (Hd (Sof C2 (wipe σ vs) (wipeD s1.sl vs)) H4) := fun {H4 s4} R5 e5 => by
        have w := R5.wiped vs
        rw [hww, e5, hwD] at w
        rw [e5]
        exact w
      refine ht C2 cK2 s2 _ hn σ2 H2 _ R4 fun b H3 s3 hb R5 => ?_
      cases b with
      | false =>
        refine pF (by decide) ?_
        have hb' : s3.sl = s2.sl ∧ dLc dg dt de (wipeD s1.sl vs) (items.drop (i + 1)) ds s3.n fun acc n => P acc ⟨s1.sl, n⟩ := by simpa using hb
        obtain ⟨R6, hs6⟩ := back R5 hb'.1
        obtain ⟨R7, eL, hacc⟩ := down R6
        exact hRk H3 eL ⟨nL, ds, s3.n, R7, hacc, hb'.2⟩
      | true =>
        refine pT rfl ?_
        have hb' := hb
        rw [if_pos rfl] at hb'
        refine he C2 cK2 s3 _ hb' σ2 H3 _ R5 fun y H4 dy s4 hy4 R6 hyd => ?_
        obtain ⟨R7, hs7⟩ := back R6 hy4.1
        obtain ⟨R8, eL, hacc⟩ := down R7
        have hL : Sof (C1.hide L) (wipe σ vs) (wipeD s1.sl vs) L := sof_hide.mpr (.inr rfl)
        have hyd2 := hyd.of hs7
        rw [cx2, cKx] at hyd2
        exact hPk y H4 eL ⟨nL, ds ++ [dy], s4.n, R8.hmut (fun z => n1 (.inr (.inl z))) n2 nZ, (hacc.append (.cons hyd2 .nil)).of (hd_upd hL), hy4.2⟩)
end DL

set_option Elab.async false
set_option linter.all false
set_option maxRecDepth 100000
set_option maxHeartbeats 4000000
/-! DLf: methods of one's own lists, repr, isinstance, dicts, told by data. -/
namespace DL
open PySem PySem.Spec PyProof.Rows L2 GG DD PT
variable {K : KX}
theorem own_at {C : DC} {σ : L2.St} {H : Hp} {s : DSt} (R : Rl C σ H s) {i : Nat} {ds : List PyData} (e : s.sl[i]? = some (.own ds)) : ∃ a vs, σ[i]? = some (some (V.ref a)) ∧ H a = some (.lst vs) ∧ DaAll C.K (Hd (Sof C σ s.sl) H) vs ds := by
  obtain ⟨sl, h1, a, vs, rfl, h2, h3⟩ := R.slots i _ e
  exact ⟨a, vs, h1, h2, h3⟩
theorem own_mut {C : DC} {σ : L2.St} {H : Hp} {s : DSt} (R : Rl C σ H s) {i : Nat} {a : Addr} {ds es : List PyData} {us : List V} (e : s.sl[i]? = some (.own ds)) (h1 : σ[i]? = some (some (V.ref a))) (h : DaAll C.K (Hd (Sof C σ s.sl) H) us es) :
    Rl C σ (upd H a (.lst us)) ⟨s.sl.set i (.own es), s.n⟩ ∧ Same (Hd (Sof C σ s.sl) H) (Hd (Sof C σ (s.sl.set i (.own es))) (upd H a (.lst us))) := by
  have R2 := R.mut (o := .lst us) (ev := .own es) e rfl rfl h1 fun hs => ⟨a, us, rfl, upd_same, h.of hs⟩
  refine ⟨R2, fun b u z => ?_⟩
  obtain ⟨z1, z2⟩ := hd_some z
  have sa : Sof C σ s.sl a := .inr (.inr ⟨i, _, e, rfl, h1⟩)
  have hb : b ≠ a := fun w => z1 (w ▸ sa)
  have nb : ¬ Sof C σ (s.sl.set i (.own es)) b := fun w => by
    rcases w with w | w | ⟨j, dv, w1, w2, w3⟩
    · exact z1 (.inl w)
    · exact z1 (.inr (.inl w))
    · by_cases ej : i = j
      · subst ej
        rw [h1] at w3
        cases w3
        exact hb rfl
      · rw [List.getElem?_set_ne ej] at w1
        exact z1 (.inr (.inr ⟨j, dv, w1, w2, w3⟩))
  rw [hd_ne nb, upd_ne hb]
  exact z2
def isOwnL : Option DV → Prop
  | some (.own _) => True
  | _ => False
/-- x.append(e) -/
def dApp (i : Nat) (de : DE) : DS := fun E s => isOwnL s.sl[i]? ∧ de s fun d s1 => match s1.sl[i]? with
  | some (.own ds) => ds.length < 1000000 ∧ E.nx ⟨s1.sl.set i (.own (ds ++ [d])), s1.n⟩
  | _ => False
theorem ty_list {H : Hp} {a : Addr} {vs : List V} (e : H a = some (.lst vs)) : tyV K "list" (.ref a) H := .inl ⟨rfl, vs, sq e⟩
theorem own_first {C : DC} {σ : L2.St} {H : Hp} {s : DSt} (R : Rl C σ H s) {i : Nat} (h : isOwnL s.sl[i]?) : ∃ a vs, σ[i]? = some (some (V.ref a)) ∧ H a = some (.lst vs) := by
  cases e : s.sl[i]? with
  | none => rw [e] at h; exact h.elim
  | some dv =>
    cases dv with
    | own ds =>
      obtain ⟨a, vs, h1, h2, _⟩ := own_at R e
      exact ⟨a, vs, h1, h2⟩
    | _ => rw [e] at h; exact h.elim
theorem rs_app {i : Nat} {te : TE} {de : DE} (h : RE K te de) : RS K (tDrop (tBM K "list" rAppend (tVar i) (tCons te tNil))) (dApp i de) := fun C hC E s hd σ H D R o => by
  obtain ⟨a, vs, h1, h2⟩ := own_first R hd.1
  refine ⟨_, h1, ty_list h2, h C hC s _ hd.2 σ H _ R fun v H1 d s1 hp R1 hv => rd_nil ?_⟩
  cases e : s1.sl[i]? with
  | none => rw [e] at hp; exact hp.elim
  | some dv =>
    cases dv with
    | own ds =>
      rw [e] at hp
      obtain ⟨b, us, k1, k2, k3⟩ := own_at R1 e
      rw [h1] at k1
      cases k1
      refine ⟨a, us, v, rfl, rfl, k2, by rw [k3.len]; exact Nat.lt_of_lt_of_le hp.1 sz6, o.nx _ _ _ hp.2 (own_mut R1 e h1 (k3.append (.cons hv .nil))).1⟩
    | _ => rw [e] at hp; exact hp.elim
/-- x.extend(a list) -/
def dExt (i : Nat) (de : DE) : DS := fun E s => isOwnL s.sl[i]? ∧ de s fun d s1 => match s1.sl[i]?, d with
  | some (.own ds), .list es => ds.length + es.length ≤ 1000000 ∧ E.nx ⟨s1.sl.set i (.own (ds ++ es)), s1.n⟩
  | _, _ => False
theorem rs_ext {i : Nat} {te : TE} {de : DE} (h : RE K te de) : RS K (tDrop (tBM K "list" rExtend (tVar i) (tCons te tNil))) (dExt i de) := fun C hC E s hd σ H D R o => by
  obtain ⟨a, vs, h1, h2⟩ := own_first R hd.1
  refine ⟨_, h1, ty_list h2, h C hC s _ hd.2 σ H _ R fun v H1 d s1 hp R1 hv => rd_nil ?_⟩
  cases e : s1.sl[i]? with
  | none => rw [e] at hp; exact hp.elim
  | some dv =>
    cases dv with
    | own ds =>
      rw [e] at hp
      cases d with
      | list es =>
        obtain ⟨b, us, k1, k2, k3⟩ := own_at R1 e
        rw [h1] at k1
        cases k1
        obtain ⟨c, ws, rfl, k4, k5⟩ := da_list hv
        refine ⟨a, c, us, ws, rfl, rfl, k2, k4, by rw [k3.len, k5.len]; exact Nat.le_trans hp.1 sz6, o.nx _ _ _ hp.2 (own_mut R1 e h1 (k3.append k5)).1⟩
      | _ => exact hp.elim
    | _ => rw [e] at hp; exact hp.elim
/-- x.pop() -/
def dPop (i : Nat) : DE := fun s P => match s.sl[i]? with
  | some (.own ds) => ∃ d, ds[ds.length - 1]? = some d ∧ P d ⟨s.sl.set i (.own ds.dropLast), s.n⟩
  | _ => False
theorem DaAll.dropLast {H : Hp} {vs : List V} {ds : List PyData} (h : DaAll K H vs ds) : DaAll K H vs.dropLast ds.dropLast := by
  rw [List.dropLast_eq_take, List.dropLast_eq_take, h.len]
  exact h.take _
theorem re_pop {i : Nat} : RE K (tBM0 K "list" rPop (tVar i)) (dPop i) := fun C hC s P hd σ H Q R q => by
  unfold dPop at hd
  split at hd
  · rename_i ds e
    obtain ⟨d, hx, hp⟩ := hd
    obtain ⟨a, vs, h1, h2, h3⟩ := own_at R e
    obtain ⟨v, hv, hvd⟩ := h3.getD hx
    obtain ⟨R2, hs⟩ := own_mut R e h1 h3.dropLast
    exact ⟨_, h1, ty_list h2, a, vs, v, rfl, rfl, h2, by rw [h3.len]; exact hv, q _ _ _ _ hp R2 (hvd.of hs)⟩
  · exact hd.elim
/-- x.pop(e) -/
def dPopAt (i : Nat) (de : DE) : DE := fun s P => isOwnL s.sl[i]? ∧ de s fun d s1 => match s1.sl[i]?, d with
  | some (.own ds), .int k => -(2 ^ 63) ≤ k ∧ k < 2 ^ 63 ∧ ∃ j x, seqIndex? k ds.length = some j ∧ ds[j]? = some x ∧ P x ⟨s1.sl.set i (.own (ds.eraseIdx j)), s1.n⟩
  | _, _ => False
theorem DaAll.erase {H : Hp} : ∀ {vs : List V} {ds : List PyData} (j : Nat), DaAll K H vs ds → DaAll K H (vs.eraseIdx j) (ds.eraseIdx j)
  | _, _, _, .nil => by
    rw [List.eraseIdx_nil, List.eraseIdx_nil]
    exact .nil
  | _, _, 0, .cons h t => t
  | _, _, j + 1, .cons h t => by
    rw [List.eraseIdx_cons_succ, List.eraseIdx_cons_succ]
    exact .cons h (t.erase j)
theorem re_popAt {i : Nat} {te : TE} {de : DE} (h : RE K te de) : RE K (tBM K "list" rPopAt (tVar i) (tCons te tNil)) (dPopAt i de) := fun C hC s P hd σ H Q R q => by
  obtain ⟨a, vs, h1, h2⟩ := own_first R hd.1
  refine ⟨_, h1, ty_list h2, h C hC s _ hd.2 σ H _ R fun v H1 d s1 hp R1 hv => rd_nil ?_⟩
  cases e : s1.sl[i]? with
  | none => rw [e] at hp; exact hp.elim
  | some dv =>
    cases dv with
    | own ds =>
      rw [e] at hp
      cases d with
      | int k =>
        cases hv
        obtain ⟨b, us, k1, k2, k3⟩ := own_at R1 e
        rw [h1] at k1
        cases k1
        obtain ⟨b1, b2, j, x, e1, e2, hp⟩ := hp
        obtain ⟨v, hv, hvd⟩ := k3.getD e2
        obtain ⟨R2, hs⟩ := own_mut R1 e h1 (k3.erase j)
        exact ⟨a, us, k, j, v, rfl, rfl, k2, b1, b2, by rw [k3.len]; exact e1, hv, q _ _ _ _ hp R2 (hvd.of hs)⟩
      | _ => exact hp.elim
    | _ => rw [e] at hp; exact hp.elim
/-- x != [], x == [] of a list in a slot -/
def dVsNil (neg : Bool) (i : Nat) : DE := fun s P => dListVar i s fun ds s1 => PyData.hasDictAll ds = false ∧ SeqAt.shaped (.list ds) = true ∧ P (.bool (if neg then !ds.isEmpty else ds.isEmpty)) s1
theorem eqv_nil {ds : List PyData} : PyData.eqv (.list ds) (.list []) = ds.isEmpty := by
  cases ds with
  | nil => simp [PyData.eqv, PyData.eqvAll]
  | cons d r => simp [PyData.eqv, PyData.eqvAll]
theorem re_neNil {i : Nat} : RE K (tOp (rNeD K) (tVar i) (tLst tNil)) (dVsNil true i) := fun C hC s P hd σ H Q R q => by
  subst hC
  obtain ⟨a, vs, ds, h1, ⟨hn, hsh, hp⟩, h2, h3⟩ := list_at R hd
  refine rd_op (rd_var h1 (rd_lst (rd_nil ⟨Nat.zero_le _, fun p np => ?_⟩)))
  have s1 := same_upd (o := .lst []) np
  refine ⟨.list ds, .list [], .lst (sq (s1 _ _ h2)) (((h3.of (hd_sub _ H)).of s1).dp ds _ hn), .lst (sq upd_same) .nil, hsh, rfl, ?_⟩
  rw [eqv_nil]
  exact q _ _ _ s hp (R.ext s1) (.bl _)
theorem re_eqNil {i : Nat} : RE K (tOp (rEqD K) (tVar i) (tLst tNil)) (dVsNil false i) := fun C hC s P hd σ H Q R q => by
  subst hC
  obtain ⟨a, vs, ds, h1, ⟨hn, hsh, hp⟩, h2, h3⟩ := list_at R hd
  refine rd_op (rd_var h1 (rd_lst (rd_nil ⟨Nat.zero_le _, fun p np => ?_⟩)))
  have s1 := same_upd (o := .lst []) np
  refine ⟨.list ds, .list [], .lst (sq (s1 _ _ h2)) (((h3.of (hd_sub _ H)).of s1).dp ds _ hn), .lst (sq upd_same) .nil, hsh, rfl, ?_⟩
  rw [eqv_nil]
  exact q _ _ _ s hp (R.ext s1) (.bl _)
/-! ### isinstance -/
def tyD : PyData → String
  | .none => "NoneType"
  | .bool _ => "bool"
  | .int _ => "int"
  | .str _ => "str"
  | .list _ => "list"
  | .tuple _ => "tuple"
  | .dict _ => "dict"
theorem da_ty {H : Hp} {v : V} {d : PyData} (h : Da K H v d) : TyX K H v (.type (tyD d)) := by
  cases h with
  | non => exact .base .non
  | bl b => exact .base (.bl b)
  | int i => exact .base (.int i)
  | str x => exact .base (.str x)
  | lst h1 _ => exact .base (.lst h1)
  | tup h1 _ =>
    rcases h1 with ⟨o, h1, _⟩ | ⟨o, its, n, h1, h2, _⟩
    · exact .fTuple h1
    · exact .kTuple h1 h2
  | dic h1 _ => exact .base (.dK h1)
  | dct h1 _ _ => exact .base (.dT h1)
/-- the answer of isinstance by the two types' names -/
def isaB (t n : String) : Option Bool := PySem.W.kitOne [] (.type t) (.type n)
theorem kit_nil {t n : String} : PySem.W.kitOne K (.type t) (.type n) = isaB t n := by
  unfold isaB PySem.W.kitOne PySem.W.kitCls PySem.W.subIn
  rfl
def dIsi (n : String) (de : DE) : DE := fun s P => de s fun d s1 => ∃ b, isaB (tyD d) n = some b ∧ P (.bool b) s1
theorem re_isi {n : String} {te : TE} {de : DE} (h : RE K te de) : RE K (tCB (rIsi K) (tCons te (tCons (tC (.ty n)) tNil))) (dIsi n de) := fun C hC s P hd σ H Q R q =>
  rd_cb (rd_cons (h C hC s _ hd σ H _ R fun v H1 d s1 hp R1 hv => rd_cons (rd_c (rd_nil (by
    obtain ⟨b, hb, hp⟩ := hp
    have hv' : Da K H1 v d := hC ▸ (hv.of (hd_sub _ H1))
    exact ⟨v, .ty n, _, _, b, rfl, .ty n, da_ty hv', kit_nil.trans hb, q _ H1 _ s1 hp R1 (.bl _)⟩)))))
/-! ### str(int) -/
def dStrI (de : DE) : DE := fun s P => de s fun d s1 => match d with
  | .int i => i.natAbs.log2 < 1920 ∧ P (.str (toString i)) s1
  | _ => False
theorem re_strI {te : TE} {de : DE} (h : RE K te de) : RE K (tCB (fun xs H Q => ∃ i : Int, xs = [.int i] ∧ i.natAbs.log2 < 1920 ∧ Q (.str (toString i)) H) (tCons te tNil)) (dStrI de) := fun C hC s P hd σ H Q R q =>
  rd_cb (rd_cons (h C hC s _ hd σ H _ R fun v H1 d s1 hp R1 hv => by
    cases d with
    | int i =>
      cases hv
      exact rd_nil ⟨i, rfl, hp.1, q _ H1 _ s1 hp.2 R1 (.str _)⟩
    | _ => exact hp.elim))
/-! ### all([..]) of truths -/
def boolsD : List PyData → Option (List Bool)
  | [] => some []
  | .bool b :: r => (boolsD r).map (b :: ·)
  | _ => none
theorem bools_da {H : Hp} : ∀ {vs : List V} {ds : List PyData} {bs : List Bool}, DaAll K H vs ds → boolsD ds = some bs → vs = bs.map V.bl
  | _, _, _, .nil, e => by cases e; rfl
  | _, _, bs, .cons (d := d) h t, e => by
    cases d with
    | bool b =>
      unfold boolsD at e
      obtain ⟨r, e1, e2⟩ := Option.map_eq_some_iff.mp e
      subst e2
      cases h
      rw [bools_da t e1]
      rfl
    | _ => cases e
def dAll (dl : DA) : DE := fun s P => dl s fun ds s1 => ∃ bs, boolsD ds = some bs ∧ P (.bool (bs.all id)) s1
theorem re_all {te : TE} {dl : DA} (h : RL K te dl) : RE K (tCB (rAll K) (tCons te tNil)) (dAll dl) := fun C hC s P hd σ H Q R q =>
  rd_cb (rd_cons (h C hC s _ hd σ H _ R fun a vs H1 ds s1 hp R1 e hv => rd_nil (by
    obtain ⟨bs, hb, hp⟩ := hp
    exact ⟨a, bs, rfl, by rw [← bools_da hv hb]; exact sq e, q _ H1 _ s1 hp R1 (.bl _)⟩)))
end DL

set_option Elab.async false
set_option linter.all false
set_option maxRecDepth 100000
set_option maxHeartbeats 4000000
/-! DLg: more list operations, sorted texts, dicts told by data. -/
namespace DL
open PySem PySem.Spec PyProof.Rows L2 GG DD PT
variable {K : KX}
/-- xs + ys of lists -/
def dCat (da db : DE) : DA := fun s P => da s fun d s1 => db s1 fun e s2 => match d, e with
  | .list a, .list b => a.length + b.length ≤ 1000000 ∧ P (a ++ b) s2
  | _, _ => False
theorem rf_cat {ta tb : TE} {da db : DE} (h1 : RE K ta da) (h2 : RE K tb db) : RF K (tOp rCat ta tb) (dCat da db) := fun C hC s P hd σ H Q R q =>
  rd_op (h1 C hC s _ hd σ H _ R fun v H1 d s1 hd1 R1 hv => h2 (C.keep v d) hC s1 _ hd1 σ H1 _ (R1.keep hv) fun w H2 e s2 hp R2 hw => by
    obtain ⟨R3, hv3⟩ := R2.kept
    split at hp
    · obtain ⟨a, vs, rfl, k1, k2⟩ := da_list hv3
      obtain ⟨b, us, rfl, k3, k4⟩ := da_list hw
      exact ⟨a, b, vs, us, rfl, rfl, k1, k3, by rw [k2.len, k4.len]; exact Nat.le_trans hp.1 sz6, fun p np => q p _ H2 _ s2 hp.2 R3 np (k2.append k4)⟩
    · exact hp.elim)
/-- xs * k of a list -/
def dRep (da db : DE) : DA := fun s P => da s fun d s1 => db s1 fun e s2 => match d, e with
  | .list a, .int k => -(2 ^ 63) ≤ k ∧ k < 2 ^ 63 ∧ a.length * k.toNat ≤ 1000000 ∧ P (List.replicate k.toNat a).flatten s2
  | _, _ => False
theorem rf_rep {ta tb : TE} {da db : DE} (h1 : RE K ta da) (h2 : RE K tb db) : RF K (tOp rRep ta tb) (dRep da db) := fun C hC s P hd σ H Q R q =>
  rd_op (h1 C hC s _ hd σ H _ R fun v H1 d s1 hd1 R1 hv => h2 (C.keep v d) hC s1 _ hd1 σ H1 _ (R1.keep hv) fun w H2 e s2 hp R2 hw => by
    obtain ⟨R3, hv3⟩ := R2.kept
    split at hp
    · obtain ⟨a, vs, rfl, k1, k2⟩ := da_list hv3
      cases hw
      exact ⟨a, _, vs, rfl, rfl, k1, hp.1, hp.2.1, by rw [k2.len]; exact Nat.le_trans hp.2.2.1 sz6, fun p np => q p _ H2 _ s2 hp.2.2.2 R3 np (k2.rep _)⟩
    · exact hp.elim)
/-! ### sorted texts -/
def strsD : List PyData → Option (List Str)
  | [] => some []
  | .str x :: r => (strsD r).map (x :: ·)
  | _ => none
theorem strs_da {H : Hp} : ∀ {vs : List V} {ds : List PyData} {bs : List Str}, DaAll K H vs ds → strsD ds = some bs → vs = bs.map V.str
  | _, _, _, .nil, e => by cases e; rfl
  | _, _, bs, .cons (d := d) h t, e => by
    cases d with
    | str b =>
      unfold strsD at e
      obtain ⟨r, e1, e2⟩ := Option.map_eq_some_iff.mp e
      subst e2
      cases h
      rw [strs_da t e1]
      rfl
    | _ => cases e
theorem da_strs {H : Hp} : ∀ ys : List Str, DaAll K H (ys.map V.str) (ys.map .str)
  | [] => .nil
  | y :: ys => .cons (.str y) (da_strs ys)
def dSortS (dl : DA) : DA := fun s P => dl s fun ds s1 => ∃ xs, strsD ds = some xs ∧ xs.length < 64 ∧ ∀ ys : List Str, ys.Perm xs → sortedS ys = true → P (ys.map .str) s1
theorem rf_sortS {te : TE} {dl : DA} (h : RL K te dl) : RF K (tCB (rSortedS K) (tCons te tNil)) (dSortS dl) := fun C hC s P hd σ H Q R q =>
  rd_cb (rd_cons (h C hC s _ hd σ H _ R fun a vs H1 ds s1 hp R1 e hv => rd_nil (by
    obtain ⟨xs, hx, hl, hp⟩ := hp
    exact ⟨a, xs, rfl, by rw [← strs_da hv hx]; exact sq e, hl, fun ys p hpm hso np => q p _ H1 _ s1 (hp ys hpm hso) R1 np (da_strs ys)⟩)))
/-! ### repr, data without a dict or a dict of flat things -/
def flatKv : List (PyData × PyData) → Bool
  | [] => true
  | (_, d) :: r => (flatD d).isSome && flatKv r
/-- the first key is no tuple -/
def headK : List (PyData × PyData) → Bool
  | [] => true
  | (.tuple _, _) :: _ => false
  | _ => true
theorem headK_dct {H : Hp} {es : List (List L2.Key × V)} {kvs : List (PyData × PyData)} (h : DaKt K H es kvs) (hn : es ≠ []) (e : headK kvs = true) : False := by
  cases h with
  | nil => exact hn rfl
  | cons h t => cases e
def reprOk : PyData → Bool
  | .dict kvs => headK kvs && flatKv kvs
  | d => !d.hasDict
theorem ents_of {H : Hp} : ∀ {es : List (L2.Key × V)} {kvs : List (PyData × PyData)}, DaKv K H es kvs → flatKv kvs = true → entsD es = some kvs
  | _, _, .nil, _ => rfl
  | _, _, .cons (d := d) (v := v) h t, e => by
    unfold flatKv at e
    rw [Bool.and_eq_true] at e
    have t' := ents_of t e.2
    unfold entsD
    have hv : flatV0 v = some d := by
      cases d with
      | none => cases h; rfl
      | bool b => cases h; rfl
      | int i => cases h; rfl
      | str z => cases h; rfl
      | _ => cases e.1
    rw [hv, t']
theorem dt_ofH {S : Addr → Prop} {H : Hp} {v : V} {d : PyData} (h : Da K (Hd S H) v d) (e : reprOk d = true) : Dt K H v d := by
  have h' := h.of (hd_sub S H)
  cases d with
  | dict kvs =>
    cases h' with
    | dic h1 h2 => exact .dic h1 (ents_of h2 (by rw [show reprOk (.dict kvs) = (headK kvs && flatKv kvs) from rfl, Bool.and_eq_true] at e; exact e.2))
    | dct h1 hn h2 => exact (headK_dct h2 hn (by rw [show reprOk (.dict kvs) = (headK kvs && flatKv kvs) from rfl, Bool.and_eq_true] at e; exact e.1)).elim
  | _ => exact .base (h'.dp _ v (by simpa [reprOk] using e))
def dRepr (de : DE) : DE := fun s P => de s fun d s1 => reprOk d = true ∧ d.showable = true ∧ d.depth ≤ 60 ∧ d.shown.length ≤ sizeLine ∧ P (.str d.shown) s1
theorem re_repr {te : TE} {de : DE} (h : RE K te de) : RE K (tCB (rRepr K) (tCons te tNil)) (dRepr de) := fun C hC s P hd σ H Q R q =>
  rd_cb (rd_cons (h C hC s _ hd σ H _ R fun v H1 d s1 hp R1 hv => rd_nil ⟨v, d, rfl, by
    subst hC
    exact dt_ofH hv hp.1, hp.2.1, hp.2.2.1, hp.2.2.2.1, q _ H1 _ s1 hp.2.2.2.2 R1 (.str _)⟩))
end DL

set_option Elab.async false
set_option linter.all false
set_option maxRecDepth 100000
set_option maxHeartbeats 4000000
/-! DLh: negatives, chains, membership, targets of an assignment, a, b = [], e. -/
namespace DL
open PySem PySem.Spec PyProof.Rows L2 GG DD PT
variable {K : KX}
def dNeg (de : DE) : DE := fun s P => de s fun d s1 => match d with
  | .int i => P (.int (-i)) s1
  | _ => False
theorem re_neg {te : TE} {de : DE} (h : RE K te de) : RE K (tUn (rU fun i => .int (-i)) te) (dNeg de) := fun C hC s P hd σ H Q R q =>
  h C hC s _ hd σ H _ R fun v H1 d s1 hp R1 hv => by
    cases d with
    | int i =>
      cases hv
      exact ⟨i, rfl, q _ H1 _ s1 hp R1 (.int _)⟩
    | _ => exact hp.elim
/-- a op b op' c -/
def dChain (r r' : D2) (da db dc : DE) : DE := fun s P => da s fun x s1 => db s1 fun y s2 => r x y fun z => match z with
  | .bool k => if k = true then dc s2 fun w s3 => r' y w fun u => P u s3 else P (.bool false) s2
  | _ => False
theorem re_chain {r r' : R2} {ro ro' : D2} {ta tb tc : TE} {da db dc : DE} (h : RO K r ro) (h' : RO K r' ro') (h1 : RE K ta da) (h2 : RE K tb db) (h3 : RE K tc dc) : RE K (tChain r r' ta tb tc) (dChain ro ro' da db dc) := fun C hC s P hd σ H Q R q =>
  h1 C hC s _ hd σ H _ R fun v H1 d s1 hd1 R1 hv => h2 (C.keep v d) hC s1 _ hd1 σ H1 _ (R1.keep hv) fun w H2 e s2 hp R2 hw => by
    obtain ⟨R3, hv3⟩ := R2.kept
    subst hC
    refine h _ H2 v w d e _ _ R3.taken hv3 hw hp fun z H3 f hf s23 hz => ?_
    have R4 := R3.ext s23
    cases f with
    | bool k =>
      cases hz
      refine ⟨k, rfl, ?_⟩
      cases k with
      | false => exact pF (by decide) (q _ H3 _ s2 (by simpa using hf) R4 (.bl _))
      | true =>
        refine pT rfl (h3 (C.keep w e) rfl s2 _ (by simpa using hf) σ H3 _ (R4.keep (hw.of (hdS s23))) fun w' H4 e' s4 hp4 R5 hw' => ?_)
        obtain ⟨R6, hw6⟩ := R5.kept
        exact h' _ H4 w w' e e' _ _ R6.taken hw6 hw' hp4 fun u H5 g hg s45 hu => q _ H5 _ s4 hg (R6.ext s45) hu
    | _ => exact hf.elim
/-- x in a list or tuple of flat things -/
def flatsD : List PyData → Option (List V)
  | [] => some []
  | d :: r => match flatD d, flatsD r with
    | some v, some vs => some (v :: vs)
    | _, _ => none
theorem flats_da {H : Hp} : ∀ {vs ws : List V} {ds : List PyData}, DaAll K H vs ds → flatsD ds = some ws → vs = ws
  | _, _, _, .nil, e => by cases e; rfl
  | _, _, _, .cons (d := d) (ds := ds) h t, e => by
    unfold flatsD at e
    cases e1 : flatD d with
    | none => rw [e1] at e; cases e
    | some x =>
      cases e2 : flatsD ds with
      | none => rw [e1, e2] at e; cases e
      | some xs =>
        rw [e1, e2] at e
        cases e
        rw [flat_v h e1, flats_da t e2]
def oIn (neg : Bool) : D2 := fun d e P => match flatD d, e with
  | some x, .list ds => ∃ vs, flatsD ds = some vs ∧ flatV x = true ∧ vs.all flatV = true ∧ P (.bool (if neg then !inV x vs else inV x vs))
  | some x, .tuple ds => ∃ vs, flatsD ds = some vs ∧ flatV x = true ∧ vs.all flatV = true ∧ P (.bool (if neg then !inV x vs else inV x vs))
  | _, _ => False
theorem ro_in {neg : Bool} : RO K (rIn K neg) (oIn neg) := fun S H x y d e P Q T hx hy h q => by
  unfold oIn at h
  split at h
  · rename_i z ds e1
    obtain ⟨vs, e2, h1, h2, hp⟩ := h
    obtain ⟨a, us, rfl, k1, k2⟩ := da_list hy
    have e3 := flats_da k2 e2
    subst e3
    have e4 := flat_v hx e1
    subst e4
    exact ⟨a, us, rfl, .inl (sq k1), h1, h2, q _ H _ hp (Same.refl _) (.bl _)⟩
  · rename_i z ds e1
    obtain ⟨vs, e2, h1, h2, hp⟩ := h
    obtain ⟨a, us, rfl, k1, k2⟩ := da_tup hy
    have e3 := flats_da k2 e2
    subst e3
    have e4 := flat_v hx e1
    subst e4
    exact ⟨a, us, rfl, .inr k1, h1, h2, q _ H _ hp (Same.refl _) (.bl _)⟩
  · exact h.elim
/-- (a, b, ..) = e -/
def dAsg (de : DE) (g : DG) : DS := fun E s => de s fun d s1 => g d E.nx s1
theorem rs_asg {te : TE} {g : TG} {de : DE} {dg : DG} (h : RE K te de) (hg : RG false K g dg) : RS K (tAsg te g) (dAsg de dg) := fun C hC E s hd σ H D R o =>
  h C hC s _ hd σ H _ R fun v H1 d s1 hp R1 hv => hg C hC d _ s1 hp σ H1 v _ R1 (.inl hv) fun σ' s' h' R' => o.nx σ' H1 s' h' R'
/-- a new list that was hidden becomes one's own -/
theorem Rl.adopt {C : DC} {σ : L2.St} {H : Hp} {s : DSt} {L : Addr} {vs : List V} {ds : List PyData} {i : Nat} (R : Rl (C.hide L) σ H s) (nS : ¬ C.S0 L) (nM : ¬ Mu C.W L) (n0 : C.H0 L = none) (hZ : ∀ a u, C.Z a u → C.S0 a) (e : H L = some (.lst vs)) (h : DaAll C.K (Hd (Sof (C.hide L) σ s.sl) H) vs ds) (hi : i < s.sl.length) :
    Rl C (σ.set i (some (.ref L))) H ⟨s.sl.set i (.own ds), s.n⟩ := by
  obtain ⟨R2, hs⟩ := R.leave nS nM n0 hZ
  have z := R2.setOwn (i := i) (a := L) (o := .lst vs) (dv := .own ds) (if_pos rfl) hi rfl fun S' hs' => ⟨L, vs, rfl, upd_same, (h.of hs).of hs'⟩
  rw [del_upd e] at z
  exact z
/-- a, b = a new list, e -/
def dParL (i j : Nat) (dl : DA) (de : DE) : DS := fun E s => dl s fun ds s1 => de s1 fun d s2 => i < s2.sl.length ∧ E.nx ⟨(s2.sl.set i (.own ds)).set j (.dat d), s2.n⟩
theorem rs_parL {i j : Nat} {te tf : TE} {dl : DA} {de : DE} (h : RF K te dl) (h2 : RE K tf de) : RS K (tPar i j (tCons te (tCons tf tNil))) (dParL i j dl de) := fun C hC E s hd σ H D R o =>
  h C hC s _ hd σ H _ R fun a vs H1 ds s1 hd1 R1 na hv => by
    obtain ⟨n1, n2⟩ := R1.new na
    have R2 := (R1.hidden (o := .lst vs) na).pin (L := a) (.inr rfl) (fun z => n1 (.inr (.inl z))) upd_same
    have hs : Same (Hd (Sof C σ s1.sl) H1) (Hd (Sof (C.hide a) σ s1.sl) (upd H1 a (.lst vs))) := fun b u e => by
      obtain ⟨z1, z3⟩ := hd_some e
      have hb : b ≠ a := ne_of_none z3 na
      rw [hd_ne (fun z => (sof_hide.mp z).elim z1 hb), upd_ne hb]
      exact z3
    have R2' := R2.more (pair_da (hv.of hs))
    refine h2 (((C.hide a).pin a (.lst vs)).more (pairG vs ds)) hC s1 _ hd1 σ _ _ R2' fun w H2 d s2 hp R3 hw => ⟨_, _, rfl, ?_⟩
    obtain ⟨R4, e4⟩ := R3.less.unpin
    have hds : DaAll C.K (Hd (Sof (C.hide a) σ s2.sl) H2) vs ds := da_pair hv.len fun x y z => R3.gh x y (.inr z)
    have hw' : Da C.K (Hd (Sof (C.hide a) σ s2.sl) H2) w d := hw
    have R5 := (R4.keep (v := w) (d := d) hw')
    have R6 := Rl.adopt (C := C.keep w d) (i := i) R5 (fun z => n1 (.inl z)) (fun z => n1 (.inr (.inl z))) n2 (fun b u z => (R1.fz b u z).1) e4 hds hp.1
    obtain ⟨R7, hw7⟩ := R6.kept
    exact o.nx _ H2 _ hp.2 (R7.set hw7)
/-- a, b = e, a new list -/
def dParR (i j : Nat) (de : DE) (dl : DA) : DS := fun E s => de s fun d s1 => dl s1 fun ds s2 => i ≠ j ∧ j < s2.sl.length ∧ E.nx ⟨(s2.sl.set i (.dat d)).set j (.own ds), s2.n⟩
theorem rs_parR {i j : Nat} {te tf : TE} {dl : DA} {de : DE} (h : RE K te de) (h2 : RF K tf dl) : RS K (tPar i j (tCons te (tCons tf tNil))) (dParR i j de dl) := fun C hC E s hd σ H D R o =>
  h C hC s _ hd σ H _ R fun w H1 d s1 hd1 R1 hw => h2 (C.keep w d) hC s1 _ hd1 σ H1 _ (R1.keep hw) fun a vs H2 ds s2 hp R2 na hv => by
    refine ⟨_, _, rfl, ?_⟩
    obtain ⟨R3, hw3⟩ := R2.kept
    have R4 := (R3.keep (v := w) (d := d) hw3).set (i := i) hw3
    have hs : Same (Hd (Sof C σ s2.sl) H2) (Hd (Sof C (σ.set i (some w)) (s2.sl.set i (.dat d))) H2) := hd_mono fun b z => sof_set (s := s2) rfl b z
    have hv' : DaAll C.K (Hd (Sof C (σ.set i (some w)) (s2.sl.set i (.dat d))) H2) vs ds := (show DaAll C.K (Hd (Sof C σ s2.sl) H2) vs ds from hv).of hs
    obtain ⟨R5, _⟩ := R4.kept
    exact o.nx _ _ _ hp.2.2 (R5.setOwn na (by rw [List.length_set]; exact hp.2.1) rfl fun S' hs' => ⟨a, vs, rfl, upd_same, hv'.of hs'⟩)
/-- a, b = a new list, a new list -/
def dParLL (i j : Nat) (dl dm : DA) : DS := fun E s => dl s fun ds s1 => dm s1 fun es s2 => i < s2.sl.length ∧ j < s2.sl.length ∧ E.nx ⟨(s2.sl.set i (.own ds)).set j (.own es), s2.n⟩
theorem rs_parLL {i j : Nat} {te tf : TE} {dl dm : DA} (h : RF K te dl) (h2 : RF K tf dm) : RS K (tPar i j (tCons te (tCons tf tNil))) (dParLL i j dl dm) := fun C hC E s hd σ H D R o =>
  h C hC s _ hd σ H _ R fun a vs H1 ds s1 hd1 R1 na hv => by
    obtain ⟨n1, n2⟩ := R1.new na
    have R2 := (R1.hidden (o := .lst vs) na).pin (L := a) (.inr rfl) (fun z => n1 (.inr (.inl z))) upd_same
    have hs : Same (Hd (Sof C σ s1.sl) H1) (Hd (Sof (C.hide a) σ s1.sl) (upd H1 a (.lst vs))) := fun b u e => by
      obtain ⟨z1, z3⟩ := hd_some e
      have hb : b ≠ a := ne_of_none z3 na
      rw [hd_ne (fun z => (sof_hide.mp z).elim z1 hb), upd_ne hb]
      exact z3
    have R2' := R2.more (pair_da (hv.of hs))
    refine h2 (((C.hide a).pin a (.lst vs)).more (pairG vs ds)) hC s1 _ hd1 σ _ _ R2' fun b us H2 es s2 hp R3 nb hu => ⟨_, _, rfl, ?_⟩
    obtain ⟨R4, e4⟩ := R3.less.unpin
    have hds : DaAll C.K (Hd (Sof (C.hide a) σ s2.sl) H2) vs ds := da_pair hv.len fun x y z => R3.gh x y (.inr z)
    have hus : DaAll C.K (Hd (Sof (C.hide a) σ s2.sl) H2) us es := hu
    -- the second list's items are kept while the first is adopted
    have R5 := R4.more (pair_da hus)
    have R6 := Rl.adopt (C := C.more (pairG us es)) (i := i) R5 (fun z => n1 (.inl z)) (fun z => n1 (.inr (.inl z))) n2 (fun b u z => (R1.fz b u z).1) e4 hds hp.1
    have hu6 : DaAll C.K (Hd (Sof C (σ.set i (some (V.ref a))) (s2.sl.set i (.own ds))) H2) us es := da_pair hus.len fun x y z => R6.gh x y (.inr z)
    exact o.nx _ _ _ hp.2.2 (R6.less.setOwn nb (by rw [List.length_set]; exact hp.2.1) rfl fun S' hs' => ⟨b, us, rfl, upd_same, hu6.of hs'⟩)
/-! ### (a, b) = (.., ..) by a tuple in between: where a name is a cell -/
theorem rs_tup2 {i j : Nat} {ta : TA} {da : DA} (h : RA K ta da) : RS K (tAsg (tTupP ta) (gTup K 2 (gCons (gName i) (gCons (gName j) gNil)))) (dPar i j da) := fun C hC E s hd σ H D R o =>
  rd_tupP (h C hC s _ hd σ H _ R fun vs H1 ds s1 hp R1 hv => by
    match ds, hp, hv with
    | [d, e], hp, .cons (v := v) h1 (.cons (v := w) h2 .nil) =>
      refine ⟨by show 2 ≤ sizeLine; decide, fun p ob np _ => rd_gnn (.inl (.inr ⟨ob, upd_same⟩)) ?_⟩
      have hk := same_upd (o := .frz ob (.tup [v, w])) np
      have R2 := ((R1.ext hk).keep (v := w) (h2.of (hdS hk))).set (i := i) (h1.of (hdS hk))
      obtain ⟨R3, h3⟩ := R2.kept
      exact o.nx _ _ _ hp (R3.set h3))
theorem rs_tupL {i j : Nat} {te tf : TE} {dl : DA} {de : DE} (h : RF K te dl) (h2 : RE K tf de) : RS K (tAsg (tTupP (tCons te (tCons tf tNil))) (gTup K 2 (gCons (gName i) (gCons (gName j) gNil)))) (dParL i j dl de) := fun C hC E s hd σ H D R o =>
  rd_tupP (rd_cons (h C hC s _ hd σ H _ R fun a vs H1 ds s1 hd1 R1 na hv => by
    obtain ⟨n1, n2⟩ := R1.new na
    have R2 := (R1.hidden (o := .lst vs) na).pin (L := a) (.inr rfl) (fun z => n1 (.inr (.inl z))) upd_same
    have hs : Same (Hd (Sof C σ s1.sl) H1) (Hd (Sof (C.hide a) σ s1.sl) (upd H1 a (.lst vs))) := fun b u e => by
      obtain ⟨z1, z3⟩ := hd_some e
      have hb : b ≠ a := ne_of_none z3 na
      rw [hd_ne (fun z => (sof_hide.mp z).elim z1 hb), upd_ne hb]
      exact z3
    have R2' := R2.more (pair_da (hv.of hs))
    refine rd_cons (h2 (((C.hide a).pin a (.lst vs)).more (pairG vs ds)) hC s1 _ hd1 σ _ _ R2' fun w H2 d s2 hp R3 hw => rd_nil ⟨by show 2 ≤ sizeLine; decide, fun p ob np _ => rd_gnn (.inl (.inr ⟨ob, upd_same⟩)) ?_⟩)
    have hk := same_upd (o := .frz ob (.tup [.ref a, w])) np
    obtain ⟨R4, e4⟩ := R3.less.unpin
    have hds : DaAll C.K (Hd (Sof (C.hide a) σ s2.sl) H2) vs ds := da_pair hv.len fun x y z => R3.gh x y (.inr z)
    have hw' : Da C.K (Hd (Sof (C.hide a) σ s2.sl) H2) w d := hw
    have R5 := ((R4.ext hk).keep (v := w) (d := d) (hw'.of (hdS hk)))
    have R6 := Rl.adopt (C := C.keep w d) (i := i) R5 (fun z => n1 (.inl z)) (fun z => n1 (.inr (.inl z))) n2 (fun b u z => (R1.fz b u z).1) (hk _ _ e4) (hds.of (hdS hk)) hp.1
    obtain ⟨R7, hw7⟩ := R6.kept
    exact o.nx _ _ _ hp.2 (R7.set hw7)))
theorem rs_tupR {i j : Nat} {te tf : TE} {dl : DA} {de : DE} (h : RE K te de) (h2 : RF K tf dl) : RS K (tAsg (tTupP (tCons te (tCons tf tNil))) (gTup K 2 (gCons (gName i) (gCons (gName j) gNil)))) (dParR i j de dl) := fun C hC E s hd σ H D R o =>
  rd_tupP (rd_cons (h C hC s _ hd σ H _ R fun w H1 d s1 hd1 R1 hw => rd_cons (h2 (C.keep w d) hC s1 _ hd1 σ H1 _ (R1.keep hw) fun a vs H2 ds s2 hp R2 na hv => rd_nil ⟨by show 2 ≤ sizeLine; decide, fun p ob np _ => rd_gnn (.inl (.inr ⟨ob, upd_same⟩)) (by
    obtain ⟨R3, hw3⟩ := R2.kept
    obtain ⟨n1, n2⟩ := R3.new na
    have hv' : DaAll C.K (Hd (Sof C σ s2.sl) H2) vs ds := hv
    have hs : Same (Hd (Sof C σ s2.sl) H2) (Hd (Sof (C.hide a) σ s2.sl) (upd H2 a (.lst vs))) := fun b u e => by
      obtain ⟨z1, z3⟩ := hd_some e
      have hb : b ≠ a := ne_of_none z3 na
      rw [hd_ne (fun z => (sof_hide.mp z).elim z1 hb), upd_ne hb]
      exact z3
    have hk := same_upd (o := .frz ob (.tup [w, .ref a])) np
    -- first the plain value, then the list becomes one's own
    have R4 := ((R3.hidden (o := .lst vs) na).ext hk)
    have w4 : Da C.K (Hd (Sof (C.hide a) σ s2.sl) (upd (upd H2 a (.lst vs)) p (.frz ob (.tup [w, .ref a])))) w d := (hw3.of hs).of (hdS hk)
    have v4 := (hv'.of hs).of (hdS hk)
    have R5 := (R4.more (pair_da v4)).set (i := i) w4
    have v5 : DaAll C.K (Hd (Sof (C.hide a) (σ.set i (some w)) (s2.sl.set i (.dat d))) (upd (upd H2 a (.lst vs)) p (.frz ob (.tup [w, .ref a])))) vs ds := da_pair hv.len fun x y z => R5.gh x y (.inr z)
    exact o.nx _ _ _ hp.2.2 (Rl.adopt (C := C) (i := j) R5.less (fun z => n1 (.inl z)) (fun z => n1 (.inr (.inl z))) n2 (fun b u z => (R3.fz b u z).1) (hk _ _ upd_same) v5 (by
      show j < (s2.sl.set i (.dat d)).length
      rw [List.length_set]
      exact hp.2.1)))⟩)))
end DL

set_option Elab.async false
set_option linter.all false
set_option maxRecDepth 100000
set_option maxHeartbeats 4000000
/-! DLr: repr of any data, dicts inside too. -/
namespace DL
open PySem PySem.Spec PyProof.Rows L2 GG DD PT
theorem keyV_reads {h : Heap} {k : L2.Key} {u : Value} (r : RelV (kV k) u) : Reads h u (keyD k) [] := by
  cases k with
  | inl i =>
    obtain ⟨t, rfl⟩ := (show ∃ t, u = Value.int i t from r)
    exact .int i t
  | inr x =>
    obtain ⟨t, rfl⟩ := (show ∃ t, u = Value.str x t from r)
    exact .str x t
theorem keys_read {h : Heap} : ∀ {k : List L2.Key} {us : List Value}, Vals (k.map kV) us → ReadsAll h us (k.map keyD) []
  | [], _, r => by
    cases r
    exact .nil
  | x :: k, _, r => by
    cases r with
    | cons r1 r2 => exact ReadsAll.cons (keyV_reads r1) (keys_read r2)
section
variable {X : Cx} {pins : List (Addr × Obj)} {σ : L2.St} {H : Hp} {s : Shared}
mutual
theorem Da.reads (I : Inv X pins σ H s) : ∀ (d : PyData) (v : V) (u : Value), Da X.K H v d → RelV v u → ∃ as, Reads s.heap u d as ∧ ((∀ zs, H sysModules ≠ some (.lst zs)) → sysModules ∉ as)
  | .none, _, _, h, r => by
    cases h
    cases r
    exact ⟨_, Reads.none, fun _ z => by cases z⟩
  | .bool b, _, _, h, r => by
    cases h
    cases r
    exact ⟨_, Reads.bool b, fun _ z => by cases z⟩
  | .int i, _, _, h, r => by
    cases h
    obtain ⟨t, rfl⟩ := r
    exact ⟨_, Reads.int i t, fun _ z => by cases z⟩
  | .str x, _, _, h, r => by
    cases h
    obtain ⟨t, rfl⟩ := r
    exact ⟨_, Reads.str x t, fun _ z => by cases z⟩
  | .list ds, _, _, h, r => by
    cases h with
    | @lst a xs _ hs ha =>
      cases r
      obtain ⟨its, rv, ⟨o, n, ho, hc, _, hd⟩, _⟩ := I.list (sq hs)
      obtain ⟨as, hr, hm⟩ := DaAll.reads I ds _ its ha rv
      refine ⟨_, Reads.list ho hc hd hr, fun hS z => ?_⟩
      rcases List.mem_cons.mp z with z | z
      · exact hS xs (z ▸ hs)
      · exact hm hS z
  | .tuple ds, _, _, h, r => by
    cases h with
    | tup hs ha =>
      cases r
      obtain ⟨its, rv, ⟨o, ho, hc, n, hd⟩, _⟩ := I.tuple hs.sq
      obtain ⟨as, hr, hm⟩ := DaAll.reads I ds _ its ha rv
      exact ⟨_, Reads.tuple ho hc hd hr, hm⟩
  | .dict ds, _, _, h, r => by
    cases h with
    | @dic a kvs _ h1 h2 =>
      cases r
      obtain ⟨hz, hs, us, rk, o, es, ep, ho, hx, hd, _, hp, _⟩ : kvs.length ≤ sizeLine ∧ (a == sysModules) = false ∧ ∃ vs, KV kvs vs ∧ s.heap.DictOf (mixKind X.prog X.w) a vs := I.hok a _ h1
      obtain ⟨as, q1, q2, hm⟩ := DaKv.reads I ds kvs us es.toList h2 hp rk
      refine ⟨_, Reads.dict ho hx.1 hd q1 q2, fun hS z => ?_⟩
      rcases List.mem_append.mp z with z | z
      · have e := List.mem_singleton.mp z
        rw [e, beq_self_eq_true] at hs
        cases hs
      · exact hm hS z
    | @dct a kvs _ h1 hn h2 =>
      cases r
      obtain ⟨hz, hs, xs, rk, o, es, ep, ho, hx, hd, hp, hk, hnd⟩ := dt_of I.hok h1
      obtain ⟨as, q1, q2, hm⟩ := DaKt.reads I ds kvs xs h2 rk
      have e1 : es.toList.map (·.key) = xs.map fun x => Value.ref x.2.1 := by rw [hp, List.map_map]; rfl
      have e2 : es.toList.map (·.val) = xs.map fun x => x.2.2 := by rw [hp, List.map_map]; rfl
      rw [← e1] at q1
      rw [← e2] at q2
      refine ⟨_, Reads.dict ho hx.1 hd q1 q2, fun hS z => ?_⟩
      rcases List.mem_append.mp z with z | z
      · have e := List.mem_singleton.mp z
        rw [e, beq_self_eq_true] at hs
        cases hs
      · exact hm hS z
theorem DaAll.reads (I : Inv X pins σ H s) : ∀ (ds : List PyData) (vs : List V) (us : List Value), DaAll X.K H vs ds → Vals vs us → ∃ as, ReadsAll s.heap us ds as ∧ ((∀ zs, H sysModules ≠ some (.lst zs)) → sysModules ∉ as)
  | [], _, _, h, r => by
    cases h
    cases r
    exact ⟨_, ReadsAll.nil, fun _ z => by cases z⟩
  | d :: ds, _, _, h, r => by
    cases h with
    | cons h1 h2 =>
      cases r with
      | cons r1 r2 =>
        obtain ⟨as, q1, m1⟩ := Da.reads I d _ _ h1 r1
        obtain ⟨bs, q2, m2⟩ := DaAll.reads I ds _ _ h2 r2
        exact ⟨_, ReadsAll.cons q1 q2, fun hS z => (List.mem_append.mp z).elim (m1 hS) (m2 hS)⟩
theorem DaKv.reads (I : Inv X pins σ H s) : ∀ (ds : List (PyData × PyData)) (kvs : List (L2.Key × V)) (us : List (L2.Key × Value)) (es : List DictEntry), DaKv X.K H kvs ds → Pairs (mixKind X.prog X.w) es us → KV kvs us →
    ∃ as, ReadsAll s.heap (es.map (·.key)) (ds.map (·.1)) [] ∧ ReadsAll s.heap (es.map (·.val)) (ds.map (·.2)) as ∧ ((∀ zs, H sysModules ≠ some (.lst zs)) → sysModules ∉ as)
  | [], _, _, _, h, hp, hk => by
    cases h
    cases hk
    cases hp
    exact ⟨_, .nil, .nil, fun _ z => by cases z⟩
  | (k', d) :: ds, _, _, _, h, hp, hk => by
    cases h with
    | cons h1 h2 =>
      cases hk with
      | cons k1 k2 =>
        cases hp with
        | cons p1 p2 p3 =>
          obtain ⟨ek, rv⟩ := k1
          obtain ⟨bs, q1, q2, m2⟩ := DaKv.reads I ds _ _ _ h2 p3 k2
          obtain ⟨as, q3, m1⟩ := Da.reads I d _ _ h1 (p2.symm ▸ rv)
          refine ⟨_, ReadsAll.cons (key_reads (by
            have y := p1
            rw [mixKind_is] at y
            rw [← ek] at y
            exact y)) q1, ReadsAll.cons q3 q2, fun hS z => (List.mem_append.mp z).elim (m1 hS) (m2 hS)⟩
theorem DaKt.reads (I : Inv X pins σ H s) : ∀ (ds : List (PyData × PyData)) (kvs : List (List L2.Key × V)) (xs : List (List L2.Key × Addr × Value)), DaKt X.K H kvs ds → KT H kvs xs →
    ∃ as, ReadsAll s.heap (xs.map fun x => Value.ref x.2.1) (ds.map (·.1)) [] ∧ ReadsAll s.heap (xs.map fun x => x.2.2) (ds.map (·.2)) as ∧ ((∀ zs, H sysModules ≠ some (.lst zs)) → sysModules ∉ as)
  | [], _, _, h, hk => by
    cases h
    cases hk
    exact ⟨_, .nil, .nil, fun _ z => by cases z⟩
  | (k', d) :: ds, _, _, h, hk => by
    cases h with
    | cons h1 h2 =>
      cases hk with
      | cons k1 k2 =>
        obtain ⟨ek, et, rv⟩ := k1
        obtain ⟨bs, q1, q2, m2⟩ := DaKt.reads I ds _ _ h2 k2
        obtain ⟨as, q3, m1⟩ := Da.reads I d _ _ h1 rv
        obtain ⟨its, rvs, ⟨o, ho, hc, n, hd⟩, _⟩ := I.tuple (.inl (.inl et))
        exact ⟨_, ReadsAll.cons (Reads.tuple ho hc hd (keys_read rvs)) q1, ReadsAll.cons q3 q2, fun hS z => (List.mem_append.mp z).elim (m1 hS) (m2 hS)⟩
end
end
/-- the written part has sys.modules, a dict -/
def SysK (K : PySem.W.Frag) : Prop := ∃ o, K.lookup sysModules = some o ∧ o.cls = .type "dict"
theorem SysK.no {X : Cx} {pins : List (Addr × Obj)} {σ : L2.St} {H : Hp} {s : Shared} (h : SysK X.K) (I : Inv X pins σ H s) : ∀ zs, H sysModules ≠ some (.lst zs) := fun zs e => by
  obtain ⟨o, h1, h2⟩ := h
  have h3 := I.kIn _ _ h1
  obtain ⟨_, its, n, _, h4⟩ : zs.length ≤ sizeLine ∧ ∃ (its : List Value) (n : Nat), Vals zs its ∧ s.heap.get? sysModules = some { cls := .type "list", data := .seq its.toArray n } := I.hok _ _ e
  rw [h3] at h4
  cases h4
  exact absurd (Value.type.inj h2) (by decide)
/-- repr(x), whatever is inside -/
def rReprA (K : PySem.W.Frag) : List V → Hp → VK → Prop := fun xs H Q => ∃ x d, xs = [x] ∧ Da K H x d ∧ d.showable = true ∧ d.depth ≤ 60 ∧ d.shown.length ≤ sizeLine ∧ Q (.str d.shown) H
section
variable {X : Cx}
theorem call_reprA {k : Nat} (hr : Rm k X.A) (sys : SysK X.K) : CallR X (.builtin "repr") (rReprA X.K) := by
  intro pins s σ H xs us Q I r h
  obtain ⟨x, d, rfl, hx, hs, hd, hz, q⟩ := h
  have hS := sys.no I
  obtain ⟨u, rfl, ru⟩ := vals1 r
  obtain ⟨as, hreads, hsm⟩ := Da.reads I d x u hx ru
  have hu := hr.room.un
  cases x with
  | non =>
    cases ru
    cases hreads
    exact PySem.P.repr_of_none ⟨.str _, H, I.tok _, ⟨_, rfl⟩, q⟩
  | bl b =>
    cases ru
    cases hreads
    refine PySem.P.repr_of_bool ⟨.str _, H, I.tok _, ⟨_, rfl⟩, ?_⟩
    simp only [PyData.shown] at q
    exact q
  | int i =>
    obtain ⟨t, rfl⟩ := ru
    cases hreads
    simp only [PyData.shown] at q
    exact PySem.P.repr_of_int (by simpa [PyData.showable] using hs) ⟨.str _, H, I.tok _, ⟨_, rfl⟩, q⟩
  | str y =>
    obtain ⟨t, rfl⟩ := ru
    cases hreads
    simp only [PyData.shown] at q hz
    exact PySem.P.repr_of_str ⟨.str _, H, I.tok _, ⟨_, rfl⟩, q⟩ hz
  | byt y =>
    obtain ⟨t, rfl⟩ := ru
    cases hreads
  | flt y =>
    obtain ⟨t, rfl⟩ := ru
    cases hreads
  | ty y =>
    cases ru
    cases hreads
  | ref a =>
    cases ru
    exact repr_of_reads' hreads hs (fun _ => hsm hS) hr.plain (by omega) (fun _ _ e => e) (fun h' u tk hk => ⟨.str _, H, I.kept hk, ⟨u, rfl⟩, q⟩) hz
end
/-- data whose repr can be taken -/
structure Shows (d : PyData) : Prop where
  sh : d.showable = true
  dp : d.depth ≤ 60
  sz : d.shown.length ≤ sizeLine
variable {K : KX}
def dReprA (de : DE) : DE := fun s P => de s fun d s1 => Shows d ∧ P (.str d.shown) s1
theorem re_reprA {te : TE} {de : DE} (h : RE K te de) : RE K (tCB (rReprA K) (tCons te tNil)) (dReprA de) := fun C hC s P hd σ H Q R q =>
  rd_cb (rd_cons (h C hC s _ hd σ H _ R fun v H1 d s1 hp R1 hv => by
    subst hC
    exact rd_nil ⟨v, d, rfl, hv.of (hd_sub _ H1), hp.1.sh, hp.1.dp, hp.1.sz, q _ H1 _ s1 hp.2 R1 (.str _)⟩))
end DL

set_option Elab.async false
set_option linter.all false
set_option maxRecDepth 100000
set_option maxHeartbeats 4000000
/-! DLk: dicts with ints and texts for keys, told by data. -/
namespace DL
open PySem PySem.Spec PyProof.Rows L2 GG DD PT
variable {K : PySem.W.Frag}
def kOf : PyData → Option L2.Key
  | .int i => some (.inl i)
  | .str x => some (.inr x)
  | _ => none
theorem kOf_keyD (k : L2.Key) : kOf (keyD k) = some k := by cases k <;> rfl
theorem key_v {H : Hp} {v : V} {d : PyData} {k : L2.Key} (h : Da K H v d) (e : kOf d = some k) : v = kV k := by
  cases d with
  | int i => cases h; cases e; rfl
  | str x => cases h; cases e; rfl
  | _ => cases e
def dgetD : List (PyData × PyData) → L2.Key → Option PyData
  | [], _ => none
  | p :: r, k => if kOf p.1 = some k then some p.2 else dgetD r k
def dputD (kvs : List (PyData × PyData)) (k : L2.Key) (d : PyData) : List (PyData × PyData) :=
  if (dgetD kvs k).isSome = true then kvs.map (fun p => if kOf p.1 = some k then (p.1, d) else p) else kvs ++ [(keyD k, d)]
def mergeD (kvs : List (PyData × PyData)) (more : List (L2.Key × PyData)) : List (PyData × PyData) := more.foldl (fun acc kv => dputD acc kv.1 kv.2) kvs
theorem get_da {H : Hp} (k : L2.Key) : ∀ {es : List (L2.Key × V)} {kvs : List (PyData × PyData)}, DaKv K H es kvs → (valV es k = none ∧ dgetD kvs k = none) ∨ ∃ v d, valV es k = some v ∧ dgetD kvs k = some d ∧ Da K H v d
  | _, _, .nil => .inl ⟨rfl, rfl⟩
  | _, _, .cons (k := k') (v := v) (r := r) (d := d) (ds := ds) h t => by
    by_cases e : k' = k
    · refine .inr ⟨v, d, valV_pos (p := (k', v)) e, ?_, h⟩
      unfold dgetD
      rw [kOf_keyD, e, if_pos rfl]
    · have e2 : ¬ kOf (keyD k') = some k := fun z => e (by rw [kOf_keyD] at z; exact Option.some.inj z)
      have e3 : dgetD ((keyD k', d) :: ds) k = dgetD ds k := by
        show (if kOf (keyD k') = some k then some d else dgetD ds k) = _
        rw [if_neg e2]
      rw [valV_neg (p := (k', v)) e, e3]
      exact get_da k t
theorem put_map {H : Hp} (k : L2.Key) {v : V} {d : PyData} (hd : Da K H v d) : ∀ {es : List (L2.Key × V)} {kvs : List (PyData × PyData)}, DaKv K H es kvs → DaKv K H (es.map fun kv => if kv.1 = k then (kv.1, v) else kv) (kvs.map fun p => if kOf p.1 = some k then (p.1, d) else p)
  | _, _, .nil => .nil
  | _, _, .cons (k := k') (v := v') (d := d') h t => by
    rw [List.map_cons, List.map_cons]
    by_cases e : k' = k
    · have e2 : kOf (keyD k') = some k := by rw [kOf_keyD, e]
      show DaKv K H ((if k' = k then (k', v) else (k', v')) :: _) ((if kOf (keyD k') = some k then (keyD k', d) else (keyD k', d')) :: _)
      rw [if_pos e, if_pos e2]
      exact .cons hd (put_map k hd t)
    · have e2 : ¬ kOf (keyD k') = some k := fun z => e (by rw [kOf_keyD] at z; exact Option.some.inj z)
      show DaKv K H ((if k' = k then (k', v) else (k', v')) :: _) ((if kOf (keyD k') = some k then (keyD k', d) else (keyD k', d')) :: _)
      rw [if_neg e, if_neg e2]
      exact .cons h (put_map k hd t)
theorem DaKv.append {H : Hp} : ∀ {es fs : List (L2.Key × V)} {a b : List (PyData × PyData)}, DaKv K H es a → DaKv K H fs b → DaKv K H (es ++ fs) (a ++ b)
  | _, _, _, _, .nil, h => h
  | _, _, _, _, .cons h t, k => .cons h (t.append k)
theorem DaKv.len {H : Hp} : ∀ {es : List (L2.Key × V)} {a : List (PyData × PyData)}, DaKv K H es a → es.length = a.length
  | _, _, .nil => rfl
  | _, _, .cons _ t => by rw [List.length_cons, List.length_cons, t.len]
theorem put_da {H : Hp} {es : List (L2.Key × V)} {kvs : List (PyData × PyData)} {k : L2.Key} {v : V} {d : PyData} (h : DaKv K H es kvs) (hd : Da K H v d) : DaKv K H (putK es k v) (dputD kvs k d) := by
  unfold putK dputD
  rw [valV_any]
  rcases get_da k h with ⟨e1, e2⟩ | ⟨v', d', e1, e2, _⟩
  · rw [e1, e2, if_neg (by decide), if_neg (by decide)]
    exact h.append (.cons hd .nil)
  · rw [e1, e2, if_pos (show (some v').isSome = true from rfl), if_pos (show (some d').isSome = true from rfl)]
    exact put_map k hd h
theorem merge_da {H : Hp} : ∀ {more : List (L2.Key × V)} {mored : List (L2.Key × PyData)} {es : List (L2.Key × V)} {kvs : List (PyData × PyData)}, Paired (fun (a : L2.Key × V) (b : L2.Key × PyData) => a.1 = b.1 ∧ Da K H a.2 b.2) more mored → DaKv K H es kvs → DaKv K H (mergeK es more) (mergeD kvs mored)
  | _, _, _, _, .nil, h => h
  | _, _, _, _, .cons (a := a) (b := b) q t, h => by
    obtain ⟨e, hd⟩ := q
    show DaKv K H (mergeK (putK _ a.1 a.2) _) (mergeD (dputD _ b.1 b.2) _)
    refine merge_da t ?_
    rw [e]
    exact put_da h hd
/-- the pairs (key, value) of a list -/
def pairsD : List PyData → Option (List (L2.Key × PyData))
  | [] => some []
  | .tuple [k, d] :: r => match kOf k, pairsD r with
    | some k', some r' => some ((k', d) :: r')
    | _, _ => none
  | _ => none
theorem pairs_da {S : Addr → Prop} {H : Hp} : ∀ {vs : List V} {ds : List PyData} {prs : List (L2.Key × PyData)}, DaAll K (Hd S H) vs ds → pairsD ds = some prs →
    ∃ (ps : List Addr) (kvs : List (L2.Key × V)), vs = ps.map V.ref ∧ Paired (fun p kv => SqT K H p [kV kv.1, kv.2]) ps kvs ∧ Paired (fun (a : L2.Key × V) (b : L2.Key × PyData) => a.1 = b.1 ∧ Da K (Hd S H) a.2 b.2) kvs prs
  | _, _, _, .nil, e => by
    cases e
    exact ⟨[], [], rfl, .nil, .nil⟩
  | _, _, prs, .cons (v := v) (ds := ds) (d := d) h t, e => by
    match d, h, e with
    | .tuple [k, x], h, e =>
      unfold pairsD at e
      cases e1 : kOf k with
      | none => rw [e1] at e; cases e
      | some k' =>
        cases e2 : pairsD ds with
        | none => rw [e1, e2] at e; cases e
        | some r' =>
          rw [e1, e2] at e
          cases e
          obtain ⟨ps, kvs, rfl, h1, h2⟩ := pairs_da t e2
          obtain ⟨a, us, rfl, h3, h4⟩ := da_tup h
          cases h4 with
          | cons q1 h4 =>
            cases h4 with
            | cons q2 h4 =>
              cases h4
              have e3 := key_v q1 e1
              subst e3
              exact ⟨a :: ps, (k', _) :: kvs, rfl, .cons h3 h1, .cons ⟨rfl, q2⟩ h2⟩
/-! ### dicts in slots -/
variable {K : KX}
def dDictVar (i : Nat) (s : DSt) (P : List (PyData × PyData) → DSt → Prop) : Prop := match s.sl[i]? with
  | some (.dat (.dict kvs)) => headK kvs = true ∧ P kvs s
  | some (.owd kvs) => P kvs s
  | _ => False
theorem dict_at {C : DC} {σ : L2.St} {H : Hp} {s : DSt} (R : Rl C σ H s) {i : Nat} {P : List (PyData × PyData) → DSt → Prop} (h : dDictVar i s P) : ∃ a es kvs, σ[i]? = some (some (V.ref a)) ∧ P kvs s ∧ H a = some (.dK es) ∧ DaKv C.K (Hd (Sof C σ s.sl) H) es kvs := by
  unfold dDictVar at h
  split at h
  · rename_i kvs e
    obtain ⟨sl, h1, v, rfl, h3⟩ := R.slots i _ e
    cases h3 with
    | dic h4 h5 => exact ⟨_, _, kvs, h1, h.2, (hd_some h4).2, h5⟩
    | dct h4 hn h5 => exact (headK_dct h5 hn h.1).elim
  · rename_i kvs e
    obtain ⟨sl, h1, a, es, rfl, h4, h5⟩ := R.slots i _ e
    exact ⟨a, es, kvs, h1, h, h4, h5⟩
  · exact h.elim
def hasV : Option DV → Prop
  | some (.dat _) => True
  | some (.own _) => True
  | some (.owd _) => True
  | _ => False
theorem has_at {C : DC} {σ : L2.St} {H : Hp} {s : DSt} (R : Rl C σ H s) {i : Nat} (h : hasV s.sl[i]?) : ∃ v, σ[i]? = some (some v) := by
  cases e : s.sl[i]? with
  | none => rw [e] at h; exact h.elim
  | some dv =>
    obtain ⟨sl, h1, h2⟩ := R.slots i _ e
    cases dv with
    | dat d =>
      obtain ⟨v, rfl, _⟩ := h2
      exact ⟨v, h1⟩
    | own d =>
      obtain ⟨a, vs, rfl, _⟩ := h2
      exact ⟨_, h1⟩
    | owd d =>
      obtain ⟨a, vs, rfl, _⟩ := h2
      exact ⟨_, h1⟩
    | _ => rw [e] at h; exact h.elim
/-- y in d, y not in d: d in slot i -/
def dDIn (neg : Bool) (dk : DE) (i : Nat) : DE := fun s P => dk s fun kd s1 => match kOf kd with
  | some k => dDictVar i s1 fun kvs s2 => P (.bool (if neg then !(dgetD kvs k).isSome else (dgetD kvs k).isSome)) s2
  | none => False
theorem isSome_da {K : PySem.W.Frag} {H : Hp} {es : List (L2.Key × V)} {kvs : List (PyData × PyData)} (h : DaKv K H es kvs) (k : L2.Key) : (valV es k).isSome = (dgetD kvs k).isSome := by
  rcases get_da k h with ⟨e1, e2⟩ | ⟨v, d, e1, e2, _⟩ <;> rw [e1, e2] <;> rfl
theorem re_dIn {ty : TE} {dk : DE} {i : Nat} (h : RE K ty dk) : RE K (tDIn ty (tVar i)) (dDIn false dk i) := fun C hC s P hd σ H Q R q =>
  h C hC s _ hd σ H _ R fun v H1 d s1 hp R1 hv => by
    cases e : kOf d with
    | none => rw [e] at hp; exact hp.elim
    | some k =>
      rw [e] at hp
      obtain ⟨a, es, kvs, h1, hp, h2, h3⟩ := dict_at R1 hp
      have ev := key_v hv e
      subst ev
      refine ⟨_, h1, a, _, rfl, DGet.k h2, ?_⟩
      rw [isSome_da h3 k]
      exact q _ H1 _ s1 hp R1 (.bl _)
theorem re_dNotIn {ty : TE} {dk : DE} {i : Nat} (h : RE K ty dk) : RE K (tDNotIn ty (tVar i)) (dDIn true dk i) := fun C hC s P hd σ H Q R q =>
  h C hC s _ hd σ H _ R fun v H1 d s1 hp R1 hv => by
    cases e : kOf d with
    | none => rw [e] at hp; exact hp.elim
    | some k =>
      rw [e] at hp
      obtain ⟨a, es, kvs, h1, hp, h2, h3⟩ := dict_at R1 hp
      have ev := key_v hv e
      subst ev
      refine ⟨_, h1, a, _, rfl, DGet.k h2, ?_⟩
      rw [isSome_da h3 k]
      exact q _ H1 _ s1 hp R1 (.bl _)
/-- d[y]: d in slot i -/
def dDGet (i : Nat) (dk : DE) : DE := fun s P => hasV s.sl[i]? ∧ dk s fun kd s1 => match kOf kd with
  | some k => dDictVar i s1 fun kvs s2 => ∃ d, dgetD kvs k = some d ∧ P d s2
  | none => False
theorem re_dGet {ty : TE} {dk : DE} {i : Nat} (h : RE K ty dk) : RE K (tDGet (tVar i) ty) (dDGet i dk) := fun C hC s P hd σ H Q R q => by
  obtain ⟨v0, e0⟩ := has_at R hd.1
  refine ⟨v0, e0, h C hC s _ hd.2 σ H _ R fun v H1 d s1 hp R1 hv => ?_⟩
  cases e : kOf d with
  | none => rw [e] at hp; exact hp.elim
  | some k =>
    rw [e] at hp
    obtain ⟨a, es, kvs, h1, ⟨x, hx, hp⟩, h2, h3⟩ := dict_at R1 hp
    rw [e0] at h1
    cases h1
    have ev := key_v hv e
    subst ev
    rcases get_da k h3 with ⟨_, e2⟩ | ⟨w, d', e1, e2, hw⟩
    · rw [e2] at hx
      cases hx
    · rw [e2] at hx
      cases hx
      refine ⟨a, w, rfl, ?_, q w H1 _ s1 hp R1 hw⟩
      have g := DGet.k (k := k) h2
      rw [e1] at g
      exact g
/-- d[y] = v: d one's own, in slot i -/
def isOwnD : Option DV → Prop
  | some (.owd _) => True
  | _ => False
def dDPut (i : Nat) (dk dv : DE) : DS := fun E s => dv s fun d s1 => isOwnD s1.sl[i]? ∧ dk s1 fun kd s2 => match kOf kd, s2.sl[i]? with
  | some k, some (.owd kvs) => kvs.length < 1000000 ∧ E.nx ⟨s2.sl.set i (.owd (dputD kvs k d)), s2.n⟩
  | _, _ => False
theorem rs_dPut {ty tv : TE} {dk dv : DE} {i : Nat} (h1 : RE K ty dk) (h2 : RE K tv dv) : RS K (sDPut (tVar i) ty tv) (dDPut i dk dv) := fun C hC E s hd σ H D R o =>
  h2 C hC s _ hd σ H _ R fun v H1 d s1 hp R1 hv => by
    obtain ⟨ho, hp⟩ := hp
    obtain ⟨v0, e0⟩ := has_at R1 (i := i) (by
      cases e : s1.sl[i]? with
      | none => rw [e] at ho; exact ho.elim
      | some dv => rw [e] at ho; cases dv <;> first | exact ho.elim | exact True.intro)
    refine ⟨v0, e0, h1 (C.keep v d) hC s1 _ hp σ H1 _ (R1.keep hv) fun y H2 kd s2 hp2 R2 hy => ?_⟩
    obtain ⟨R3, hv3⟩ := R2.kept
    cases e : kOf kd with
    | none => rw [e] at hp2; exact hp2.elim
    | some k =>
      cases e2 : s2.sl[i]? with
      | none => rw [e, e2] at hp2; exact hp2.elim
      | some fv =>
        cases fv with
        | owd kvs =>
          rw [e, e2] at hp2
          obtain ⟨sl, q1, a, es, rfl, q2, q3⟩ := R3.slots i _ e2
          rw [e0] at q1
          cases q1
          have ev := key_v hy e
          subst ev
          refine ⟨a, upd H2 a (.dK (putK es k v)), rfl, DPut.k q2 (by rw [q3.len]; exact Nat.lt_of_lt_of_le hp2.1 sz6), o.nx _ _ _ hp2.2 (R3.mut e2 rfl rfl e0 fun hs => ⟨a, _, rfl, upd_same, (put_da q3 hv3).of hs⟩)⟩
        | _ => rw [e, e2] at hp2; exact hp2.elim
/-! ### new dicts -/
abbrev DK := DSt → (List (PyData × PyData) → DSt → Prop) → Prop
def XD (C : DC) (te : TE) (s : DSt) (P : List (PyData × PyData) → DSt → Prop) : Prop := ∀ (σ : L2.St) (H : Hp) (Q : VK), Rl C σ H s → (∀ a es H' kvs s', P kvs s' → Rl C σ H' s' → H' a = none → DaKv C.K (Hd (Sof C σ s'.sl) H') es kvs → Q (.ref a) (upd H' a (.dK es))) → te σ H Q
def RD (K : KX) (te : TE) (dl : DK) : Prop := ∀ C : DC, C.K = K → ∀ s P, dl s P → XD C te s P
def dNewD (dl : DK) : DE := fun s P => dl s fun kvs s1 => P (.dict kvs) s1
theorem re_newD {te : TE} {dl : DK} (h : RD K te dl) : RE K te (dNewD dl) := fun C hC s P hd σ H Q R q => h C hC s _ hd σ H Q R fun a es H' kvs s' hp R' na hv =>
  q _ _ _ s' hp (R'.ext (same_upd na)) (.dic (R'.see na) (hv.of (R'.kp na)))
def dSetD (dl : DK) (i : Nat) : DS := fun E s => dl s fun kvs s1 => i < s1.sl.length ∧ E.nx ⟨s1.sl.set i (.owd kvs), s1.n⟩
theorem rs_setD {te : TE} {i : Nat} {dl : DK} (h : RD K te dl) : RS K (tAsg te (gName i)) (dSetD dl i) := fun C hC E s hd σ H D R o =>
  h C hC s _ hd σ H _ R fun a es H1 kvs s1 hp R1 na hv => o.nx _ _ _ hp.2 (R1.setOwn na hp.1 rfl fun S' hs => ⟨a, es, rfl, upd_same, hv.of hs⟩)
def dDict0 : DK := fun s P => P [] s
theorem rd_dict0 : RD K tDNewK dDict0 := fun C hC s P hd σ H Q R q => fun p np => q p [] H [] s hd R np .nil
def rDictL (K : PySem.W.Frag) : List V → Hp → VK → Prop := fun xs H Q => ∃ (a : Addr) (ps : List Addr) (kvs : List (L2.Key × V)), xs = [.ref a] ∧ SqL K H a (ps.map V.ref) ∧ Paired (fun p kv => SqT K H p [kV kv.1, kv.2]) ps kvs ∧ ∀ p, H p = none → Q (.ref p) (upd H p (.dK (mergeK [] kvs)))
def dDictL (dl : DA) : DK := fun s P => dl s fun ds s1 => ∃ prs, pairsD ds = some prs ∧ P (mergeD [] prs) s1
theorem rd_dictL {te : TE} {dl : DA} (h : RL K te dl) : RD K (tCB (rDictL K) (tCons te tNil)) (dDictL dl) := fun C hC s P hd σ H Q R q =>
  rd_cb (rd_cons (h C hC s _ hd σ H _ R fun a vs H1 ds s1 hp R1 e hv => rd_nil (by
    obtain ⟨prs, hpr, hp⟩ := hp
    subst hC
    obtain ⟨ps, kvs, rfl, h1, h2⟩ := pairs_da hv hpr
    exact ⟨a, ps, kvs, rfl, sq e, h1, fun p np => q p _ H1 _ s1 hp R1 np (merge_da h2 .nil)⟩)))
def dDictU (de : DE) : DK := fun s P => de s fun d s1 => match d with
  | .tuple ds => ∃ prs, pairsD ds = some prs ∧ P (mergeD [] prs) s1
  | _ => False
theorem rd_dictU {te : TE} {de : DE} (h : RE K te de) : RD K (tCB (rDictT K) (tCons te tNil)) (dDictU de) := fun C hC s P hd σ H Q R q =>
  rd_cb (rd_cons (h C hC s _ hd σ H _ R fun v H1 d s1 hp R1 hv => by
    cases d with
    | tuple ds =>
      obtain ⟨prs, hpr, hp⟩ := hp
      subst hC
      cases hv with
      | tup k1 k2 =>
        obtain ⟨ps, kvs, rfl, h1, h2⟩ := pairs_da k2 hpr
        exact rd_nil ⟨_, ps, kvs, rfl, k1.same (hd_sub _ H1), h1, fun p np => q p _ H1 _ s1 hp R1 np (merge_da h2 .nil)⟩
    | _ => exact hp.elim))
end DL

set_option Elab.async false
set_option linter.all false
set_option maxRecDepth 100000
set_option maxHeartbeats 4000000
/-! KW: defs called by keywords alone, in any order. -/
namespace DL
open PySem PySem.Spec PyProof.Rows L2 GG DD PT
/-- the values in the parameters' order: the i-th parameter's stands at place π[i] -/
def permL {α : Type} (π : List Nat) (l : List α) : List α := π.filterMap fun i => l[i]?
/-- a def called by these keywords -/
structure DfK (P : Program) (w : World) (K : PySem.W.Frag) (mg : Str → Option Value) (base : Heap) (k : Nat) (nm : Str) (ps ks : List Str) (π : List Nat) (sp : Sp) : Prop where
  ex : ∃ f fd, Fg P w K mg base k f fd ps sp ∧ mg nm = some (.ref f) ∧ PySem.W.keepIn K (.ref f) = true ∧ ∀ (s : Shared) (ws : List Value), ws.length = ks.length → BindsTo s fd ⟨[], ks.zip ws⟩ (ps.zip (permL π ws))
theorem perm_vals {vs : List V} {us : List Value} (r : Vals vs us) : ∀ π : List Nat, Vals (permL π vs) (permL π us)
  | [] => .nil
  | i :: π => by
    unfold permL
    rw [List.filterMap_cons, List.filterMap_cons]
    cases e : vs[i]? with
    | none =>
      have e2 : us[i]? = none := by
        have := List.getElem?_eq_none_iff.mp e
        exact List.getElem?_eq_none (by rw [← r.length]; exact this)
      rw [e2]
      exact perm_vals r π
    | some v =>
      obtain ⟨u, e2, hu⟩ := r.get e
      rw [e2]
      exact .cons hu (perm_vals r π)
section
variable {X : Cx} {k : Nat} {nm : Str} {ps ks : List Str} {π : List Nat} {sp : Sp} {p pos : Pos} {kws : List Keyword} {tk : TA}
def tCallP (sp : Sp) (π : List Nat) (n : Nat) (tk : TA) : TE := fun σ H Q => tk σ H fun zs H2 => zs.length = n ∧ sp (permL π zs) H2 Q E0
theorem kcall (D : DfK X.prog X.w X.K X.mg X.base k nm ps ks π sp) (hr : Rm k X.A) (hg : Gl X nm) (hkw : PK X kws tk)
    (hall : (backToKw pos (keywordEach kws X.env)).all (·.1.isSome) = true := by rfl) (hks : (backToKw pos (keywordEach kws X.env)).filterMap (·.1) = ks := by rfl)
    (hdb : (nm == ("__debug__" : Str)) = false := by decide)
    (hpl : ((backTo pos (starEach [] X.env)).any (·.1) || (backToKw pos (keywordEach kws X.env)).any (·.1.isNone)) = false := by rfl) :
    PE X (.Call (.Name nm p) [] kws pos) (tCallP sp π ks.length tk) := by
  obtain ⟨f, fd, F, hm, hk, hb⟩ := D.ex
  refine ⟨fun pins s σ H Q I h => ?_⟩
  refine wpAny_Call_Name_kw (ld_glob I hg hm ?_ hdb)
  refine PySem.W.callWith_KW0 (h₀ := X.base) I.ok.mod.kin hk hall (thn (hkw.run pos pins s σ H _ I h) fun ws s2 ⟨zs, H2, I2, rz, hl, q2⟩ => ⟨I2.kIn, ?_⟩) hpl
  rw [hks]
  refine wpAny_call (codeAny_mono (F.go X.A X.stack s2 H2 ⟨[] ++ [], ks.zip ws⟩ (permL π ws) (permL π zs) Q hr I2.env0 (hb s2 ws (by rw [← rz.length]; exact hl)) (perm_vals rz π) q2) fun r s' hq => ?_)
  exact ret_of I2 hq
end
variable {K : KX}
theorem perm_args {W : Wo} {S : Addr → Prop} {H : Hp} {vs : List V} {as : List DV} (h : ArgsOk K W S H vs as) : ∀ π : List Nat, ArgsOk K W S H (permL π vs) (permL π as)
  | [] => .nil
  | i :: π => by
    unfold permL
    rw [List.filterMap_cons, List.filterMap_cons]
    have get : ∀ {vs : List V} {as : List DV} (j : Nat), ArgsOk K W S H vs as → (vs[j]? = none ∧ as[j]? = none) ∨ ∃ v a, vs[j]? = some v ∧ as[j]? = some a ∧ ArgOk K W S H v a := by
      intro vs as j h
      induction h generalizing j with
      | nil => exact .inl ⟨rfl, rfl⟩
      | @cons v vs a as h1 h2 ih =>
        cases j with
        | zero => exact .inr ⟨v, a, rfl, rfl, h1⟩
        | succ j => simpa using ih j
    rcases get i h with ⟨e1, e2⟩ | ⟨v, a, e1, e2, ha⟩
    · rw [e1, e2]
      exact perm_args h π
    · rw [e1, e2]
      exact .cons ha (perm_args h π)
def dCallP (m : Nat) (F : FD) (π : List Nat) (n : Nat) (da : DX) : DE := fun s P => da s fun as s1 => as.length = n ∧ (permL π as).length = m ∧ F (permL π as) s1.n fun d n' => P d ⟨s1.sl, n'⟩
theorem re_callP {m : Nat} {F : FD} {π : List Nat} {n : Nat} {ta : TA} {da : DX} (h : RX K ta da) : RE K (tCallP (spOf K m F) π n ta) (dCallP m F π n da) := fun C hC s P hd σ H Q R q =>
  h C hC s _ hd σ H _ R fun vs H1 as s1 hp R1 hv => by
    subst hC
    refine ⟨by rw [hv.len]; exact hp.1, by rw [(perm_args hv π).len]; exact hp.2.1, C.W, Sof C σ s1.sl, s1.n, permL π as, _, R1.taken, R1.dk, fun b hb => .inr (.inl hb), perm_args hv π, hp.2.2, fun v H' d n' hP hD hB hda => ?_⟩
    exact q v H' d ⟨s1.sl, n'⟩ hP (R1.step hB hD) hda
end DL

set_option Elab.async false
set_option linter.all false
set_option maxRecDepth 100000
set_option maxHeartbeats 4000000
/-! SRT: sorted(xs), xs a list of pairs (text, int) of any length: a rearrangement. -/
namespace SRT
open PySem PyProof.Rows Srt SrtO L2
/-- by the text, then by the int -/
def lexS (p q : Str × Int) : Bool := if p.1 = q.1 then decide (p.2 < q.2) else decide (p.1.cps.toList < q.1.cps.toList)
theorem nat_lt_irr (a : List Nat) : ¬ a < a := List.lt_irrefl a
theorem str_eq {a b : Str} (h1 : ¬ a.cps.toList < b.cps.toList) (h2 : ¬ b.cps.toList < a.cps.toList) : a = b := by
  have h : a.cps.toList = b.cps.toList := List.le_antisymm (List.not_lt.mp h2) (List.not_lt.mp h1)
  obtain ⟨⟨a⟩⟩ := a
  obtain ⟨⟨b⟩⟩ := b
  simp at h
  rw [h]
theorem lexS_iff {p q : Str × Int} : lexS p q = true ↔ p.1.cps.toList < q.1.cps.toList ∨ (p.1 = q.1 ∧ p.2 < q.2) := by
  unfold lexS
  by_cases e : p.1 = q.1
  · rw [if_pos e, decide_eq_true_eq]
    constructor
    · exact fun h => .inr ⟨e, h⟩
    · rintro (h | h)
      · rw [e] at h
        exact absurd h (nat_lt_irr _)
      · exact h.2
  · rw [if_neg e, decide_eq_true_eq]
    constructor
    · exact .inl
    · rintro (h | h)
      · exact h
      · exact absurd h.1 e
theorem lexS_no {p q : Str × Int} : lexS p q = false ↔ ¬ (p.1.cps.toList < q.1.cps.toList ∨ (p.1 = q.1 ∧ p.2 < q.2)) := by
  rw [← lexS_iff]
  cases lexS p q <;> simp
theorem swo_S {α : Type} (k : α → Str × Int) : Swo fun v u => lexS (k v) (k u) := by
  refine ⟨fun x y h => ?_, fun x y z h1 h2 => ?_⟩
  · have a := lexS_iff.mp h
    refine lexS_no.mpr fun b => ?_
    rcases a with a | ⟨a1, a2⟩
    · rcases b with b | ⟨b1, b2⟩
      · exact nat_lt_irr _ (List.lt_trans a b)
      · rw [b1] at a
        exact nat_lt_irr _ a
    · rcases b with b | ⟨b1, b2⟩
      · rw [a1] at b
        exact nat_lt_irr _ b
      · omega
  · have a := lexS_no.mp h1
    have b := lexS_no.mp h2
    refine lexS_no.mpr fun c => ?_
    have a1 : ¬ (k y).1.cps.toList < (k x).1.cps.toList := fun z => a (.inl z)
    have b1 : ¬ (k z).1.cps.toList < (k y).1.cps.toList := fun w => b (.inl w)
    have c1 : ¬ (k z).1.cps.toList < (k x).1.cps.toList := List.not_lt.mpr (List.le_trans (List.not_lt.mp a1) (List.not_lt.mp b1))
    rcases c with c | ⟨c2, c3⟩
    · exact c1 c
    · have e1 : (k y).1 = (k x).1 := by
        refine str_eq a1 ?_
        rw [← c2]
        exact b1
      have e2 : (k z).1 = (k y).1 := c2.trans e1.symm
      have a2 : ¬ (k y).2 < (k x).2 := fun w => a (.inr ⟨e1, w⟩)
      have b2 : ¬ (k z).2 < (k y).2 := fun w => b (.inr ⟨e2, w⟩)
      omega
def IsSP (h : Heap) (v : Value) (x : Str) (y : Int) : Prop := ∃ a o t u n, v = .ref a ∧ h.get? a = some o ∧ o.cls = .type "tuple" ∧ o.data = .seq #[.str x t, .int y u] n
theorem IsSP.keeps {h h' : Heap} {v : Value} {x : Str} {y : Int} (p : IsSP h v x y) (k : ∀ b o, h.get? b = some o → o.cls = .type "tuple" → h'.get? b = some o) : IsSP h' v x y := by
  obtain ⟨a, o, t, u, n, e, ho, hc, hd⟩ := p
  exact ⟨a, o, t, u, n, e, k _ _ ho hc, hc, hd⟩
theorem firsts_S {h : Heap} : ∀ {vs : List Value}, (∀ v ∈ vs, ∃ x y, IsSP h v x y) → ∃ fs : List Value, PySem.W.KatTups h vs fs ∧ fs.length = vs.length ∧ ∀ f ∈ fs, ∃ x t, f = Value.str x t
  | [], _ => ⟨[], PySem.W.KatTups.nil, rfl, fun _ hm => by simp at hm⟩
  | v :: vs, hp => by
    obtain ⟨fs, h1, h2, h3⟩ := firsts_S (vs := vs) fun v' hm => hp v' (List.mem_cons_of_mem _ hm)
    obtain ⟨x, y, a, o, t, u, n, e, ho, hc, hd⟩ := hp v (List.mem_cons_self ..)
    subst e
    refine ⟨.str x t :: fs, PySem.W.KatTups.cons ho hc hd rfl h1, by rw [List.length_cons, List.length_cons, h2], fun f hm => ?_⟩
    rcases List.mem_cons.mp hm with rfl | hm
    · exact ⟨x, t, rfl⟩
    · exact h3 f hm
section
variable {prog : Program} {w : World} {A : Around} {E : Value → Shared → Prop} {s : Shared}
theorem sp_cmp {vs : List Value} {k : Value → Str × Int} (hp : ∀ v ∈ vs, IsSP s.heap v (k v).1 (k v).2) : Cmp prog w A s (tuples' true) (fun p => p.1 ∈ vs) (lt2 fun v u => lexS (k v) (k u)) := by
  intro p q hm hm'
  have h1 := hp _ hm
  have h2 := hp _ hm'
  show wpAny (model prog w) A (keyLt' (tuples' true) p.1 q.1) (fun r s' => s' = s ∧ r = lexS (k p.1) (k q.1)) (fun _ _ => False) s
  unfold lexS
  generalize (k p.1).1 = x at h1 ⊢
  generalize (k p.1).2 = y at h1 ⊢
  generalize (k q.1).1 = x' at h2 ⊢
  generalize (k q.1).2 = y' at h2 ⊢
  obtain ⟨a, o, t, u, n, e, ho, hc, hd⟩ := h1
  obtain ⟨a', o', t', u', n', e', ho', hc', hd'⟩ := h2
  rw [e, e']
  refine PySem.W.kat_lt ho hd ho' hd' ?_
  show PySem.W.KatLex prog w A true (decide (2 < 2)) _ [(.str x t, .str x' t'), (.int y u, .int y' u')] 0 s
  refine PySem.W.kat_cons (SeqAt.EqAt.str_str x t x' t' prog w _ _ ?_)
  refine PySem.W.kat_go (fun e1 => ?_) (fun e1 => ?_)
  · have ex : x = x' := by simpa using e1
    refine PySem.W.kat_yes (PySem.W.kat_cons (SeqAt.EqAt.int_int y u y' u' prog w _ _ ?_))
    refine PySem.W.kat_go (fun e2 => ?_) (fun e2 => ?_)
    · have ey : y = y' := by simpa using e2
      have e3 : (if x = x' then decide (y < y') else decide (x.cps.toList < x'.cps.toList)) = false := by
        rw [if_pos ex, ey]
        exact decide_eq_false (Int.lt_irrefl _)
      exact PySem.W.kat_yes (PySem.W.kat_nil ⟨rfl, e3.symm⟩)
    · have e3 : (if x = x' then decide (y < y') else decide (x.cps.toList < x'.cps.toList)) = decide (y < y') := if_pos ex
      refine PySem.W.kat_no (PySem.W.kat_one _ _ (PyProof.Rows.lt_int ?_))
      exact (show s = s ∧ decide (y < y') = (if x = x' then decide (y < y') else decide (x.cps.toList < x'.cps.toList)) from ⟨rfl, e3.symm⟩)
  · have ex : ¬ x = x' := by simpa using e1
    have e3 : (if x = x' then decide (y < y') else decide (x.cps.toList < x'.cps.toList)) = decide (x.cps.toList < x'.cps.toList) := if_neg ex
    exact PySem.W.kat_no (oneLt_str ⟨rfl, e3.symm⟩)
theorem sp_sortable {a : Addr} {vs : List Value} {k : Value → Str × Int} (h0 : 0 < vs.length) (hp : ∀ v ∈ vs, IsSP s.heap v (k v).1 (k v).2) (ha : ∀ o, s.heap.get? a = some o → o.cls ≠ .type "tuple") : SortableO prog w A s a vs fun v u => lexS (k v) (k u) := by
  intro h' keep
  have hp' : ∀ v ∈ vs, IsSP h' v (k v).1 (k v).2 := fun v hm => (hp v hm).keeps fun b o e c => keep b o (fun z => by subst z; exact ha o e c) e
  obtain ⟨fs, h1, h2, h3⟩ := firsts_S fun v hm => ⟨_, _, hp' v hm⟩
  refine ⟨tuples' true, fun Q E hq => ?_, sp_cmp hp'⟩
  refine PySem.W.kat_kind (T := .type "str") h1 (by omega) (fun f hm => ?_) (by rfl) ?_
  · obtain ⟨x, t, rfl⟩ := h3 f hm
    exact PySem.W.Looks.now
  · have e : (Value.type "str" != Value.type "tuple") = true := by first | decide +kernel | rfl | decide
    rw [e]
    exact hq
theorem sorted_sp {l : Addr} {vs : List Value} {k : Value → Str × Int} {Q : Value → Shared → Prop} (hl : s.heap.IsList l vs.toArray) (hz : vs.length ≤ sizeLine) (hp : ∀ v ∈ vs, IsSP s.heap v (k v).1 (k v).2)
    (h : ∀ (h' : Heap) (d : Addr) (out : List Value), out.Perm vs → (∀ b o, s.heap.get? b = some o → h'.get? b = some o) → s.heap.objs.size ≤ d → (∃ n, h'.get? d = some (seqObj "list" out.toArray n)) → Q (.ref d) { s with heap := h' }) :
    wpAny (model prog w) A (call (.builtin "sorted") [.ref l]) Q E s := by
  refine sorted_ord (swo_S k) hl hz (fun h2 h₁ a ha kk => ?_) fun out hs hb => ?_
  · refine sp_sortable (s := { s with heap := h₁ }) (by omega) (fun v hm => (hp v hm).keeps fun b o e _ => (kk b o e).2) fun o e => ?_
    have e' : some o = some (seqObj "list" vs.toArray 0) := e.symm.trans ha
    cases e'
    intro c
    exact absurd (Value.type.inj c) (by decide)
  · exact h _ _ out hb.perm (fun b o e => sortedAll_old e) (Nat.le_succ _) (sortedAll_at s.heap vs out.toArray)
end
open PySem.Spec in
/-- sorted(xs) of pairs (text, int): they are there in some order -/
def rSortedSI (K : PySem.W.Frag) : List V → Hp → VK → Prop := fun vs H Q => ∃ (a : Addr) (xs : List V) (k : V → Str × Int), vs = [V.ref a] ∧ SqL K H a xs ∧ (∀ x ∈ xs, ∃ t, x = V.ref t ∧ SqT K H t [.str (k x).1, .int (k x).2]) ∧ ∀ ys p, ys.Perm xs → H p = none → Q (.ref p) (upd H p (.lst ys))
theorem cr_sortedSI {X : Cx} : CallR X (.builtin "sorted") (rSortedSI X.K) := by
  intro pins s σ H vs us Q I r h
  obtain ⟨a, xs, k, rfl, hs, hx, q⟩ := h
  obtain ⟨its, rv, hl, hz⟩ := I.list hs
  obtain ⟨u, rfl, ru⟩ := vals1 r
  obtain rfl : u = Value.ref a := ru
  obtain ⟨e1, e2⟩ := refs_back rv fun x m => by
    obtain ⟨t, e, _⟩ := hx x m
    exact ⟨t, e⟩
  refine sorted_sp (k := fun u => k (backV u)) hl.isList (by rw [← rv.length]; exact hz) (fun v hv => ?_) fun h' d out h2 kp hd hn => ?_
  · obtain ⟨t, rfl⟩ := e2 v hv
    have hm : V.ref t ∈ xs := by rw [e1]; exact List.mem_map.mpr ⟨_, hv, rfl⟩
    obtain ⟨t', e, ht⟩ := hx _ hm
    cases e
    obtain ⟨its2, r2, ⟨o, ho, hc, n, hd⟩, _⟩ := I.tuple ht
    obtain ⟨u1, u2, rfl, ri, rj⟩ := vals2 r2
    obtain ⟨t1, rfl⟩ := ri
    obtain ⟨t2, rfl⟩ := rj
    exact ⟨t, o, t1, t2, n, rfl, ho, hc, hd⟩
  · have h3 : ∀ u ∈ out, ∃ a, u = Value.ref a := fun u hu => e2 u (h2.mem_iff.mp hu)
    obtain ⟨n, hn⟩ := hn
    have hb : (out.map backV).Perm xs := by
      rw [e1]
      exact h2.map backV
    refine ⟨.ref d, upd H d (.lst (out.map backV)), I.laid (t' := s.toks) kp hd ⟨?_, out, n, vals_back h3, hn⟩, rfl, q _ d hb (I.hok.fresh hd)⟩
    rw [hb.length_eq]
    exact hz
end SRT

set_option Elab.async false
set_option linter.all false
set_option maxRecDepth 100000
set_option maxHeartbeats 4000000
/-! RGL: range(n) as a value, list(range(n)). -/
namespace RGL
open PySem PySem.Spec PyProof.Rows L2
theorem cr_range1 {X : Cx} : CallR X (.type "range") (fun vs H Q => ∃ j, vs = [V.int j] ∧ ∀ p, H p = none → Q (.ref p) (upd H p (.rng 0 j))) := by
  intro pins s σ H vs us Q I r h
  obtain ⟨j, rfl, q⟩ := h
  obtain ⟨u, rfl, ru⟩ := vals1 r
  obtain ⟨t, rfl⟩ := ru
  refine call_range_1 ⟨.ref s.heap.objs.size, upd H s.heap.objs.size (.rng 0 j), I.laid (t' := s.toks + 2) (fun b o e => Heap.get?_push_of_some _ e) (Nat.le_refl _) ?_, rfl, q _ (I.hok.fresh (Nat.le_refl _))⟩
  exact ⟨_, _, _, Heap.get?_push_size _ rfl⟩
def upTo (n : Nat) : List V := (List.range n).map fun i => V.int (i : Nat)
def rListRng : List V → Hp → VK → Prop := fun vs H Q => ∃ (a : Addr) (n : Nat), vs = [V.ref a] ∧ H a = some (.rng 0 n) ∧ n ≤ 1000 ∧ ∀ p, H p = none → Q (.ref p) (upd H p (.lst (upTo n)))
theorem vals_ints : ∀ {n : Nat} {l : List Value}, l.length = n → (∀ (i : Nat) (v : Value), l[i]? = some v → ∃ t, v = .int (i : Nat) t) → Vals (upTo n) l := by
  intro n
  unfold upTo
  induction n with
  | zero =>
    intro l hl _
    cases l with
    | nil => exact .nil
    | cons _ _ => cases hl
  | succ n ih =>
    intro l hl h
    have hne : l ≠ [] := fun e => by rw [e] at hl; cases hl
    have e := (List.dropLast_concat_getLast hne).symm
    rw [List.range_succ, List.map_append, e]
    have hd : l.dropLast.length = n := by rw [List.length_dropLast, hl]; rfl
    refine (ih hd fun i v hv => ?_).append (.cons ?_ .nil)
    · refine h i v ?_
      have hi : i < l.dropLast.length := by
        rcases Nat.lt_or_ge i l.dropLast.length with q | q
        · exact q
        · rw [List.getElem?_eq_none q] at hv; cases hv
      rw [e, List.getElem?_append_left hi]
      exact hv
    · obtain ⟨t, ht⟩ := h n (l.getLast hne) (by
        rw [List.getLast_eq_getElem, List.getElem?_eq_getElem (by omega)]
        simp [hl])
      exact ⟨t, ht⟩
theorem cr_listRng {X : Cx} (hc : X.calm = true) : CallR X (.type "list") rListRng := by
  intro pins s σ H vs us Q I r h
  obtain ⟨a, n, rfl, ha, hn, q⟩ := h
  obtain ⟨u, rfl, ru⟩ := vals1 r
  obtain rfl : u = Value.ref a := ru
  obtain ⟨t1, t2, t3, ho⟩ := I.hok a _ ha
  have hsz : Builtin.Range.rangeSize 0 n 1 = n := by rw [rangeSize_one]; split <;> omega
  refine call_list_range (n := n) (I.ok.hd hc) ho (small_one (by omega) (by omega) (by omega) (by omega)) hsz (by omega) fun h' tk acc' c' kp e it => ?_
  refine ⟨.ref s.heap.objs.size, upd H s.heap.objs.size (.lst (upTo n)), I.laid (t' := tk) kp (Nat.le_refl _) ⟨by simp [upTo, sizeLine_eq]; omega, acc'.toList, c', vals_ints (by rw [Array.length_toList, it.1]) fun i v hv => ?_, ?_⟩, rfl, q _ (I.hok.fresh (Nat.le_refl _))⟩
  · obtain ⟨t, e1⟩ := it.2 i v (by rw [← Array.getElem?_toList]; exact hv)
    exact ⟨t, by rw [e1]; simp⟩
  · simpa using e
end RGL

set_option Elab.async false
set_option linter.all false
set_option maxRecDepth 100000
set_option maxHeartbeats 4000000
/-! EMT: t == () and xs == [], whatever lies in t or xs. -/
namespace EMT
open PySem PySem.Spec PyProof.Rows L2
variable {X : Cx}
def rEqMt (K : PySem.W.Frag) : R2 := fun x y H Q => ∃ a b xs, x = .ref a ∧ y = .ref b ∧ SqT K H a xs ∧ SqT K H b [] ∧ Q (.bl xs.isEmpty) H
theorem op_eqMt (hu : X.A.units + 64 < cLine) : OpR X (compareOp .Eq) (rEqMt X.K) := by
  intro pins s σ H x y v u Q I rx ry h
  obtain ⟨a, b, xs, rfl, rfl, ha, hb, q⟩ := h
  cases (show v = Value.ref a from rx)
  cases (show u = Value.ref b from ry)
  obtain ⟨its, rv, pl, _⟩ := I.tuple ha
  obtain ⟨its2, rv2, pl2, _⟩ := I.tuple hb
  cases rv2
  have hl := rv.length
  refine SeqAt.eq_tupleAt (e := fun _ => true) pl pl2 (by omega) (fun j _ h2 => absurd h2 (Nat.not_lt_zero _)) ?_
  have e : ((List.range (min its.toArray.size ([] : List Value).toArray.size)).all (fun _ => true) && its.toArray.size == ([] : List Value).toArray.size) = xs.isEmpty := by
    cases xs with
    | nil => cases rv; rfl
    | cons x r => cases rv; simp
  rw [e]
  exact ⟨.bl _, H, I, rfl, q⟩
def rEqMtL (K : PySem.W.Frag) : R2 := fun x y H Q => ∃ a b xs, x = .ref a ∧ y = .ref b ∧ SqL K H a xs ∧ SqL K H b [] ∧ Q (.bl xs.isEmpty) H
theorem op_eqMtL (hu : X.A.units + 64 < cLine) : OpR X (compareOp .Eq) (rEqMtL X.K) := by
  intro pins s σ H x y v u Q I rx ry h
  obtain ⟨a, b, xs, rfl, rfl, ha, hb, q⟩ := h
  cases (show v = Value.ref a from rx)
  cases (show u = Value.ref b from ry)
  obtain ⟨its, rv, pl, _⟩ := I.list ha
  obtain ⟨its2, rv2, pl2, _⟩ := I.list hb
  cases rv2
  cases xs with
  | nil =>
    cases rv
    exact SeqAt.eq_listAt (e := fun _ => true) pl.isList pl2.isList rfl (by omega) (fun j _ h2 => absurd h2 (Nat.not_lt_zero _)) ⟨.bl true, H, I, rfl, q⟩
  | cons x r =>
    cases rv
    exact SeqAt.eq_list_lengthsAt pl.isList pl2.isList (by simp) (by omega) ⟨.bl false, H, I, rfl, q⟩
end EMT
namespace DL
open PySem PySem.Spec PyProof.Rows L2 GG DD PT
variable {K : KX}
def oEqMt : D2 := fun d e P => match d, e with
  | .tuple ds, .tuple [] => P (.bool ds.isEmpty)
  | _, _ => False
theorem ro_eqMt : RO K (EMT.rEqMt K) oEqMt := fun S H x y d e P Q _ hx hy h q => by
  unfold oEqMt at h
  split at h
  · obtain ⟨a, vs, rfl, k1, k2⟩ := da_tup hx
    obtain ⟨b, us, rfl, k3, k4⟩ := da_tup hy
    cases k4
    refine ⟨a, b, vs, rfl, rfl, k1, k3, q _ H _ h (Same.refl _) ?_⟩
    cases k2 with
    | nil => exact .bl _
    | cons _ _ => exact .bl _
  · exact h.elim
def oEqMtL : D2 := fun d e P => match d, e with
  | .list ds, .list [] => P (.bool ds.isEmpty)
  | _, _ => False
theorem ro_eqMtL : RO K (EMT.rEqMtL K) oEqMtL := fun S H x y d e P Q _ hx hy h q => by
  unfold oEqMtL at h
  split at h
  · obtain ⟨a, vs, rfl, k1, k2⟩ := da_list hx
    obtain ⟨b, us, rfl, k3, k4⟩ := da_list hy
    cases k4
    refine ⟨a, b, vs, rfl, rfl, sq k1, sq k3, q _ H _ h (Same.refl _) ?_⟩
    cases k2 with
    | nil => exact .bl _
    | cons _ _ => exact .bl _
  · exact h.elim
end DL

set_option Elab.async false
set_option linter.all false
set_option maxRecDepth 100000
set_option maxHeartbeats 4000000
/-! DLm: sorted of pairs (text, int). -/
namespace DL
open PySem PySem.Spec PyProof.Rows L2 GG DD PT
variable {K : KX}
def isSI : PyData → Bool
  | .tuple [.str _, .int _] => true
  | _ => false
theorem si_da {S : Addr → Prop} {H : Hp} {v : V} {d : PyData} (h : Da K (Hd S H) v d) (e : isSI d = true) : ∃ k : Str × Int, ∃ t, v = V.ref t ∧ SqT K H t [.str k.1, .int k.2] := by
  match d, h, e with
  | .tuple [.str x, .int i], h, _ =>
    obtain ⟨a, us, rfl, h3, h4⟩ := da_tup h
    cases h4 with
    | cons q1 h4 =>
      cases h4 with
      | cons q2 h4 =>
        cases h4
        cases q1
        cases q2
        exact ⟨(x, i), a, rfl, h3⟩
theorem DaAll.mem {H : Hp} : ∀ {vs : List V} {ds : List PyData}, DaAll K H vs ds → ∀ v ∈ vs, ∃ d ∈ ds, Da K H v d
  | _, _, .nil, v, m => by cases m
  | _, _, .cons h t, v, m => by
    rcases List.mem_cons.mp m with rfl | m
    · exact ⟨_, List.mem_cons_self, h⟩
    · obtain ⟨d, hd, h'⟩ := DaAll.mem t v m
      exact ⟨d, List.mem_cons_of_mem _ hd, h'⟩
theorem DaAll.perm {H : Hp} {ys vs : List V} (p : ys.Perm vs) : ∀ {ds : List PyData}, DaAll K H vs ds → ∃ es : List PyData, es.Perm ds ∧ DaAll K H ys es := by
  induction p with
  | nil => intro ds h; exact ⟨ds, List.Perm.refl _, h⟩
  | cons x p ih =>
    intro ds h
    cases h with
    | cons h t =>
      obtain ⟨es, pe, he⟩ := ih t
      exact ⟨_ :: es, pe.cons _, .cons h he⟩
  | swap x y l =>
    intro ds h
    cases h with
    | cons h1 t =>
      cases t with
      | cons h2 t => exact ⟨_, List.Perm.swap _ _ _, .cons h2 (.cons h1 t)⟩
  | trans p1 p2 ih1 ih2 =>
    intro ds h
    obtain ⟨es, pe, he⟩ := ih2 h
    obtain ⟨fs, pf, hf⟩ := ih1 he
    exact ⟨fs, pf.trans pe, hf⟩
noncomputable def kSI (K : PySem.W.Frag) (H : Hp) (v : V) : Str × Int := Classical.epsilon fun k : Str × Int => ∃ t, v = V.ref t ∧ SqT K H t [.str k.1, .int k.2]
def dSortSI (dl : DA) : DA := fun s P => dl s fun ds s1 => ds.all isSI = true ∧ ∀ es : List PyData, es.Perm ds → P es s1
theorem rf_sortSI {te : TE} {dl : DA} (h : RL K te dl) : RF K (tCB (SRT.rSortedSI K) (tCons te tNil)) (dSortSI dl) := fun C hC s P hd σ H Q R q =>
  rd_cb (rd_cons (h C hC s _ hd σ H _ R fun a vs H1 ds s1 hp R1 e hv => rd_nil (by
    obtain ⟨h1, h2⟩ := hp
    subst hC
    refine ⟨a, vs, kSI C.K H1, rfl, sq e, fun x m => ?_, fun ys p pm np => ?_⟩
    · obtain ⟨d, md, hd⟩ := hv.mem x m
      exact Classical.epsilon_spec (si_da hd (List.all_eq_true.mp h1 d md))
    · obtain ⟨es, pe, he⟩ := hv.perm pm
      exact q p _ H1 es s1 (h2 es pe) R1 np he)))
/-! ### list(range(n)) -/
def rRng1 : List V → Hp → VK → Prop := fun vs H Q => ∃ j, vs = [V.int j] ∧ ∀ p, H p = none → Q (.ref p) (upd H p (.rng 0 j))
def upToD (n : Nat) : List PyData := (List.range n).map fun i => .int (i : Nat)
theorem da_upToR {H : Hp} (n : Nat) : DaAll K H (RGL.upTo n) (upToD n) := by
  unfold RGL.upTo upToD
  generalize List.range n = l
  induction l with
  | nil => exact .nil
  | cons x l ih => exact .cons (.int _) ih
def dListRng (de : DE) : DA := fun s P => de s fun d s1 => match d with
  | .int j => 0 ≤ j ∧ j ≤ 1000 ∧ P (upToD j.toNat) s1
  | _ => False
theorem rf_listRng {te : TE} {de : DE} (h : RE K te de) : RF K (tCB RGL.rListRng (tCons (tCB rRng1 (tCons te tNil)) tNil)) (dListRng de) := fun C hC s P hd σ H Q R q =>
  rd_cb (rd_cons (rd_cb (rd_cons (h C hC s _ hd σ H _ R fun v H1 d s1 hp R1 hv => rd_nil (by
    cases d with
    | int j =>
      cases hv
      refine ⟨j, rfl, fun p np => rd_nil ⟨p, j.toNat, rfl, ?_, by omega, fun p' np' => q p' _ _ _ s1 hp.2.2 (R1.ext (same_upd np)) np' (da_upToR _)⟩⟩
      rw [Int.toNat_of_nonneg hp.1]
      exact upd_same
    | _ => exact hp.elim)))))
/-! ### {k: v, ..} -/
def XPs (C : DC) (trs : List (TE × TE)) (s : DSt) (P : List (PyData × PyData) → DSt → Prop) : Prop := ∀ (σ : L2.St) (H : Hp) (Q : List (V × V) → Hp → Prop), Rl C σ H s →
  (∀ ps H' ds s', P ds s' → Rl C σ H' s' → DaAll C.K (Hd (Sof C σ s'.sl) H') (ps.map Prod.fst) (ds.map Prod.fst) → DaAll C.K (Hd (Sof C σ s'.sl) H') (ps.map Prod.snd) (ds.map Prod.snd) → Q ps H') → tPairs trs σ H Q
def RPs (K : KX) (trs : List (TE × TE)) (dp : DK) : Prop := ∀ C : DC, C.K = K → ∀ s P, dp s P → XPs C trs s P
def dPsNil : DK := fun s P => P [] s
def dPsCons (dk dv : DE) (dp : DK) : DK := fun s P => dk s fun x s1 => dv s1 fun y s2 => dp s2 fun ds s3 => P ((x, y) :: ds) s3
theorem rps_nil : RPs K [] dPsNil := fun C hC s P hd σ H Q R q => q [] H [] s hd R .nil .nil
theorem rps_cons {tk tv : TE} {trs : List (TE × TE)} {dk dv : DE} {dp : DK} (h1 : RE K tk dk) (h2 : RE K tv dv) (hr : RPs K trs dp) : RPs K ((tk, tv) :: trs) (dPsCons dk dv dp) := fun C hC s P hd σ H Q R q =>
  h1 C hC s _ hd σ H _ R fun v H1 x s1 hp R1 hv => h2 (C.keep v x) hC s1 _ hp σ H1 _ (R1.keep hv) fun w H2 y s2 hp R2 hw => hr ((C.keep v x).keep w y) hC s2 _ hp σ H2 _ (R2.keep hw) fun ps H3 ds s3 hp R3 k1 k2 => by
    obtain ⟨R4, hw'⟩ := R3.kept
    obtain ⟨R5, hv'⟩ := R4.kept
    exact q ((v, w) :: ps) H3 ((x, y) :: ds) s3 hp R5 (.cons hv' k1) (.cons hw' k2)
def keysD : List (PyData × PyData) → Option (List (L2.Key × PyData))
  | [] => some []
  | (k, d) :: r => match kOf k, keysD r with
    | some k', some r' => some ((k', d) :: r')
    | _, _ => none
theorem keys_da {H : Hp} : ∀ {ps : List (V × V)} {ds : List (PyData × PyData)} {ks : List (L2.Key × PyData)}, DaAll K H (ps.map Prod.fst) (ds.map Prod.fst) → DaAll K H (ps.map Prod.snd) (ds.map Prod.snd) → keysD ds = some ks →
    ∃ kvs : List (L2.Key × V), ps = kvs.map (fun kv => (kV kv.1, kv.2)) ∧ kvs.length = ds.length ∧ Paired (fun (a : L2.Key × V) (b : L2.Key × PyData) => a.1 = b.1 ∧ Da K H a.2 b.2) kvs ks
  | [], [], _, _, _, e => by
    cases e
    exact ⟨[], rfl, rfl, .nil⟩
  | [], _ :: _, _, h, _, _ => by cases h
  | _ :: _, [], _, h, _, _ => by cases h
  | (v, w) :: ps, (x, y) :: ds, ks, h1, h2, e => by
    cases h1 with
    | cons a1 a2 =>
      cases h2 with
      | cons b1 b2 =>
        unfold keysD at e
        cases e1 : kOf x with
        | none => rw [e1] at e; cases e
        | some k' =>
          cases e2 : keysD ds with
          | none => rw [e1, e2] at e; cases e
          | some r' =>
            rw [e1, e2] at e
            cases e
            obtain ⟨kvs, rfl, hl, hp⟩ := keys_da a2 b2 e2
            have e3 := key_v a1 e1
            have e3 : v = kV k' := e3
            subst e3
            exact ⟨(k', w) :: kvs, rfl, by simp [hl], .cons ⟨rfl, b1⟩ hp⟩
theorem upd_del {H : Hp} {L : Addr} {o : HO} : upd (del H L) L o = upd H L o := by
  funext b
  by_cases e : b = L
  · subst e
    rw [upd_same, upd_same]
  · rw [upd_ne e, upd_ne e, del_ne e]
def dDisp (dp : DK) : DK := fun s P => dp s fun ds s1 => ds.length ≤ 15 ∧ ∃ ks, keysD ds = some ks ∧ P (mergeD [] ks) s1
theorem rd_disp {trs : List (TE × TE)} {dp : DK} (h : RPs K trs dp) : RD K (tDisp trs) (dDisp dp) := fun C hC s P hd σ H Q R q p np => by
  obtain ⟨n1, n2⟩ := R.new np
  have nM : ¬ Mu C.W p := fun z => n1 (.inr (.inl z))
  have R1 : Rl ((C.hide p).pin p (.dK [])) σ (upd H p (.dK [])) s := (R.hidden np).pin (.inr rfl) nM upd_same
  refine h ((C.hide p).pin p (.dK [])) hC s _ hd σ _ _ R1 fun ps H2 ds s2 hp R2 k1 k2 => ⟨R2.unpin.2, ?_⟩
  obtain ⟨h15, ks, hk, hp⟩ := hp
  obtain ⟨kvs, e, hl, pr⟩ := keys_da k1 k2 hk
  obtain ⟨R3, hs⟩ := R2.unpin.1.leave (fun z => n1 (.inl z)) nM n2 fun a u z => (R.fz a u z).1
  refine ⟨kvs, e, by omega, ?_⟩
  have hq := q p (mergeK [] kvs) (del H2 p) (mergeD [] ks) s2 hp R3 (if_pos rfl) ((merge_da pr .nil).of hs)
  rw [upd_del] at hq
  exact hq
end DL

set_option Elab.async false
set_option linter.all false
set_option maxRecDepth 100000
set_option maxHeartbeats 4000000
/-! LZ: list(zip(xs, ys)), two lists. -/
namespace LZ
open PySem PyProof.Rows L2
section
variable {prog : Program} {w : World} {A : Around} {E : Value → Shared → Prop} {s : Shared}
/-- the zip before its first pair, or with a pair out that is kept -/
def ZSt (h : Heap) (z TI TO i1 i2 : Addr) : Prop := (IsZip h z TI TO .none ∧ ∃ a b, IsPair h TO a b) ∨ ∃ (T : Addr) (f : Bool) (oT : Obj), IsZipHeld h z TI TO T f ∧ h.get? T = some oT ∧ T ≠ z ∧ T ≠ TO ∧ T ≠ i1 ∧ T ≠ i2
theorem next_item {z TI TO i1 i2 l1 l2 : Addr} {k1 k2 : Nat} {xs ys : Array Value} {x y : Value} {Q : Option Value → Shared → Prop} (D : ZipApart z TI TO i1 i2 l1 l2)
    (hz : ZSt s.heap z TI TO i1 i2) (hTI : IsPair s.heap TI (.ref i1) (.ref i2))
    (h1 : s.heap.IsListIter i1 l1 k1) (h2 : s.heap.IsListIter i2 l2 k2) (hl1 : s.heap.IsList l1 xs) (hl2 : s.heap.IsList l2 ys) (hx : xs[k1]? = some x) (hy : ys[k2]? = some y) (hTO : TO < s.heap.objs.size)
    (hQ : ∀ h', ZSt h' z TI TO i1 i2 → h'.IsListIter i1 l1 (k1 + 1) → h'.IsListIter i2 l2 (k2 + 1) → IsPair h' s.heap.objs.size x y → h'.objs.size = s.heap.objs.size + 1 →
      (∀ c o, c ≠ z → c ≠ TO → c ≠ i1 → c ≠ i2 → s.heap.get? c = some o → h'.get? c = some o) → Q (some (.ref s.heap.objs.size)) { s with heap := h' }) :
    wpAny (model prog w) A (pyNext (.ref z)) Q E s := by
  have hi1 : i1 < s.heap.objs.size := by obtain ⟨_, e, _⟩ := h1; exact Heap.lt_size e
  have hi2 : i2 < s.heap.objs.size := by obtain ⟨_, e, _⟩ := h2; exact Heap.lt_size e
  rcases hz with ⟨hz, a, b, hT⟩ | ⟨T, f, oT, hz, hT, t1, t2, t3, t4⟩
  · have hzl : z < s.heap.objs.size := Heap.lt_size hz
    exact wpAny_pyNext_zip_item D hz hTI hT h1 h2 hl1 hl2 hx hy fun h' a1 a2 a3 a4 a5 a6 hk =>
      hQ h' (.inr ⟨s.heap.objs.size, false, _, a1, a5, Nat.ne_of_gt hzl, Nat.ne_of_gt hTO, Nat.ne_of_gt hi1, Nat.ne_of_gt hi2⟩) a3 a4 a5 a6 hk
  · exact wpAny_pyNext_zip_item_held D hz hT hTI h1 h2 hl1 hl2 hx hy fun h' a1 a3 a4 a5 a6 hk =>
      hQ h' (.inr ⟨T, true, oT, a1, hk T oT t1 t3 t4 hT, t1, t2, t3, t4⟩) a3 a4 a5 a6 fun c o c1 _ c3 c4 e => hk c o c1 c3 c4 e
theorem next_end {z TI TO i1 i2 l1 l2 : Addr} {k1 k2 : Nat} {xs ys : Array Value} {Q : Option Value → Shared → Prop} (hh : A.handled = none) (D : ZipApart z TI TO i1 i2 l1 l2)
    (hz : ZSt s.heap z TI TO i1 i2) (hTI : IsPair s.heap TI (.ref i1) (.ref i2))
    (h1 : s.heap.IsListIter i1 l1 k1) (h2 : s.heap.IsListIter i2 l2 k2) (hl1 : s.heap.IsList l1 xs) (hl2 : s.heap.IsList l2 ys) (hend : xs[k1]? = none ∨ ys[k2]? = none)
    (hQ : ∀ h', (∀ c o, c ≠ z → c ≠ TO → c ≠ i1 → c ≠ i2 → s.heap.get? c = some o → h'.get? c = some o) → Q none { s with heap := h' }) :
    wpAny (model prog w) A (pyNext (.ref z)) Q E s := by
  rcases hz with ⟨hz, a, b, hT⟩ | ⟨T, f, oT, hz, hT, t1, t2, t3, t4⟩
  · exact wpAny_pyNext_zip_end hh D hz hTI hT h1 h2 hl1 hl2 hend hQ
  · exact wpAny_pyNext_zip_end_held hh D hz hT hTI h1 h2 hl1 hl2 hend fun h' hk => hQ h' fun c o c1 _ c3 c4 e => hk c o c1 c3 c4 e
theorem ZSt.at {h h' : Heap} {z TI TO i1 i2 : Addr} (st : ZSt h z TI TO i1 i2) {S : Addr} (hz : z ≠ S) (hTO : TO ≠ S) (hT : ∀ o, h.get? S = some o → ∃ u, h'.get? S = some u) (k : ∀ b o, b ≠ S → h.get? b = some o → h'.get? b = some o) : ZSt h' z TI TO i1 i2 := by
  rcases st with ⟨q1, a, b, q2⟩ | ⟨T, f, oT, q1, q2, t⟩
  · exact .inl ⟨k _ _ hz q1, a, b, k _ _ hTO q2⟩
  · by_cases e : T = S
    · subst e
      obtain ⟨u, hu⟩ := hT _ q2
      exact .inr ⟨T, f, u, k _ _ hz q1, hu, t⟩
    · exact .inr ⟨T, f, oT, k _ _ hz q1, k _ _ e q2, t⟩
theorem nd_push {acc : List Value} {u : Value} (nd : ∀ (j j' : Nat) (v : Value), acc[j]? = some v → acc[j']? = some v → j = j') (hu : ∀ (j : Nat) (v : Value), acc[j]? = some v → v ≠ u) :
    ∀ (j j' : Nat) (v : Value), (acc ++ [u])[j]? = some v → (acc ++ [u])[j']? = some v → j = j' := by
  have key : ∀ (j : Nat) (v : Value), (acc ++ [u])[j]? = some v → (j < acc.length ∧ acc[j]? = some v) ∨ (j = acc.length ∧ v = u) := fun j v h => by
    by_cases hj : j < acc.length
    · rw [List.getElem?_append_left hj] at h
      exact .inl ⟨hj, h⟩
    · rw [List.getElem?_append_right (by omega)] at h
      cases e : j - acc.length with
      | zero =>
        rw [e] at h
        exact .inr ⟨by omega, (Option.some.inj h).symm⟩
      | succ k => rw [e] at h; cases h
  intro j j' v h h'
  rcases key j v h with ⟨a, b⟩ | ⟨a, b⟩ <;> rcases key j' v h' with ⟨a', b'⟩ | ⟨a', b'⟩
  · exact nd j j' v b b'
  · exact absurd b' (hu j v b)
  · exact absurd b (hu j' v b')
  · omega
structure ZL (h0 : Heap) (S z TI TO i1 i2 l1 l2 : Addr) (xs ys : Array Value) (i : Nat) (acc : List Value) (h : Heap) : Prop where
  st : ZSt h z TI TO i1 i2
  ti : IsPair h TI (.ref i1) (.ref i2)
  to : TO < h.objs.size
  h1 : h.IsListIter i1 l1 i
  h2 : h.IsListIter i2 l2 i
  a1 : h.IsList l1 xs
  a2 : h.IsList l2 ys
  s : ∃ c, h.get? S = some { cls := .type "list", dict := none, data := .seq acc.toArray c, slots := #[] }
  len : acc.length = i
  pr : ∀ (j : Nat) (v : Value), acc[j]? = some v → ∃ (p : Addr) (x y : Value), v = Value.ref p ∧ xs[j]? = some x ∧ ys[j]? = some y ∧ IsPair h p x y ∧ (p ≠ S ∧ p ≠ z ∧ p ≠ TO ∧ p ≠ i1 ∧ p ≠ i2) ∧ h0.objs.size ≤ p
  old : ∀ b o, b ≠ S → b ≠ z → b ≠ TO → b ≠ i1 → b ≠ i2 → h0.get? b = some o → h.get? b = some o
  nd : ∀ (j j' : Nat) (v : Value), acc[j]? = some v → acc[j']? = some v → j = j'
  sz : h0.objs.size ≤ h.objs.size
/-- the end: the list stands, its pairs stand -/
structure ZE (h0 : Heap) (S z TO i1 i2 : Addr) (xs ys : Array Value) (acc : List Value) (h : Heap) : Prop where
  s : ∃ c, h.get? S = some { cls := .type "list", dict := none, data := .seq acc.toArray c, slots := #[] }
  len : acc.length = min xs.size ys.size
  pr : ∀ (j : Nat) (v : Value), acc[j]? = some v → ∃ (p : Addr) (x y : Value), v = Value.ref p ∧ xs[j]? = some x ∧ ys[j]? = some y ∧ IsPair h p x y ∧ (p ≠ S ∧ p ≠ z ∧ p ≠ TO ∧ p ≠ i1 ∧ p ≠ i2) ∧ h0.objs.size ≤ p
  old : ∀ b o, b ≠ S → b ≠ z → b ≠ TO → b ≠ i1 → b ≠ i2 → h0.get? b = some o → h.get? b = some o
  nd : ∀ (j j' : Nat) (v : Value), acc[j]? = some v → acc[j']? = some v → j = j'
structure SAp (S z TI TO i1 i2 l1 l2 : Addr) : Prop where
  z : z ≠ S
  TI : TI ≠ S
  TO : TO ≠ S
  i1 : i1 ≠ S
  i2 : i2 ≠ S
  l1 : l1 ≠ S
  l2 : l2 ≠ S
theorem zip_loop {h0 : Heap} {S z TI TO i1 i2 l1 l2 : Addr} {xs ys : Array Value} {res : Value} {Rs : Result → Shared → Prop} (hh : A.handled = none) (D : ZipApart z TI TO i1 i2 l1 l2) (ap : SAp S z TI TO i1 i2 l1 l2) (hx : xs.size ≤ sizeLine)
    (hd : ∀ acc h', ZE h0 S z TO i1 i2 xs ys acc h' → Rs (.ok (.ret res)) { s with heap := h' }) :
    ∀ (m i : Nat) (acc : List Value) (h : Heap), m + i = min xs.size ys.size → ZL h0 S z TI TO i1 i2 l1 l2 xs ys i acc h → codeAny (model prog w) A (.builtin "list.extend.loop" ⟨[.ref S, .ref z, res], []⟩) Rs { s with heap := h } := by
  intro m
  induction m with
  | zero =>
    intro i acc h hm J
    refine codeAny_builtin PySem.F.entry_extend_loop ?_
    rw [Around.under_plainId PySem.F.plain_extend_loop _]
    show wpAny _ A.in1 (pyNext (.ref z) >>= _) _ _ _
    have hend : xs[i]? = none ∨ ys[i]? = none := by
      rcases Nat.le_total xs.size ys.size with q | q
      · exact .inl (by rw [Array.getElem?_eq_none]; omega)
      · exact .inr (by rw [Array.getElem?_eq_none]; omega)
    refine wpAny_bind (next_end (s := { s with heap := h }) hh D J.st J.ti J.h1 J.h2 J.a1 J.a2 hend fun h' hk => wpAny_pure (hd acc h' ?_))
    obtain ⟨c, hc⟩ := J.s
    refine ⟨⟨c, hk _ _ ap.z.symm ap.TO.symm ap.i1.symm ap.i2.symm hc⟩, by rw [J.len]; omega, fun j v hv => ?_, fun b o b1 b2 b3 b4 b5 e => hk b o b2 b3 b4 b5 (J.old b o b1 b2 b3 b4 b5 e), J.nd⟩
    obtain ⟨p, x, y, e1, e2, e3, e4, e5, e6⟩ := J.pr j v hv
    exact ⟨p, x, y, e1, e2, e3, hk _ _ e5.2.1 e5.2.2.1 e5.2.2.2.1 e5.2.2.2.2 e4, e5, e6⟩
  | succ m ih =>
    intro i acc h hm J
    refine codeAny_builtin PySem.F.entry_extend_loop ?_
    rw [Around.under_plainId PySem.F.plain_extend_loop _]
    show wpAny _ A.in1 (pyNext (.ref z) >>= _) _ _ _
    have l1 : i < xs.size := by omega
    have l2 : i < ys.size := by omega
    refine wpAny_bind (next_item (s := { s with heap := h }) D J.st J.ti J.h1 J.h2 J.a1 J.a2 (Array.getElem?_eq_getElem l1) (Array.getElem?_eq_getElem l2) J.to fun h' st' h1' h2' hp hsz hk => ?_)
    show wpAny _ A.in1 (updateSeq S (·.push (.ref h.objs.size)) >>= _) _ _ _
    obtain ⟨c, hc⟩ := J.s
    have hS := hk _ _ ap.z.symm ap.TO.symm ap.i1.symm ap.i2.symm hc
    have lS : S < h.objs.size := Heap.lt_size hc
    refine wpAny_bind (wpAny_updateSeq hS rfl (wpAny_pure ⟨plainId_quiet PySem.F.plain_extend_loop _, ?_⟩) (by rw [List.size_toArray, J.len]; omega) (by show (acc.toArray.push _).size ≤ sizeLine + 1; rw [Array.size_push, List.size_toArray, J.len]; omega))
    have hS2 := Heap.get?_update_self (Obj.mapSeq (·.push (Value.ref h.objs.size))) hS rfl
    have oth : ∀ b o, b ≠ S → h'.get? b = some o → (h'.update S (Obj.mapSeq (·.push (Value.ref h.objs.size)))).get? b = some o := fun b o hb e => (Heap.get?_update_other _ _ (Ne.symm hb)).trans e
    have keep : ∀ b o, b ≠ S → b ≠ z → b ≠ TO → b ≠ i1 → b ≠ i2 → h.get? b = some o → (h'.update S (Obj.mapSeq (·.push (Value.ref h.objs.size)))).get? b = some o := fun b o q1 q2 q3 q4 q5 e => oth b o q1 (hk b o q2 q3 q4 q5 e)
    have usz : (h'.update S (Obj.mapSeq (·.push (Value.ref h.objs.size)))).objs.size = h'.objs.size := (Heap.SameBut.update ..).1
    have lz : z < h.objs.size := by
      rcases J.st with ⟨q, _⟩ | ⟨_, _, _, q, _⟩
      · exact Heap.lt_size q
      · exact Heap.lt_size q
    have li1 : i1 < h.objs.size := by obtain ⟨_, e, _⟩ := J.h1; exact Heap.lt_size e
    have li2 : i2 < h.objs.size := by obtain ⟨_, e, _⟩ := J.h2; exact Heap.lt_size e
    have lto := J.to
    refine ih (i + 1) (acc ++ [.ref h.objs.size]) _ (by omega) ⟨st'.at ap.z ap.TO (fun _ _ => ⟨_, hS2⟩) oth, keep _ _ ap.TI D.TIz D.TITO D.TIi1 D.TIi2 J.ti, by rw [usz, hsz]; exact Nat.lt_succ_of_lt lto, h1'.at fun o e => oth _ o ap.i1 e, h2'.at fun o e => oth _ o ap.i2 e,
      J.a1.at fun o e => keep _ o ap.l1 D.l1z D.l1TO D.l1i1 D.l1i2 e, J.a2.at fun o e => keep _ o ap.l2 D.l2z D.l2TO D.l2i1 D.l2i2 e, ⟨_, by rw [hS2]; simp [Obj.mapSeq]; rfl⟩, by simp [J.len], fun j v hv => ?_, fun b o b1 b2 b3 b4 b5 e => keep b o b1 b2 b3 b4 b5 (J.old b o b1 b2 b3 b4 b5 e), nd_push J.nd fun j v hv e => (by
        obtain ⟨p, x, y, e1, _, _, e4, _⟩ := J.pr j v hv
        rw [e1] at e
        have lp := Heap.lt_size e4
        rw [Value.ref.inj e] at lp
        exact Nat.lt_irrefl _ lp), by rw [usz, hsz]; exact Nat.le_succ_of_le J.sz⟩
    by_cases hj : j < acc.length
    · rw [List.getElem?_append_left hj] at hv
      obtain ⟨p, x, y, e1, e2, e3, e4, e5, e6⟩ := J.pr j v hv
      exact ⟨p, x, y, e1, e2, e3, keep _ _ e5.1 e5.2.1 e5.2.2.1 e5.2.2.2.1 e5.2.2.2.2 e4, e5, e6⟩
    · have ej : j = i := by
        have z1 : j < (acc ++ [Value.ref h.objs.size]).length := by
          rcases Nat.lt_or_ge j (acc ++ [Value.ref h.objs.size]).length with q | q
          · exact q
          · rw [List.getElem?_eq_none q] at hv; cases hv
        have z2 := J.len
        rw [List.length_append, List.length_singleton] at z1
        omega
      subst ej
      rw [List.getElem?_append_right (by rw [J.len]; exact Nat.le_refl _), J.len, Nat.sub_self] at hv
      cases hv
      exact ⟨h.objs.size, _, _, rfl, Array.getElem?_eq_getElem l1, Array.getElem?_eq_getElem l2, oth _ _ (Nat.ne_of_gt lS) hp, ⟨Nat.ne_of_gt lS, Nat.ne_of_gt lz, Nat.ne_of_gt lto, Nat.ne_of_gt li1, Nat.ne_of_gt li2⟩, J.sz⟩
theorem nolen_zip : typeLookup (.type "zip") "__len__" = pure none := by rw [typeLookup_type, builtinLookup_eq_fast]; kernel_rfl
theorem nohint_zip : typeLookup (.type "zip") "__length_hint__" = pure none := by rw [typeLookup_type, builtinLookup_eq_fast]; kernel_rfl
theorem call_list_zip {z TI TO i1 i2 l1 l2 : Addr} {xs ys : Array Value} {a b : Value} {Q : Value → Shared → Prop} (hh : A.handled = none) (D : ZipApart z TI TO i1 i2 l1 l2) (hx : xs.size ≤ sizeLine)
    (hz : IsZip s.heap z TI TO .none) (hTI : IsPair s.heap TI (.ref i1) (.ref i2)) (hTO : IsPair s.heap TO a b) (h1 : s.heap.IsListIter i1 l1 0) (h2 : s.heap.IsListIter i2 l2 0) (hl1 : s.heap.IsList l1 xs) (hl2 : s.heap.IsList l2 ys)
    (hQ : ∀ acc h', ZE s.heap s.heap.objs.size z TO i1 i2 xs ys acc h' → Q (.ref s.heap.objs.size) { s with heap := h' }) :
    wpAny (model prog w) A (call (.type "list") [.ref z]) Q E s := by
  have lz : z < s.heap.objs.size := Heap.lt_size hz
  have lTI : TI < s.heap.objs.size := Heap.lt_size hTI
  have lTO : TO < s.heap.objs.size := Heap.lt_size hTO
  have li1 : i1 < s.heap.objs.size := by obtain ⟨_, e, _⟩ := h1; exact Heap.lt_size e
  have li2 : i2 < s.heap.objs.size := by obtain ⟨_, e, _⟩ := h2; exact Heap.lt_size e
  have ll1 : l1 < s.heap.objs.size := by obtain ⟨_, e, _⟩ := hl1; exact Heap.lt_size e
  have ll2 : l2 < s.heap.objs.size := by obtain ⟨_, e, _⟩ := hl2; exact Heap.lt_size e
  refine callType_codes (Q₁ := fun obj s₁ => obj = .ref s.heap.objs.size ∧ s₁ = { s with heap := s.heap.push { cls := .type "list", data := .seq #[] } }) PySem.F.called_list (PySem.F.typeCall_list_1 _) PySem.F.entry_list_init
    (code_list_new _ ⟨rfl, rfl⟩) fun obj s₁ h₁ => ?_
  obtain ⟨rfl, rfl⟩ := h₁
  have hS : (s.heap.push { cls := .type "list", data := .seq #[] }).get? s.heap.objs.size = some { cls := .type "list", data := .seq #[] } := Heap.get?_push_size _ rfl
  refine ⟨⟨_, hS, rfl⟩, PySem.F.args_list_init_2 _ _, ?_⟩
  show wpAny _ _ (do let old ← Builtin.List.listItems (.ref s.heap.objs.size); Builtin.List.listUpdate (.ref s.heap.objs.size) (fun _ => #[]); letGo old.toList.reverse; Builtin.List.listExtendWith (.ref s.heap.objs.size) (.ref z) .none) _ _ _
  refine wpAny_bind ?_
  unfold Builtin.List.listItems
  refine wpAny_bind (wpAny_seqItems hS rfl (wpAny_pure ?_))
  show wpAny _ _ (updateSeq s.heap.objs.size (fun _ => #[]) >>= fun _ => letGo (#[] : Array Value).toList.reverse >>= fun _ => Builtin.List.listExtendWith (.ref s.heap.objs.size) (.ref z) .none) _ _ _
  refine wpAny_bind (wpAny_updateSeq hS rfl ?_)
  have hS₂ := Heap.get?_update_self (Obj.mapSeq (fun _ => (#[] : Array Value))) hS rfl
  have k₂ : ∀ b o, s.heap.get? b = some o → ((s.heap.push { cls := .type "list", data := .seq #[] }).update s.heap.objs.size (Obj.mapSeq (fun _ => (#[] : Array Value)))).get? b = some o :=
    fun b o e => (Heap.get?_update_other _ _ (Nat.ne_of_gt (Heap.lt_size e))).trans (Heap.get?_push_of_some _ e)
  have z₂ : ((s.heap.push { cls := .type "list", data := .seq #[] }).update s.heap.objs.size (Obj.mapSeq (fun _ => (#[] : Array Value)))).objs.size = s.heap.objs.size + 1 := by rw [(Heap.SameBut.update ..).1, Heap.size_push]
  refine wpAny_bind (wpAny_letGo ?_)
  generalize (s.heap.push { cls := .type "list", data := .seq #[] }).update s.heap.objs.size (Obj.mapSeq (fun _ => (#[] : Array Value))) = hh₂ at hS₂ k₂ z₂
  have hT : Shared.TypeIs { s with heap := hh₂ } (.ref z) "zip" := ⟨_, k₂ _ _ hz, rfl⟩
  unfold Builtin.List.listExtendWith
  refine wpAny_bind (wpAny_typeOf hT ?_)
  have e1 : Builtin.List.listSameRef (.ref s.heap.objs.size) (.ref z) = false := by simp [Builtin.List.listSameRef, Nat.ne_of_gt lz]
  have e2 : (Value.type "zip" == Value.type "list") = false := by decide
  have e3 : (Value.type "zip" == Value.type "tuple") = false := by decide
  simp only [e1, e2, e3, Bool.or_false, Bool.false_eq_true, if_false]
  refine wpAny_bind (wpAny_pyIter_zip (s := { s with heap := hh₂ }) (k₂ _ _ hz) ?_)
  refine wpAny_bind (wpAny_holding ?_)
  unfold Builtin.List.listLengthHint
  refine wpAny_bind (wpAny_specialOf hT nolen_zip ?_)
  show wpAny _ _ (specialOf (Value.ref z) (Str.ofString "__length_hint__") >>= _) _ _ _
  refine wpAny_bind (wpAny_specialOf hT nohint_zip ?_)
  refine wpAny_pure ?_
  show wpAny _ _ (rule "list.extend.makes-room" >>= fun _ => Builtin.List.listTouch (.ref s.heap.objs.size) >>= fun _ =>
    again (.builtin "list.extend.loop" ⟨[.ref s.heap.objs.size, .ref z, .none], []⟩)) _ _ _
  refine wpAny_bind (wpAny_rule ?_)
  refine wpAny_bind ?_
  show wpAny _ _ (updateSeq s.heap.objs.size (·.push .none) >>= fun _ => updateSeq s.heap.objs.size (·.pop)) _ _ _
  refine wpAny_bind (wpAny_updateSeq hS₂ rfl ?_)
  have hS₃ := Heap.get?_update_self (Obj.mapSeq (·.push Value.none)) hS₂ rfl
  refine wpAny_updateSeq hS₃ rfl ?_
  have hS₄ := Heap.get?_update_self (Obj.mapSeq (·.pop)) hS₃ rfl
  have k₄ : ∀ b o, s.heap.get? b = some o → ((hh₂.update s.heap.objs.size (Obj.mapSeq (·.push Value.none))).update s.heap.objs.size (Obj.mapSeq (·.pop))).get? b = some o :=
    fun b o e => (Heap.get?_update_other _ _ (Nat.ne_of_gt (Heap.lt_size e))).trans ((Heap.get?_update_other _ _ (Nat.ne_of_gt (Heap.lt_size e))).trans (k₂ b o e))
  have z₄ : ((hh₂.update s.heap.objs.size (Obj.mapSeq (·.push Value.none))).update s.heap.objs.size (Obj.mapSeq (·.pop))).objs.size = s.heap.objs.size + 1 := by rw [(Heap.SameBut.update ..).1, (Heap.SameBut.update ..).1, z₂]
  refine wpAny_pure ⟨plainId_quiet PySem.F.plain_extend_loop _, zip_loop (s := s) (h0 := s.heap) (A := A.in1) hh D ⟨Nat.ne_of_lt lz, Nat.ne_of_lt lTI, Nat.ne_of_lt lTO, Nat.ne_of_lt li1, Nat.ne_of_lt li2, Nat.ne_of_lt ll1, Nat.ne_of_lt ll2⟩ hx (fun acc h' ze => ⟨rfl, hQ acc h' ze⟩) _ 0 [] _ rfl ?_⟩
  exact ⟨.inl ⟨k₄ _ _ hz, a, b, k₄ _ _ hTO⟩, k₄ _ _ hTI, by rw [z₄]; exact Nat.lt_succ_of_lt lTO, h1.at fun o e => k₄ _ o e, h2.at fun o e => k₄ _ o e, hl1.at fun o e => k₄ _ o e, hl2.at fun o e => k₄ _ o e, ⟨_, hS₄⟩, rfl, (fun j v hv => by simp at hv), fun b o _ _ _ _ _ e => k₄ b o e, (fun j j' v hv => by simp at hv), by rw [z₄]; exact Nat.le_succ _⟩
end
end LZ

set_option Elab.async false
set_option linter.all false
set_option maxRecDepth 100000
set_option maxHeartbeats 4000000
/-! LZP: list(zip(xs, ys)) as an expression. -/
namespace LZ
open PySem PySem.Spec PyProof.Rows L2
variable {X : Cx}
/-- things already laid are tracked -/
theorem takeF {pins : List (Addr × Obj)} {σ : L2.St} {H0 : Hp} {s : Shared} {h' : Heap} {tk : Nat} (G : Addr → HO) (I0 : Inv X pins σ H0 s) : ∀ (L : List Addr) (H1 : Hp), Inv X pins σ H1 { s with heap := h', toks := tk } →
    (∀ a ∈ L, s.heap.objs.size ≤ a ∧ (H1 a = none ∨ H1 a = some (G a)) ∧ ∀ H2, ObjOk X.prog X.w H2 h' a (G a)) →
    ∃ H2, Inv X pins σ H2 { s with heap := h', toks := tk } ∧ (∀ b o, H1 b = some o → H2 b = some o) ∧ (∀ a ∈ L, H2 a = some (G a)) ∧ ∀ b, b ∉ L → H2 b = H1 b
  | [], H1, I1, _ => ⟨H1, I1, fun _ _ e => e, (fun _ h => nomatch h), fun _ _ => rfl⟩
  | a :: L, H1, I1, h => by
    obtain ⟨hb, hnone, ok⟩ := h a (List.mem_cons_self ..)
    rcases hnone with hnone | hnone
    · have I2 : Inv X pins σ (upd H1 a (G a)) { s with heap := h', toks := tk } := I1.take (h' := h') (t' := tk) (fun b ob _ e => e) (I0.fpOk hb hnone) (ok _)
      obtain ⟨H2, I3, g, q, n⟩ := takeF G I0 L (upd H1 a (G a)) I2 fun c hc => by
        obtain ⟨c1, c2, c3⟩ := h c (List.mem_cons_of_mem _ hc)
        refine ⟨c1, ?_, c3⟩
        by_cases e : c = a
        · subst e
          exact .inr upd_same
        · rw [upd_ne e]
          exact c2
      refine ⟨H2, I3, fun b o e => g b o (by rw [upd_ne (ne_of_none e hnone)]; exact e), fun c hc => ?_, fun b hb' => ?_⟩
      · rcases List.mem_cons.mp hc with rfl | hc
        · exact g _ _ upd_same
        · exact q c hc
      · rw [List.mem_cons, not_or] at hb'
        rw [n b hb'.2, upd_ne hb'.1]
    · obtain ⟨H2, I3, g, q, n⟩ := takeF G I0 L H1 I1 fun c hc => h c (List.mem_cons_of_mem _ hc)
      refine ⟨H2, I3, g, fun c hc => ?_, fun b hb' => n b fun z => hb' (List.mem_cons_of_mem _ z)⟩
      rcases List.mem_cons.mp hc with rfl | hc
      · exact g _ _ hnone
      · exact q c hc
theorem vget : ∀ {xs : List V} {its : List Value} {j : Nat} {u : Value}, Vals xs its → its[j]? = some u → ∃ x, xs[j]? = some x ∧ RelV x u
  | _, _, _, _, .nil, h => by simp at h
  | _, _, 0, _, .cons r _, h => by
    cases h
    exact ⟨_, rfl, r⟩
  | _, _, j + 1, _, .cons _ t, h => by
    obtain ⟨x, e, r⟩ := vget (j := j) t (by simpa using h)
    exact ⟨x, by simpa using e, r⟩
/-- list(zip(a, b)) -/
def tListZip (K : PySem.W.Frag) (ta : TA) : TE := fun σ H Q => ta σ H fun vs H1 => ∃ a b xs ys, vs = [.ref a, .ref b] ∧ SqL K H1 a xs ∧ SqL K H1 b ys ∧
  ∀ (ps : List Addr) (H2 : Hp) (p : Addr), (∀ b o, H1 b = some o → H2 b = some o) → H2 p = none → ps.length = min xs.length ys.length →
    (∀ (j : Nat) (t : Addr), ps[j]? = some t → ∃ x y o, xs[j]? = some x ∧ ys[j]? = some y ∧ H2 t = some (.frz o (.tup [x, y])) ∧ o.dict = none ∧ H1 t = none) → Q (.ref p) (upd H2 p (.lst (ps.map V.ref)))
def adr : Value → Addr
  | .ref p => p
  | _ => 0
theorem pe_listZip {e e2 : Expr} {ta : TA} {p p2 pos pos2 : Pos} (hc : X.calm = true) (hg : Gl X "list") (hm : X.mg "list" = none) (hg2 : Gl X "zip") (hm2 : X.mg "zip" = none) (ha : PA X [e, e2] ta)
    (hs : starEach [e, e2] X.env = (false, eval e X.env) :: starEach [e2] X.env := by rfl) (hpl : (backTo pos2 (starEach [e2] X.env)).any (·.1) = false := by rfl)
    (hs1 : starEach [.Call (.Name "zip" p2) [e, e2] [] pos2] X.env = (false, eval (.Call (.Name "zip" p2) [e, e2] [] pos2) X.env) :: starEach [] X.env := by rfl) (hpl1 : (backTo pos (starEach [] X.env)).any (·.1) = false := by rfl) :
    PE X (.Call (.Name "list" p) [.Call (.Name "zip" p2) [e, e2] [] pos2] [] pos) (tListZip X.K ta) := by
  refine ⟨fun pins s σ H Q I h => ?_⟩
  refine wpAny_Call_Name_kw (ld_blt I hg hm (u := .type "list") (by decide +kernel) ?_)
  refine PyProof.Rows.callWith_type1 ?_ hs1 hpl1
  rw [hs1]
  show wpAny _ _ (spliced ((false, eval (.Call (.Name "zip" p2) [e, e2] [] pos2) X.env) :: backTo pos (starEach [] X.env))) _ _ s
  refine Calls.spliced_cons (Call_ (ld_blt I hg2 hm2 PyProof.Rows.boot_zip (PyProof.Rows.callWith_type1 (thn (ha.run pos2 pins s σ H _ I h) fun us s1 ⟨vs, H1, I1, r1, q1⟩ => ?_) hs hpl)))
  obtain ⟨a, b, xs, ys, ex, hqx, hqy, q⟩ := q1
  subst ex
  cases r1 with
  | cons r rr =>
    cases rr with
    | cons r' rr =>
      cases rr
      cases r
      cases r'
      obtain ⟨its, rv, p1, z1⟩ := I1.list hqx
      obtain ⟨its2, rv2, p3, z2⟩ := I1.list hqy
      have la : a < s1.heap.objs.size := p1.lt
      have lb : b < s1.heap.objs.size := p3.lt
      refine call_zip_2 p1.isList p3.isList fun h' hz hTI hTO h1 h2 hsz hk => Calls.spliced_nil ?_
      refine call_list_zip (s := { s1 with heap := h' }) (I1.ok.hd hc) (PySem.W.ktu_apart s1.heap.objs.size a b la lb) (by rw [List.size_toArray, ← rv.length]; exact z1) hz hTI hTO h1 h2 (p1.isList.at fun o e => hk _ o e) (p3.isList.at fun o e => hk _ o e) fun acc h2' ze => ?_
      have hk2 : ∀ c o, s1.heap.get? c = some o → h2'.get? c = some o := fun c o ec => by
        have lc := Heap.lt_size ec
        have le : ∀ k : Nat, c ≠ s1.heap.objs.size + k := fun k => Nat.ne_of_lt (Nat.lt_of_lt_of_le lc (Nat.le_add_right _ _))
        exact ze.old c o (by show c ≠ h'.objs.size; rw [hsz]; exact le 5) (le 4) (le 3) (le 0) (le 1) (hk c o ec)
      have I2 : Inv X pins σ H1 { s1 with heap := h2' } := I1.kept (t' := s1.toks) hk2
      have key : ∀ v, v ∈ acc → ∃ (j : Nat) (t : Addr) (x y : V) (u1 u2 : Value), v = .ref t ∧ acc[j]? = some v ∧ xs[j]? = some x ∧ ys[j]? = some y ∧ RelV x u1 ∧ RelV y u2 ∧ IsPair h2' t u1 u2 ∧ s1.heap.objs.size ≤ t ∧ t ≠ h'.objs.size := fun v hv => by
        obtain ⟨j, hj⟩ := List.mem_iff_getElem?.mp hv
        obtain ⟨t, u1, u2, e1, e2, e3, e4, e5, e6⟩ := ze.pr j v hj
        obtain ⟨x, e7, e8⟩ := vget rv (by simpa using e2)
        obtain ⟨y, e9, e10⟩ := vget rv2 (by simpa using e3)
        exact ⟨j, t, x, y, u1, u2, e1, hj, e7, e9, e8, e10, e4, Nat.le_trans (by rw [hsz]; exact Nat.le_add_right _ _) e6, e5.1⟩
      have key' : ∀ t : Addr, ∃ o : HO, Value.ref t ∈ acc → ∃ (j : Nat) (x y : V) (u1 u2 : Value), o = .frz { cls := .type "tuple", data := .seq #[u1, u2] } (.tup [x, y]) ∧ acc[j]? = some (.ref t) ∧ xs[j]? = some x ∧ ys[j]? = some y ∧ RelV x u1 ∧ RelV y u2 ∧ IsPair h2' t u1 u2 := fun t => by
        by_cases m : Value.ref t ∈ acc
        · obtain ⟨j, t', x, y, u1, u2, e0, e1, e2, e3, e4, e5, e6, _⟩ := key _ m
          cases e0
          exact ⟨_, fun _ => ⟨j, x, y, u1, u2, rfl, e1, e2, e3, e4, e5, e6⟩⟩
        · exact ⟨.lst [], fun z => absurd z m⟩
      obtain ⟨G, hG⟩ := Classical.axiomOfChoice key'
      have mem : ∀ t, t ∈ acc.map adr → Value.ref t ∈ acc := fun t ht => by
        obtain ⟨v, hv, e⟩ := List.mem_map.mp ht
        obtain ⟨_, t', _, _, _, _, e0, _⟩ := key v hv
        subst e0
        cases e
        exact hv
      have lo : ∀ t, t ∈ acc.map adr → s1.heap.objs.size ≤ t ∧ t ≠ h'.objs.size := fun t ht => by
        obtain ⟨_, t', _, _, _, _, e0, _, _, _, _, _, _, e7, e8⟩ := key _ (mem t ht)
        cases e0
        exact ⟨e7, e8⟩
      obtain ⟨H2, I3, g2, g3, g4⟩ := takeF (tk := s1.toks) G I1 (acc.map adr) H1 I2 fun t ht => by
        refine ⟨(lo t ht).1, .inl (I1.hok.fresh (lo t ht).1), fun H3 => ?_⟩
        obtain ⟨j, x, y, u1, u2, e0, e1, e2, e3, e4, e5, e6⟩ := hG t (mem t ht)
        rw [e0]
        exact ⟨e6, by rw [sizeLine_eq]; show 2 ≤ 16777216; decide, [u1, u2], .cons e4 (.cons e5 .nil), ⟨_, e6, rfl, _, rfl⟩⟩
      obtain ⟨c, hS⟩ := ze.s
      have l5 : s1.heap.objs.size ≤ h'.objs.size := by rw [hsz]; exact Nat.le_add_right _ _
      have hnp : H2 h'.objs.size = none := by
        rw [g4 _ fun z => (lo _ z).2 rfl]
        exact I1.hok.fresh l5
      have eacc : acc = (acc.map adr).map Value.ref := by
        rw [List.map_map]
        have e : acc.map (Value.ref ∘ adr) = acc.map id := List.map_congr_left fun v hv => by
          obtain ⟨_, t', _, _, _, _, e0, _⟩ := key v hv
          subst e0
          rfl
        rw [List.map_id] at e
        exact e.symm
      have vacc : Vals ((acc.map adr).map V.ref) acc := by
        have z := vals_refs (acc.map adr)
        rw [← eacc] at z
        exact z
      have hlen := ze.len
      have lx := rv.length
      have ly := rv2.length
      have I4 : Inv X pins σ (upd H2 h'.objs.size (.lst ((acc.map adr).map V.ref))) { s1 with heap := h2' } := I3.take (h' := h2') (t' := s1.toks) (fun b ob _ e => e) (I1.fpOk l5 hnp) ⟨by
        rw [List.length_map, List.length_map, hlen]
        simp only [List.size_toArray]
        omega, acc, c, vacc, hS⟩
      refine ⟨.ref h'.objs.size, _, I4, rfl, q (acc.map adr) H2 _ g2 hnp (by rw [List.length_map, hlen, lx, ly]; simp) fun j t ht => ?_⟩
      have hv : acc[j]? = some (.ref t) := by
        rw [eacc, List.getElem?_map, ht]
        rfl
      have hm : t ∈ acc.map adr := List.mem_of_getElem? ht
      obtain ⟨j', x, y, u1, u2, e0, e1, e2, e3, _⟩ := hG t (mem t hm)
      have ej := ze.nd j j' _ hv e1
      subst ej
      exact ⟨x, y, _, e2, e3, by rw [g3 t hm, e0], rfl, I1.hok.fresh (lo t hm).1⟩
end LZ

set_option Elab.async false
set_option linter.all false
set_option maxRecDepth 100000
set_option maxHeartbeats 4000000
/-! LZT: list(zip(xs, ys)), two tuples. -/
namespace LZT
open PySem PyProof.Rows L2 LZ
section
variable {prog : Program} {w : World} {A : Around} {E : Value → Shared → Prop} {s : Shared}
theorem nextHeld {z TI TO T i1 i2 l1 l2 : Addr} {f : Bool} {oT : Obj} {k1 k2 : Nat} {xs ys : Array Value} {x y : Value} {Q : Value → Shared → Prop} (D : ZipApart z TI TO i1 i2 l1 l2)
    (hz : IsZipHeld s.heap z TI TO T f) (hT : s.heap.get? T = some oT) (hTI : IsPair s.heap TI (.ref i1) (.ref i2)) (h1 : s.heap.IsTupleIter i1 l1 k1) (h2 : s.heap.IsTupleIter i2 l2 k2)
    (hl1 : s.heap.IsTuple l1 xs) (hl2 : s.heap.IsTuple l2 ys) (hx : xs[k1]? = some x) (hy : ys[k2]? = some y)
    (hQ : ∀ h', IsZipHeld h' z TI TO T true → h'.IsTupleIter i1 l1 (k1 + 1) → h'.IsTupleIter i2 l2 (k2 + 1) → IsPair h' s.heap.objs.size x y → h'.objs.size = s.heap.objs.size + 1 → (∀ c o, c ≠ z → c ≠ i1 → c ≠ i2 → s.heap.get? c = some o → h'.get? c = some o) → Q (.ref s.heap.objs.size) { s with heap := h' }) :
    wpAny (model prog w) A (Builtin.«zip.__next__» ⟨[.ref z], []⟩) (fun fin s' => ∃ v, fin = .done (.ret v) ∧ Q v s') E s := by
  show wpAny _ _ (field (.ref z) 2 >>= _) _ _ _; refine wpAny_bind (wpAny_field hz rfl (x := .bool false) rfl ?_)
  show wpAny _ _ (field (.ref z) 3 >>= _) _ _ _; refine wpAny_bind (wpAny_field hz rfl (x := .ref TI) rfl (wpAny_bind (wpAny_seqItems hTI rfl ?_)))
  show wpAny _ _ (Builtin.SmallTypes.ownedTupleIsFree (.ref z) >>= _) _ _ _; refine wpAny_bind (wpAny_tupleHeld_zip hz hT fun g1 hz1 b1 => ?_)
  simp only [Bool.false_eq_true, if_false]; refine wpAny_bind ?_; rw [← Array.forIn_toList]; simp only [List.forIn_cons, List.forIn_nil]
  refine wpAny_bind (wpAny_bind (wpAny_holding ?_)); show wpAny _ _ (Builtin.SmallTypes.nextOf (.ref i1) >>= _) _ _ _
  refine wpAny_bind (RZ.nextOf_tuple_item (s := { s with heap := g1 }) (h1.extBut b1.extBut D.i1z) (hl1.at fun o e => b1.extBut _ _ D.l1z e) hx fun g2 q1 b2 => wpAny_pure (wpAny_pure ?_))
  refine wpAny_bind (wpAny_bind (wpAny_holding ?_)); show wpAny _ _ (Builtin.SmallTypes.nextOf (.ref i2) >>= _) _ _ _
  refine wpAny_bind (RZ.nextOf_tuple_item (s := { s with heap := g2 }) ((h2.extBut b1.extBut D.i2z).extBut b2.extBut D.i12.symm) (hl2.at fun o e => b2.extBut _ _ D.l2i1 (b1.extBut _ _ D.l2z e)) hy fun g3 q2 b3 => wpAny_pure (wpAny_pure (wpAny_pure ?_)))
  show wpAny _ _ (newTuple [x, y] >>= _) _ _ _; refine wpAny_bind (wpAny_newTuple ?_)
  have hsz : g3.objs.size = s.heap.objs.size := by rw [b3.1, b2.1, b1.1]
  have hp : IsPair (g3.push { cls := .type "tuple", data := .seq #[x, y] }) g3.objs.size x y := Heap.get?_push_size _ rfl
  have h4 : (g3.push { cls := .type "tuple", data := .seq #[x, y] }).objs.size = g3.objs.size + 1 := Heap.size_push ..
  refine wpAny_pure ⟨_, rfl, ?_⟩; show Q (.ref g3.objs.size) _
  rw [hsz] at hp h4 ⊢
  refine hQ _ (Heap.get?_push_of_some _ (b3.extBut _ _ D.i2z.symm (b2.extBut _ _ D.i1z.symm hz1))) ((q1.extBut b3.extBut D.i12).at fun o e => Heap.get?_push_of_some _ e) (q2.at fun o e => Heap.get?_push_of_some _ e) hp h4 fun c o c1 c2 c3 e => Heap.get?_push_of_some _ (b3.extBut _ _ c3 (b2.extBut _ _ c2 (b1.extBut _ _ c1 e)))
theorem endHeld {z TI TO T i1 i2 l1 l2 : Addr} {f : Bool} {oT : Obj} {k1 k2 : Nat} {xs ys : Array Value} {Q : Fin → Shared → Prop} (hh : A.handled = none) (D : ZipApart z TI TO i1 i2 l1 l2)
    (hz : IsZipHeld s.heap z TI TO T f) (hT : s.heap.get? T = some oT) (hTI : IsPair s.heap TI (.ref i1) (.ref i2)) (h1 : s.heap.IsTupleIter i1 l1 k1) (h2 : s.heap.IsTupleIter i2 l2 k2)
    (hl1 : s.heap.IsTuple l1 xs) (hl2 : s.heap.IsTuple l2 ys) (hend : xs[k1]? = none ∨ ys[k2]? = none)
    (hE : ∀ h' e, (∀ c o, c ≠ z → c ≠ i1 → c ≠ i2 → s.heap.get? c = some o → h'.get? c = some o) → (∃ o, h'.get? e = some o ∧ o.cls = .type "StopIteration") → E (.ref e) { s with heap := h' }) :
    wpAny (model prog w) A (Builtin.«zip.__next__» ⟨[.ref z], []⟩) Q E s := by
  show wpAny _ _ (field (.ref z) 2 >>= _) _ _ _; refine wpAny_bind (wpAny_field hz rfl (x := .bool false) rfl ?_)
  show wpAny _ _ (field (.ref z) 3 >>= _) _ _ _; refine wpAny_bind (wpAny_field hz rfl (x := .ref TI) rfl (wpAny_bind (wpAny_seqItems hTI rfl ?_)))
  show wpAny _ _ (Builtin.SmallTypes.ownedTupleIsFree (.ref z) >>= _) _ _ _; refine wpAny_bind (wpAny_tupleHeld_zip hz hT fun g1 hz1 b1 => ?_)
  simp only [Bool.false_eq_true, if_false]; refine wpAny_bind ?_; rw [← Array.forIn_toList]; simp only [List.forIn_cons, List.forIn_nil]
  refine wpAny_bind (wpAny_bind (wpAny_holding ?_)); show wpAny _ _ (Builtin.SmallTypes.nextOf (.ref i1) >>= _) _ _ _
  have c1 : g1.IsTuple l1 xs := hl1.at fun o e => b1.extBut _ _ D.l1z e
  cases hx : xs[k1]? with
  | none => exact wpAny_bind (RZ.nextOf_tuple_end (s := { s with heap := g1 }) hh (h1.extBut b1.extBut D.i1z) c1 hx fun g2 e b2 he => hE g2 e (fun c o q1 q2 _ x => b2 _ _ q2 (b1.extBut _ _ q1 x)) he)
  | some x =>
    have hy : ys[k2]? = none := hend.elim (fun q => by rw [hx] at q; cases q) id
    refine wpAny_bind (RZ.nextOf_tuple_item (s := { s with heap := g1 }) (h1.extBut b1.extBut D.i1z) c1 hx fun g2 q1 b2 => wpAny_pure (wpAny_pure ?_))
    refine wpAny_bind (wpAny_bind (wpAny_holding ?_)); show wpAny _ _ (Builtin.SmallTypes.nextOf (.ref i2) >>= _) _ _ _
    exact wpAny_bind (RZ.nextOf_tuple_end (s := { s with heap := g2 }) hh ((h2.extBut b1.extBut D.i2z).extBut b2.extBut D.i12.symm) (hl2.at fun o e => b2.extBut _ _ D.l2i1 (b1.extBut _ _ D.l2z e)) hy fun g3 e b3 he => hE g3 e (fun c o q1 q2 q3 x => b3 _ _ q3 (b2.extBut _ _ q2 (b1.extBut _ _ q1 x))) he)
theorem heldItem {z TI TO T i1 i2 l1 l2 : Addr} {f : Bool} {oT : Obj} {k1 k2 : Nat} {xs ys : Array Value} {x y : Value} {Q : Option Value → Shared → Prop} (D : ZipApart z TI TO i1 i2 l1 l2)
    (hz : IsZipHeld s.heap z TI TO T f) (hT : s.heap.get? T = some oT) (hTI : IsPair s.heap TI (.ref i1) (.ref i2)) (h1 : s.heap.IsTupleIter i1 l1 k1) (h2 : s.heap.IsTupleIter i2 l2 k2)
    (hl1 : s.heap.IsTuple l1 xs) (hl2 : s.heap.IsTuple l2 ys) (hx : xs[k1]? = some x) (hy : ys[k2]? = some y)
    (hQ : ∀ h', IsZipHeld h' z TI TO T true → h'.IsTupleIter i1 l1 (k1 + 1) → h'.IsTupleIter i2 l2 (k2 + 1) → IsPair h' s.heap.objs.size x y → h'.objs.size = s.heap.objs.size + 1 → (∀ c o, c ≠ z → c ≠ i1 → c ≠ i2 → s.heap.get? c = some o → h'.get? c = some o) → Q (some (.ref s.heap.objs.size)) { s with heap := h' }) :
    wpAny (model prog w) A (pyNext (.ref z)) Q E s := by
  have ty : s.TypeIs (.ref z) "zip" := ⟨_, hz, rfl⟩
  unfold pyNext
  exact wpAny_bind (wpAny_attempt (wpAny_callSpecial?_slot (name := Str.ofString "__next__") ty F.slot_zip_next (wpAny_call_entry F.slot_zip_next ty F.entry_zip_next (nextHeld D hz hT hTI h1 h2 hl1 hl2 hx hy fun h' a1 a3 a4 a5 a6 a7 => wpAny_pure (hQ h' a1 a3 a4 a5 a6 a7)) (F.args_zip_next_1 _))))
theorem heldEnd {z TI TO T i1 i2 l1 l2 : Addr} {f : Bool} {oT : Obj} {k1 k2 : Nat} {xs ys : Array Value} {Q : Option Value → Shared → Prop} (hh : A.handled = none) (D : ZipApart z TI TO i1 i2 l1 l2)
    (hz : IsZipHeld s.heap z TI TO T f) (hT : s.heap.get? T = some oT) (hTI : IsPair s.heap TI (.ref i1) (.ref i2)) (h1 : s.heap.IsTupleIter i1 l1 k1) (h2 : s.heap.IsTupleIter i2 l2 k2)
    (hl1 : s.heap.IsTuple l1 xs) (hl2 : s.heap.IsTuple l2 ys) (hend : xs[k1]? = none ∨ ys[k2]? = none)
    (hQ : ∀ h', (∀ c o, c ≠ z → c ≠ i1 → c ≠ i2 → s.heap.get? c = some o → h'.get? c = some o) → Q none { s with heap := h' }) :
    wpAny (model prog w) A (pyNext (.ref z)) Q E s := by
  have ty : s.TypeIs (.ref z) "zip" := ⟨_, hz, rfl⟩
  unfold pyNext
  refine wpAny_bind (wpAny_attempt (wpAny_callSpecial?_slot (name := Str.ofString "__next__") ty F.slot_zip_next (wpAny_call_entry F.slot_zip_next ty F.entry_zip_next (endHeld hh D hz hT hTI h1 h2 hl1 hl2 hend fun h' e hk he => ?_) (F.args_zip_next_1 _))))
  obtain ⟨o, ho, hc⟩ := he; exact wpAny_bind (wpAny_isInstance (T := "StopIteration") (b := true) ⟨o, ho, hc⟩ isSubtype_stop (wpAny_pure (hQ _ hk)))
theorem next_item {z TI TO i1 i2 l1 l2 : Addr} {k1 k2 : Nat} {xs ys : Array Value} {x y : Value} {Q : Option Value → Shared → Prop} (D : ZipApart z TI TO i1 i2 l1 l2)
    (hz : ZSt s.heap z TI TO i1 i2) (hTI : IsPair s.heap TI (.ref i1) (.ref i2))
    (h1 : s.heap.IsTupleIter i1 l1 k1) (h2 : s.heap.IsTupleIter i2 l2 k2) (hl1 : s.heap.IsTuple l1 xs) (hl2 : s.heap.IsTuple l2 ys) (hx : xs[k1]? = some x) (hy : ys[k2]? = some y) (hTO : TO < s.heap.objs.size)
    (hQ : ∀ h', ZSt h' z TI TO i1 i2 → h'.IsTupleIter i1 l1 (k1 + 1) → h'.IsTupleIter i2 l2 (k2 + 1) → IsPair h' s.heap.objs.size x y → h'.objs.size = s.heap.objs.size + 1 →
      (∀ c o, c ≠ z → c ≠ TO → c ≠ i1 → c ≠ i2 → s.heap.get? c = some o → h'.get? c = some o) → Q (some (.ref s.heap.objs.size)) { s with heap := h' }) :
    wpAny (model prog w) A (pyNext (.ref z)) Q E s := by
  have hi1 : i1 < s.heap.objs.size := by obtain ⟨_, e, _⟩ := h1; exact Heap.lt_size e
  have hi2 : i2 < s.heap.objs.size := by obtain ⟨_, e, _⟩ := h2; exact Heap.lt_size e
  rcases hz with ⟨hz, a, b, hT⟩ | ⟨T, f, oT, hz, hT, t1, t2, t3, t4⟩
  · have hzl : z < s.heap.objs.size := Heap.lt_size hz
    exact RZ.pyNext_zipT_item D hz hTI hT h1 h2 hl1 hl2 hx hy fun h' a1 a2 a3 a4 a5 a6 hk =>
      hQ h' (.inr ⟨s.heap.objs.size, false, _, a1, a5, Nat.ne_of_gt hzl, Nat.ne_of_gt hTO, Nat.ne_of_gt hi1, Nat.ne_of_gt hi2⟩) a3 a4 a5 a6 hk
  · exact heldItem D hz hT hTI h1 h2 hl1 hl2 hx hy fun h' a1 a3 a4 a5 a6 hk =>
      hQ h' (.inr ⟨T, true, oT, a1, hk T oT t1 t3 t4 hT, t1, t2, t3, t4⟩) a3 a4 a5 a6 fun c o c1 _ c3 c4 e => hk c o c1 c3 c4 e
theorem next_end {z TI TO i1 i2 l1 l2 : Addr} {k1 k2 : Nat} {xs ys : Array Value} {Q : Option Value → Shared → Prop} (hh : A.handled = none) (D : ZipApart z TI TO i1 i2 l1 l2)
    (hz : ZSt s.heap z TI TO i1 i2) (hTI : IsPair s.heap TI (.ref i1) (.ref i2))
    (h1 : s.heap.IsTupleIter i1 l1 k1) (h2 : s.heap.IsTupleIter i2 l2 k2) (hl1 : s.heap.IsTuple l1 xs) (hl2 : s.heap.IsTuple l2 ys) (hend : xs[k1]? = none ∨ ys[k2]? = none)
    (hQ : ∀ h', (∀ c o, c ≠ z → c ≠ TO → c ≠ i1 → c ≠ i2 → s.heap.get? c = some o → h'.get? c = some o) → Q none { s with heap := h' }) :
    wpAny (model prog w) A (pyNext (.ref z)) Q E s := by
  rcases hz with ⟨hz, a, b, hT⟩ | ⟨T, f, oT, hz, hT, t1, t2, t3, t4⟩
  · exact RZ.pyNext_zipT_end hh D hz hTI hT h1 h2 hl1 hl2 hend hQ
  · exact heldEnd hh D hz hT hTI h1 h2 hl1 hl2 hend fun h' hk => hQ h' fun c o c1 _ c3 c4 e => hk c o c1 c3 c4 e
structure ZL (h0 : Heap) (S z TI TO i1 i2 l1 l2 : Addr) (xs ys : Array Value) (i : Nat) (acc : List Value) (h : Heap) : Prop where
  st : ZSt h z TI TO i1 i2
  ti : IsPair h TI (.ref i1) (.ref i2)
  to : TO < h.objs.size
  h1 : h.IsTupleIter i1 l1 i
  h2 : h.IsTupleIter i2 l2 i
  a1 : h.IsTuple l1 xs
  a2 : h.IsTuple l2 ys
  s : ∃ c, h.get? S = some { cls := .type "list", dict := none, data := .seq acc.toArray c, slots := #[] }
  len : acc.length = i
  pr : ∀ (j : Nat) (v : Value), acc[j]? = some v → ∃ (p : Addr) (x y : Value), v = Value.ref p ∧ xs[j]? = some x ∧ ys[j]? = some y ∧ IsPair h p x y ∧ (p ≠ S ∧ p ≠ z ∧ p ≠ TO ∧ p ≠ i1 ∧ p ≠ i2) ∧ h0.objs.size ≤ p
  old : ∀ b o, b ≠ S → b ≠ z → b ≠ TO → b ≠ i1 → b ≠ i2 → h0.get? b = some o → h.get? b = some o
  nd : ∀ (j j' : Nat) (v : Value), acc[j]? = some v → acc[j']? = some v → j = j'
  sz : h0.objs.size ≤ h.objs.size
theorem zip_loop {h0 : Heap} {S z TI TO i1 i2 l1 l2 : Addr} {xs ys : Array Value} {res : Value} {Rs : Result → Shared → Prop} (hh : A.handled = none) (D : ZipApart z TI TO i1 i2 l1 l2) (ap : SAp S z TI TO i1 i2 l1 l2) (hx : xs.size ≤ sizeLine)
    (hd : ∀ acc h', ZE h0 S z TO i1 i2 xs ys acc h' → Rs (.ok (.ret res)) { s with heap := h' }) :
    ∀ (m i : Nat) (acc : List Value) (h : Heap), m + i = min xs.size ys.size → ZL h0 S z TI TO i1 i2 l1 l2 xs ys i acc h → codeAny (model prog w) A (.builtin "list.extend.loop" ⟨[.ref S, .ref z, res], []⟩) Rs { s with heap := h } := by
  intro m
  induction m with
  | zero =>
    intro i acc h hm J
    refine codeAny_builtin PySem.F.entry_extend_loop ?_
    rw [Around.under_plainId PySem.F.plain_extend_loop _]
    show wpAny _ A.in1 (pyNext (.ref z) >>= _) _ _ _
    have hend : xs[i]? = none ∨ ys[i]? = none := by
      rcases Nat.le_total xs.size ys.size with q | q
      · exact .inl (by rw [Array.getElem?_eq_none]; omega)
      · exact .inr (by rw [Array.getElem?_eq_none]; omega)
    refine wpAny_bind (next_end (s := { s with heap := h }) hh D J.st J.ti J.h1 J.h2 J.a1 J.a2 hend fun h' hk => wpAny_pure (hd acc h' ?_))
    obtain ⟨c, hc⟩ := J.s
    refine ⟨⟨c, hk _ _ ap.z.symm ap.TO.symm ap.i1.symm ap.i2.symm hc⟩, by rw [J.len]; omega, fun j v hv => ?_, fun b o b1 b2 b3 b4 b5 e => hk b o b2 b3 b4 b5 (J.old b o b1 b2 b3 b4 b5 e), J.nd⟩
    obtain ⟨p, x, y, e1, e2, e3, e4, e5, e6⟩ := J.pr j v hv
    exact ⟨p, x, y, e1, e2, e3, hk _ _ e5.2.1 e5.2.2.1 e5.2.2.2.1 e5.2.2.2.2 e4, e5, e6⟩
  | succ m ih =>
    intro i acc h hm J
    refine codeAny_builtin PySem.F.entry_extend_loop ?_
    rw [Around.under_plainId PySem.F.plain_extend_loop _]
    show wpAny _ A.in1 (pyNext (.ref z) >>= _) _ _ _
    have l1 : i < xs.size := by omega
    have l2 : i < ys.size := by omega
    refine wpAny_bind (next_item (s := { s with heap := h }) D J.st J.ti J.h1 J.h2 J.a1 J.a2 (Array.getElem?_eq_getElem l1) (Array.getElem?_eq_getElem l2) J.to fun h' st' h1' h2' hp hsz hk => ?_)
    show wpAny _ A.in1 (updateSeq S (·.push (.ref h.objs.size)) >>= _) _ _ _
    obtain ⟨c, hc⟩ := J.s
    have hS := hk _ _ ap.z.symm ap.TO.symm ap.i1.symm ap.i2.symm hc
    have lS : S < h.objs.size := Heap.lt_size hc
    refine wpAny_bind (wpAny_updateSeq hS rfl (wpAny_pure ⟨plainId_quiet PySem.F.plain_extend_loop _, ?_⟩) (by rw [List.size_toArray, J.len]; omega) (by show (acc.toArray.push _).size ≤ sizeLine + 1; rw [Array.size_push, List.size_toArray, J.len]; omega))
    have hS2 := Heap.get?_update_self (Obj.mapSeq (·.push (Value.ref h.objs.size))) hS rfl
    have oth : ∀ b o, b ≠ S → h'.get? b = some o → (h'.update S (Obj.mapSeq (·.push (Value.ref h.objs.size)))).get? b = some o := fun b o hb e => (Heap.get?_update_other _ _ (Ne.symm hb)).trans e
    have keep : ∀ b o, b ≠ S → b ≠ z → b ≠ TO → b ≠ i1 → b ≠ i2 → h.get? b = some o → (h'.update S (Obj.mapSeq (·.push (Value.ref h.objs.size)))).get? b = some o := fun b o q1 q2 q3 q4 q5 e => oth b o q1 (hk b o q2 q3 q4 q5 e)
    have usz : (h'.update S (Obj.mapSeq (·.push (Value.ref h.objs.size)))).objs.size = h'.objs.size := (Heap.SameBut.update ..).1
    have lz : z < h.objs.size := by
      rcases J.st with ⟨q, _⟩ | ⟨_, _, _, q, _⟩
      · exact Heap.lt_size q
      · exact Heap.lt_size q
    have li1 : i1 < h.objs.size := by obtain ⟨_, e, _⟩ := J.h1; exact Heap.lt_size e
    have li2 : i2 < h.objs.size := by obtain ⟨_, e, _⟩ := J.h2; exact Heap.lt_size e
    have lto := J.to
    refine ih (i + 1) (acc ++ [.ref h.objs.size]) _ (by omega) ⟨st'.at ap.z ap.TO (fun _ _ => ⟨_, hS2⟩) oth, keep _ _ ap.TI D.TIz D.TITO D.TIi1 D.TIi2 J.ti, by rw [usz, hsz]; exact Nat.lt_succ_of_lt lto, h1'.at fun o e => oth _ o ap.i1 e, h2'.at fun o e => oth _ o ap.i2 e,
      J.a1.at fun o e => keep _ o ap.l1 D.l1z D.l1TO D.l1i1 D.l1i2 e, J.a2.at fun o e => keep _ o ap.l2 D.l2z D.l2TO D.l2i1 D.l2i2 e, ⟨_, by rw [hS2]; simp [Obj.mapSeq]; rfl⟩, by simp [J.len], fun j v hv => ?_, fun b o b1 b2 b3 b4 b5 e => keep b o b1 b2 b3 b4 b5 (J.old b o b1 b2 b3 b4 b5 e), nd_push J.nd fun j v hv e => (by
        obtain ⟨p, x, y, e1, _, _, e4, _⟩ := J.pr j v hv
        rw [e1] at e
        have lp := Heap.lt_size e4
        rw [Value.ref.inj e] at lp
        exact Nat.lt_irrefl _ lp), by rw [usz, hsz]; exact Nat.le_succ_of_le J.sz⟩
    by_cases hj : j < acc.length
    · rw [List.getElem?_append_left hj] at hv
      obtain ⟨p, x, y, e1, e2, e3, e4, e5, e6⟩ := J.pr j v hv
      exact ⟨p, x, y, e1, e2, e3, keep _ _ e5.1 e5.2.1 e5.2.2.1 e5.2.2.2.1 e5.2.2.2.2 e4, e5, e6⟩
    · have ej : j = i := by
        have z1 : j < (acc ++ [Value.ref h.objs.size]).length := by
          rcases Nat.lt_or_ge j (acc ++ [Value.ref h.objs.size]).length with q | q
          · exact q
          · rw [List.getElem?_eq_none q] at hv; cases hv
        have z2 := J.len
        rw [List.length_append, List.length_singleton] at z1
        omega
      subst ej
      rw [List.getElem?_append_right (by rw [J.len]; exact Nat.le_refl _), J.len, Nat.sub_self] at hv
      cases hv
      exact ⟨h.objs.size, _, _, rfl, Array.getElem?_eq_getElem l1, Array.getElem?_eq_getElem l2, oth _ _ (Nat.ne_of_gt lS) hp, ⟨Nat.ne_of_gt lS, Nat.ne_of_gt lz, Nat.ne_of_gt lto, Nat.ne_of_gt li1, Nat.ne_of_gt li2⟩, J.sz⟩
theorem call_list_zip {z TI TO i1 i2 l1 l2 : Addr} {xs ys : Array Value} {a b : Value} {Q : Value → Shared → Prop} (hh : A.handled = none) (D : ZipApart z TI TO i1 i2 l1 l2) (hx : xs.size ≤ sizeLine)
    (hz : IsZip s.heap z TI TO .none) (hTI : IsPair s.heap TI (.ref i1) (.ref i2)) (hTO : IsPair s.heap TO a b) (h1 : s.heap.IsTupleIter i1 l1 0) (h2 : s.heap.IsTupleIter i2 l2 0) (hl1 : s.heap.IsTuple l1 xs) (hl2 : s.heap.IsTuple l2 ys)
    (hQ : ∀ acc h', ZE s.heap s.heap.objs.size z TO i1 i2 xs ys acc h' → Q (.ref s.heap.objs.size) { s with heap := h' }) :
    wpAny (model prog w) A (call (.type "list") [.ref z]) Q E s := by
  have lz : z < s.heap.objs.size := Heap.lt_size hz
  have lTI : TI < s.heap.objs.size := Heap.lt_size hTI
  have lTO : TO < s.heap.objs.size := Heap.lt_size hTO
  have li1 : i1 < s.heap.objs.size := by obtain ⟨_, e, _⟩ := h1; exact Heap.lt_size e
  have li2 : i2 < s.heap.objs.size := by obtain ⟨_, e, _⟩ := h2; exact Heap.lt_size e
  have ll1 : l1 < s.heap.objs.size := by obtain ⟨_, e, _⟩ := hl1; exact Heap.lt_size e
  have ll2 : l2 < s.heap.objs.size := by obtain ⟨_, e, _⟩ := hl2; exact Heap.lt_size e
  refine callType_codes (Q₁ := fun obj s₁ => obj = .ref s.heap.objs.size ∧ s₁ = { s with heap := s.heap.push { cls := .type "list", data := .seq #[] } }) PySem.F.called_list (PySem.F.typeCall_list_1 _) PySem.F.entry_list_init
    (code_list_new _ ⟨rfl, rfl⟩) fun obj s₁ h₁ => ?_
  obtain ⟨rfl, rfl⟩ := h₁
  have hS : (s.heap.push { cls := .type "list", data := .seq #[] }).get? s.heap.objs.size = some { cls := .type "list", data := .seq #[] } := Heap.get?_push_size _ rfl
  refine ⟨⟨_, hS, rfl⟩, PySem.F.args_list_init_2 _ _, ?_⟩
  show wpAny _ _ (do let old ← Builtin.List.listItems (.ref s.heap.objs.size); Builtin.List.listUpdate (.ref s.heap.objs.size) (fun _ => #[]); letGo old.toList.reverse; Builtin.List.listExtendWith (.ref s.heap.objs.size) (.ref z) .none) _ _ _
  refine wpAny_bind ?_
  unfold Builtin.List.listItems
  refine wpAny_bind (wpAny_seqItems hS rfl (wpAny_pure ?_))
  show wpAny _ _ (updateSeq s.heap.objs.size (fun _ => #[]) >>= fun _ => letGo (#[] : Array Value).toList.reverse >>= fun _ => Builtin.List.listExtendWith (.ref s.heap.objs.size) (.ref z) .none) _ _ _
  refine wpAny_bind (wpAny_updateSeq hS rfl ?_)
  have hS₂ := Heap.get?_update_self (Obj.mapSeq (fun _ => (#[] : Array Value))) hS rfl
  have k₂ : ∀ b o, s.heap.get? b = some o → ((s.heap.push { cls := .type "list", data := .seq #[] }).update s.heap.objs.size (Obj.mapSeq (fun _ => (#[] : Array Value)))).get? b = some o :=
    fun b o e => (Heap.get?_update_other _ _ (Nat.ne_of_gt (Heap.lt_size e))).trans (Heap.get?_push_of_some _ e)
  have z₂ : ((s.heap.push { cls := .type "list", data := .seq #[] }).update s.heap.objs.size (Obj.mapSeq (fun _ => (#[] : Array Value)))).objs.size = s.heap.objs.size + 1 := by rw [(Heap.SameBut.update ..).1, Heap.size_push]
  refine wpAny_bind (wpAny_letGo ?_)
  generalize (s.heap.push { cls := .type "list", data := .seq #[] }).update s.heap.objs.size (Obj.mapSeq (fun _ => (#[] : Array Value))) = hh₂ at hS₂ k₂ z₂
  have hT : Shared.TypeIs { s with heap := hh₂ } (.ref z) "zip" := ⟨_, k₂ _ _ hz, rfl⟩
  unfold Builtin.List.listExtendWith
  refine wpAny_bind (wpAny_typeOf hT ?_)
  have e1 : Builtin.List.listSameRef (.ref s.heap.objs.size) (.ref z) = false := by simp [Builtin.List.listSameRef, Nat.ne_of_gt lz]
  have e2 : (Value.type "zip" == Value.type "list") = false := by decide
  have e3 : (Value.type "zip" == Value.type "tuple") = false := by decide
  simp only [e1, e2, e3, Bool.or_false, Bool.false_eq_true, if_false]
  refine wpAny_bind (wpAny_pyIter_zip (s := { s with heap := hh₂ }) (k₂ _ _ hz) ?_)
  refine wpAny_bind (wpAny_holding ?_)
  unfold Builtin.List.listLengthHint
  refine wpAny_bind (wpAny_specialOf hT nolen_zip ?_)
  show wpAny _ _ (specialOf (Value.ref z) (Str.ofString "__length_hint__") >>= _) _ _ _
  refine wpAny_bind (wpAny_specialOf hT nohint_zip ?_)
  refine wpAny_pure ?_
  show wpAny _ _ (rule "list.extend.makes-room" >>= fun _ => Builtin.List.listTouch (.ref s.heap.objs.size) >>= fun _ =>
    again (.builtin "list.extend.loop" ⟨[.ref s.heap.objs.size, .ref z, .none], []⟩)) _ _ _
  refine wpAny_bind (wpAny_rule ?_)
  refine wpAny_bind ?_
  show wpAny _ _ (updateSeq s.heap.objs.size (·.push .none) >>= fun _ => updateSeq s.heap.objs.size (·.pop)) _ _ _
  refine wpAny_bind (wpAny_updateSeq hS₂ rfl ?_)
  have hS₃ := Heap.get?_update_self (Obj.mapSeq (·.push Value.none)) hS₂ rfl
  refine wpAny_updateSeq hS₃ rfl ?_
  have hS₄ := Heap.get?_update_self (Obj.mapSeq (·.pop)) hS₃ rfl
  have k₄ : ∀ b o, s.heap.get? b = some o → ((hh₂.update s.heap.objs.size (Obj.mapSeq (·.push Value.none))).update s.heap.objs.size (Obj.mapSeq (·.pop))).get? b = some o :=
    fun b o e => (Heap.get?_update_other _ _ (Nat.ne_of_gt (Heap.lt_size e))).trans ((Heap.get?_update_other _ _ (Nat.ne_of_gt (Heap.lt_size e))).trans (k₂ b o e))
  have z₄ : ((hh₂.update s.heap.objs.size (Obj.mapSeq (·.push Value.none))).update s.heap.objs.size (Obj.mapSeq (·.pop))).objs.size = s.heap.objs.size + 1 := by rw [(Heap.SameBut.update ..).1, (Heap.SameBut.update ..).1, z₂]
  refine wpAny_pure ⟨plainId_quiet PySem.F.plain_extend_loop _, zip_loop (s := s) (h0 := s.heap) (A := A.in1) hh D ⟨Nat.ne_of_lt lz, Nat.ne_of_lt lTI, Nat.ne_of_lt lTO, Nat.ne_of_lt li1, Nat.ne_of_lt li2, Nat.ne_of_lt ll1, Nat.ne_of_lt ll2⟩ hx (fun acc h' ze => ⟨rfl, hQ acc h' ze⟩) _ 0 [] _ rfl ?_⟩
  exact ⟨.inl ⟨k₄ _ _ hz, a, b, k₄ _ _ hTO⟩, k₄ _ _ hTI, by rw [z₄]; exact Nat.lt_succ_of_lt lTO, h1.at fun o e => k₄ _ o e, h2.at fun o e => k₄ _ o e, hl1.at fun o e => k₄ _ o e, hl2.at fun o e => k₄ _ o e, ⟨_, hS₄⟩, rfl, (fun j v hv => by simp at hv), fun b o _ _ _ _ _ e => k₄ b o e, (fun j j' v hv => by simp at hv), by rw [z₄]; exact Nat.le_succ _⟩
end
end LZT

set_option Elab.async false
set_option linter.all false
set_option maxRecDepth 100000
set_option maxHeartbeats 4000000
/-! LZPT: list(zip(a, b)) of two tuples. -/
namespace LZ
open PySem PySem.Spec PyProof.Rows L2
variable {X : Cx}

/-- list(zip(a, b)) -/
def tListZipT (K : PySem.W.Frag) (ta : TA) : TE := fun σ H Q => ta σ H fun vs H1 => ∃ a b xs ys, vs = [.ref a, .ref b] ∧ SqT K H1 a xs ∧ SqT K H1 b ys ∧
  ∀ (ps : List Addr) (H2 : Hp) (p : Addr), (∀ b o, H1 b = some o → H2 b = some o) → H2 p = none → ps.length = min xs.length ys.length →
    (∀ (j : Nat) (t : Addr), ps[j]? = some t → ∃ x y o, xs[j]? = some x ∧ ys[j]? = some y ∧ H2 t = some (.frz o (.tup [x, y])) ∧ o.dict = none ∧ H1 t = none) → Q (.ref p) (upd H2 p (.lst (ps.map V.ref)))
theorem pe_listZipT {e e2 : Expr} {ta : TA} {p p2 pos pos2 : Pos} (hc : X.calm = true) (hg : Gl X "list") (hm : X.mg "list" = none) (hg2 : Gl X "zip") (hm2 : X.mg "zip" = none) (ha : PA X [e, e2] ta)
    (hs : starEach [e, e2] X.env = (false, eval e X.env) :: starEach [e2] X.env := by rfl) (hpl : (backTo pos2 (starEach [e2] X.env)).any (·.1) = false := by rfl)
    (hs1 : starEach [.Call (.Name "zip" p2) [e, e2] [] pos2] X.env = (false, eval (.Call (.Name "zip" p2) [e, e2] [] pos2) X.env) :: starEach [] X.env := by rfl) (hpl1 : (backTo pos (starEach [] X.env)).any (·.1) = false := by rfl) :
    PE X (.Call (.Name "list" p) [.Call (.Name "zip" p2) [e, e2] [] pos2] [] pos) (tListZipT X.K ta) := by
  refine ⟨fun pins s σ H Q I h => ?_⟩
  refine wpAny_Call_Name_kw (ld_blt I hg hm (u := .type "list") (by decide +kernel) ?_)
  refine PyProof.Rows.callWith_type1 ?_ hs1 hpl1
  rw [hs1]
  show wpAny _ _ (spliced ((false, eval (.Call (.Name "zip" p2) [e, e2] [] pos2) X.env) :: backTo pos (starEach [] X.env))) _ _ s
  refine Calls.spliced_cons (Call_ (ld_blt I hg2 hm2 PyProof.Rows.boot_zip (PyProof.Rows.callWith_type1 (thn (ha.run pos2 pins s σ H _ I h) fun us s1 ⟨vs, H1, I1, r1, q1⟩ => ?_) hs hpl)))
  obtain ⟨a, b, xs, ys, ex, hqx, hqy, q⟩ := q1
  subst ex
  cases r1 with
  | cons r rr =>
    cases rr with
    | cons r' rr =>
      cases rr
      cases r
      cases r'
      obtain ⟨its, rv, p1, z1⟩ := I1.tuple hqx
      obtain ⟨its2, rv2, p3, z2⟩ := I1.tuple hqy
      have la : a < s1.heap.objs.size := (by obtain ⟨_, e, _⟩ := id p1; exact Heap.lt_size e)
      have lb : b < s1.heap.objs.size := (by obtain ⟨_, e, _⟩ := id p3; exact Heap.lt_size e)
      refine RZ.call_zipT (show s1.heap.IsTuple a its.toArray from p1) (show s1.heap.IsTuple b its2.toArray from p3) fun h' hz hTI hTO h1 h2 hsz hk => Calls.spliced_nil ?_
      refine LZT.call_list_zip (s := { s1 with heap := h' }) (I1.ok.hd hc) (PySem.W.ktu_apart s1.heap.objs.size a b la lb) (by rw [List.size_toArray, ← rv.length]; exact z1) hz hTI hTO h1 h2 ((show s1.heap.IsTuple a its.toArray from p1).at fun o e => hk _ o e) ((show s1.heap.IsTuple b its2.toArray from p3).at fun o e => hk _ o e) fun acc h2' ze => ?_
      have hk2 : ∀ c o, s1.heap.get? c = some o → h2'.get? c = some o := fun c o ec => by
        have lc := Heap.lt_size ec
        have le : ∀ k : Nat, c ≠ s1.heap.objs.size + k := fun k => Nat.ne_of_lt (Nat.lt_of_lt_of_le lc (Nat.le_add_right _ _))
        exact ze.old c o (by show c ≠ h'.objs.size; rw [hsz]; exact le 5) (le 4) (le 3) (le 0) (le 1) (hk c o ec)
      have I2 : Inv X pins σ H1 { s1 with heap := h2' } := I1.kept (t' := s1.toks) hk2
      have key : ∀ v, v ∈ acc → ∃ (j : Nat) (t : Addr) (x y : V) (u1 u2 : Value), v = .ref t ∧ acc[j]? = some v ∧ xs[j]? = some x ∧ ys[j]? = some y ∧ RelV x u1 ∧ RelV y u2 ∧ IsPair h2' t u1 u2 ∧ s1.heap.objs.size ≤ t ∧ t ≠ h'.objs.size := fun v hv => by
        obtain ⟨j, hj⟩ := List.mem_iff_getElem?.mp hv
        obtain ⟨t, u1, u2, e1, e2, e3, e4, e5, e6⟩ := ze.pr j v hj
        obtain ⟨x, e7, e8⟩ := vget rv (by simpa using e2)
        obtain ⟨y, e9, e10⟩ := vget rv2 (by simpa using e3)
        exact ⟨j, t, x, y, u1, u2, e1, hj, e7, e9, e8, e10, e4, Nat.le_trans (by rw [hsz]; exact Nat.le_add_right _ _) e6, e5.1⟩
      have key' : ∀ t : Addr, ∃ o : HO, Value.ref t ∈ acc → ∃ (j : Nat) (x y : V) (u1 u2 : Value), o = .frz { cls := .type "tuple", data := .seq #[u1, u2] } (.tup [x, y]) ∧ acc[j]? = some (.ref t) ∧ xs[j]? = some x ∧ ys[j]? = some y ∧ RelV x u1 ∧ RelV y u2 ∧ IsPair h2' t u1 u2 := fun t => by
        by_cases m : Value.ref t ∈ acc
        · obtain ⟨j, t', x, y, u1, u2, e0, e1, e2, e3, e4, e5, e6, _⟩ := key _ m
          cases e0
          exact ⟨_, fun _ => ⟨j, x, y, u1, u2, rfl, e1, e2, e3, e4, e5, e6⟩⟩
        · exact ⟨.lst [], fun z => absurd z m⟩
      obtain ⟨G, hG⟩ := Classical.axiomOfChoice key'
      have mem : ∀ t, t ∈ acc.map adr → Value.ref t ∈ acc := fun t ht => by
        obtain ⟨v, hv, e⟩ := List.mem_map.mp ht
        obtain ⟨_, t', _, _, _, _, e0, _⟩ := key v hv
        subst e0
        cases e
        exact hv
      have lo : ∀ t, t ∈ acc.map adr → s1.heap.objs.size ≤ t ∧ t ≠ h'.objs.size := fun t ht => by
        obtain ⟨_, t', _, _, _, _, e0, _, _, _, _, _, _, e7, e8⟩ := key _ (mem t ht)
        cases e0
        exact ⟨e7, e8⟩
      obtain ⟨H2, I3, g2, g3, g4⟩ := takeF (tk := s1.toks) G I1 (acc.map adr) H1 I2 fun t ht => by
        refine ⟨(lo t ht).1, .inl (I1.hok.fresh (lo t ht).1), fun H3 => ?_⟩
        obtain ⟨j, x, y, u1, u2, e0, e1, e2, e3, e4, e5, e6⟩ := hG t (mem t ht)
        rw [e0]
        exact ⟨e6, by rw [sizeLine_eq]; show 2 ≤ 16777216; decide, [u1, u2], .cons e4 (.cons e5 .nil), ⟨_, e6, rfl, _, rfl⟩⟩
      obtain ⟨c, hS⟩ := ze.s
      have l5 : s1.heap.objs.size ≤ h'.objs.size := by rw [hsz]; exact Nat.le_add_right _ _
      have hnp : H2 h'.objs.size = none := by
        rw [g4 _ fun z => (lo _ z).2 rfl]
        exact I1.hok.fresh l5
      have eacc : acc = (acc.map adr).map Value.ref := by
        rw [List.map_map]
        have e : acc.map (Value.ref ∘ adr) = acc.map id := List.map_congr_left fun v hv => by
          obtain ⟨_, t', _, _, _, _, e0, _⟩ := key v hv
          subst e0
          rfl
        rw [List.map_id] at e
        exact e.symm
      have vacc : Vals ((acc.map adr).map V.ref) acc := by
        have z := vals_refs (acc.map adr)
        rw [← eacc] at z
        exact z
      have hlen := ze.len
      have lx := rv.length
      have ly := rv2.length
      have I4 : Inv X pins σ (upd H2 h'.objs.size (.lst ((acc.map adr).map V.ref))) { s1 with heap := h2' } := I3.take (h' := h2') (t' := s1.toks) (fun b ob _ e => e) (I1.fpOk l5 hnp) ⟨by
        rw [List.length_map, List.length_map, hlen]
        simp only [List.size_toArray]
        omega, acc, c, vacc, hS⟩
      refine ⟨.ref h'.objs.size, _, I4, rfl, q (acc.map adr) H2 _ g2 hnp (by rw [List.length_map, hlen, lx, ly]; simp) fun j t ht => ?_⟩
      have hv : acc[j]? = some (.ref t) := by
        rw [eacc, List.getElem?_map, ht]
        rfl
      have hm : t ∈ acc.map adr := List.mem_of_getElem? ht
      obtain ⟨j', x, y, u1, u2, e0, e1, e2, e3, _⟩ := hG t (mem t hm)
      have ej := ze.nd j j' _ hv e1
      subst ej
      exact ⟨x, y, _, e2, e3, by rw [g3 t hm, e0], rfl, I1.hok.fresh (lo t hm).1⟩
end LZ

set_option Elab.async false
set_option linter.all false
set_option maxRecDepth 100000
set_option maxHeartbeats 4000000
/-! DLn: list(zip(xs, ys)). -/
namespace DL
open PySem PySem.Spec PyProof.Rows L2 GG DD PT
variable {K : KX}
theorem DaAll.ofGet {H : Hp} : ∀ {vs : List V} {ds : List PyData}, vs.length = ds.length → (∀ (j : Nat) (v : V) (d : PyData), vs[j]? = some v → ds[j]? = some d → Da K H v d) → DaAll K H vs ds
  | [], [], _, _ => .nil
  | [], _ :: _, h, _ => by cases h
  | _ :: _, [], h, _ => by cases h
  | v :: vs, d :: ds, h, k => .cons (k 0 v d rfl rfl) (DaAll.ofGet (by simpa using h) fun j v' d' e e' => k (j + 1) v' d' (by simpa using e) (by simpa using e'))
theorem DaAll.at {H : Hp} : ∀ {vs : List V} {ds : List PyData} {j : Nat} {v : V} {d : PyData}, DaAll K H vs ds → vs[j]? = some v → ds[j]? = some d → Da K H v d
  | _, _, 0, _, _, .cons h _, e, e' => by
    cases e
    cases e'
    exact h
  | _, _, j + 1, _, _, .cons _ t, e, e' => DaAll.at (j := j) t (by simpa using e) (by simpa using e')
  | _, _, _, _, _, .nil, e, _ => by simp at e
def dListZip (d1 d2 : DE) : DA := fun s P => d1 s fun x s1 => d2 s1 fun y s2 => match x, y with
  | .list a, .list b => P (List.zipWith (fun p q => PyData.tuple [p, q]) a b) s2
  | _, _ => False
theorem rf_listZip {t1 t2 : TE} {d1 d2 : DE} (h1 : RE K t1 d1) (h2 : RE K t2 d2) : RF K (LZ.tListZip K (tCons t1 (tCons t2 tNil))) (dListZip d1 d2) := fun C hC s P hd σ H Q R q =>
  rd_cons (h1 C hC s _ hd σ H _ R fun v H1 d s1 hd1 R1 hv => rd_cons (h2 (C.keep v d) hC s1 _ hd1 σ H1 _ (R1.keep hv) fun w H2 e s2 hp R2 hw => rd_nil (by
    obtain ⟨R3, hv3⟩ := R2.kept
    subst hC
    split at hp
    · obtain ⟨a, vs, rfl, k1, k2⟩ := da_list hv3
      obtain ⟨b, us, rfl, k3, k4⟩ := da_list hw
      refine ⟨a, b, vs, us, rfl, sq k1, sq k3, fun ps H3 p sm np hl hps => ?_⟩
      refine q p (ps.map V.ref) H3 _ s2 hp (R3.ext sm) np (DaAll.ofGet (by simp [hl, k2.len, k4.len]) fun j v' d' e e' => ?_)
      rw [List.getElem?_map] at e
      obtain ⟨t, ht, e⟩ := Option.map_eq_some_iff.mp e
      subst e
      obtain ⟨x, y, o, e1, e2, e3, e4, e5⟩ := hps j t ht
      rw [List.getElem?_zipWith] at e'
      split at e'
      · rename_i da db f1 f2
        cases e'
        have g1 := (k2.of (hdS sm)).at e1 f1
        have g2 := (k4.of (hdS sm)).at e2 f2
        exact .tup (.inl ⟨o, by rw [hd_ne (R3.new e5).1]; exact e3, e4⟩) (.cons g1 (.cons g2 .nil))
      · cases e'
    · exact hp.elim)))
end DL

set_option Elab.async false
set_option linter.all false
set_option maxRecDepth 100000
set_option maxHeartbeats 4000000
/-! DLo: xs[i] of a list or a tuple. -/
namespace DL
open PySem PySem.Spec PyProof.Rows L2 GG DD PT
variable {K : KX}
def oIxQ : D2 := fun d e P => match d, e with
  | .list a, .int i => ∃ x, atI a i = some x ∧ P x
  | .tuple a, .int i => ∃ x, atI a i = some x ∧ P x
  | _, _ => False
theorem ro_ixQ : RO K (rIx K) oIxQ := fun S H x y d e P Q T hx hy h q => by
  unfold oIxQ at h
  split at h
  · exact .inl (ro_ixL S H x y _ _ P Q T hx hy h q)
  · exact .inr (.inl (ro_ixU S H x y _ _ P Q T hx hy h q))
  · exact h.elim
end DL

set_option Elab.async false
set_option linter.all false
set_option maxRecDepth 100000
set_option maxHeartbeats 4000000
/-! DK0: a law's deck: what _law_deck and _law_draw promise, for any law. -/
namespace DL
open PySem PySem.Spec PyProof.Rows L2 GG DD PT
def intsD (cs : List Int) : List PyData := cs.map PyData.int
theorem dp_intsD {K : PySem.W.Frag} {H : Hp} : ∀ cs : List Int, DpAll K H (cs.map V.int) (intsD cs)
  | [] => .nil
  | c :: cs => .cons (.int c) (dp_intsD cs)
theorem shaped_ints : ∀ cs : List Int, SeqAt.shaped (PyData.list (intsD cs)) = true := by
  have h1 : ∀ cs : List Int, PyData.canLayAll0 (intsD cs) = true := by
    intro cs
    induction cs with
    | nil => simp only [intsD, List.map_nil, PyData.canLayAll0]
    | cons c cs ih =>
      have ih' : PyData.canLayAll0 (cs.map PyData.int) = true := ih
      simp only [intsD, List.map_cons, PyData.canLayAll0, PyData.canLay0, ih', Bool.and_self]
  have h2 : ∀ cs : List Int, PyData.depthAll (intsD cs) = 0 := by
    intro cs
    induction cs with
    | nil => simp only [intsD, List.map_nil, PyData.depthAll]
    | cons c cs ih =>
      have ih' : PyData.depthAll (cs.map PyData.int) = 0 := ih
      simp only [intsD, List.map_cons, PyData.depthAll, PyData.depth, ih', Nat.max_self]
  intro cs
  unfold SeqAt.shaped
  simp only [PyData.canLay0, PyData.depth, h1, h2, Bool.true_and]
  decide
theorem eqv_ints_nil : ∀ cs : List Int, PyData.eqv (.list (intsD cs)) (.list []) = cs.isEmpty
  | [] => by simp only [intsD, List.map_nil, PyData.eqv, PyData.eqvAll, List.isEmpty_nil]
  | c :: cs => by simp only [intsD, List.map_cons, PyData.eqv, PyData.eqvAll, List.isEmpty_cons]
def spDeckH (K : PySem.W.Frag) : Sp := fun vs H Q _ => ∃ (a : Addr) (ns : List Int), vs = [.ref a] ∧ SqL K H a (ns.map V.int) ∧ ns.length ≤ 63 ∧ ∀ H' p l, Same H H' → Deck H' p l 0 → H p = none → H l = none → Q (.ref p) H'
def spDrawH : Sp := fun vs H Q _ => ∃ (p l : Addr) (n : Nat) (lim : Int), vs = [.ref p, .int lim] ∧ Deck H p l n ∧ n < 1000000 ∧ 1 ≤ lim ∧ lim < 1000000 ∧ ∀ H' v, Deck H' p l (n + 1) → But p l H H' → 0 ≤ v → v < lim → Q (.int v) H'
/-- a draw: any int below the limit -/
def F_draw : FD := fun as n P => match as with
  | [.deck, .dat (.int L)] => n < 1000000 ∧ 1 ≤ L ∧ L < 1000000 ∧ ∀ v, 0 ≤ v → v < L → P (.int v) (n + 1)
  | _ => False
theorem draw_of {K : PySem.W.Frag} {vs : List V} {H : Hp} {Q : VK} (h : spOf K 2 F_draw vs H Q E0) : spDrawH vs H Q E0 := by
  obtain ⟨hl, W, S0, n, as, P, T, dk, hm, ha, hF, q⟩ := h
  unfold F_draw at hF
  split at hF
  · rename_i L
    cases ha with
    | cons h1 h2 =>
      obtain ⟨p, l, rfl, rfl⟩ := h1
      cases h2 with
      | cons h3 h4 =>
        cases h4
        cases h3
        refine ⟨p, l, n, L, rfl, dk.dk, hF.1, hF.2.1, hF.2.2.1, fun H' v hD hB h0 h1 => ?_⟩
        obtain ⟨⟨m0, cs0, e1, e2, _⟩, _⟩ := (show Deck H p l n from dk.dk)
        refine q _ H' _ _ (hF.2.2.2 v h0 h1) ⟨hD, fun t ht => ?_⟩ (fun b o hb e => hB b o (fun z => hb (.inl (.inl z))) (fun z => hb (.inl (.inr z))) e) (.int v)
        obtain ⟨qs, h2, h3⟩ := dk.tb t ht
        refine ⟨qs, hB t _ (fun z => ?_) (fun z => ?_) h2, h3⟩
        · rw [z, e1] at h2
          cases h2
        · rw [z, e2] at h2
          cases h2
  · exact hF.elim
section
variable {P : Program} {w : World} {K : PySem.W.Frag} {mg : Str → Option Value} {base : Heap} {k : Nat} {f : Addr} {fd : FuncData} {ps : List Str} {sp sp' : Sp}
theorem weak (F : Fg P w K mg base k f fd ps sp) (hs : ∀ vs H Q, sp' vs H Q E0 → sp vs H Q E0) : Fg P w K mg base k f fd ps sp' :=
  ⟨fun vs H Q h => F.size vs H Q (hs vs H Q h), fun A o s H a us vs Q r e b v h => F.go A o s H a us vs Q r e b v (hs vs H Q h)⟩
end
end DL

set_option Elab.async false
set_option linter.all false
set_option maxRecDepth 100000
set_option maxHeartbeats 4000000
/-! LB: a law's body: its deck is made first, the rest is told by data. -/
namespace DL
open PySem PySem.Spec PyProof.Rows L2 GG DD PT
def spLaw (K : PySem.W.Frag) : Sp := fun vs H Q _ => ∃ (a : Addr) (ns : List Int), vs = [.ref a] ∧ SqL K H a (ns.map V.int) ∧ ns.length ≤ 63 ∧ TbOk H ∧ ∀ H', Q (.bl true) H'
theorem un_at {j : Nat} : ∀ {i : Nat} {dv : DV}, (List.replicate j DV.un)[i]? = some dv → dv = .un ∧ i < j := fun {i dv} h => by
  have h1 := List.eq_of_mem_replicate (List.mem_of_getElem? h)
  have h2 := (List.getElem?_eq_some_iff.mp h).1
  rw [List.length_replicate] at h2
  exact ⟨h1, h2⟩
theorem rl_deck {K : PySem.W.Frag} {H : Hp} {p l a : Addr} (m : Nat) (hD : Deck H p l 0) (hT : TbOk H) :
    Rl (DC.base ⟨K, some (p, l), fun _ => False, H, fun _ _ => False, fun _ _ => False⟩) (some (.ref a) :: some (.ref p) :: List.replicate m none) H ⟨.un :: .deck :: List.replicate m .un, 0⟩ := by
  have no : ∀ (i : Nat) (dv : DV), (DV.un :: DV.deck :: List.replicate m DV.un)[i]? = some dv → isOwn dv = true → False := fun i dv h ho => by
    match i, h with
    | 0, h => cases h; cases ho
    | 1, h => cases h; cases ho
    | i + 2, h =>
      have := (un_at (i := i) (by simpa using h)).1
      subst this
      cases ho
  refine ⟨by simp, fun i dv h => ?_, fun i j a dv ev h1 _ h3 => (no i dv h1 h3).elim, fun i a dv h1 h2 => (no i dv h1 h2).elim, ⟨hD, hT⟩, ButW.refl _ _, fun b hb => hb.elim, fun _ _ h => h.elim, fun _ _ h => h.elim⟩
  match i, h with
  | 0, h => cases h; exact ⟨_, rfl, trivial⟩
  | 1, h => cases h; exact ⟨_, rfl, p, l, rfl, rfl⟩
  | i + 2, h =>
    obtain ⟨rfl, hi⟩ := un_at (i := i) (by simpa using h)
    exact ⟨none, by simp [hi], trivial⟩
section
variable {P : Program} {w : World} {K : PySem.W.Frag} {mg : Str → Option Value} {base : Heap} {k : Nat} {f : Addr} {fd : FuncData}
theorem ok_law_of {x qual sc : Str} {st : Stmt} {N : List Str} (m : Nat) {d : DS} (F : L2.Fun K x qual st f fd) (S : FnScope N [sc] (defScope st)) (hN : N.length = m + 2)
    (hd : d { nx := fun _ => False, rt := fun v _ => v = .bool true } ⟨.un :: .deck :: List.replicate m .un, 0⟩)
    (body : ∀ (cdv : Value) (A : Around) (outer : List Env) (s : Shared) (H : Hp), Rm k (A.deeper (envOfC qual (defScope st) s.heap.objs.size f cdv)) →
      ∃ tr, PSs (cxOf CX0 P w K mg base N qual (defScope st) f cdv A outer s H E0).nox (defBody st) (tSeq (tAsg (tCall (spDeckH K) [] E0 (tCons (tVar 0) tNil)) (gName 1)) tr) ∧ ∀ W B H0 G0 Z0, RS ⟨K, W, B, H0, G0, Z0⟩ tr d) :
    Fg P w K mg base (k + 1) f fd [sc] (spLaw K) := by
  refine okg F S (fun vs H Q h => ?_) fun cdv A outer s H vs Q hr h => ?_
  · obtain ⟨a, ns, rfl, _⟩ := h
    rfl
  · obtain ⟨a, ns, rfl, hS, hl, hT, q⟩ := h
    obtain ⟨tr, h1, h2⟩ := body cdv A outer s H hr
    refine ⟨_, h1, ?_⟩
    unfold L2.start
    rw [hN]
    refine rd_seq (rd_set (rd_call (rd_cons (rd_var (v := .ref a) rfl (rd_nil ⟨a, ns, rfl, hS, hl, fun H1 p l s1 hD np nl => ?_⟩)))))
    refine h2 _ _ _ _ _ (DC.base ⟨K, some (p, l), fun _ => False, H1, fun _ _ => False, fun _ _ => False⟩) rfl _ _ hd (some (.ref a) :: some (.ref p) :: List.replicate m none) H1 _ (rl_deck m hD (hT.same s1)) ⟨fun _ _ _ z => z.elim, fun σ v H' d' s' hp R hv => ?_, fun _ _ _ z => z.elim, fun _ _ _ z => z.elim⟩
    subst hp
    cases hv
    exact q H'
end
end DL
namespace DL
open PySem PySem.Spec PyProof.Rows L2 GG DD PT
section
variable {P : Program} {w : World} {K : PySem.W.Frag} {mg : Str → Option Value} {base : Heap} {k : Nat} {f : Addr} {fd : FuncData} {ps : List Str}
/-- a def that may not be called any more -/
theorem fg_none (m : Nat) : Fg P w K mg base k f fd ps (spOf K m fun _ _ _ => False) :=
  ⟨fun vs H Q h => by
    obtain ⟨_, _, _, _, _, _, _, _, _, _, hF, _⟩ := h
    exact hF.elim, fun A o s H a us vs Q r e b v h => by
    obtain ⟨_, _, _, _, _, _, _, _, _, _, hF, _⟩ := h
    exact hF.elim⟩
/-- a def that calls itself: level by level -/
theorem fg_rec {m l : Nat} {F : Nat → FD} (h0 : F 0 = fun _ _ _ => False) (step : ∀ j, Fg P w K mg base (l + j) f fd ps (spOf K m (F j)) → Fg P w K mg base (l + j + 1) f fd ps (spOf K m (F (j + 1)))) : ∀ j, Fg P w K mg base (l + j) f fd ps (spOf K m (F j))
  | 0 => by
    rw [h0]
    exact fg_none m
  | j + 1 => step j (fg_rec h0 step j)
end
end DL
namespace DL
open PySem PySem.Spec PyProof.Rows L2 GG DD PT
theorem kb {K : PySem.W.Frag} {x qual : Str} {st : Stmt} {f : Addr} {fd : FuncData} {ps ks : List Str} {π : List Nat} (F : Fun K x qual st f fd)
    (h : ∀ (kV doc pm : Value) (an : Option Addr) (cdv ct : Value) (us : List Value), us.length = ks.length → bindArgs (PySem.W.fnOf x qual (defArgs st) (defBody st) (defScope st) .none kV doc pm an cdv ct) ⟨[], ks.zip us⟩ = pure (ps.zip (permL π us))) :
    ∀ (s : Shared) (ws : List Value), ws.length = ks.length → BindsTo s fd ⟨[], ks.zip ws⟩ (ps.zip (permL π ws)) := by
  obtain ⟨oc, od, kV, doc, pm, an, cdv, ct, osl, rfl, lk, hcd⟩ := F.ex
  exact fun s ws hl => .of_eq (h kV doc pm an cdv ct ws hl)
end DL

set_option Elab.async false
set_option linter.all false
set_option maxRecDepth 100000
set_option maxHeartbeats 4000000
/-! PL: the data functions stepped through, one layer each; loops and comprehensions by what is left; data whose repr can be taken. -/
namespace DL
open PySem PySem.Spec PyProof.Rows L2 GG DD PT
section
variable {P : PyData → DSt → Prop} {PA : List PyData → DSt → Prop} {PT' : Bool → DSt → Prop} {PX : List DV → DSt → Prop} {PO : PyData → Prop} {s : DSt} {E : DEnds} {i j m : Nat} {d e : PyData} {de df da db dc : DE} {dl dm : DA} {c c2 : DT} {a b : DS} {x : DX} {F : FD} {r r' : D2}
/-! ### statements -/
theorem w_seq (h : a { E with nx := b E } s) : dSeq a b E s := h
theorem w_next (h : E.nx s) : dNext E s := h
theorem w_set (h : de s fun d s1 => E.nx ⟨s1.sl.set i (.dat d), s1.n⟩) : dSet de i E s := h
theorem w_setO (h : dl s fun ds s1 => i < s1.sl.length ∧ E.nx ⟨s1.sl.set i (.own ds), s1.n⟩) : dSetO dl i E s := h
theorem w_if (h : c s fun b' s1 => if b' = true then a E s1 else b E s1) : dIf c a b E s := h
theorem w_ret (h : de s E.rt) : dRet de E s := h
theorem w_drop (h : de s fun _ s1 => E.nx s1) : dDrop de E s := h
theorem w_fzO {ds : List PyData} (e : s.sl[i]? = some (.own ds)) (h : b E ⟨s.sl.set i (.dat (.list ds)), s.n⟩) : dFreeze i b E s := by unfold dFreeze; rw [e]; exact h
theorem w_fzD {kvs : List (PyData × PyData)} (e : s.sl[i]? = some (.owd kvs)) (h : b E ⟨s.sl.set i (.dat (.dict kvs)), s.n⟩) : dFreeze i b E s := by unfold dFreeze; rw [e]; exact h
theorem w_fz (e : s.sl[i]? = some (.dat d)) (h : b E s) : dFreeze i b E s := by unfold dFreeze; rw [e]; exact h
theorem w_par (h : dl s fun ds s1 => match ds with
  | [d, e] => E.nx ⟨(s1.sl.set i (.dat d)).set j (.dat e), s1.n⟩
  | _ => False) : dPar i j dl E s := h
theorem w_parL (h : dl s fun ds s1 => de s1 fun d s2 => i < s2.sl.length ∧ E.nx ⟨(s2.sl.set i (.own ds)).set j (.dat d), s2.n⟩) : dParL i j dl de E s := h
theorem w_parR (h : de s fun d s1 => dl s1 fun ds s2 => i ≠ j ∧ j < s2.sl.length ∧ E.nx ⟨(s2.sl.set i (.dat d)).set j (.own ds), s2.n⟩) : dParR i j de dl E s := h
theorem w_parLL (h : dl s fun ds s1 => dm s1 fun es s2 => i < s2.sl.length ∧ j < s2.sl.length ∧ E.nx ⟨(s2.sl.set i (.own ds)).set j (.own es), s2.n⟩) : dParLL i j dl dm E s := h
theorem w_asg {g : DG} (h : de s fun d s1 => g d E.nx s1) : dAsg de g E s := h
def appK (i : Nat) (E : DEnds) (d : PyData) (s1 : DSt) : Prop := match s1.sl[i]? with
  | some (.own ds) => ds.length < 1000000 ∧ E.nx ⟨s1.sl.set i (.own (ds ++ [d])), s1.n⟩
  | _ => False
theorem w_app (h0 : isOwnL s.sl[i]?) (h : de s fun d s1 => appK i E d s1) : dApp i de E s := ⟨h0, h⟩
theorem w_appK {ds : List PyData} (e : s.sl[i]? = some (.own ds)) (h1 : ds.length < 1000000) (h : E.nx ⟨s.sl.set i (.own (ds ++ [d])), s.n⟩) : appK i E d s := by
  unfold appK
  rw [e]
  exact ⟨h1, h⟩
def popK (i : Nat) (P : PyData → DSt → Prop) (d : PyData) (s1 : DSt) : Prop := match s1.sl[i]?, d with
  | some (.own ds), .int k => -(2 ^ 63) ≤ k ∧ k < 2 ^ 63 ∧ ∃ j x, seqIndex? k ds.length = some j ∧ ds[j]? = some x ∧ P x ⟨s1.sl.set i (.own (ds.eraseIdx j)), s1.n⟩
  | _, _ => False
theorem w_popAt (h0 : isOwnL s.sl[i]?) (h : de s fun d s1 => popK i P d s1) : dPopAt i de s P := ⟨h0, h⟩
theorem w_popK {ds : List PyData} {k : Nat} (e : s.sl[i]? = some (.own ds)) (h1 : ds.length < 1000000) (hx : ds[k]? = some d) (h : P d ⟨s.sl.set i (.own (ds.eraseIdx k)), s.n⟩) : popK i P (.int (k : Nat)) s := by
  unfold popK
  rw [e]
  have hk : k < ds.length := (List.getElem?_eq_some_iff.mp hx).1
  have ei : ixN ds.length (k : Int) = some k := by
    unfold ixN
    rw [if_pos (by omega), if_pos (by omega)]
    simp
  exact ⟨by omega, by omega, k, d, (ixN_seq ei).1, hx, h⟩
theorem w_vsNil {neg : Bool} (h : dListVar i s fun ds s1 => PyData.hasDictAll ds = false ∧ SeqAt.shaped (.list ds) = true ∧ P (.bool (if neg then !ds.isEmpty else ds.isEmpty)) s1) : dVsNil neg i s P := h
def inK (neg : Bool) (i : Nat) (P : PyData → DSt → Prop) (kd : PyData) (s1 : DSt) : Prop := match kOf kd with
  | some k => dDictVar i s1 fun kvs s2 => P (.bool (if neg then !(dgetD kvs k).isSome else (dgetD kvs k).isSome)) s2
  | none => False
theorem w_dIn {neg : Bool} (h : de s fun kd s1 => inK neg i P kd s1) : dDIn neg de i s P := h
theorem w_inK {neg : Bool} {kvs : List (PyData × PyData)} {k : L2.Key} (ek : kOf d = some k) (e : s.sl[i]? = some (.dat (.dict kvs))) (hh : headK kvs = true) (h : P (.bool (if neg then !(dgetD kvs k).isSome else (dgetD kvs k).isSome)) s) : inK neg i P d s := by
  unfold inK
  rw [ek]
  show dDictVar i s _
  unfold dDictVar
  rw [e]
  exact ⟨hh, h⟩
theorem w_inKO {neg : Bool} {kvs : List (PyData × PyData)} {k : L2.Key} (ek : kOf d = some k) (e : s.sl[i]? = some (.owd kvs)) (h : P (.bool (if neg then !(dgetD kvs k).isSome else (dgetD kvs k).isSome)) s) : inK neg i P d s := by
  unfold inK
  rw [ek]
  show dDictVar i s _
  unfold dDictVar
  rw [e]
  exact h
def getK (i : Nat) (P : PyData → DSt → Prop) (kd : PyData) (s1 : DSt) : Prop := match kOf kd with
  | some k => dDictVar i s1 fun kvs s2 => ∃ d, dgetD kvs k = some d ∧ P d s2
  | none => False
theorem w_dGet (h0 : hasV s.sl[i]?) (h : de s fun kd s1 => getK i P kd s1) : dDGet i de s P := ⟨h0, h⟩
theorem w_getK {kvs : List (PyData × PyData)} {k : L2.Key} {x : PyData} (ek : kOf d = some k) (e : s.sl[i]? = some (.dat (.dict kvs))) (hh : headK kvs = true) (hx : dgetD kvs k = some x) (h : P x s) : getK i P d s := by
  unfold getK
  rw [ek]
  show dDictVar i s _
  unfold dDictVar
  rw [e]
  exact ⟨hh, x, hx, h⟩
theorem w_getKO {kvs : List (PyData × PyData)} {k : L2.Key} {x : PyData} (ek : kOf d = some k) (e : s.sl[i]? = some (.owd kvs)) (hx : dgetD kvs k = some x) (h : P x s) : getK i P d s := by
  unfold getK
  rw [ek]
  show dDictVar i s _
  unfold dDictVar
  rw [e]
  exact ⟨x, hx, h⟩
def putK' (i : Nat) (E : DEnds) (d kd : PyData) (s2 : DSt) : Prop := match kOf kd, s2.sl[i]? with
  | some k, some (.owd kvs) => kvs.length < 1000000 ∧ E.nx ⟨s2.sl.set i (.owd (dputD kvs k d)), s2.n⟩
  | _, _ => False
theorem w_dPut (h : df s fun d s1 => isOwnD s1.sl[i]? ∧ de s1 fun kd s2 => putK' i E d kd s2) : dDPut i de df E s := h
theorem w_putK {kvs : List (PyData × PyData)} {k : L2.Key} {kd : PyData} (ek : kOf kd = some k) (e : s.sl[i]? = some (.owd kvs)) (hl : kvs.length < 1000000) (h : E.nx ⟨s.sl.set i (.owd (dputD kvs k d)), s.n⟩) : putK' i E d kd s := by
  unfold putK'
  rw [ek, e]
  exact ⟨hl, h⟩
/-! what a dict tells -/
theorem get_map (k k' : L2.Key) (d : PyData) : ∀ kvs : List (PyData × PyData), dgetD (kvs.map fun p => if kOf p.1 = some k then (p.1, d) else p) k' = if k = k' then (dgetD kvs k).map (fun _ => d) else dgetD kvs k'
  | [] => by
    show none = _
    split <;> rfl
  | p :: r => by
    have ih := get_map k k' d r
    rw [List.map_cons]
    by_cases e : kOf p.1 = some k
    · rw [if_pos e]
      show (if kOf p.1 = some k' then some d else dgetD _ k') = _
      by_cases e2 : k = k'
      · subst e2
        rw [if_pos e, if_pos rfl]
        show _ = (if kOf p.1 = some k then some p.2 else dgetD r k).map _
        rw [if_pos e]
        rfl
      · have e3 : ¬ kOf p.1 = some k' := fun z => e2 (Option.some.inj (e.symm.trans z))
        rw [if_neg e3, ih, if_neg e2, if_neg e2]
        show _ = (if kOf p.1 = some k' then some p.2 else dgetD r k')
        rw [if_neg e3]
    · rw [if_neg e]
      show (if kOf p.1 = some k' then some p.2 else dgetD _ k') = _
      rw [ih]
      by_cases e2 : k = k'
      · subst e2
        rw [if_neg e, if_pos rfl, if_pos rfl]
        show _ = (if kOf p.1 = some k then some p.2 else dgetD r k).map _
        rw [if_neg e]
      · rw [if_neg e2, if_neg e2]
        rfl
theorem get_append (k : L2.Key) (b : List (PyData × PyData)) : ∀ a : List (PyData × PyData), dgetD (a ++ b) k = (dgetD a k).or (dgetD b k)
  | [] => rfl
  | p :: r => by
    show (if kOf p.1 = some k then some p.2 else dgetD (r ++ b) k) = (if kOf p.1 = some k then some p.2 else dgetD r k).or _
    by_cases e : kOf p.1 = some k
    · rw [if_pos e, if_pos e]
      rfl
    · rw [if_neg e, if_neg e]
      exact get_append k b r
theorem get_put (kvs : List (PyData × PyData)) (k k' : L2.Key) (d : PyData) : dgetD (dputD kvs k d) k' = if k = k' then some d else dgetD kvs k' := by
  unfold dputD
  by_cases h : (dgetD kvs k).isSome = true
  · rw [if_pos h, get_map]
    by_cases e : k = k'
    · rw [if_pos e, if_pos e]
      obtain ⟨x, hx⟩ := Option.isSome_iff_exists.mp h
      rw [hx]
      rfl
    · rw [if_neg e, if_neg e]
  · rw [if_neg h, get_append]
    have hn : dgetD kvs k = none := by
      cases e : dgetD kvs k with
      | none => rfl
      | some x => rw [e] at h; exact absurd rfl h
    show (dgetD kvs k').or (if kOf (keyD k) = some k' then some d else none) = _
    rw [kOf_keyD]
    by_cases e : k = k'
    · subst e
      rw [hn, if_pos rfl, if_pos rfl]
      rfl
    · rw [if_neg (fun z => e (Option.some.inj z)), if_neg e]
      cases dgetD kvs k' <;> rfl
theorem put_len (kvs : List (PyData × PyData)) (k : L2.Key) (d : PyData) : (dputD kvs k d).length ≤ kvs.length + 1 := by
  unfold dputD
  split
  · rw [List.length_map]
    omega
  · rw [List.length_append]
    exact Nat.le_refl _
/-- the last value of a key -/
def lastD (k : L2.Key) : List (L2.Key × PyData) → Option PyData → Option PyData
  | [], o => o
  | p :: r, o => lastD k r (if p.1 = k then some p.2 else o)
theorem get_merge (k : L2.Key) : ∀ (more : List (L2.Key × PyData)) (kvs : List (PyData × PyData)), dgetD (mergeD kvs more) k = lastD k more (dgetD kvs k)
  | [], _ => rfl
  | p :: r, kvs => by
    show dgetD (mergeD (dputD kvs p.1 p.2) r) k = lastD k r (if p.1 = k then some p.2 else dgetD kvs k)
    rw [get_merge k r, get_put]
theorem merge_len : ∀ (more : List (L2.Key × PyData)) (kvs : List (PyData × PyData)), (mergeD kvs more).length ≤ kvs.length + more.length
  | [], _ => Nat.le_refl _
  | p :: r, kvs => by
    have h1 := merge_len r (dputD kvs p.1 p.2)
    have h2 := put_len kvs p.1 p.2
    show (mergeD (dputD kvs p.1 p.2) r).length ≤ _
    rw [List.length_cons]
    omega
theorem w_for {g : DG} (h : dl s fun items s1 => dLoop g b E items s1) : dFor dl g b E s := h
/-! ### targets -/
theorem w_gdN {N : DSt → Prop} (h : N ⟨s.sl.set i (.dat d), s.n⟩) : gdN i d N s := h
theorem w_gdTup {n : Nat} {g : DGs} {ds : List PyData} {N : DSt → Prop} (hl : ds.length = n) (h : g ds N s) : gdTup n g (.tuple ds) N s := ⟨hl, h⟩
theorem w_gdNil {N : DSt → Prop} (h : N s) : gdNil [] N s := ⟨rfl, h⟩
theorem w_gdCons {g : DG} {gs : DGs} {ds : List PyData} {N : DSt → Prop} (h : g d (fun s1 => gs ds N s1) s) : gdCons g gs (d :: ds) N s := h
/-! ### expressions -/
theorem w_c (h : P d s) : dC d s P := h
theorem w_var (e : s.sl[i]? = some (.dat d)) (h : P d s) : dVar i s P := by unfold dVar; rw [e]; exact h
theorem w_listO {ds : List PyData} (e : s.sl[i]? = some (.own ds)) (h : PA ds s) : dListVar i s PA := by unfold dListVar; rw [e]; exact h
theorem w_listD {ds : List PyData} (e : s.sl[i]? = some (.dat (.list ds))) (h : PA ds s) : dListVar i s PA := by unfold dListVar; rw [e]; exact h
theorem w_asL (h : de s fun d s1 => match d with
  | .list ds => PA ds s1
  | _ => False) : dAsL de s PA := h
theorem w_asU (h : de s fun d s1 => match d with
  | .tuple ds => PA ds s1
  | _ => False) : dAsU de s PA := h
theorem w_newL (h : dl s fun ds s1 => P (.list ds) s1) : dNewL dl s P := h
theorem w_nil (h : PA [] s) : dNil s PA := h
theorem w_cons (h : de s fun d s1 => dl s1 fun ds s2 => PA (d :: ds) s2) : dCons de dl s PA := h
theorem w_tup (h : dl s fun ds s1 => ds.length ≤ 1000000 ∧ P (.tuple ds) s1) : dTup dl s P := h
theorem w_lst (h : dl s fun ds s1 => ds.length ≤ 1000000 ∧ PA ds s1) : dLst dl s PA := h
theorem w_op (h : da s fun d s1 => db s1 fun e s2 => r d e fun f => P f s2) : dOp r da db s P := h
theorem w_lenL (h : dl s fun ds s1 => P (.int ds.length) s1) : dLenL dl s P := h
theorem w_lenD (h : de s fun d s1 => match d with
  | .list ds => P (.int ds.length) s1
  | .tuple ds => P (.int ds.length) s1
  | _ => False) : dLenD de s P := h
theorem w_tupOf (h : dl s fun ds s1 => P (.tuple ds) s1) : dTupOf dl s P := h
theorem w_ifE (h : c s fun b s1 => if b = true then da s1 P else db s1 P) : dIfE c da db s P := h
theorem w_cat (h : da s fun d s1 => db s1 fun e s2 => match d, e with
  | .list a, .list b => a.length + b.length ≤ 1000000 ∧ PA (a ++ b) s2
  | _, _ => False) : dCat da db s PA := h
theorem w_rep (h : da s fun d s1 => db s1 fun e s2 => match d, e with
  | .list a, .int k => -(2 ^ 63) ≤ k ∧ k < 2 ^ 63 ∧ a.length * k.toNat ≤ 1000000 ∧ PA (List.replicate k.toNat a).flatten s2
  | _, _ => False) : dRep da db s PA := h
theorem w_call (h : x s fun as s1 => as.length = m ∧ F as s1.n fun d n' => P d ⟨s1.sl, n'⟩) : dCall m F x s P := h
theorem w_callP {π : List Nat} {n : Nat} (h : x s fun as s1 => as.length = n ∧ (permL π as).length = m ∧ F (permL π as) s1.n fun d n' => P d ⟨s1.sl, n'⟩) : dCallP m F π n x s P := h
theorem w_xNil (h : PX [] s) : xNil s PX := h
theorem w_xCons (h : de s fun d s1 => x s1 fun ds s2 => PX (.dat d :: ds) s2) : xCons de x s PX := h
theorem w_xDeck (e : s.sl[i]? = some .deck) (h : x s fun ds s2 => PX (.deck :: ds) s2) : xDeck i x s PX := by unfold xDeck; rw [e]; exact h
theorem w_ixVarD (e : s.sl[i]? = some (.dat d)) (h : db s fun e s1 => match e with
  | .int k => dListVar i s1 fun a s2 => ∃ x, atI a k = some x ∧ P x s2
  | _ => False) : dIxVar i db s P := ⟨by rw [e]; trivial, h⟩
theorem w_ixVarO {ds : List PyData} (e : s.sl[i]? = some (.own ds)) (h : db s fun e s1 => match e with
  | .int k => dListVar i s1 fun a s2 => ∃ x, atI a k = some x ∧ P x s2
  | _ => False) : dIxVar i db s P := ⟨by rw [e]; trivial, h⟩
theorem w_all (h : dl s fun ds s1 => ∃ bs, boolsD ds = some bs ∧ P (.bool (bs.all id)) s1) : dAll dl s P := h
theorem w_reprA (h : de s fun d s1 => Shows d ∧ P (.str d.shown) s1) : dReprA de s P := h
theorem w_isi {n : String} (h : de s fun d s1 => ∃ b, isaB (tyD d) n = some b ∧ P (.bool b) s1) : dIsi n de s P := h
theorem w_andV (h : da s fun d s1 => match d with
  | .bool c => if c = true then db s1 P else P (.bool false) s1
  | _ => False) : dAndV da db s P := h
theorem w_newD {dk : DK} (h : dk s fun kvs s1 => P (.dict kvs) s1) : dNewD dk s P := h
theorem w_dict0 {PK : List (PyData × PyData) → DSt → Prop} (h : PK [] s) : dDict0 s PK := h
theorem w_rng1 (h : de s fun d s1 => match d with
  | .int j => -(2 ^ 62) ≤ j ∧ j < 2 ^ 62 ∧ PA (rngD 0 j.toNat) s1
  | _ => False) : dRng1 de s PA := h
theorem w_comp {g : DG} {t : DT} {vs : List Nat} (h : dl s fun items s1 => items.length ≤ 1000 ∧ noOwnB s1.sl vs = true ∧ dLc g t de (wipeD s1.sl vs) items [] s1.n fun acc n => PA acc ⟨s1.sl, n⟩) : dComp dl g t de vs s PA := h
theorem w_enum (h : de s fun d s1 => match d with
  | .list ds => PA (enumD ds) s1
  | _ => False) : dEnum de s PA := h
/-! ### tests -/
theorem w_B (h : de s fun d s1 => match d with
  | .bool c => PT' c s1
  | _ => False) : dB de s PT' := h
theorem w_and (h : c s fun b s1 => if b = true then c2 s1 PT' else PT' false s1) : dAnd c c2 s PT' := h
theorem w_or (h : c s fun b s1 => if b = true then PT' true s1 else c2 s1 PT') : dOr c c2 s PT' := h
theorem w_not (h : c s fun b s1 => PT' (!b) s1) : dNot c s PT' := h
theorem w_yes (h : PT' true s) : dYes s PT' := h
theorem w_T {c : Bool} {x y : Prop} (e : c = true) (h : x) : if c = true then x else y := by rw [if_pos e]; exact h
theorem w_F {c : Bool} {x y : Prop} (e : c = false) (h : y) : if c = true then x else y := by rw [if_neg (by rw [e]; decide)]; exact h
theorem w_ite {c : Bool} {x y : Prop} (h1 : c = true → x) (h2 : c = false → y) : if c = true then x else y := by
  cases c with
  | true => exact w_T rfl (h1 rfl)
  | false => exact w_F rfl (h2 rfl)
/-! ### operations -/
theorem w_I0 {g : Int → Int → Int} {p q : Int} (h : PO (.int (g p q))) : oI0 g (.int p) (.int q) PO := h
theorem w_B0 {g : Int → Int → Bool} {p q : Int} (h : PO (.bool (g p q))) : oB0 g (.int p) (.int q) PO := h
theorem w_eqI {p q : Int} (h : PO (.bool (decide (p = q)))) : oEq false (.int p) (.int q) PO := by
  refine ⟨rfl, ?_⟩
  have e : decide (V.int p = V.int q) = decide (p = q) := decide_eq_decide.mpr ⟨fun z => V.int.inj z, fun z => by rw [z]⟩
  show PO (.bool (decide (V.int p = V.int q)))
  rw [e]
  exact h
theorem w_neI {p q : Int} (h : PO (.bool (!decide (p = q)))) : oEq true (.int p) (.int q) PO := by
  refine ⟨rfl, ?_⟩
  have e : decide (V.int p = V.int q) = decide (p = q) := decide_eq_decide.mpr ⟨fun z => V.int.inj z, fun z => by rw [z]⟩
  show PO (.bool (!decide (V.int p = V.int q)))
  rw [e]
  exact h
theorem w_eqS {p q : Str} (h : PO (.bool (decide (p = q)))) : oEq false (.str p) (.str q) PO := by
  refine ⟨rfl, ?_⟩
  have e : decide (V.str p = V.str q) = decide (p = q) := decide_eq_decide.mpr ⟨fun z => V.str.inj z, fun z => by rw [z]⟩
  show PO (.bool (decide (V.str p = V.str q)))
  rw [e]
  exact h
theorem w_neS {p q : Str} (h : PO (.bool (!decide (p = q)))) : oEq true (.str p) (.str q) PO := by
  refine ⟨rfl, ?_⟩
  have e : decide (V.str p = V.str q) = decide (p = q) := decide_eq_decide.mpr ⟨fun z => V.str.inj z, fun z => by rw [z]⟩
  show PO (.bool (!decide (V.str p = V.str q)))
  rw [e]
  exact h
theorem w_ixU {ds : List PyData} {k : Int} (e : atI ds k = some d) (h : PO d) : oIxU (.tuple ds) (.int k) PO := ⟨d, e, h⟩
theorem w_ixL {ds : List PyData} {k : Int} (e : atI ds k = some d) (h : PO d) : oIxL (.list ds) (.int k) PO := ⟨d, e, h⟩
theorem w_catU {ds es : List PyData} (e : ds.length + es.length ≤ 1000000) (h : PO (.tuple (ds ++ es))) : oCatU (.tuple ds) (.tuple es) PO := ⟨e, h⟩
theorem w_eqMt {ds : List PyData} (h : PO (.bool ds.isEmpty)) : oEqMt (.tuple ds) (.tuple []) PO := h
theorem w_eqMtL {ds : List PyData} (h : PO (.bool ds.isEmpty)) : oEqMtL (.list ds) (.list []) PO := h
theorem w_isN (h : PO (.bool (isNoneD d))) : oIsN false d .none PO := h
theorem w_notN (h : PO (.bool (!isNoneD d))) : oIsN true d .none PO := h
theorem rep_one (x : PyData) (k : Nat) : (List.replicate k [x]).flatten = List.replicate k x := by
  induction k with
  | zero => rfl
  | succ k ih => rw [List.replicate_succ, List.flatten_cons, ih, List.replicate_succ]; rfl
theorem w_rep1 {k : Nat} (hk : k ≤ 1000) (h : PO (.tuple (List.replicate k d))) : oRepU (.tuple [d]) (.int (k : Nat)) PO := by
  refine ⟨by omega, by omega, by simp, ?_⟩
  rw [Int.toNat_natCast, rep_one]
  exact h
end
theorem not_dec_f {p : Prop} [Decidable p] (h : (!decide p) = false) : p := by
  by_cases hp : p
  · exact hp
  · rw [decide_eq_false hp] at h
    cases h
theorem not_dec_t {p : Prop} [Decidable p] (h : (!decide p) = true) : ¬ p := fun hp => by
  rw [decide_eq_true hp] at h
  cases h
theorem not_f {b : Bool} (h : (!b) = false) : b = true := by
  cases b with
  | true => rfl
  | false => cases h
theorem not_t {b : Bool} (h : (!b) = true) : b = false := by
  cases b with
  | true => cases h
  | false => rfl
/-! ### loops by what is left -/
theorem loop_rem {g : DG} {b : DS} {E : DEnds} (J : List PyData → DSt → Prop)
    (step : ∀ d ds s, J (d :: ds) s → ∀ N : DSt → Prop, (∀ s2, J ds s2 → N s2) → g d (fun s1 => b { nx := N, rt := E.rt, ct := N, bk := E.nx } s1) s)
    (fin : ∀ s, J [] s → E.nx s) : ∀ (items : List PyData) (s : DSt), J items s → dLoop g b E items s
  | [], s, h => fin s h
  | d :: ds, s, h => step d ds s h _ fun s2 h2 => loop_rem J step fin ds s2 h2
theorem lc_rem {g : DG} {t : DT} {e : DE} {base : List DV} {P : List PyData → Nat → Prop} (J : List PyData → List PyData → Nat → Prop)
    (step : ∀ d ds acc n, J (d :: ds) acc n → ∀ (Y : PyData → Nat → Prop) (Z : Nat → Prop), (∀ y n', J ds (acc ++ [y]) n' → Y y n') → (∀ n', J ds acc n' → Z n') →
      g d (fun s1 => t s1 fun b s2 => if b = true then e s2 fun y s3 => s3.sl = s1.sl ∧ Y y s3.n else s2.sl = s1.sl ∧ Z s2.n) ⟨base, n⟩)
    (fin : ∀ acc n, J [] acc n → P acc n) : ∀ (items acc : List PyData) (n : Nat), J items acc n → dLc g t e base items acc n P
  | [], acc, n, h => fin acc n h
  | d :: ds, acc, n, h => step d ds acc n h (fun y n' => dLc g t e base ds (acc ++ [y]) n' P) (fun n' => dLc g t e base ds acc n' P)
      (fun y n' h2 => lc_rem J step fin ds _ n' h2) (fun n' h2 => lc_rem J step fin ds _ n' h2)
/-- each item gives its image; no draw -/
theorem lc_map {g : DG} {t : DT} {e : DE} {base : List DV} {P : List PyData → Nat → Prop} {n : Nat} {items : List PyData} (f : PyData → PyData)
    (step : ∀ d, d ∈ items → ∀ (Y : PyData → Nat → Prop) (Z : Nat → Prop), Y (f d) n →
      g d (fun s1 => t s1 fun b s2 => if b = true then e s2 fun y s3 => s3.sl = s1.sl ∧ Y y s3.n else s2.sl = s1.sl ∧ Z s2.n) ⟨base, n⟩)
    (fin : P (items.map f) n) : dLc g t e base items [] n P := by
  refine lc_rem (fun ds acc m => (∀ d, d ∈ ds → d ∈ items) ∧ acc ++ ds.map f = items.map f ∧ m = n) (fun d ds acc m h Y Z hY hZ => ?_) (fun acc m h => ?_) items [] n ⟨fun _ h => h, rfl, rfl⟩
  · obtain ⟨h1, h2, rfl⟩ := h
    refine step d (h1 d List.mem_cons_self) Y Z (hY _ _ ⟨fun x hx => h1 x (List.mem_cons_of_mem _ hx), ?_, rfl⟩)
    rw [← h2, List.map_cons, List.append_assoc]
    rfl
  · obtain ⟨_, h2, rfl⟩ := h
    rw [List.map_nil, List.append_nil] at h2
    rw [h2]
    exact fin
/-- the items that pass; no draw -/
theorem lc_filter {g : DG} {t : DT} {e : DE} {base : List DV} {P : List PyData → Nat → Prop} {n : Nat} {items : List PyData} (p : PyData → Bool)
    (step : ∀ d, d ∈ items → ∀ (Y : PyData → Nat → Prop) (Z : Nat → Prop), (p d = true → Y d n) → (p d = false → Z n) →
      g d (fun s1 => t s1 fun b s2 => if b = true then e s2 fun y s3 => s3.sl = s1.sl ∧ Y y s3.n else s2.sl = s1.sl ∧ Z s2.n) ⟨base, n⟩)
    (fin : P (items.filter p) n) : dLc g t e base items [] n P := by
  refine lc_rem (fun ds acc m => (∀ d, d ∈ ds → d ∈ items) ∧ acc ++ ds.filter p = items.filter p ∧ m = n) (fun d ds acc m h Y Z hY hZ => ?_) (fun acc m h => ?_) items [] n ⟨fun _ h => h, rfl, rfl⟩
  · obtain ⟨h1, h2, rfl⟩ := h
    refine step d (h1 d List.mem_cons_self) Y Z (fun hp => hY _ _ ⟨fun x hx => h1 x (List.mem_cons_of_mem _ hx), ?_, rfl⟩) (fun hp => hZ _ ⟨fun x hx => h1 x (List.mem_cons_of_mem _ hx), ?_, rfl⟩)
    · rw [← h2, List.filter_cons_of_pos hp, List.append_assoc]
      rfl
    · rw [← h2, List.filter_cons_of_neg (by rw [hp]; decide)]
  · obtain ⟨_, h2, rfl⟩ := h
    rw [List.filter_nil, List.append_nil] at h2
    rw [h2]
    exact fin
/-- each item gives something that keeps R, with at most k draws each -/
theorem lc_all {g : DG} {t : DT} {e : DE} {base : List DV} {P : List PyData → Nat → Prop} {n : Nat} {items : List PyData} (R : PyData → Prop) (k : Nat)
    (step : ∀ d, d ∈ items → ∀ m, n ≤ m → m + k ≤ n + k * items.length → ∀ (Y : PyData → Nat → Prop) (Z : Nat → Prop), (∀ y m', R y → m ≤ m' → m' ≤ m + k → Y y m') →
      g d (fun s1 => t s1 fun b s2 => if b = true then e s2 fun y s3 => s3.sl = s1.sl ∧ Y y s3.n else s2.sl = s1.sl ∧ Z s2.n) ⟨base, m⟩)
    (fin : ∀ ys m, ys.length = items.length → (∀ y, y ∈ ys → R y) → n ≤ m → m ≤ n + k * items.length → P ys m) : dLc g t e base items [] n P := by
  refine lc_rem (fun ds acc m => (∀ d, d ∈ ds → d ∈ items) ∧ acc.length + ds.length = items.length ∧ (∀ y, y ∈ acc → R y) ∧ n ≤ m ∧ m + k * ds.length ≤ n + k * items.length) (fun d ds acc m h Y Z hY hZ => ?_) (fun acc m h => ?_) items [] n ⟨fun _ h => h, by simp, (fun y h => by cases h), Nat.le_refl _, Nat.le_refl _⟩
  · obtain ⟨h1, h2, h3, h4, h5⟩ := h
    rw [List.length_cons, Nat.mul_add, Nat.mul_one] at h5
    rw [List.length_cons] at h2
    refine step d (h1 d List.mem_cons_self) m h4 (by omega) Y Z fun y m' hR a1 a2 => hY _ _ ⟨fun x hx => h1 x (List.mem_cons_of_mem _ hx), ?_, fun z hz => ?_, by omega, by omega⟩
    · rw [List.length_append, List.length_singleton]
      omega
    · rcases List.mem_append.mp hz with hz | hz
      · exact h3 z hz
      · rw [List.mem_singleton.mp hz]
        exact hR
  · obtain ⟨_, h2, h3, h4, h5⟩ := h
    exact fin acc m (by simpa using h2) h3 h4 (by simpa using h5)
theorem w_slD {P : List PyData → DSt → Prop} {s : DSt} {de : DE} {d1 d2 : DO} (h : de s fun d s1 => d1 s1 fun lo s2 => d2 s2 fun hi s3 => match d with
  | .list ds => P (cutD ds lo hi) s3
  | _ => False) : dSlD de d1 d2 s P := h
theorem w_slU {P : PyData → DSt → Prop} {s : DSt} {de : DE} {d1 d2 : DO} (h : de s fun d s1 => d1 s1 fun lo s2 => d2 s2 fun hi s3 => match d with
  | .tuple ds => P (.tuple (cutD ds lo hi)) s3
  | _ => False) : dSlU de d1 d2 s P := h
theorem w_noP {P : Option Int → DSt → Prop} {s : DSt} (h : P none s) : dNoP s P := h
theorem w_part {P : Option Int → DSt → Prop} {s : DSt} {de : DE} (h : de s fun d s1 => match d with
  | .int i => P (some i) s1
  | _ => False) : dPart de s P := h
theorem w_listZip {P : List PyData → DSt → Prop} {s : DSt} {d1 d2 : DE} (h : d1 s fun x s1 => d2 s1 fun y s2 => match x, y with
  | .list a, .list b => P (List.zipWith (fun p q => PyData.tuple [p, q]) a b) s2
  | _, _ => False) : dListZip d1 d2 s P := h
theorem w_sortSI {P : List PyData → DSt → Prop} {s : DSt} {dl : DA} (h : dl s fun ds s1 => ds.all isSI = true ∧ ∀ es : List PyData, es.Perm ds → P es s1) : dSortSI dl s P := h
theorem w_listRng {P : List PyData → DSt → Prop} {s : DSt} {de : DE} (h : de s fun d s1 => match d with
  | .int j => 0 ≤ j ∧ j ≤ 1000 ∧ P (upToD j.toNat) s1
  | _ => False) : dListRng de s P := h
theorem w_setD {E : DEnds} {s : DSt} {i : Nat} {dl : DK} (h : dl s fun kvs s1 => i < s1.sl.length ∧ E.nx ⟨s1.sl.set i (.owd kvs), s1.n⟩) : dSetD dl i E s := h
theorem w_dictL {P : List (PyData × PyData) → DSt → Prop} {s : DSt} {dl : DA} (h : dl s fun ds s1 => ∃ prs, pairsD ds = some prs ∧ P (mergeD [] prs) s1) : dDictL dl s P := h
theorem w_dictU {P : List (PyData × PyData) → DSt → Prop} {s : DSt} {de : DE} (h : de s fun d s1 => match d with
  | .tuple ds => ∃ prs, pairsD ds = some prs ∧ P (mergeD [] prs) s1
  | _ => False) : dDictU de s P := h
theorem w_disp {P : List (PyData × PyData) → DSt → Prop} {s : DSt} {dp : DK} (h : dp s fun ds s1 => ds.length ≤ 15 ∧ ∃ ks, keysD ds = some ks ∧ P (mergeD [] ks) s1) : dDisp dp s P := h
theorem w_psNil {P : List (PyData × PyData) → DSt → Prop} {s : DSt} (h : P [] s) : dPsNil s P := h
theorem w_psCons {P : List (PyData × PyData) → DSt → Prop} {s : DSt} {dk dv : DE} {dp : DK} (h : dk s fun x s1 => dv s1 fun y s2 => dp s2 fun ds s3 => P ((x, y) :: ds) s3) : dPsCons dk dv dp s P := h
theorem cut_to {xs : List PyData} (k : Nat) : cutD xs none (some (k : Int)) = xs.take k := by
  unfold cutD
  rw [HT.sIx_nat, HT.sIx_none, List.drop_zero, Nat.sub_zero]
  rcases Nat.le_total k xs.length with h | h
  · rw [Nat.min_eq_left h]
  · rw [Nat.min_eq_right h, List.take_of_length_le (Nat.le_refl _), List.take_of_length_le h]
theorem cut_from {xs : List PyData} (k : Nat) : cutD xs (some (k : Int)) none = xs.drop k := by
  unfold cutD
  rw [HT.sIx_nat, HT.sIx_none]
  rcases Nat.le_total k xs.length with h | h
  · rw [Nat.min_eq_left h]
    exact List.take_of_length_le (by rw [List.length_drop]; omega)
  · rw [Nat.min_eq_right h, List.drop_eq_nil_of_le h, List.drop_length, List.take_nil]
/-- some items give something; no draw -/
theorem lc_fm {g : DG} {t : DT} {e : DE} {base : List DV} {P : List PyData → Nat → Prop} {n : Nat} {items : List PyData} (f : PyData → Option PyData)
    (step : ∀ d, d ∈ items → ∀ (Y : PyData → Nat → Prop) (Z : Nat → Prop), (∀ y, f d = some y → Y y n) → (f d = none → Z n) →
      g d (fun s1 => t s1 fun b s2 => if b = true then e s2 fun y s3 => s3.sl = s1.sl ∧ Y y s3.n else s2.sl = s1.sl ∧ Z s2.n) ⟨base, n⟩)
    (fin : P (items.filterMap f) n) : dLc g t e base items [] n P := by
  refine lc_rem (fun ds acc m => (∀ d, d ∈ ds → d ∈ items) ∧ acc ++ ds.filterMap f = items.filterMap f ∧ m = n) (fun d ds acc m h Y Z hY hZ => ?_) (fun acc m h => ?_) items [] n ⟨fun _ h => h, rfl, rfl⟩
  · obtain ⟨h1, h2, rfl⟩ := h
    refine step d (h1 d List.mem_cons_self) Y Z (fun y hp => hY _ _ ⟨fun x hx => h1 x (List.mem_cons_of_mem _ hx), ?_, rfl⟩) (fun hp => hZ _ ⟨fun x hx => h1 x (List.mem_cons_of_mem _ hx), ?_, rfl⟩)
    · rw [← h2, List.filterMap_cons_some hp, List.append_assoc]
      rfl
    · rw [← h2, List.filterMap_cons_none hp]
  · obtain ⟨_, h2, rfl⟩ := h
    rw [List.filterMap_nil, List.append_nil] at h2
    rw [h2]
    exact fin
/-- some items give something that keeps R, with at most k draws each -/
theorem lc_some {g : DG} {t : DT} {e : DE} {base : List DV} {P : List PyData → Nat → Prop} {n : Nat} {items : List PyData} (R : PyData → Prop) (k : Nat)
    (step : ∀ d, d ∈ items → ∀ m, n ≤ m → m + k ≤ n + k * items.length → ∀ (Y : PyData → Nat → Prop) (Z : Nat → Prop), (∀ y m', R y → m ≤ m' → m' ≤ m + k → Y y m') → (∀ m', m ≤ m' → m' ≤ m + k → Z m') →
      g d (fun s1 => t s1 fun b s2 => if b = true then e s2 fun y s3 => s3.sl = s1.sl ∧ Y y s3.n else s2.sl = s1.sl ∧ Z s2.n) ⟨base, m⟩)
    (fin : ∀ ys m, ys.length ≤ items.length → (∀ y, y ∈ ys → R y) → n ≤ m → m ≤ n + k * items.length → P ys m) : dLc g t e base items [] n P := by
  refine lc_rem (fun ds acc m => (∀ d, d ∈ ds → d ∈ items) ∧ acc.length + ds.length ≤ items.length ∧ (∀ y, y ∈ acc → R y) ∧ n ≤ m ∧ m + k * ds.length ≤ n + k * items.length) (fun d ds acc m h Y Z hY hZ => ?_) (fun acc m h => ?_) items [] n ⟨fun _ h => h, by simp, (fun y h => by cases h), Nat.le_refl _, Nat.le_refl _⟩
  · obtain ⟨h1, h2, h3, h4, h5⟩ := h
    rw [List.length_cons, Nat.mul_add, Nat.mul_one] at h5
    rw [List.length_cons] at h2
    refine step d (h1 d List.mem_cons_self) m h4 (by omega) Y Z (fun y m' hR a1 a2 => hY _ _ ⟨fun x hx => h1 x (List.mem_cons_of_mem _ hx), ?_, fun z hz => ?_, by omega, by omega⟩) fun m' a1 a2 => hZ _ ⟨fun x hx => h1 x (List.mem_cons_of_mem _ hx), by omega, h3, by omega, by omega⟩
    · rw [List.length_append, List.length_singleton]
      omega
    · rcases List.mem_append.mp hz with hz | hz
      · exact h3 z hz
      · rw [List.mem_singleton.mp hz]
        exact hR
  · obtain ⟨_, h2, h3, h4, h5⟩ := h
    exact fin acc m (by simpa using h2) h3 h4 (by simpa using h5)
/-! ### ints -/
abbrev natsD (l : List Nat) : List PyData := l.map fun f => .int (f : Nat)
theorem nats_ints (l : List Nat) : natsD l = intsD (l.map fun f : Nat => (f : Int)) := by
  unfold natsD intsD
  rw [List.map_map]
  rfl
theorem noDict_nats : ∀ l : List Nat, PyData.hasDictAll (natsD l) = false
  | [] => by simp only [natsD, List.map_nil, PyData.hasDictAll]
  | x :: l => by
    have ih : PyData.hasDictAll (l.map fun f => PyData.int (f : Nat)) = false := noDict_nats l
    simp only [natsD, List.map_cons, PyData.hasDictAll, PyData.hasDict, ih, Bool.or_self]
theorem shaped_nats (l : List Nat) : SeqAt.shaped (.list (natsD l)) = true := by
  rw [nats_ints]
  exact shaped_ints _
theorem nats_of : ∀ {ys : List PyData} {L : Nat}, (∀ y, y ∈ ys → ∃ v : Nat, v < L ∧ y = .int (v : Nat)) → ∃ fs : List Nat, ys = natsD fs ∧ fs.length = ys.length ∧ ∀ f, f ∈ fs → f < L
  | [], _, _ => ⟨[], rfl, rfl, fun f hf => absurd hf List.not_mem_nil⟩
  | y :: ys, L, h => by
    obtain ⟨v, hv, rfl⟩ := h y List.mem_cons_self
    obtain ⟨fs, rfl, h2, h3⟩ := nats_of (fun z hz => h z (List.mem_cons_of_mem _ hz))
    refine ⟨v :: fs, rfl, by simp, fun f hf => ?_⟩
    rcases List.mem_cons.mp hf with rfl | hf
    · exact hv
    · exact h3 f hf
theorem rng_len (lo : Int) (n : Nat) : (rngD lo n).length = n := by unfold rngD; simp
theorem rng_mem {n : Nat} {d : PyData} (h : d ∈ rngD 0 n) : ∃ v : Nat, v < n ∧ d = .int (v : Nat) := by
  unfold rngD at h
  obtain ⟨k, hk, rfl⟩ := List.mem_map.mp h
  exact ⟨k, List.mem_range.mp hk, by rw [Int.zero_add]⟩
theorem upTo_nats (n : Nat) : upToD n = natsD (List.range n) := rfl
theorem mem_erase {α : Type} {l : List α} {v : Nat} (hv : v < l.length) {x : α} (h : x ∈ l) : x = l[v] ∨ x ∈ l.eraseIdx v := by
  rw [List.eraseIdx_eq_take_drop_succ]
  rw [← List.take_append_drop v l, List.drop_eq_getElem_cons hv] at h
  rcases List.mem_append.mp h with h | h
  · exact .inr (List.mem_append_left _ h)
  · rcases List.mem_cons.mp h with h | h
    · exact .inl h
    · exact .inr (List.mem_append_right _ h)
theorem of_erase {α : Type} {l : List α} {v : Nat} {x : α} (h : x ∈ l.eraseIdx v) : x ∈ l := List.mem_of_mem_eraseIdx h
/-! ### calls of draws -/
theorem w_draw {n L : Nat} {P : PyData → Nat → Prop} (hn : n < 1000000) (h1 : 1 ≤ L) (h2 : L < 1000000) (h : ∀ v : Nat, v < L → P (.int (v : Nat)) (n + 1)) : F_draw [.deck, .dat (.int (L : Nat))] n P := by
  refine ⟨hn, by omega, by omega, fun v h0 hv => ?_⟩
  obtain ⟨k, rfl⟩ := Int.eq_ofNat_of_zero_le h0
  exact h k (by omega)
/-! ### isinstance -/
def isTup : PyData → Bool
  | .tuple _ => true
  | _ => false
def isStrD : PyData → Bool
  | .str _ => true
  | _ => false
theorem isa_tup (d : PyData) : isaB (tyD d) "tuple" = some (isTup d) := by cases d <;> kernel_rfl
theorem isa_str (d : PyData) : isaB (tyD d) "str" = some (isStrD d) := by cases d <;> kernel_rfl
/-! ### data whose repr can be taken -/
structure Val (D W : Nat) (d : PyData) : Prop where
  sh : d.showable = true
  lv : d.leavesShort 40 = true
  dp : d.depth ≤ D
  wt : d.weight ≤ W
theorem Val.shows {D W : Nat} {d : PyData} (h : Val D W d) (hD : D ≤ 60) (hW : W ≤ 399000) : Shows d :=
  ⟨h.sh, Nat.le_trans h.dp hD, by
    have z := PyData.shown_le 40 (by decide) d h.lv
    have y := h.wt
    rw [sizeLine_eq]
    omega⟩
theorem Val.mono {D W D' W' : Nat} {d : PyData} (h : Val D W d) (hD : D ≤ D') (hW : W ≤ W') : Val D' W' d := ⟨h.sh, h.lv, Nat.le_trans h.dp hD, Nat.le_trans h.wt hW⟩
structure Vals' (D W : Nat) (ds : List PyData) : Prop where
  sh : PyData.showableAll ds = true
  lv : PyData.leavesShortAll 40 ds = true
  dp : PyData.depthAll ds ≤ D
  wt : PyData.weightAll ds ≤ W
theorem vals_nil {D W : Nat} : Vals' D W [] := ⟨by simp only [PyData.showableAll], by simp only [PyData.leavesShortAll], by simp only [PyData.depthAll]; omega, by simp only [PyData.weightAll]; omega⟩
theorem vals_cons {D W V : Nat} {d : PyData} {ds : List PyData} (h : Val D V d) (hs : Vals' D W ds) : Vals' D (V + 1 + W) (d :: ds) :=
  ⟨by simp only [PyData.showableAll, h.sh, hs.sh, Bool.and_self], by simp only [PyData.leavesShortAll, h.lv, hs.lv, Bool.and_self], by simp only [PyData.depthAll]; exact Nat.max_le.mpr ⟨h.dp, hs.dp⟩, by
    simp only [PyData.weightAll]
    have := h.wt
    have := hs.wt
    omega⟩
theorem vals_mono {D W D' W' : Nat} {ds : List PyData} (h : Vals' D W ds) (hD : D ≤ D') (hW : W ≤ W') : Vals' D' W' ds := ⟨h.sh, h.lv, Nat.le_trans h.dp hD, Nat.le_trans h.wt hW⟩
theorem val_tup {D W : Nat} {ds : List PyData} (h : Vals' D W ds) : Val (D + 1) W (.tuple ds) :=
  ⟨by simp only [PyData.showable, h.sh], by simp only [PyData.leavesShort, h.lv], by simp only [PyData.depth]; have := h.dp; omega, by simp only [PyData.weight]; exact h.wt⟩
theorem val_lst {D W : Nat} {ds : List PyData} (h : Vals' D W ds) : Val (D + 1) W (.list ds) :=
  ⟨by simp only [PyData.showable, h.sh], by simp only [PyData.leavesShort, h.lv], by simp only [PyData.depth]; have := h.dp; omega, by simp only [PyData.weight]; exact h.wt⟩
theorem vals_of_tup {D W : Nat} {ds : List PyData} (h : Val (D + 1) W (.tuple ds)) : Vals' D W ds :=
  ⟨by simpa only [PyData.showable] using h.sh, by simpa only [PyData.leavesShort] using h.lv, by have := h.dp; simp only [PyData.depth] at this; omega, by simpa only [PyData.weight] using h.wt⟩
theorem vals_append {D W V : Nat} : ∀ {ds es : List PyData}, Vals' D W ds → Vals' D V es → Vals' D (W + V) (ds ++ es)
  | [], es, _, h => vals_mono h (Nat.le_refl _) (by omega)
  | d :: ds, es, h, k => by
    have h1 := h.sh
    have h2 := h.lv
    have h3 := h.dp
    have h4 := h.wt
    simp only [PyData.showableAll, Bool.and_eq_true] at h1
    simp only [PyData.leavesShortAll, Bool.and_eq_true] at h2
    simp only [PyData.depthAll] at h3
    simp only [PyData.weightAll] at h4
    have z := vals_append (W := W - d.weight - 1) (⟨h1.2, h2.2, Nat.le_trans (Nat.le_max_right _ _) h3, by omega⟩ : Vals' D (W - d.weight - 1) ds) k
    exact vals_mono (vals_cons (V := d.weight) ⟨h1.1, h2.1, Nat.le_trans (Nat.le_max_left _ _) h3, Nat.le_refl _⟩ z) (Nat.le_refl _) (by omega)
/-- each of them -/
theorem vals_all {D V : Nat} : ∀ {ds : List PyData}, (∀ d, d ∈ ds → Val D V d) → Vals' D (ds.length * (V + 1)) ds
  | [], _ => vals_nil
  | d :: ds, h => by
    have z := vals_cons (h d List.mem_cons_self) (vals_all fun x hx => h x (List.mem_cons_of_mem _ hx))
    refine vals_mono z (Nat.le_refl _) ?_
    rw [List.length_cons, Nat.add_mul]
    omega
theorem vals_mem {D W : Nat} : ∀ {ds : List PyData}, Vals' D W ds → ∀ d, d ∈ ds → Val D W d
  | [], _, d, h => by cases h
  | x :: ds, h, d, hd => by
    have h1 := h.sh
    have h2 := h.lv
    have h3 := h.dp
    have h4 := h.wt
    simp only [PyData.showableAll, Bool.and_eq_true] at h1
    simp only [PyData.leavesShortAll, Bool.and_eq_true] at h2
    simp only [PyData.depthAll] at h3
    simp only [PyData.weightAll] at h4
    rcases List.mem_cons.mp hd with rfl | hd
    · exact ⟨h1.1, h2.1, Nat.le_trans (Nat.le_max_left _ _) h3, by omega⟩
    · exact vals_mem ⟨h1.2, h2.2, Nat.le_trans (Nat.le_max_right _ _) h3, by omega⟩ d hd
theorem val_none {D W : Nat} : Val D W .none := ⟨by simp only [PyData.showable], by simp only [PyData.leavesShort], by simp only [PyData.depth]; omega, by simp only [PyData.weight]; omega⟩
theorem val_bool {D W : Nat} (b : Bool) : Val D W (.bool b) := ⟨by simp only [PyData.showable], by simp only [PyData.leavesShort], by simp only [PyData.depth]; omega, by simp only [PyData.weight]; omega⟩
end DL
namespace DL
open PySem PySem.Spec PyProof.Rows L2 GG DD PT
theorem vals_uncons {D W : Nat} {d : PyData} {ds : List PyData} (h : Vals' D W (d :: ds)) : Val D d.weight d ∧ Vals' D (W - d.weight - 1) ds ∧ d.weight + 1 ≤ W := by
  have h1 := h.sh
  have h2 := h.lv
  have h3 := h.dp
  have h4 := h.wt
  simp only [PyData.showableAll, Bool.and_eq_true] at h1
  simp only [PyData.leavesShortAll, Bool.and_eq_true] at h2
  simp only [PyData.depthAll] at h3
  simp only [PyData.weightAll] at h4
  exact ⟨⟨h1.1, h2.1, Nat.le_trans (Nat.le_max_left _ _) h3, Nat.le_refl _⟩, ⟨h1.2, h2.2, Nat.le_trans (Nat.le_max_right _ _) h3, by omega⟩, by omega⟩
theorem vals_split {D : Nat} : ∀ {xs ys : List PyData} {W : Nat}, Vals' D W (xs ++ ys) → ∃ a b, Vals' D a xs ∧ Vals' D b ys ∧ a + b ≤ W
  | [], ys, W, h => ⟨0, W, vals_nil, h, by omega⟩
  | x :: xs, ys, W, h => by
    obtain ⟨h1, h2, h3⟩ := vals_uncons h
    obtain ⟨a, b, h4, h5, h6⟩ := vals_split (xs := xs) h2
    exact ⟨_, b, vals_cons h1 h4, h5, by omega⟩
/-- at one place -/
theorem vals_at {D W k : Nat} {ds : List PyData} (h : Vals' D W ds) (hk : k < ds.length) : ∃ a b c, Vals' D a (ds.take k) ∧ Val D b ds[k] ∧ Vals' D c (ds.drop (k + 1)) ∧ a + b + 1 + c ≤ W := by
  have e : ds = ds.take k ++ ds[k] :: ds.drop (k + 1) := by rw [← List.drop_eq_getElem_cons hk, List.take_append_drop]
  rw [e] at h
  obtain ⟨a, b, h1, h2, h3⟩ := vals_split h
  obtain ⟨h4, h5, h6⟩ := vals_uncons h2
  exact ⟨a, _, _, h1, h4, h5, by omega⟩
theorem val_depth_pos {D W : Nat} {ds : List PyData} (h : Val D W (.tuple ds)) : ∃ D', D = D' + 1 := by
  have := h.dp
  simp only [PyData.depth] at this
  exact ⟨D - 1, by omega⟩
theorem depth_at : ∀ {ds : List PyData} {k : Nat} (hk : k < ds.length), ds[k].depth ≤ PyData.depthAll ds
  | d :: ds, 0, _ => by
    simp only [PyData.depthAll, List.getElem_cons_zero]
    exact Nat.le_max_left _ _
  | d :: ds, k + 1, h => by
    simp only [PyData.depthAll, List.getElem_cons_succ]
    exact Nat.le_trans (depth_at (by simpa using h)) (Nat.le_max_right _ _)
/-- a tuple is no longer than its weight -/
theorem vals_len {D : Nat} : ∀ {W : Nat} {ds : List PyData}, Vals' D W ds → ds.length ≤ W
  | W, [], _ => Nat.zero_le _
  | W, d :: ds, h => by
    obtain ⟨_, h2, h3⟩ := vals_uncons h
    have := vals_len h2
    rw [List.length_cons]
    omega
theorem val_str {D W : Nat} {x : Str} (h : (PyData.str x).leavesShort 40 = true) (hw : x.cps.size ≤ W) : Val D W (.str x) := ⟨by simp only [PyData.showable], h, by simp only [PyData.depth]; omega, by simp only [PyData.weight]; exact hw⟩
theorem val_dict1 {D W V : Nat} {k x : PyData} (hk : Val D V k) (h : Val D W x) : Val (D + 1) (V + W + 2) (.dict [(k, x)]) :=
  ⟨by simp only [PyData.showable, PyData.showableKv, hk.sh, h.sh, Bool.and_self], by simp only [PyData.leavesShort, PyData.leavesShortKv, hk.lv, h.lv, Bool.and_self], by
    have h1 := hk.dp
    have h2 := h.dp
    simp only [PyData.depth, PyData.depthKv]
    omega, by
    have h1 := hk.wt
    have h2 := h.wt
    simp only [PyData.weight, PyData.weightKv]
    omega⟩
end DL
namespace DL
open PySem PySem.Spec PyProof.Rows L2 GG DD PT
def AllV (D W : Nat) (ds : List PyData) : Prop := ∀ d, d ∈ ds → Val D W d
theorem av_nil {D W : Nat} : AllV D W [] := fun d h => absurd h List.not_mem_nil
theorem av_cons {D W : Nat} {d : PyData} {ds : List PyData} (h : Val D W d) (t : AllV D W ds) : AllV D W (d :: ds) := fun x hx => by
  rcases List.mem_cons.mp hx with rfl | hx
  · exact h
  · exact t x hx
theorem av_app {D W : Nat} {ds es : List PyData} (h : AllV D W ds) (t : AllV D W es) : AllV D W (ds ++ es) := fun x hx => (List.mem_append.mp hx).elim (h x) (t x)
theorem vN : Val 0 0 .none := val_none
theorem vB (b : Bool) : Val 0 0 (.bool b) := val_bool b
theorem vI0 : Val 0 0 (.int 0) := ⟨by decide, by decide, by decide, by decide⟩
theorem vT0 : Val 1 0 (.tuple []) := val_tup vals_nil
theorem vL0 : Val 1 0 (.list []) := val_lst vals_nil
theorem vD0 : Val 1 0 (.dict []) := ⟨by simp only [PyData.showable, PyData.showableKv], by simp only [PyData.leavesShort, PyData.leavesShortKv], by simp only [PyData.depth, PyData.depthKv]; omega, by simp only [PyData.weight, PyData.weightKv]; omega⟩
theorem vT1 {D A : Nat} {a : PyData} (h : Val D A a) : Val (D + 1) (A + 1) (.tuple [a]) := val_tup (vals_cons (W := 0) h vals_nil)
theorem vL1 {D A : Nat} {a : PyData} (h : Val D A a) : Val (D + 1) (A + 1) (.list [a]) := val_lst (vals_cons (W := 0) h vals_nil)
theorem vals2 {D A D' B : Nat} {a b : PyData} (h : Val D A a) (k : Val D' B b) : Vals' (max D D') (A + B + 2) [a, b] :=
  vals_mono (vals_cons (h.mono (Nat.le_max_left _ _) (Nat.le_refl _)) (vals_cons (W := 0) (k.mono (Nat.le_max_right _ _) (Nat.le_refl _)) vals_nil)) (Nat.le_refl _) (by omega)
theorem vT2 {D A D' B : Nat} {a b : PyData} (h : Val D A a) (k : Val D' B b) : Val (max D D' + 1) (A + B + 2) (.tuple [a, b]) := val_tup (vals2 h k)
theorem vL2 {D A D' B : Nat} {a b : PyData} (h : Val D A a) (k : Val D' B b) : Val (max D D' + 1) (A + B + 2) (.list [a, b]) := val_lst (vals2 h k)
theorem vals_rep {D A k m : Nat} {a : PyData} (hk : k ≤ m) (h : Val D A a) : Vals' D (m * (A + 1)) (List.replicate k a) := by
  have z := vals_all (D := D) (V := A) (ds := List.replicate k a) fun d hd => by
    rw [List.eq_of_mem_replicate hd]
    exact h
  rw [List.length_replicate] at z
  exact vals_mono z (Nat.le_refl _) (Nat.mul_le_mul_right _ hk)
theorem vTn {D A k m : Nat} {a : PyData} (hk : k ≤ m) (h : Val D A a) : Val (D + 1) (m * (A + 1)) (.tuple (List.replicate k a)) := val_tup (vals_rep hk h)
theorem vLn {D A k m : Nat} {a : PyData} (hk : k ≤ m) (h : Val D A a) : Val (D + 1) (m * (A + 1)) (.list (List.replicate k a)) := val_lst (vals_rep hk h)
end DL
namespace DL
open PySem PySem.Spec PyProof.Rows L2 GG DD PT
/-- each item gives something that keeps R, with at most k draws each -/
theorem lc_each {g : DG} {t : DT} {e : DE} {base : List DV} {P : List PyData → Nat → Prop} {n : Nat} {items : List PyData} (R : PyData → Prop) (k : Nat)
    (step : ∀ d, d ∈ items → ∀ m, m + k ≤ n + k * items.length → ∀ (Y : PyData → Nat → Prop) (Z : Nat → Prop), (∀ y m', R y → m' ≤ m + k → Y y m') →
      g d (fun s1 => t s1 fun b s2 => if b = true then e s2 fun y s3 => s3.sl = s1.sl ∧ Y y s3.n else s2.sl = s1.sl ∧ Z s2.n) ⟨base, m⟩)
    (fin : ∀ ys m, ys.length = items.length → (∀ y, y ∈ ys → R y) → m ≤ n + k * items.length → P ys m) : dLc g t e base items [] n P := by
  refine lc_rem (fun ds acc m => (∀ d, d ∈ ds → d ∈ items) ∧ acc.length + ds.length = items.length ∧ (∀ y, y ∈ acc → R y) ∧ m + k * ds.length ≤ n + k * items.length) (fun d ds acc m h Y Z hY hZ => ?_) (fun acc m h => ?_) items [] n ⟨fun _ h => h, by simp, (fun y h => by cases h), Nat.le_refl _⟩
  · obtain ⟨h1, h2, h3, h5⟩ := h
    rw [List.length_cons, Nat.mul_add, Nat.mul_one] at h5
    rw [List.length_cons] at h2
    refine step d (h1 d List.mem_cons_self) m (by omega) Y Z fun y m' hR a2 => hY _ _ ⟨fun x hx => h1 x (List.mem_cons_of_mem _ hx), ?_, fun z hz => ?_, by omega⟩
    · rw [List.length_append, List.length_singleton]
      omega
    · rcases List.mem_append.mp hz with hz | hz
      · exact h3 z hz
      · rw [List.mem_singleton.mp hz]
        exact hR
  · obtain ⟨_, h2, h3, h5⟩ := h
    exact fin acc m (by simpa using h2) h3 (by simpa using h5)
end DL

set_option Elab.async false
set_option linter.all false
set_option maxRecDepth 100000
set_option maxHeartbeats 4000000
/-! TK: dicts with tuple keys read by any tuple; setdefault there; two readings of one expression. -/
namespace TK
open PySem PySem.Spec PyProof.Rows L2
section
variable {X : Cx} {e : Expr}
def tOr2 (t u : TE) : TE := fun σ H Q => t σ H Q ∨ u σ H Q
theorem pe_or2 {t u : TE} (h : PE X e t) (h' : PE X e u) : PE X e (tOr2 t u) := ⟨fun pins s σ H Q I q => q.elim (h.run pins s σ H Q I) (h'.run pins s σ H Q I)⟩
def iOr2 (t u : TI) : TI := fun σ H R => t σ H R ∨ u σ H R
theorem pi_or2 {tg : Expr} {t u : TI} (h : PI X tg e t) (h' : PI X tg e u) : PI X tg e (iOr2 t u) := ⟨fun pins s σ H Q I q => q.elim (h.run pins s σ H Q I) (h'.run pins s σ H Q I)⟩
end
section
variable {X : Cx} {pins : List (Addr × Obj)} {σ : L2.St} {H : Hp} {s : Shared} {a b : Addr} {v : V} {u r : Value} {A : Around} {E : Value → Shared → Prop} {kvs : List (List Key × V)} {k : List Key}
theorem key_ofQ (I : Inv X pins σ H s) (e : SqT X.K H b (k.map kV)) : (tupleKind (mixKind X.prog X.w)).is s.heap k b := by
  obtain ⟨its, rv, ⟨o, ho, hc, n, hd⟩, _⟩ := I.tuple e
  exact ⟨o, its.toArray, n, ho, hc, hd, by simpa using items_are rv⟩
/-- d[t], there, t any tuple -/
theorem dt_getItem {Q : Value → Shared → Prop} (hu : A.units + 1 < cLine) (I : Inv X pins σ H s) (e : Rd H a (.dT kvs)) (eb : SqT X.K H b (k.map kV)) (l : valV kvs k = some v) (h : ∀ w' s', Inv X pins σ H s' → RelV v w' → Q w' s') :
    wpAny (model X.prog X.w) A (getItem (.ref a) (.ref b)) Q E s := by
  obtain ⟨z, hd, xs, rel, dd⟩ := dt_rd I.hok e
  obtain ⟨w', hw, rw'⟩ := RelO.some_of (v := v) (o := (atKey xs k).map (·.2)) (by rw [← l]; exact rel.val k)
  obtain ⟨p, hp, hp2⟩ := Option.map_eq_some_iff.mp hw
  refine wpAny_getItem_heap (tupleKind_room_in1 hu) (key_ofQ I eb) dd hp ?_
  rw [hp2]
  exact h w' _ (I.tok _) rw'
/-- d[t] = v: t a tuple that may be kept, or a key that is there -/
theorem dt_setItem {Q : Unit → Shared → Prop} (hu : A.units + 1 < cLine) (I : Inv X pins σ H s) (e : H a = some (.dT kvs)) (eb : H b = some (.tup (k.map kV)) ∨ (SqT X.K H b (k.map kV) ∧ (valV kvs k).isSome = true)) (hl : kvs.length < sizeLine) (rv : RelV v r) (h : ∀ s', Inv X pins σ (upd H a (.dT (putK kvs k v))) s' → Q () s') :
    wpAny (model X.prog X.w) A (setItem (.ref a) (.ref b) r) Q E s := by
  obtain ⟨z, hd, xs, rel, dd⟩ := dt_of I.hok e
  have hz : xs.length ≤ sizeLine := by rw [← Paired.length rel]; exact z
  have hl2 : (putK kvs k v).length ≤ sizeLine := by have := length_putK kvs k v; omega
  have hk : (tupleKind (mixKind X.prog X.w)).is s.heap k b := eb.elim (fun q => key_of I.hok q) fun q => key_ofQ I q.1
  have hput : KT H (putK kvs k v) (storedH xs k b r) := by
    rcases eb with q | ⟨_, q⟩
    · exact rel.put k q rv
    · have e1 : (kvs.any fun kv => decide (kv.1 = k)) = true := by rw [valV_any]; exact q
      have e2 : (atKey xs k).isSome = true := by
        have := (rel.val k).isSome_eq
        rw [Option.isSome_map] at this
        rw [← this]
        exact q
      unfold putK storedH
      rw [if_pos e1, if_pos e2]
      exact rel.repl k rv
  refine wpAny_setItem_heap (hsz := hz) (tupleKind_room_in1 hu) hk dd fun h' dd' hs => h _ ?_
  obtain ⟨q, es, ep, hq, h2, h3, h4, _, h5⟩ := dd'
  refine d_write I (by rw [e]; exact True.intro) hs ⟨q, hq⟩ ⟨hl2, hd, _, hput.keeps fun c ys ec => ?_, q, es, ep, hq, h2, h3, h4, h5⟩
  rw [upd_ne (ne_of ec e (fun z => nomatch z))]
  exact ec
/-- d.setdefault(t, x) -/
theorem dt_setd {d : V} {Q : Value → Shared → Prop} (hu : A.units + 1 < cLine) (I : Inv X pins σ H s) (e : H a = some (.dT kvs)) (eb : H b = some (.tup (k.map kV))) (rd : RelV d r) (hl : kvs.length < sizeLine)
    (h1 : ∀ v, valV kvs k = some v → ∀ (w' : Value) (s' : Shared), Inv X pins σ H s' → RelV v w' → Q w' s') (h2 : valV kvs k = none → ∀ (w' : Value) (s' : Shared), Inv X pins σ (upd H a (.dT (putK kvs k d))) s' → RelV d w' → Q w' s') :
    wpAny (model X.prog X.w) A (call (.builtin "dict.setdefault") [.ref a, .ref b, r]) Q E s := by
  obtain ⟨z, hd, xs, rel, dd⟩ := dt_of I.hok e
  have hz : xs.length ≤ sizeLine := by rw [← Paired.length rel]; exact z
  have hl2 : (putK kvs k d).length ≤ sizeLine := by have := length_putK kvs k d; omega
  refine call_setdefault_heap (hsz := hz) (tupleKind_room_in1 hu) (key_of I.hok eb) hd dd (fun p hp => ?_) fun hn h' dd' hs => ?_
  · have q := rel.val k
    rw [hp] at q
    cases q0 : valV kvs k with
    | none =>
      rw [q0] at q
      exact (show False from q).elim
    | some v0 =>
      rw [q0] at q
      exact h1 v0 q0 _ _ (I.tok _) q
  · have q := rel.val k
    rw [hn] at q
    cases q0 : valV kvs k with
    | some v0 =>
      rw [q0] at q
      exact (show False from q).elim
    | none =>
      refine h2 q0 _ _ ?_ rd
      obtain ⟨q, es, ep, hq, h2, h3, h4, _, h5⟩ := dd'
      refine d_write I (by rw [e]; exact True.intro) hs ⟨q, hq⟩ ⟨hl2, hd, _, (rel.put k eb rd).keeps fun c ys ec => ?_, q, es, ep, hq, h2, h3, h4, h5⟩
      rw [upd_ne (ne_of ec e (fun z => nomatch z))]
      exact ec
end
/-! ### readings -/
/-- d[t] -/
def tDGetT (K : PySem.W.Frag) (td ty : TE) : TE := fun σ H Q => td σ H fun x H1 => ty σ H1 fun y H2 => ∃ a b kvs k v, x = .ref a ∧ y = .ref b ∧ Rd H2 a (.dT kvs) ∧ SqT K H2 b (k.map kV) ∧ valV kvs k = some v ∧ Q v H2
/-- d[t] = v -/
def sDPutT (K : PySem.W.Frag) (td ty tv : TE) : TS := fun D σ H => tv σ H fun v H1 => td σ H1 fun x H2 => ty σ H2 fun y H3 => ∃ a b kvs k, x = .ref a ∧ y = .ref b ∧ H3 a = some (.dT kvs) ∧ (H3 b = some (.tup (k.map kV)) ∨ (SqT K H3 b (k.map kV) ∧ (valV kvs k).isSome = true)) ∧ kvs.length < sizeLine ∧ D.nx σ (upd H3 a (.dT (putK kvs k v)))
/-- d.setdefault(t, z) -/
def tDSetdT (td ty tx : TE) : TE := fun σ H Q => td σ H fun x H1 => ∃ a, x = .ref a ∧ IsD H1 a ∧ ty σ H1 fun y H2 => tx σ H2 fun z H3 => ∃ (kvs : List (List Key × V)) (k : List Key) (b : Addr), H3 a = some (.dT kvs) ∧ y = .ref b ∧ H3 b = some (.tup (k.map kV)) ∧ kvs.length < sizeLine ∧
  (∀ v, valV kvs k = some v → Q v H3) ∧ (valV kvs k = none → Q z (upd H3 a (.dT (putK kvs k z))))
section
variable {X : Cx} {o i e f value : Expr} {pos pos' apos cpos : Pos} {td ty tv tx : TE}
theorem pe_dgetT (hu : X.A.units + 1 < cLine) (ho : PE X o td) (hi : PE X i ty) (hs : NoSl i) : PE X (.Subscript o i pos) (tDGetT X.K td ty) := by
  refine ⟨fun pins s σ H Q I h => ?_⟩
  refine subD_of PySem.F.slot_dict_getitem.lookup hs (thn (ho.run pins s σ H _ I h) fun u s1 ⟨x, H1, I1, rx, q1⟩ => thn (hi.run pins s1 σ H1 _ I1 q1) fun iv s2 ⟨y, H2, I2, ry, a, b, kvs, k, v, ex, ey, g, eb, l, q2⟩ => ?_)
  subst ex
  subst ey
  obtain rfl : u = Value.ref a := rx
  obtain rfl : iv = Value.ref b := ry
  obtain ⟨_, _, xs, _, dd⟩ := dt_rd I2.hok g
  exact ⟨dd.typeIs, dt_getItem hu I2 g eb l fun w' s3 I3 rw' => ⟨v, H2, I3, rw', q2⟩⟩
theorem ps_dputT (hu : X.A.units + 1 < cLine) (ho : PE X o td) (hi : PE X i ty) (hv : PE X value tv) (hs : swapsWith value (some (.Subscript o i pos')) pos.line X.env = pure false) :
    PS X (.Assign [.Subscript o i pos'] value pos) (sDPutT X.K td ty tv) := by
  refine ⟨fun pins s σ H D I h => ?_⟩
  refine wpAny_Assign_Subscript (thn (hv.run pins s σ H _ I h) fun r s1 ⟨v, H1, I1, rv, q1⟩ => thn (ho.run pins s1 σ H1 _ I1 q1) fun u s2 ⟨x, H2, I2, rx, q2⟩ => thn (hi.run pins s2 σ H2 _ I2 q2) fun iv s3 ⟨y, H3, I3, ry, a, b, kvs, k, ex, ey, g, eb, hl, q3⟩ => ?_) hs
  subst ex
  subst ey
  obtain rfl : u = Value.ref a := rx
  obtain rfl : iv = Value.ref b := ry
  exact dt_setItem hu I3 g eb hl rv fun s4 I4 => ⟨σ, _, I4, q3⟩
theorem pe_dsetdT (hu : X.A.units + 1 < cLine) (ho : PE X o td) (he : PE X e ty) (hf : PE X f tx) (m : M2 X o "setdefault" apos e f cpos) : PE X (.Call (.Attribute o "setdefault" apos) [e, f] [] cpos) (tDSetdT td ty tx) := by
  refine ⟨fun pins s σ H Q I h => ?_⟩
  refine wpAny_Call_method m.base m.few m.line PySem.F.plainAttrs_dict PySem.F.slot_dict_setdefault PySem.F.type_dict_setdefault (thn (ho.run pins s σ H _ I h) fun u s1 ⟨x, H1, I1, rx, a, ex, d, q1⟩ => ?_)
  subst ex
  obtain rfl : u = Value.ref a := rx
  obtain ⟨t1, t2, _⟩ := isD_at I1 d
  refine ⟨t1, t2, ?_⟩
  rw [m.trees]
  refine Calls.callWith_builtin rfl (Calls.evalArgs_plain (Calls.spliced_cons (thn (he.run pins s1 σ H1 _ I1 q1) fun iv s2 ⟨y, H2, I2, ry, q2⟩ =>
    Calls.spliced_cons (thn (hf.run pins s2 σ H2 _ I2 q2) fun fv s3 ⟨z, H3, I3, rz, kvs, k, b, ea, ey, eb, hl, q3, q4⟩ => Calls.spliced_nil ?_))))
  subst ey
  obtain rfl : iv = Value.ref b := ry
  exact dt_setd hu I3 ea eb rz hl (fun v hv w' s4 I4 rw' => ⟨v, _, I4, rw', q3 v hv⟩) fun hn w' s4 I4 rw' => ⟨z, _, I4, rw', q4 hn⟩
end
end TK

set_option Elab.async false
set_option linter.all false
set_option maxRecDepth 100000
set_option maxHeartbeats 4000000
/-! SD: x = {k: v for ..}. -/
namespace SD
open PySem PySem.Spec PyProof.Rows L2
section
variable {X : Cx}
theorem ps_setDc {i : Nat} {y : Str} {py : Pos} {kx vx tg iter : Expr} {ifs : List Expr} {scope : Scope} {own : List (Str × Nat)} {pos spos : Pos} {wi : TI} {g : TG} {tt : TT} {tk tv : TE} (hc : X.calm = true) (hN : X.N.Nodup) (hy : X.N[i]? = some y) (hyl : X.env.scope.names.lookup y = some .local)
    (hsw : swapsWith (.DictComp kx vx [⟨tg, iter, ifs, 0⟩] scope pos) (some (.Name y py)) spos.line X.env = pure true) (hi : PI X tg iter wi) (ok : BlkOk X.N X.env.scope scope own)
    (hg : ∀ (s : Shared) (H : Hp) (C : Addr) (cl : List (Str × Addr)) (fp : List Addr), PG (X.blk s H scope (compEnvC scope cl C X.env) fp) tg g) (ht : ∀ (s : Shared) (H : Hp) (C : Addr) (cl : List (Str × Addr)) (fp : List Addr), PTs (X.blk s H scope (compEnvC scope cl C X.env) fp) ifs tt)
    (hk : ∀ (s : Shared) (H : Hp) (C : Addr) (cl : List (Str × Addr)) (fp : List Addr), PE (X.blk s H scope (compEnvC scope cl C X.env) fp) kx tk)
    (he : ∀ (s : Shared) (H : Hp) (C : Addr) (cl : List (Str × Addr)) (fp : List Addr), PE (X.blk s H scope (compEnvC scope cl C X.env) fp) vx tv) (hs : ∀ x, foldedSetIterable iter X.env x = pure x := by intro _; rfl) :
    PS X (.Assign [.Name y py] (.DictComp kx vx [⟨tg, iter, ifs, 0⟩] scope pos) spos) (tAsg (tDc wi g tt tk tv (own.map (·.2))) (gName i)) := by
  refine ⟨fun pins s σ H D I h => ?_⟩
  rw [exec_Assign_Name_used _ _ _ _ hsw]
  refine wpAny_bind (wpAny_standAt (wpAny_bind ?_))
  show wpAny _ X.A (do let _ ← comprehension (.DictComp kx vx [⟨tg, iter, ifs, 0⟩] scope pos) scope X.env (firstIterPos [⟨tg, iter, ifs, 0⟩] pos) newDict false (eval iter X.env) (some (assign (.Name y py) X.env))) _ _ s
  have h : tDc wi g tt tk tv (own.map (·.2)) σ H (fun x H1 => gName i x σ H1 D.nx) := h
  refine wpAny_bind (thn (dc_core (Qf := fun _ s' => SP X pins D .next s') hc hN I hi ok hg ht hk he hs h fun L C s' m H' I' q hn f => ?_) fun _ s' hq => wpAny_pure (wpAny_pure hq))
  show wpAny _ _ (assign (.Name y py) X.env (.ref L)) _ _ _
  refine wpAny_assign_Name (store_ok2 (v := V.ref L) I' hN hy (.inl hyl) rfl (fun s2 I2 ⟨a, sb, ha⟩ => ?_) (.inr hyl))
  obtain ⟨f0, f1, f2, f3, f4, f5⟩ := f
  have haC : C ≠ a := by
    rcases ha with z | z
    · rw [z]; exact f1
    · exact fun e => f4 y a z e.symm
  refine ⟨m, hn.sameBut sb haC, fun h3 sb3 => ?_⟩
  exact ⟨_, H', I2.turned (t' := s2.toks) (fun b o hb e => (sb3.2 b hb).trans e) f0 f1 f3 f4 f5, q⟩
theorem sw_trueD {kx vx : Expr} {gs : List Comprehension} {scope : Scope} {pos py : Pos} {y : Str} {l : Nat} {env : Env} (hk : env.scope.kind = .function) (hy : env.scope.names.lookup y = some .local) (hl : (py.line == pos.line) = true)
    (ha : (scope.names.any fun (n, k) => n == y && (k == .local || k == .cell)) = false) : swapsWith (.DictComp kx vx gs scope pos) (some (.Name y py)) l env = pure true := by
  have ky : env.kindOf y = some .local := hy
  have hb : env.blockKind = .function := by unfold Env.blockKind; rw [hk]; rfl
  unfold swapsWith
  simp only [hb, ky, ha, Expr.pos, hl]
  rfl
end
end SD

set_option Elab.async false
set_option linter.all false
set_option maxRecDepth 100000
set_option maxHeartbeats 4000000
/-! DLp: dict comprehensions told by data. -/
namespace DL
open PySem PySem.Spec PyProof.Rows L2 GG DD PT
variable {K : KX}
theorem kv_split {H : Hp} : ∀ {es : List (L2.Key × V)} {ds : List (PyData × PyData)}, DaKv K H es ds → (es.map fun p => keyD p.1) = ds.map (·.1) ∧ DaAll K H (es.map (·.2)) (ds.map (·.2))
  | _, _, .nil => ⟨rfl, .nil⟩
  | _, _, .cons h t => by
    obtain ⟨h1, h2⟩ := kv_split t
    exact ⟨by rw [List.map_cons, List.map_cons, h1], .cons h h2⟩
theorem kv_join {H : Hp} : ∀ {es : List (L2.Key × V)} {ds : List (PyData × PyData)}, (es.map fun p => keyD p.1) = ds.map (·.1) → DaAll K H (es.map (·.2)) (ds.map (·.2)) → DaKv K H es ds
  | [], [], _, _ => .nil
  | [], _ :: _, h, _ => by cases h
  | _ :: _, [], h, _ => by cases h
  | (k, v) :: es, (x, d) :: ds, h, h2 => by
    rw [List.map_cons, List.map_cons] at h
    obtain ⟨h3, h4⟩ := List.cons.inj h
    have h3 : keyD k = x := h3
    subst h3
    cases h2 with
    | cons h5 h6 => exact .cons h5 (kv_join h4 h6)
def dDc (g : DG) (t : DT) (ek ev : DE) (base : List DV) : List PyData → List (PyData × PyData) → Nat → (List (PyData × PyData) → Nat → Prop) → Prop
  | [], acc, n, P => P acc n
  | d :: ds, acc, n, P => g d (fun s1 => t s1 fun b s2 => if b = true then ek s2 fun kd s3 => ev s3 fun y s4 => s4.sl = s1.sl ∧ ∃ k, kOf kd = some k ∧ dDc g t ek ev base ds (dputD acc k y) s4.n P else s2.sl = s1.sl ∧ dDc g t ek ev base ds acc s2.n P) ⟨base, n⟩
def dDcomp (di : DA) (g : DG) (t : DT) (ek ev : DE) (vs : List Nat) : DK := fun s P => di s fun items s1 => items.length ≤ 1000 ∧ noOwnB s1.sl vs = true ∧ dDc g t ek ev (wipeD s1.sl vs) items [] s1.n fun acc n => P acc ⟨s1.sl, n⟩
theorem putD_len (kvs : List (PyData × PyData)) (k : L2.Key) (d : PyData) : (dputD kvs k d).length ≤ kvs.length + 1 := by
  unfold dputD
  split
  · rw [List.length_map]
    omega
  · rw [List.length_append]
    exact Nat.le_refl _
theorem rd_dcomp {w : Bool} {wi : TI} {g : TG} {tt : TT} {tk te : TE} {vs : List Nat} {di : DA} {dg : DG} {dt : DT} {dk de : DE} (hi : RI w K wi di) (hg : RGv w K vs g dg) (hgw : GW vs dg) (ht : RT K tt dt) (hk : RE K tk dk) (he : RE K te de) : RD K (tDc wi g tt tk te vs) (dDcomp di dg dt dk de vs) := fun C hC s P hd σ H Q R q => by
  refine hi C hC s _ hd σ H _ R fun J H1 items s1 G' Z' hp R1 hZ' ok => ?_
  obtain ⟨hlen, no, hp⟩ := hp
  have no := noOwn_of no
  have hv := slots_hv R1
  generalize hC1 : (C.more G').more (outG σ s1.sl vs) = C1
  have cK : C1.K = C.K := by rw [← hC1]; rfl
  have cG : ∀ v d, G' v d → C1.G v d := fun v d z => by rw [← hC1]; exact .inl (.inr z)
  have cO : ∀ v d, outG σ s1.sl vs v d → C1.G v d := fun v d z => by rw [← hC1]; exact .inr z
  have R1' : Rl C1 σ H1 s1 := by rw [← hC1]; exact R1.more (out_da R1 vs)
  have cB : ∀ {H' : Hp} {s' : DSt}, Rl C1 σ H' s' → Rl C σ H' s' := fun {H' s'} z => by
    rw [← hC1] at z
    exact z.less.less
  have cW : C1.W = C.W := by rw [← hC1]; rfl
  have cS : Sof C1 σ s1.sl = Sof C σ s1.sl := by rw [← hC1]; rfl
  have cZ : ∀ a o, Z' a o → C1.Z a o := fun a o z => by rw [← hC1]; exact hZ' a o z
  clear hC1
  have idem : wipe (wipe σ vs) vs = wipe σ vs := by
    apply List.ext_getElem?
    intro j
    rw [wipe_get, wipe_get, wipe_length]
    by_cases e : j ∈ vs
    · rw [if_pos e, if_pos e]
    · rw [if_neg e, if_neg e]
  have idemD : wipeD (wipeD s1.sl vs) vs = wipeD s1.sl vs := by
    apply List.ext_getElem?
    intro j
    rw [wipeD_get, wipeD_get, wipeD_len]
    by_cases e : j ∈ vs
    · rw [if_pos e, if_pos e]
    · rw [if_neg e, if_neg e]
  intro L nL
  obtain ⟨n1, n2⟩ := R1'.new nL
  have nZ : ∀ u, ¬ C1.Z L u := fun u z => n1 (.inl (R1'.fz L u z).1)
  refine ⟨fun i m H' => i + m = items.length ∧ ∃ es ds n', H' L = some (.dK es) ∧ ds.length ≤ i ∧ Rl (C1.hide L) (wipe σ vs) H' ⟨wipeD s1.sl vs, n'⟩ ∧ DaKv C.K (Hd (Sof (C1.hide L) (wipe σ vs) (wipeD s1.sl vs)) H') es ds ∧ dDc dg dt dk de (wipeD s1.sl vs) (items.drop i) ds n' fun acc n => P acc ⟨s1.sl, n⟩,
    ⟨items.length, Nat.zero_add _, [], [], s1.n, upd_same, Nat.zero_le _, ((R1'.wiped vs).1).hidden nL, .nil, hp⟩, fun i m H' ⟨em, es, ds, n', e1, hdl, R2, hda, h⟩ => ?_⟩
  by_cases hm : m = 0
  · subst hm
    have e' : i = items.length := by omega
    subst e'
    rw [List.drop_length] at h
    refine .inl ⟨(ok (C1.hide L) cK (fun v d z => cG v d z) cZ (wipe σ vs) H' ⟨_, n'⟩ R2).1, ?_⟩
    obtain ⟨R3, hs3⟩ := R2.leave (fun z => n1 (.inl z)) (fun z => n1 (.inr (.inl z))) n2 fun a u z => (R1'.fz a u z).1
    obtain ⟨R4, hs4⟩ := R3.unwiped R1.len no cO (cW ▸ hv)
    have hq := q L es (del H' L) ds ⟨s1.sl, n'⟩ h (cB R4) (if_pos rfl) (by
      have z := (hda.of hs3).of hs4
      rw [cS] at z
      exact z)
    rw [del_upd e1] at hq
    exact hq
  · have hlt : i < items.length := by omega
    obtain ⟨d, hd⟩ : ∃ d, items[i]? = some d := ⟨_, List.getElem?_eq_getElem hlt⟩
    obtain ⟨k1, k2⟩ := (ok (C1.hide L) cK cG cZ (wipe σ vs) H' ⟨_, n'⟩ R2).2 i d hd
    refine .inr ⟨k1, fun H2 => ∃ es ds n', H2 L = some (.dK es) ∧ ds.length ≤ i + 1 ∧ Rl (C1.hide L) (wipe σ vs) H2 ⟨wipeD s1.sl vs, n'⟩ ∧ DaKv C.K (Hd (Sof (C1.hide L) (wipe σ vs) (wipeD s1.sl vs)) H2) es ds ∧ dDc dg dt dk de (wipeD s1.sl vs) (items.drop (i + 1)) ds n' fun acc n => P acc ⟨s1.sl, n⟩, fun H2 k => ⟨m - 1, by omega, by omega, k⟩, fun x H2 hy => ?_⟩
    obtain ⟨R3, s23, hx⟩ := k2 x H2 hy
    have e : items.drop i = d :: items.drop (i + 1) := by
      rw [List.drop_eq_getElem_cons hlt]
      rw [List.getElem?_eq_getElem hlt] at hd
      rw [Option.some.inj hd]
    rw [e] at h
    have h' := hgw.w d _ _ h
    obtain ⟨hkeys, hvals⟩ := kv_split (hda.of (hdS s23))
    generalize hC2 : ((C1.hide L).pin L (.dK es)).more (pairG (es.map (·.2)) (ds.map (·.2))) = C2
    have cK2 : C2.K = K := by rw [← hC2]; exact cK.trans hC
    have R3k : Rl C2 (wipe σ vs) H2 ⟨wipeD s1.sl vs, n'⟩ := by
      rw [← hC2]
      refine (R3.pin (.inr rfl) (fun z => n1 (.inr (.inl z))) (s23 _ _ e1)).more ?_
      have z := pair_da hvals
      rw [← cK] at z
      exact z
    have down : ∀ {H4 : Hp} {δ : List DV} {m : Nat}, Rl C2 (wipe σ vs) H4 ⟨δ, m⟩ → Rl (C1.hide L) (wipe σ vs) H4 ⟨δ, m⟩ ∧ H4 L = some (.dK es) ∧ DaKv C.K (Hd (Sof (C1.hide L) (wipe σ vs) δ) H4) es ds := fun {H4 δ m} z => by
      rw [← hC2] at z
      refine ⟨z.less.unpin.1, z.less.unpin.2, kv_join hkeys ?_⟩
      have z2 := da_pair hvals.len fun x y w => z.gh x y (.inr w)
      have z3 : DaAll C1.K (Hd (Sof (C1.hide L) (wipe σ vs) δ) H4) (es.map (·.2)) (ds.map (·.2)) := z2
      rw [cK] at z3
      exact z3
    have cS2 : ∀ (τ : L2.St) (δ : List DV), Sof C2 τ δ = Sof (C1.hide L) τ δ := fun τ δ => by rw [← hC2]; rfl
    have cx2 : Sof C2 (wipe σ vs) (wipeD s1.sl vs) = Sof (C1.hide L) (wipe σ vs) (wipeD s1.sl vs) := cS2 _ _
    have cKx : C2.K = C.K := cK2.trans hC.symm
    have hx2 : DaF w C2.K (Sof C2 (wipe σ vs) (wipeD s1.sl vs)) H2 x d := by
      rw [cx2, cKx, ← cK]
      exact hx
    clear hC2
    refine hg C2 cK2 d _ ⟨_, n'⟩ h' (wipe σ vs) H2 x _ R3k hx2 fun σ2 s2 hn R4 hw => ?_
    obtain ⟨hn, hwD⟩ := hn
    have hwD : wipeD s2.sl vs = wipeD s1.sl vs := hwD.trans idemD
    have hww : wipe σ2 vs = wipe σ vs := hw.trans idem
    refine ⟨hww, ?_⟩
    have back : ∀ {H4 : Hp} {s4 : DSt}, Rl C2 σ2 H4 s4 → s4.sl = s2.sl → Rl C2 (wipe σ vs) H4 ⟨wipeD s1.sl vs, s4.n⟩ ∧ Same (Hd (Sof C2 σ2 s4.sl) H4) (Hd (Sof C2 (wipe σ vs) (wipeD s1.sl vs)) H4) := fun {H4 s4} R5 e5 => by
      have w := R5.wiped vs
      rw [hww, e5, hwD] at w
      rw [e5]
      exact w
    refine ht C2 cK2 s2 _ hn σ2 H2 _ R4 fun b H3 s3 hb R5 => ?_
    cases b with
    | false =>
      refine pF (by decide) ?_
      have hb' : s3.sl = s2.sl ∧ dDc dg dt dk de (wipeD s1.sl vs) (items.drop (i + 1)) ds s3.n fun acc n => P acc ⟨s1.sl, n⟩ := by simpa using hb
      obtain ⟨R6, hs6⟩ := back R5 hb'.1
      obtain ⟨R7, eL, hacc⟩ := down R6
      exact ⟨es, ds, s3.n, eL, by omega, R7, hacc, hb'.2⟩
    | true =>
      refine pT rfl ?_
      have hb' := hb
      rw [if_pos rfl] at hb'
      refine hk C2 cK2 s3 _ hb' σ2 H3 _ R5 fun yk H4 kd s4 hk4 R6 hkd => ?_
      refine he C2 cK2 s4 _ hk4 σ2 H4 _ R6 fun z H5 dz s5 hz5 R7 hzd => ?_
      obtain ⟨hsl, k, ek, hrest⟩ := hz5
      have evk := key_v hkd ek
      subst evk
      obtain ⟨R8, hs8⟩ := back R7 hsl
      obtain ⟨R9, eL, hacc⟩ := down R8
      have hL : Sof (C1.hide L) (wipe σ vs) (wipeD s1.sl vs) L := sof_hide.mpr (.inr rfl)
      have hzd2 := hzd.of hs8
      rw [cx2, cKx] at hzd2
      have hel : es.length = ds.length := hacc.len
      refine ⟨es, k, rfl, eL, by have := sz6; omega, putK es k z, dputD ds k dz, s5.n, upd_same, by have := putD_len ds k dz; omega, R9.hmut (fun z => n1 (.inr (.inl z))) n2 nZ, (put_da hacc hzd2).of (hd_upd hL), hrest⟩
end DL

set_option Elab.async false
set_option linter.all false
set_option maxRecDepth 100000
set_option maxHeartbeats 4000000
/-! DLq: two readings of one expression; lists of dicts, their length; starred items; split; int of a truth; dicts with tuple keys. -/
namespace DL
open PySem PySem.Spec PyProof.Rows L2 GG DD PT TK StX
variable {K : KX}
def dOr2 (d e : DE) : DE := fun s P => d s P ∨ e s P
theorem re_or2 {t u : TE} {d e : DE} (h1 : RE K t d) (h2 : RE K u e) : RE K (tOr2 t u) (dOr2 d e) := fun C hC s P hd σ H Q R q =>
  hd.elim (fun h => .inl (h1 C hC s P h σ H Q R q)) fun h => .inr (h2 C hC s P h σ H Q R q)
def dOr2A (d e : DA) : DA := fun s P => d s P ∨ e s P
theorem ri_or2 {w : Bool} {t u : TI} {d e : DA} (h1 : RI w K t d) (h2 : RI w K u e) : RI w K (iOr2 t u) (dOr2A d e) := fun C hC s P hd σ H Q R q =>
  hd.elim (fun h => .inl (h1 C hC s P h σ H Q R q)) fun h => .inr (h2 C hC s P h σ H Q R q)
/-- list(x), x a list or a tuple -/
def dListQ (de : DE) : DA := fun s P => de s fun d s1 => match d with
  | .list ds => P ds s1
  | .tuple ds => P ds s1
  | _ => False
theorem rf_listQ {te : TE} {de : DE} (h : RE K te de) : RF K (tCB (rLo K) (tCons te tNil)) (dListQ de) := fun C hC s P hd σ H Q R q =>
  rd_cb (rd_cons (h C hC s _ hd σ H _ R fun v H1 d s1 hp R1 hv => by
    cases d with
    | list ds =>
      obtain ⟨a, vs, rfl, k1, k2⟩ := da_list hv
      exact rd_nil ⟨a, vs, rfl, .inl (sq k1), fun p np => q p _ H1 _ s1 hp R1 np k2⟩
    | tuple ds =>
      obtain ⟨a, vs, rfl, k1, k2⟩ := da_tup hv
      exact rd_nil ⟨a, vs, rfl, .inr (hC ▸ k1), fun p np => q p _ H1 _ s1 hp R1 np k2⟩
    | _ => exact hp.elim))
/-! ### dicts: their keys, their length -/
def rKeysL : List V → Hp → VK → Prop := fun xs H Q => ∃ (a : Addr) (kvs : List (L2.Key × V)), xs = [.ref a] ∧ Rd H a (.dK kvs) ∧ ∀ p, H p = none → Q (.ref p) (upd H p (.lst (kvs.map fun kv => kV kv.1)))
theorem keys_of {H : Hp} : ∀ {es : List (L2.Key × V)} {ds : List (PyData × PyData)}, DaKv K H es ds → ∀ H', DaAll K H' (es.map fun kv => kV kv.1) (ds.map (·.1))
  | _, _, .nil, _ => .nil
  | _, _, .cons (k := k) h t, H' => .cons (by cases k with
    | inl i => exact .int i
    | inr x => exact .str x) (keys_of t H')
def dListDict (i : Nat) : DA := fun s P => hasV s.sl[i]? ∧ dDictVar i s fun kvs s1 => P (kvs.map (·.1)) s1
theorem rf_listDict {i : Nat} : RF K (tCB rKeysL (tCons (tVar i) tNil)) (dListDict i) := fun C hC s P hd σ H Q R q => by
  obtain ⟨v0, e0⟩ := has_at R hd.1
  obtain ⟨a, es, kvs, h1, hp, h2, h3⟩ := dict_at R hd.2
  exact rd_cb (rd_cons (rd_var h1 (rd_nil ⟨a, es, rfl, .inl h2, fun p np => q p _ H _ s hp R np (keys_of h3 _)⟩)))
def rLenDK : List V → Hp → VK → Prop := fun xs H Q => ∃ (a : Addr) (kvs : List (L2.Key × V)), xs = [V.ref a] ∧ H a = some (.dK kvs) ∧ Q (.int kvs.length) H
def dLenDict (i : Nat) : DE := fun s P => hasV s.sl[i]? ∧ dDictVar i s fun kvs s1 => P (.int kvs.length) s1
theorem re_lenDict {i : Nat} : RE K (tCB rLenDK (tCons (tVar i) tNil)) (dLenDict i) := fun C hC s P hd σ H Q R q => by
  obtain ⟨a, es, kvs, h1, hp, h2, h3⟩ := dict_at R hd.2
  refine rd_cb (rd_cons (rd_var h1 (rd_nil ⟨a, es, rfl, h2, ?_⟩)))
  rw [h3.len]
  exact q _ H _ s hp R (.int _)
/-! ### starred items -/
def dStar (dl da : DA) : DA := fun s P => dl s fun xs s1 => da s1 fun ys s2 => P (xs ++ ys) s2
theorem ra_starL {te : TE} {ta : TA} {dl da : DA} (h : RL K te dl) (h2 : RA K ta da) : RA K (tStar K te ta) (dStar dl da) := fun C hC s P hd σ H Q R q =>
  h C hC s _ hd σ H _ R fun a vs H1 ds s1 hp R1 e hv => ⟨a, vs, rfl, .inr (sq e), h2 (C.more (pairG vs ds)) hC s1 _ hp σ H1 _ (R1.more (pair_da hv)) fun us H2 es s2 hp2 R2 hu => q _ H2 _ s2 hp2 R2.less ((da_pair hv.len fun x y z => R2.gh x y (.inr z)).append hu)⟩
/-! ### texts -/
def dSplit (de df : DE) : DA := fun s P => de s fun d s1 => match d with
  | .str a => df s1 fun e s2 => match e with
    | .str b => (b.length == 0) = false ∧ a.length ≤ 1000000 ∧ P ((Txt.split a b).map .str) s2
    | _ => False
  | _ => False
def rSplitS : V → List V → Hp → VK → Prop := fun x xs H Q => ∃ a b, x = .str a ∧ xs = [.str b] ∧ (b.length == 0) = false ∧ a.length + 2 ≤ sizeLine ∧ rNewStrs (Txt.split a b) H Q
theorem rf_split {te tf : TE} {de df : DE} (h1 : RE K te de) (h2 : RE K tf df) : RF K (tM1 rSplitS te tf) (dSplit de df) := fun C hC s P hd σ H Q R q =>
  h1 C hC s _ hd σ H _ R fun v H1 d s1 hd1 R1 hv => by
    cases d with
    | str a =>
      cases hv
      refine ⟨⟨a, rfl⟩, h2 C hC s1 _ hd1 σ H1 _ R1 fun w H2 e s2 hp R2 hw => ?_⟩
      cases e with
      | str b =>
        cases hw
        exact ⟨a, b, rfl, rfl, hp.1, Nat.le_trans (Nat.add_le_add_right hp.2.1 2) (by decide), fun p np => q p _ H2 _ s2 hp.2.2 R2 np (da_strs _)⟩
      | _ => exact hp.elim
    | _ => exact hd1.elim
/-! ### int(b) -/
def rIntB : List V → Hp → VK → Prop := fun xs H Q => (∃ i, xs = [.int i] ∧ Q (.int i) H) ∨ ∃ k, xs = [.bl k] ∧ Q (.int (if k then 1 else 0)) H
def dIntB (de : DE) : DE := fun s P => de s fun d s1 => match d with
  | .int i => P (.int i) s1
  | .bool b => P (.int (if b then 1 else 0)) s1
  | _ => False
theorem re_intB {te : TE} {de : DE} (h : RE K te de) : RE K (tCB rIntB (tCons te tNil)) (dIntB de) := fun C hC s P hd σ H Q R q =>
  rd_cb (rd_cons (h C hC s _ hd σ H _ R fun v H1 d s1 hp R1 hv => by
    cases d with
    | int i =>
      cases hv
      exact rd_nil (.inl ⟨i, rfl, q _ H1 _ s1 hp R1 (.int _)⟩)
    | bool b =>
      cases hv
      exact rd_nil (.inr ⟨b, rfl, q _ H1 _ s1 hp R1 (.int _)⟩)
    | _ => exact hp.elim))
/-- xs + ys, xs a list in a slot -/
def dCatVar (i : Nat) (db : DE) : DA := fun s P => (match s.sl[i]? with
  | some (.dat _) => True
  | some (.own _) => True
  | _ => False) ∧ db s fun e s1 => match e with
  | .list b => dListVar i s1 fun a s2 => a.length + b.length ≤ 1000000 ∧ P (a ++ b) s2
  | _ => False
theorem rf_catVar {i : Nat} {tb : TE} {db : DE} (h : RE K tb db) : RF K (tOp rCat (tVar i) tb) (dCatVar i db) := fun C hC s P hd σ H Q R q => by
  have hsl : ∃ v, σ[i]? = some (some v) := by
    have h0 := hd.1
    split at h0
    · rename_i e
      obtain ⟨sl, h1, v, rfl, h3⟩ := R.slots i _ e
      exact ⟨v, h1⟩
    · rename_i e
      obtain ⟨sl, h1, a, vs, rfl, h3⟩ := R.slots i _ e
      exact ⟨_, h1⟩
    · exact h0.elim
  obtain ⟨v, e⟩ := hsl
  exact rd_op (rd_var e (h C hC s _ hd.2 σ H _ R fun w H1 d s1 hp R1 hw => by
    cases d with
    | list es =>
      obtain ⟨b, us, rfl, k3, k4⟩ := da_list hw
      obtain ⟨a, vs, ds, e1, ⟨hl, hp⟩, e3, e4⟩ := list_at R1 hp
      rw [e] at e1
      cases e1
      exact ⟨a, b, vs, us, rfl, rfl, e3, k3, by rw [e4.len, k4.len]; exact Nat.le_trans hl sz6, fun p np => q p _ H1 _ s1 hp R1 np (e4.append k4)⟩
    | _ => exact hp.elim))
end DL

set_option Elab.async false
set_option linter.all false
set_option maxRecDepth 100000
set_option maxHeartbeats 4000000
/-! DLs: dicts with tuple keys told by data; such a dict walked. -/
namespace DL
open PySem PySem.Spec PyProof.Rows L2 GG DD PT TK
variable {K : KX}
def kTs : List PyData → Option (List L2.Key)
  | [] => some []
  | d :: r => match kOf d, kTs r with
    | some k, some ks => some (k :: ks)
    | _, _ => none
def kT : PyData → Option (List L2.Key)
  | .tuple ds => kTs ds
  | _ => none
theorem kTs_map : ∀ k : List L2.Key, kTs (k.map keyD) = some k
  | [] => rfl
  | x :: k => by
    rw [List.map_cons]
    unfold kTs
    rw [kOf_keyD, kTs_map k]
theorem kT_map (k : List L2.Key) : kT (.tuple (k.map keyD)) = some k := kTs_map k
theorem keyT_v {H : Hp} : ∀ {vs : List V} {ds : List PyData} {k : List L2.Key}, DaAll K H vs ds → kTs ds = some k → vs = k.map kV
  | _, _, _, .nil, e => by cases e; rfl
  | _, _, k, .cons (d := d) (ds := ds) h t, e => by
    unfold kTs at e
    cases e1 : kOf d with
    | none => rw [e1] at e; cases e
    | some x =>
      cases e2 : kTs ds with
      | none => rw [e1, e2] at e; cases e
      | some xs =>
        rw [e1, e2] at e
        cases e
        rw [List.map_cons, key_v h e1, keyT_v t e2]
def dgetT : List (PyData × PyData) → List L2.Key → Option PyData
  | [], _ => none
  | p :: r, k => if kT p.1 = some k then some p.2 else dgetT r k
def dputT (kvs : List (PyData × PyData)) (k : List L2.Key) (d : PyData) : List (PyData × PyData) :=
  if (dgetT kvs k).isSome = true then kvs.map (fun p => if kT p.1 = some k then (p.1, d) else p) else kvs ++ [(.tuple (k.map keyD), d)]
theorem getT_da {H : Hp} (k : List L2.Key) : ∀ {es : List (List L2.Key × V)} {kvs : List (PyData × PyData)}, DaKt K H es kvs → (valV es k = none ∧ dgetT kvs k = none) ∨ ∃ v d, valV es k = some v ∧ dgetT kvs k = some d ∧ Da K H v d
  | _, _, .nil => .inl ⟨rfl, rfl⟩
  | _, _, .cons (k := k') (v := v) (r := r) (d := d) (ds := ds) h t => by
    by_cases e : k' = k
    · refine .inr ⟨v, d, valV_pos (p := (k', v)) e, ?_, h⟩
      unfold dgetT
      rw [kT_map, e, if_pos rfl]
    · have e2 : ¬ kT (.tuple (k'.map keyD)) = some k := fun z => e (by rw [kT_map] at z; exact Option.some.inj z)
      have e3 : dgetT ((.tuple (k'.map keyD), d) :: ds) k = dgetT ds k := by
        show (if kT (.tuple (k'.map keyD)) = some k then some d else dgetT ds k) = _
        rw [if_neg e2]
      rw [valV_neg (p := (k', v)) e, e3]
      exact getT_da k t
theorem putT_map {H : Hp} (k : List L2.Key) {v : V} {d : PyData} (hd : Da K H v d) : ∀ {es : List (List L2.Key × V)} {kvs : List (PyData × PyData)}, DaKt K H es kvs → DaKt K H (es.map fun kv => if kv.1 = k then (kv.1, v) else kv) (kvs.map fun p => if kT p.1 = some k then (p.1, d) else p)
  | _, _, .nil => .nil
  | _, _, .cons (k := k') (v := v') (d := d') h t => by
    rw [List.map_cons, List.map_cons]
    by_cases e : k' = k
    · have e2 : kT (.tuple (k'.map keyD)) = some k := by rw [kT_map, e]
      show DaKt K H ((if k' = k then (k', v) else (k', v')) :: _) ((if kT (.tuple (k'.map keyD)) = some k then (.tuple (k'.map keyD), d) else (.tuple (k'.map keyD), d')) :: _)
      rw [if_pos e, if_pos e2]
      exact .cons hd (putT_map k hd t)
    · have e2 : ¬ kT (.tuple (k'.map keyD)) = some k := fun z => e (by rw [kT_map] at z; exact Option.some.inj z)
      show DaKt K H ((if k' = k then (k', v) else (k', v')) :: _) ((if kT (.tuple (k'.map keyD)) = some k then (.tuple (k'.map keyD), d) else (.tuple (k'.map keyD), d')) :: _)
      rw [if_neg e, if_neg e2]
      exact .cons h (putT_map k hd t)
theorem DaKt.append {H : Hp} : ∀ {es fs : List (List L2.Key × V)} {a b : List (PyData × PyData)}, DaKt K H es a → DaKt K H fs b → DaKt K H (es ++ fs) (a ++ b)
  | _, _, _, _, .nil, h => h
  | _, _, _, _, .cons h t, k => .cons h (t.append k)
theorem DaKt.len {H : Hp} : ∀ {es : List (List L2.Key × V)} {a : List (PyData × PyData)}, DaKt K H es a → es.length = a.length
  | _, _, .nil => rfl
  | _, _, .cons _ t => by rw [List.length_cons, List.length_cons, t.len]
theorem putT_da {H : Hp} {es : List (List L2.Key × V)} {kvs : List (PyData × PyData)} {k : List L2.Key} {v : V} {d : PyData} (h : DaKt K H es kvs) (hd : Da K H v d) : DaKt K H (putK es k v) (dputT kvs k d) := by
  unfold putK dputT
  rw [valV_any]
  rcases getT_da k h with ⟨e1, e2⟩ | ⟨v', d', e1, e2, _⟩
  · rw [e1, e2, if_neg (by decide), if_neg (by decide)]
    exact h.append (.cons hd .nil)
  · rw [e1, e2, if_pos (show (some v').isSome = true from rfl), if_pos (show (some d').isSome = true from rfl)]
    exact putT_map k hd h
/-! ### such dicts in slots -/
def dTupVar (i : Nat) (s : DSt) (P : List (PyData × PyData) → DSt → Prop) : Prop := match s.sl[i]? with
  | some (.dat (.dict kvs)) => headK kvs = false ∧ P kvs s
  | some (.owt kvs) => P kvs s
  | some (.lkd _ _ kvs) => P kvs s
  | _ => False
theorem headK_dic {H : Hp} {es : List (L2.Key × V)} {kvs : List (PyData × PyData)} (h : DaKv K H es kvs) (e : headK kvs = false) : False := by
  cases h with
  | nil => cases e
  | cons h t =>
    rename_i k _ _ _ _
    cases k <;> cases e
theorem tdict_at {C : DC} {σ : L2.St} {H : Hp} {s : DSt} (R : Rl C σ H s) {i : Nat} {P : List (PyData × PyData) → DSt → Prop} (h : dTupVar i s P) : ∃ a es kvs, σ[i]? = some (some (V.ref a)) ∧ P kvs s ∧ Rd H a (.dT es) ∧ DaKt C.K (Hd (Sof C σ s.sl) H) es kvs := by
  unfold dTupVar at h
  split at h
  · rename_i kvs e
    obtain ⟨sl, h1, v, rfl, h3⟩ := R.slots i _ e
    cases h3 with
    | dic h4 h5 => exact (headK_dic h5 h.1).elim
    | dct h4 hn h5 => exact ⟨_, _, kvs, h1, h.2, .inl (hd_some h4).2, h5⟩
  · rename_i kvs e
    obtain ⟨sl, h1, a, es, rfl, h4, h5⟩ := R.slots i _ e
    exact ⟨a, es, kvs, h1, h, .inl h4, h5⟩
  · rename_i a o kvs e
    obtain ⟨sl, h1, rfl, hZ, od, es, rfl, h5⟩ := R.slots i _ e
    exact ⟨a, es, kvs, h1, h, .inr ⟨od, (R.fz _ _ hZ).2.2⟩, h5⟩
  · exact h.elim
def hasVT : Option DV → Prop
  | some (.dat _) => True
  | some (.owt _) => True
  | some (.lkd _ _ _) => True
  | _ => False
theorem hasT_at {C : DC} {σ : L2.St} {H : Hp} {s : DSt} (R : Rl C σ H s) {i : Nat} (h : hasVT s.sl[i]?) : ∃ v, σ[i]? = some (some v) := by
  cases e : s.sl[i]? with
  | none => rw [e] at h; exact h.elim
  | some dv =>
    obtain ⟨sl, h1, h2⟩ := R.slots i _ e
    cases dv with
    | dat d =>
      obtain ⟨v, rfl, _⟩ := h2
      exact ⟨v, h1⟩
    | owt d =>
      obtain ⟨a, vs, rfl, _⟩ := h2
      exact ⟨_, h1⟩
    | lkd a o d =>
      obtain ⟨rfl, _⟩ := h2
      exact ⟨_, h1⟩
    | _ => rw [e] at h; exact h.elim
/-- d[t]: d in slot i -/
def dDGetT (i : Nat) (dk : DE) : DE := fun s P => hasVT s.sl[i]? ∧ dk s fun kd s1 => match kT kd with
  | some k => dTupVar i s1 fun kvs s2 => ∃ d, dgetT kvs k = some d ∧ P d s2
  | none => False
theorem re_dGetT {ty : TE} {dk : DE} {i : Nat} (h : RE K ty dk) : RE K (tDGetT K (tVar i) ty) (dDGetT i dk) := fun C hC s P hd σ H Q R q => by
  obtain ⟨v0, e0⟩ := hasT_at R hd.1
  refine ⟨v0, e0, h C hC s _ hd.2 σ H _ R fun v H1 d s1 hp R1 hv => ?_⟩
  cases e : kT d with
  | none => rw [e] at hp; exact hp.elim
  | some k =>
    rw [e] at hp
    cases d with
    | tuple ds =>
      obtain ⟨b, vs, rfl, kb1, kb2⟩ := da_tup hv
      have ev := keyT_v kb2 e
      subst ev
      obtain ⟨a, es, kvs, h1, ⟨x, hx, hp⟩, h2, h3⟩ := tdict_at R1 hp
      rw [e0] at h1
      cases h1
      rcases getT_da k h3 with ⟨_, e2⟩ | ⟨w, d', e1, e2, hw⟩
      · rw [e2] at hx
        cases hx
      · rw [e2] at hx
        cases hx
        exact ⟨a, b, es, k, w, rfl, rfl, h2, hC ▸ kb1, e1, q w H1 _ s1 hp R1 hw⟩
    | _ => cases e
/-- {} as such a dict of one's own -/
def dSetT (i : Nat) : DS := fun E s => i < s.sl.length ∧ E.nx ⟨s.sl.set i (.owt []), s.n⟩
theorem rs_setT {i : Nat} : RS K (tAsg tDNewT (gName i)) (dSetT i) := fun C hC E s hd σ H D R o =>
  fun p np => o.nx _ _ _ hd.2 (R.setOwn np hd.1 rfl fun S' hs => ⟨p, [], rfl, upd_same, .nil⟩)
def isOwt : Option DV → Prop
  | some (.owt _) => True
  | _ => False
theorem owt_at {C : DC} {σ : L2.St} {H : Hp} {s : DSt} (R : Rl C σ H s) {i : Nat} (h : isOwt s.sl[i]?) : ∃ v, σ[i]? = some (some v) := hasT_at R (by
  cases e : s.sl[i]? with
  | none => rw [e] at h; exact h.elim
  | some dv =>
    rw [e] at h
    cases dv <;> first | exact h.elim | exact True.intro)
/-- d[a, b] = v: a key that is made here -/
def dDPutN (i : Nat) (da : DA) (dv : DE) : DS := fun E s => dv s fun d s1 => isOwt s1.sl[i]? ∧ da s1 fun ks s2 => ks.length ≤ 1000000 ∧ match kTs ks, s2.sl[i]? with
  | some k, some (.owt kvs) => kvs.length < 1000000 ∧ E.nx ⟨s2.sl.set i (.owt (dputT kvs k d)), s2.n⟩
  | _, _ => False
theorem rs_dPutN {ta : TA} {tv : TE} {da : DA} {dv : DE} {i : Nat} (h1 : RA K ta da) (h2 : RE K tv dv) : RS K (sDPutT K (tVar i) (tTup ta) tv) (dDPutN i da dv) := fun C hC E s hd σ H D R o =>
  h2 C hC s _ hd σ H _ R fun v H1 d s1 hp R1 hv => by
    obtain ⟨ho, hp⟩ := hp
    obtain ⟨v0, e0⟩ := owt_at R1 ho
    refine ⟨v0, e0, h1 (C.keep v d) hC s1 _ hp σ H1 _ (R1.keep hv) fun ys H2 ks s2 hp2 R2 hy => ?_⟩
    obtain ⟨hl, hp2⟩ := hp2
    obtain ⟨R3, hv3⟩ := R2.kept
    refine ⟨by rw [hy.len]; exact Nat.le_trans hl sz6, fun b nb => ?_⟩
    cases e : kTs ks with
    | none => rw [e] at hp2; exact hp2.elim
    | some k =>
      cases e2 : s2.sl[i]? with
      | none => rw [e, e2] at hp2; exact hp2.elim
      | some fv =>
        cases fv with
        | owt kvs =>
          rw [e, e2] at hp2
          have ev := keyT_v hy e
          subst ev
          have R4 := R3.ext (same_upd (o := .tup (k.map kV)) nb)
          obtain ⟨sl, q1, a, es, rfl, q2, q3⟩ := R4.slots i _ e2
          rw [e0] at q1
          cases q1
          have hv4 := hv3.of (R3.kp (o := .tup (k.map kV)) nb)
          exact ⟨a, b, es, k, rfl, rfl, q2, .inl upd_same, by rw [q3.len]; exact Nat.lt_of_lt_of_le hp2.1 sz6, o.nx _ _ _ hp2.2 (R4.mut e2 rfl rfl e0 fun hs => ⟨a, _, rfl, upd_same, (putT_da q3 hv4).of hs⟩)⟩
        | _ => rw [e, e2] at hp2; exact hp2.elim
/-- d[t] = v: the key is there -/
def dDPutO (i : Nat) (dk dv : DE) : DS := fun E s => dv s fun d s1 => isOwt s1.sl[i]? ∧ dk s1 fun kd s2 => match kT kd, s2.sl[i]? with
  | some k, some (.owt kvs) => (dgetT kvs k).isSome = true ∧ kvs.length < 1000000 ∧ E.nx ⟨s2.sl.set i (.owt (dputT kvs k d)), s2.n⟩
  | _, _ => False
theorem rs_dPutO {ty tv : TE} {dk dv : DE} {i : Nat} (h1 : RE K ty dk) (h2 : RE K tv dv) : RS K (sDPutT K (tVar i) ty tv) (dDPutO i dk dv) := fun C hC E s hd σ H D R o =>
  h2 C hC s _ hd σ H _ R fun v H1 d s1 hp R1 hv => by
    obtain ⟨ho, hp⟩ := hp
    obtain ⟨v0, e0⟩ := owt_at R1 ho
    refine ⟨v0, e0, h1 (C.keep v d) hC s1 _ hp σ H1 _ (R1.keep hv) fun y H2 kd s2 hp2 R2 hy => ?_⟩
    obtain ⟨R3, hv3⟩ := R2.kept
    cases e : kT kd with
    | none => rw [e] at hp2; exact hp2.elim
    | some k =>
      cases e2 : s2.sl[i]? with
      | none => rw [e, e2] at hp2; exact hp2.elim
      | some fv =>
        cases fv with
        | owt kvs =>
          rw [e, e2] at hp2
          cases kd with
          | tuple ds =>
            obtain ⟨b, vs, rfl, kb1, kb2⟩ := da_tup hy
            have ev := keyT_v kb2 e
            subst ev
            obtain ⟨sl, q1, a, es, rfl, q2, q3⟩ := R3.slots i _ e2
            rw [e0] at q1
            cases q1
            have hs : (valV es k).isSome = true := by
              rcases getT_da k q3 with ⟨_, e4⟩ | ⟨w, d', e3, _, _⟩
              · have hg : (dgetT kvs k).isSome = true := hp2.1
                rw [e4] at hg
                cases hg
              · rw [e3]
                rfl
            exact ⟨a, b, es, k, rfl, rfl, q2, .inr ⟨hC ▸ kb1, hs⟩, by rw [q3.len]; exact Nat.lt_of_lt_of_le hp2.2.1 sz6, o.nx _ _ _ hp2.2.2 (R3.mut e2 rfl rfl e0 fun hs => ⟨a, _, rfl, upd_same, (putT_da q3 hv3).of hs⟩)⟩
          | _ => cases e
        | _ => rw [e, e2] at hp2; exact hp2.elim
/-! ### such a dict walked: it is locked meanwhile -/
section
variable {C : DC} {σ : L2.St} {H : Hp} {s : DSt}
theorem Rl.lock (R : Rl C σ H s) {i : Nat} {a : Addr} {es : List (List L2.Key × V)} {kvs : List (PyData × PyData)} (od : Obj) (h0 : s.sl[i]? = some (.owt kvs)) (e0 : σ[i]? = some (some (V.ref a))) (eH : H a = some (.dT es)) (hd : DaKt C.K (Hd (Sof C σ s.sl) H) es kvs) :
    Rl ((C.hide a).pin a (.frz od (.dT es))) σ (upd H a (.frz od (.dT es))) ⟨s.sl.set i (.lkd a (.frz od (.dT es)) kvs), s.n⟩ := by
  have hi : i < s.sl.length := (List.getElem?_eq_some_iff.mp h0).1
  obtain ⟨f1, f2, f3⟩ := R.fr i a _ h0 rfl e0
  have key : ∀ {j : Nat} {fv : DV}, (s.sl.set i (.lkd a (.frz od (.dT es)) kvs))[j]? = some fv → (j = i ∧ fv = .lkd a (.frz od (.dT es)) kvs) ∨ (j ≠ i ∧ s.sl[j]? = some fv) := fun {j fv} h1 => by
    by_cases e : i = j
    · subst e
      rw [List.getElem?_set, if_pos rfl, if_pos hi] at h1
      cases h1
      exact .inl ⟨rfl, rfl⟩
    · rw [List.getElem?_set_ne e] at h1
      exact .inr ⟨fun z => e z.symm, h1⟩
  have sa : Sof C σ s.sl a := .inr (.inr ⟨i, _, h0, rfl, e0⟩)
  have sub : ∀ b, Sof ((C.hide a).pin a (.frz od (.dT es))) σ (s.sl.set i (.lkd a (.frz od (.dT es)) kvs)) b → Sof C σ s.sl b := fun b h => by
    rcases h with (h | h) | h | ⟨j, fv, h1, h2, h3⟩
    · exact .inl h
    · exact h ▸ sa
    · exact .inr (.inl h)
    · rcases key h1 with ⟨_, rfl⟩ | ⟨_, h1⟩
      · cases h2
      · exact .inr (.inr ⟨j, fv, h1, h2, h3⟩)
  have hs : Same (Hd (Sof C σ s.sl) H) (Hd (Sof ((C.hide a).pin a (.frz od (.dT es))) σ (s.sl.set i (.lkd a (.frz od (.dT es)) kvs))) (upd H a (.frz od (.dT es)))) := fun b u e => by
    obtain ⟨h1, h3⟩ := hd_some e
    have hb : b ≠ a := fun z => h1 (z ▸ sa)
    rw [hd_ne (fun z => h1 (sub b z)), upd_ne hb]
    exact h3
  have own_ne : ∀ {j : Nat} {fv : DV} {c : Addr}, j ≠ i → s.sl[j]? = some fv → isOwn fv = true → σ[j]? = some (some (V.ref c)) → c ≠ a := fun {j fv c} hj h1 h2 h3 z => by
    subst z
    exact hj (R.nd j i c fv _ h1 h0 h2 rfl h3 e0)
  refine ⟨by rw [List.length_set]; exact R.len, fun j fv h1 => ?_, fun j k c fv gv h1 h2 h3 h4 h5 h6 => ?_, fun j c fv h1 h2 h3 => ?_, R.dk.upd f3, fun b u hb hu => ?_, fun b hb => ?_, fun x y z => (R.gh x y z).of hs, fun b u h => ?_⟩
  · rcases key h1 with ⟨rfl, rfl⟩ | ⟨hj, h1⟩
    · exact ⟨_, e0, rfl, .inr ⟨rfl, rfl⟩, od, es, rfl, hd.of hs⟩
    · obtain ⟨sl, e1, e2⟩ := R.slots j fv h1
      exact ⟨sl, e1, e2.move (C' := (C.hide a).pin a (.frz od (.dT es))) rfl rfl hs (fun c hc ec u hu => by rw [upd_ne (own_ne hj h1 hc (ec ▸ e1))]; exact hu) fun b u z => .inl z⟩
  · rcases key h1 with ⟨_, rfl⟩ | ⟨_, h1⟩
    · cases h3
    · rcases key h2 with ⟨_, rfl⟩ | ⟨_, h2⟩
      · cases h4
      · exact R.nd j k c fv gv h1 h2 h3 h4 h5 h6
  · rcases key h1 with ⟨_, rfl⟩ | ⟨hj, h1⟩
    · cases h2
    · obtain ⟨g1, g2, g3⟩ := R.fr j c fv h1 h2 h3
      exact ⟨g1, fun z => z.elim g2 (own_ne hj h1 h2 h3), g3⟩
  · have hba : b ≠ a := fun z => by
      subst z
      have hu' : C.H0 b = some u := hu
      rw [f1] at hu'
      cases hu'
    rw [upd_ne hba]
    exact R.but b u hb hu
  · by_cases e : b = a
    · subst e
      exact ⟨_, upd_same⟩
    · rw [upd_ne e]
      exact R.tk b (hb.elim id fun z => absurd z e)
  · rcases h with h | ⟨rfl, rfl⟩
    · obtain ⟨g1, g2, g3⟩ := R.fz b u h
      exact ⟨.inl g1, g2, by rw [upd_ne (fun z : b = a => f2 (z ▸ g1))]; exact g3⟩
    · exact ⟨.inr rfl, f3, upd_same⟩
def noLkB (δ : List DV) : Bool := δ.all fun dv => !isLk dv
theorem Rl.unlock {a : Addr} {od : Obj} {es : List (List L2.Key × V)} (R : Rl ((C.hide a).pin a (.frz od (.dT es))) σ H s) {i : Nat} {kvs : List (PyData × PyData)} (h0 : s.sl[i]? = some (.lkd a (.frz od (.dT es)) kvs)) (hn : noLkB (s.sl.set i .un) = true)
    (f1 : C.H0 a = none) (f2 : ¬ C.S0 a) (f3 : ¬ Mu C.W a) (hZ : ∀ b u, C.Z b u → C.S0 b) : Rl C σ (upd H a (.dT es)) ⟨s.sl.set i (.owt kvs), s.n⟩ := by
  have hi : i < s.sl.length := (List.getElem?_eq_some_iff.mp h0).1
  obtain ⟨sl0, e0, e1, _, od', es', e2, hda⟩ := R.slots i _ h0
  subst e1
  have e3 : es' = es := by cases e2; rfl
  subst e3
  have key : ∀ {j : Nat} {fv : DV}, (s.sl.set i (.owt kvs))[j]? = some fv → (j = i ∧ fv = .owt kvs) ∨ (j ≠ i ∧ s.sl[j]? = some fv ∧ isLk fv = false) := fun {j fv} h1 => by
    by_cases e : i = j
    · subst e
      rw [List.getElem?_set, if_pos rfl, if_pos hi] at h1
      cases h1
      exact .inl ⟨rfl, rfl⟩
    · rw [List.getElem?_set_ne e] at h1
      have h2 : (s.sl.set i .un)[j]? = some fv := by rw [List.getElem?_set_ne e]; exact h1
      have z := List.all_eq_true.mp hn fv (List.mem_of_getElem? h2)
      exact .inr ⟨fun z => e z.symm, h1, by cases hl : isLk fv with
        | false => rfl
        | true => rw [hl] at z; cases z⟩
  have sub : ∀ b, Sof C σ (s.sl.set i (.owt kvs)) b → Sof ((C.hide a).pin a (.frz od (.dT es'))) σ s.sl b := fun b h => by
    rcases h with h | h | ⟨j, fv, h1, h2, h3⟩
    · exact .inl (.inl h)
    · exact .inr (.inl h)
    · rcases key h1 with ⟨rfl, rfl⟩ | ⟨_, h1, _⟩
      · rw [e0] at h3
        cases h3
        exact .inl (.inr rfl)
      · exact .inr (.inr ⟨j, fv, h1, h2, h3⟩)
  have sa : Sof ((C.hide a).pin a (.frz od (.dT es'))) σ s.sl a := .inl (.inr rfl)
  have hs : Same (Hd (Sof ((C.hide a).pin a (.frz od (.dT es'))) σ s.sl) H) (Hd (Sof C σ (s.sl.set i (.owt kvs))) (upd H a (.dT es'))) := fun b u e => by
    obtain ⟨h1, h3⟩ := hd_some e
    have hb : b ≠ a := fun z => h1 (z ▸ sa)
    rw [hd_ne (fun z => h1 (sub b z)), upd_ne hb]
    exact h3
  have own_ne : ∀ {j : Nat} {fv : DV} {c : Addr}, s.sl[j]? = some fv → isOwn fv = true → σ[j]? = some (some (V.ref c)) → c ≠ a := fun {j fv c} h1 h2 h3 z => (R.fr j c fv h1 h2 h3).2.1 (.inr z)
  refine ⟨by rw [List.length_set]; exact R.len, fun j fv h1 => ?_, fun j k c fv gv h1 h2 h3 h4 h5 h6 => ?_, fun j c fv h1 h2 h3 => ?_, R.dk.upd f3, fun b u hb hu => ?_, fun b hb => ?_, fun x y z => (R.gh x y z).of hs, fun b u h => ?_⟩
  · rcases key h1 with ⟨rfl, rfl⟩ | ⟨hj, h1, hl⟩
    · exact ⟨_, e0, a, es', rfl, upd_same, hda.of hs⟩
    · obtain ⟨sl, e1, e2⟩ := R.slots j fv h1
      refine ⟨sl, e1, ?_⟩
      cases fv with
      | lkd _ _ _ => cases hl
      | un => trivial
      | dat d =>
        obtain ⟨v, q1, q2⟩ := e2
        exact ⟨v, q1, q2.of hs⟩
      | own ds =>
        obtain ⟨b, vs, q1, q2, q3⟩ := e2
        exact ⟨b, vs, q1, by rw [upd_ne (own_ne h1 rfl (q1 ▸ e1))]; exact q2, q3.of hs⟩
      | arg b ds =>
        obtain ⟨vs, q1, q2, q3⟩ := e2
        exact ⟨vs, q1, by rw [upd_ne (own_ne h1 rfl (q1 ▸ e1))]; exact q2, q3.of hs⟩
      | owd ds =>
        obtain ⟨b, vs, q1, q2, q3⟩ := e2
        exact ⟨b, vs, q1, by rw [upd_ne (own_ne h1 rfl (q1 ▸ e1))]; exact q2, q3.of hs⟩
      | owt ds =>
        obtain ⟨b, vs, q1, q2, q3⟩ := e2
        exact ⟨b, vs, q1, by rw [upd_ne (own_ne h1 rfl (q1 ▸ e1))]; exact q2, q3.of hs⟩
      | deck => exact e2
      | exc _ => first | exact e2 | cases hl
  · rcases key h1 with ⟨rfl, rfl⟩ | ⟨hj, g1, _⟩
    · rw [e0] at h5
      cases h5
      rcases key h2 with ⟨rfl, rfl⟩ | ⟨hk, h2, _⟩
      · rfl
      · exact absurd rfl (own_ne h2 h4 h6)
    · rcases key h2 with ⟨rfl, rfl⟩ | ⟨hk, g2, _⟩
      · rw [e0] at h6
        cases h6
        exact absurd rfl (own_ne g1 h3 h5)
      · exact R.nd j k c fv gv g1 g2 h3 h4 h5 h6
  · rcases key h1 with ⟨rfl, rfl⟩ | ⟨hj, h1, _⟩
    · rw [e0] at h3
      cases h3
      exact ⟨f1, f2, f3⟩
    · obtain ⟨g1, g2, g3⟩ := R.fr j c fv h1 h2 h3
      exact ⟨g1, fun z => g2 (.inl z), g3⟩
  · have hba : b ≠ a := fun z => by
      subst z
      rw [f1] at hu
      cases hu
    rw [upd_ne hba]
    exact R.but b u hb hu
  · have e : b ≠ a := fun z => f2 (z ▸ hb)
    rw [upd_ne e]
    exact R.tk b (.inl hb)
  · obtain ⟨g1, g2, g3⟩ := R.fz b u (.inl h)
    have hb : C.S0 b := hZ b u h
    exact ⟨hb, g2, by rw [upd_ne (fun z : b = a => f2 (z ▸ hb))]; exact g3⟩
end
/-- the keys of the locked dict in slot i -/
def dKeysT (i : Nat) : DA := fun s P => match s.sl[i]? with
  | some (.lkd _ _ kvs) => P (kvs.map (·.1)) s
  | _ => False
theorem kt_at {H : Hp} : ∀ {es : List (List L2.Key × V)} {ds : List (PyData × PyData)} {j : Nat} {d : PyData}, DaKt K H es ds → (ds.map (·.1))[j]? = some d → ∃ p, es[j]? = some p ∧ d = .tuple (p.1.map keyD)
  | _, _, _, _, .nil, e => by simp at e
  | _, _, 0, _, .cons h _, e => by
    simp at e
    subst e
    exact ⟨_, rfl, rfl⟩
  | _, _, j + 1, d, .cons _ t, e => by
    obtain ⟨p, h1, h2⟩ := kt_at (j := j) (d := d) t (by simpa using e)
    exact ⟨p, by simpa using h1, h2⟩
theorem da_keys {H : Hp} : ∀ k : List L2.Key, DaAll K H (k.map kV) (k.map keyD)
  | [] => .nil
  | .inl i :: k => .cons (.int i) (da_keys k)
  | .inr x :: k => .cons (.str x) (da_keys k)
theorem ri_keysT {i : Nat} : RI true K (iKeys (tVar i)) (dKeysT i) := fun C hC s P hd σ H R0 R q => by
  unfold dKeysT at hd
  split at hd
  · rename_i a o kvs e
    obtain ⟨sl, h1, rfl, hZ, od, es, rfl, h5⟩ := R.slots i _ e
    have eH := (R.fz _ _ hZ).2.2
    refine rd_var h1 ⟨a, od, rfl, .inr ⟨es, eH, q _ H _ s (fun _ _ => False) (fun b u => b = a ∧ u = .frz od (.dT es)) hd (R.more fun _ _ z => z.elim) (fun b u z => by
      obtain ⟨rfl, rfl⟩ := z
      exact hZ) ?_⟩⟩
    intro C' hK hG hZ' σ' H' s' R'
    have eH' := (R'.fz _ _ (hZ' _ _ ⟨rfl, rfl⟩)).2.2
    have hl : es.length = (kvs.map (·.1)).length := by rw [List.length_map]; exact h5.len
    refine ⟨⟨eH', by rw [hl]; exact Nat.le_refl _⟩, fun j d hj => ?_⟩
    obtain ⟨p, hp1, rfl⟩ := kt_at h5 hj
    refine ⟨⟨eH', (List.getElem?_eq_some_iff.mp hp1).1⟩, fun x H2 hy => ?_⟩
    obtain ⟨rfl, k, v, q2, e1, rfl, e2⟩ := hy
    rw [hp1] at e1
    cases e1
    exact ⟨R', Same.refl _, .inr ⟨rfl, q2, _, _, rfl, rfl, .inl (.inl e2), da_keys _⟩⟩
  · exact hd.elim
/-- for .. in d: d in slot i, one's own -/
def dForT (i : Nat) (g : DG) (b : DS) : DS := fun E s => match s.sl[i]? with
  | some (.owt kvs) => noLkB s.sl = true ∧ ∀ a o, dFor (dKeysT i) g b { nx := fun s2 => s2.sl[i]? = some (.lkd a o kvs) ∧ noLkB (s2.sl.set i .un) = true ∧ E.nx ⟨s2.sl.set i (.owt kvs), s2.n⟩, rt := fun _ _ => False } ⟨s.sl.set i (.lkd a o kvs), s.n⟩
  | _ => False
theorem rs_forT {i : Nat} {g : TG} {tb : TS} {dg : DG} {db : DS} (hg : RG true K g dg) (hb : RS K tb db) : RS K (tLock (tFor (iKeys (tVar i)) g tb)) (dForT i dg db) := fun C hC E s hd σ H D R o => by
  unfold dForT at hd
  split at hd
  · rename_i kvs e
    obtain ⟨sl, h1, a, es, rfl, h4, h5⟩ := R.slots i _ e
    obtain ⟨f1, f2, f3⟩ := R.fr i a _ e rfl h1
    refine ⟨a, .dT es, h4, True.intro, fun od => ?_⟩
    refine rs_for (K := K) (ri_keysT (i := i)) hg hb ((C.hide a).pin a (.frz od (.dT es))) hC _ _ (hd.2 a (.frz od (.dT es))) σ _ _ (R.lock od e h1 h4 h5) ⟨fun σ' H' s' hp R' => ?_, fun σ' v H' d' s' hp R' hv => hp.elim, fun _ _ _ z => z.elim, fun _ _ _ z => z.elim⟩
    obtain ⟨z1, z2, z3⟩ := hp
    refine ⟨(R'.fz _ _ (.inr ⟨rfl, rfl⟩)).2.2, o.nx _ _ _ z3 (R'.unlock z1 z2 f1 f2 f3 fun b u z => (R.fz b u z).1)⟩
  · exact hd.elim
end DL

set_option Elab.async false
set_option linter.all false
set_option maxRecDepth 100000
set_option maxHeartbeats 4000000
/-! DLt: rows that are a tuple or a dict; a, b = {}, a new list; a call that lengthens its caller's list. -/
namespace DL
open PySem PySem.Spec PyProof.Rows L2 GG DD PT TK
section
variable {X : Cx} {o i e tg : Expr} {pos : Pos} {td ty te : TE}
theorem pe_rowsq (hu : X.A.units + 1 < cLine) (ho : PE X o td) (hi : PE X i ty) (hs : PlainIx i) (hs2 : NoSl i) : PE X (.Subscript o i pos) (tOr2 (tOp (rIxT X.K) td ty) (tDGet td ty)) := pe_or2 (pe_ix ix_tup ho hi hs) (pe_dget hu ho hi hs2)
theorem pi_seq (he : PE X e te) : PI X tg e (iOr2 (iTup X.K te) (iList X.K te)) := pi_or2 (pi_tup he) (pi_list he)
end
variable {K : KX}
/-- a, b = {}, a new list -/
def dPar0L (i j : Nat) (dl : DA) : DS := fun E s => i < s.sl.length ∧ j < s.sl.length ∧ i ≠ j ∧ dl ⟨s.sl, s.n⟩ fun ds s2 => s2.sl = s.sl ∧ E.nx ⟨(s2.sl.set i (.owd [])).set j (.own ds), s2.n⟩
/-- the dict is made first: it is nobody's yet -/
theorem rs_par0L {i j : Nat} {tf : TE} {dl : DA} (h2 : RF K tf dl) : RS K (tPar i j (tCons tDNewK (tCons tf tNil))) (dPar0L i j dl) := fun C hC E s hd σ H D R o => by
  obtain ⟨hi, hj, hij, hd⟩ := hd
  intro a na
  obtain ⟨n1, n2⟩ := R.new na
  have R2 := (R.hidden (o := .dK []) na).pin (L := a) (.inr rfl) (fun z => n1 (.inr (.inl z))) upd_same
  refine h2 ((C.hide a).pin a (.dK [])) hC s _ hd σ _ _ R2 fun b us H2 es s2 hp R3 nb hu => ⟨_, _, rfl, ?_⟩
  obtain ⟨R4, e4⟩ := R3.unpin
  obtain ⟨hsl, hnx⟩ := hp
  obtain ⟨R5, hs5⟩ := R4.leave (fun z => n1 (.inl z)) (fun z => n1 (.inr (.inl z))) n2 fun b u z => (R.fz b u z).1
  have hu5 : DaAll C.K (Hd (Sof C σ s2.sl) (del H2 a)) us es := (show DaAll C.K (Hd (Sof (C.hide a) σ s2.sl) H2) us es from hu).of hs5
  have nb5 : del H2 a b = none := by
    by_cases z : b = a
    · rw [z]
      exact if_pos rfl
    · rw [del_ne z]
      exact nb
  have hab : b ≠ a := fun z => by
    rw [z, e4] at nb
    cases nb
  -- first the dict, then the list
  have R6 := (R5.more (pair_da hu5)).setOwn (i := i) (a := a) (o := .dK []) (dv := .owd []) (if_pos rfl) (by rw [hsl]; exact hi) rfl fun S' hs => ⟨a, [], rfl, upd_same, .nil⟩
  have e6 : upd (del H2 a) a (.dK []) = H2 := del_upd e4
  rw [e6] at R6
  have hu6 : DaAll C.K (Hd (Sof C (σ.set i (some (V.ref a))) (s2.sl.set i (.owd []))) H2) us es := da_pair hu.len fun x y z => R6.gh x y (.inr z)
  exact o.nx _ _ _ hnx (R6.less.setOwn nb (by rw [List.length_set, hsl]; exact hj) rfl fun S' hs => ⟨b, us, rfl, upd_same, hu6.of hs⟩)
end DL

set_option Elab.async false
set_option linter.all false
set_option maxRecDepth 100000
set_option maxHeartbeats 4000000
/-! DLu: list(zip(xs, ys)) of tuples; [..] != []; a, b, c = .. -/
namespace EMT
open PySem PySem.Spec PyProof.Rows L2 GG PT
variable {X : Cx}
def rNeMtL (K : PySem.W.Frag) : R2 := fun x y H Q => ∃ a b xs, x = .ref a ∧ y = .ref b ∧ SqL K H a xs ∧ SqL K H b [] ∧ Q (.bl !xs.isEmpty) H
theorem op_neMtL (hu : X.A.units + 64 < cLine) : OpR X (compareOp .NotEq) (rNeMtL X.K) := by
  intro pins s σ H x y v u Q I rx ry h
  obtain ⟨a, b, xs, rfl, rfl, ha, hb, q⟩ := h
  cases (show v = Value.ref a from rx)
  cases (show u = Value.ref b from ry)
  obtain ⟨its, rv, pl, _⟩ := I.list ha
  obtain ⟨its2, rv2, pl2, _⟩ := I.list hb
  cases rv2
  cases xs with
  | nil =>
    cases rv
    exact SeqAt.RcNeAt.lists (e := fun _ => true) pl.isList pl2.isList rfl (by omega) (fun j _ h2 => absurd h2 (Nat.not_lt_zero _)) _ _ _ _ ⟨.bl false, H, I, rfl, q⟩
  | cons x r =>
    cases rv
    exact SeqAt.RcNeAt.lists_lengths pl.isList pl2.isList (by simp) (by omega) _ _ _ _ ⟨.bl true, H, I, rfl, q⟩
end EMT
namespace DL
open PySem PySem.Spec PyProof.Rows L2 GG DD PT
variable {K : KX}
def dListZipT (d1 d2 : DE) : DA := fun s P => d1 s fun x s1 => d2 s1 fun y s2 => match x, y with
  | .tuple a, .tuple b => P (List.zipWith (fun p q => PyData.tuple [p, q]) a b) s2
  | _, _ => False
theorem rf_listZipT {t1 t2 : TE} {d1 d2 : DE} (h1 : RE K t1 d1) (h2 : RE K t2 d2) : RF K (LZ.tListZipT K (tCons t1 (tCons t2 tNil))) (dListZipT d1 d2) := fun C hC s P hd σ H Q R q =>
  rd_cons (h1 C hC s _ hd σ H _ R fun v H1 d s1 hd1 R1 hv => rd_cons (h2 (C.keep v d) hC s1 _ hd1 σ H1 _ (R1.keep hv) fun w H2 e s2 hp R2 hw => rd_nil (by
    obtain ⟨R3, hv3⟩ := R2.kept
    subst hC
    split at hp
    · obtain ⟨a, vs, rfl, k1, k2⟩ := da_tup hv3
      obtain ⟨b, us, rfl, k3, k4⟩ := da_tup hw
      refine ⟨a, b, vs, us, rfl, k1, k3, fun ps H3 p sm np hl hps => ?_⟩
      refine q p (ps.map V.ref) H3 _ s2 hp (R3.ext sm) np (DaAll.ofGet (by simp [hl, k2.len, k4.len]) fun j v' d' e e' => ?_)
      rw [List.getElem?_map] at e
      obtain ⟨t, ht, e⟩ := Option.map_eq_some_iff.mp e
      subst e
      obtain ⟨x, y, o, e1, e2, e3, e4, e5⟩ := hps j t ht
      rw [List.getElem?_zipWith] at e'
      split at e'
      · rename_i da db f1 f2
        cases e'
        have g1 := (k2.of (hdS sm)).at e1 f1
        have g2 := (k4.of (hdS sm)).at e2 f2
        exact .tup (.inl ⟨o, by rw [hd_ne (R3.new e5).1]; exact e3, e4⟩) (.cons g1 (.cons g2 .nil))
      · cases e'
    · exact hp.elim)))

def oNeMtL : D2 := fun d e P => match d, e with
  | .list ds, .list [] => P (.bool !ds.isEmpty)
  | _, _ => False
theorem ro_neMtL : RO K (EMT.rNeMtL K) oNeMtL := fun S H x y d e P Q _ hx hy h q => by
  unfold oNeMtL at h
  split at h
  · obtain ⟨a, vs, rfl, k1, k2⟩ := da_list hx
    obtain ⟨b, us, rfl, k3, k4⟩ := da_list hy
    cases k4
    refine ⟨a, b, vs, rfl, rfl, sq k1, sq k3, q _ H _ h (Same.refl _) ?_⟩
    cases k2 with
    | nil => exact .bl _
    | cons _ _ => exact .bl _
  · exact h.elim
/-- a, b, c = x, y, z -/
def dPar3 (i j l : Nat) (da : DA) : DS := fun E s => da s fun ds s1 => match ds with
  | [d, e, f] => E.nx ⟨((s1.sl.set i (.dat d)).set j (.dat e)).set l (.dat f), s1.n⟩
  | _ => False
theorem rs_par3 {i j l : Nat} {ta : TA} {da : DA} (h : RA K ta da) : RS K (tPar3 i j l ta) (dPar3 i j l da) := fun C hC E s hd σ H D R o =>
  h C hC s _ hd σ H _ R fun vs H1 ds s1 hp R1 hv => by
    match ds, hp, hv with
    | [d, e, f], hp, .cons (v := v) h1 (.cons (v := w) h2 (.cons (v := x) h3 .nil)) =>
      have R2 := ((R1.keep (v := x) h3).keep (v := w) h2).set (i := i) h1
      obtain ⟨R3, h4⟩ := R2.kept
      have R4 := R3.set (i := j) h4
      obtain ⟨R5, h5⟩ := R4.kept
      exact ⟨v, w, x, rfl, o.nx _ H1 _ hp (R5.set h5)⟩
/-- a, b, c = x, y, a new list -/
def dPar3R (i j l : Nat) (de df : DE) (dl : DA) : DS := fun E s => de s fun d s1 => df s1 fun e s2 => dl s2 fun ds s3 => i ≠ j ∧ i ≠ l ∧ j ≠ l ∧ l < s3.sl.length ∧ E.nx ⟨((s3.sl.set i (.dat d)).set j (.dat e)).set l (.own ds), s3.n⟩
theorem rs_par3R {i j l : Nat} {te tf tg : TE} {de df : DE} {dl : DA} (h : RE K te de) (h2 : RE K tf df) (h3 : RF K tg dl) : RS K (tPar3 i j l (tCons te (tCons tf (tCons tg tNil)))) (dPar3R i j l de df dl) := fun C hC E s hd σ H D R o =>
  h C hC s _ hd σ H _ R fun v H1 d s1 hd1 R1 hv => h2 (C.keep v d) hC s1 _ hd1 σ H1 _ (R1.keep hv) fun w H2 e s2 hd2 R2 hw => h3 ((C.keep v d).keep w e) hC s2 _ hd2 σ H2 _ (R2.keep hw) fun a vs H3 ds s3 hp R3 na hx => by
    refine ⟨_, _, _, rfl, ?_⟩
    obtain ⟨R4, hw4⟩ := R3.kept
    obtain ⟨R5, hv5⟩ := R4.kept
    have R6 := ((R5.keep (v := w) (d := e) hw4).keep (v := v) (d := d) hv5).set (i := i) hv5
    obtain ⟨R7, _⟩ := R6.kept
    obtain ⟨R8, hw8⟩ := R7.kept
    have R9 := (R8.keep (v := w) (d := e) hw8).set (i := j) hw8
    obtain ⟨R10, _⟩ := R9.kept
    have hs : Same (Hd (Sof C σ s3.sl) H3) (Hd (Sof C ((σ.set i (some v)).set j (some w)) ((s3.sl.set i (.dat d)).set j (.dat e))) H3) := hd_mono fun b z => sof_set (s := s3) rfl b (sof_set (s := ⟨s3.sl.set i (.dat d), s3.n⟩) rfl b z)
    have hx' : DaAll C.K (Hd (Sof C ((σ.set i (some v)).set j (some w)) ((s3.sl.set i (.dat d)).set j (.dat e))) H3) vs ds := (show DaAll C.K (Hd (Sof C σ s3.sl) H3) vs ds from hx).of hs
    exact o.nx _ _ _ hp.2.2.2.2 (R10.setOwn na (by rw [List.length_set, List.length_set]; exact hp.2.2.2.1) rfl fun S' hs' => ⟨a, vs, rfl, upd_same, hx'.of hs'⟩)
/-- (a, b) = a new list, a new list, by a tuple in between -/
def dTupLL (i j : Nat) (dl dm : DA) : DS := fun E s => i ≠ j ∧ dParLL i j dl dm E s
theorem rs_tupLL {i j : Nat} {te tf : TE} {dl dm : DA} (h : RF K te dl) (h2 : RF K tf dm) : RS K (tAsg (tTupP (tCons te (tCons tf tNil))) (gTup K 2 (gCons (gName i) (gCons (gName j) gNil)))) (dTupLL i j dl dm) := fun C hC E s hd σ H D R o =>
  rd_tupP (rd_cons (h C hC s _ hd.2 σ H _ R fun a vs H1 ds s1 hd1 R1 na hv => by
    obtain ⟨n1, n2⟩ := R1.new na
    have R2 := (R1.hidden (o := .lst vs) na).pin (L := a) (.inr rfl) (fun z => n1 (.inr (.inl z))) upd_same
    have hs : Same (Hd (Sof C σ s1.sl) H1) (Hd (Sof (C.hide a) σ s1.sl) (upd H1 a (.lst vs))) := fun b u e => by
      obtain ⟨z1, z3⟩ := hd_some e
      have hb : b ≠ a := ne_of_none z3 na
      rw [hd_ne (fun z => (sof_hide.mp z).elim z1 hb), upd_ne hb]
      exact z3
    have R2' := R2.more (pair_da (hv.of hs))
    refine rd_cons (h2 (((C.hide a).pin a (.lst vs)).more (pairG vs ds)) hC s1 _ hd1 σ _ _ R2' fun b us H2 es s2 hp R3 nb hu => rd_nil ⟨by show 2 ≤ sizeLine; decide, fun p ob np _ => rd_gnn (.inl (.inr ⟨ob, upd_same⟩)) ?_⟩)
    have hk := same_upd (o := .frz ob (.tup [.ref a, .ref b])) np
    obtain ⟨R4, e4⟩ := R3.less.unpin
    have hds : DaAll C.K (Hd (Sof (C.hide a) σ s2.sl) H2) vs ds := da_pair hv.len fun x y z => R3.gh x y (.inr z)
    have hus : DaAll C.K (Hd (Sof (C.hide a) σ s2.sl) H2) us es := hu
    obtain ⟨m1, m2⟩ := R4.new nb
    have hab : b ≠ a := fun z => by
      rw [z, e4] at nb
      cases nb
    have hs2 : Same (Hd (Sof (C.hide a) σ s2.sl) H2) (Hd (Sof ((C.hide a).hide b) σ s2.sl) (upd H2 b (.lst us))) := fun c u e => by
      obtain ⟨z1, z3⟩ := hd_some e
      have hb : c ≠ b := ne_of_none z3 nb
      rw [hd_ne (fun z => (sof_hide.mp z).elim z1 hb), upd_ne hb]
      exact z3
    have R5 := (R4.hidden (o := .lst us) nb).ext hk
    have v5 := (hds.of hs2).of (hdS hk)
    have u5 := (hus.of hs2).of (hdS hk)
    have R6 := R5.more (pair_da v5)
    have R7 := Rl.adopt (C := (C.hide a).more (pairG vs ds)) (i := j) R6 (fun z => z.elim (fun z => m1 (.inl (.inl z))) hab) (fun z => m1 (.inr (.inl z))) m2 (fun c u z => .inl ((R1.fz c u z).1)) (hk _ _ upd_same) u5 hp.2.1
    have v7 : DaAll C.K (Hd (Sof (C.hide a) (σ.set j (some (V.ref b))) (s2.sl.set j (.own es))) (upd (upd H2 b (.lst us)) p (.frz ob (.tup [.ref a, .ref b])))) vs ds := da_pair hv.len fun x y z => R7.gh x y (.inr z)
    have R8 := Rl.adopt (C := C) (i := i) R7.less (fun z => n1 (.inl z)) (fun z => n1 (.inr (.inl z))) n2 (fun b u z => (R1.fz b u z).1) (hk _ _ (by rw [upd_ne (fun z => hab z.symm)]; exact e4)) v7 (by
      show i < (s2.sl.set j (.own es)).length
      rw [List.length_set]
      exact hp.1)
    have c1 : (s2.sl.set i (.own ds)).set j (.own es) = (s2.sl.set j (.own es)).set i (.own ds) := List.set_comm _ _ hd.1
    have c2 : (σ.set i (some (V.ref a))).set j (some (V.ref b)) = (σ.set j (some (V.ref b))).set i (some (V.ref a)) := List.set_comm _ _ hd.1
    have hnx := hp.2.2
    rw [c1] at hnx
    rw [c2]
    exact o.nx _ _ _ hnx R8))
end DL

set_option Elab.async false
set_option linter.all false
set_option maxRecDepth 100000
set_option maxHeartbeats 4000000
/-! DLv: a def that changes a list of its caller's (its last argument); x in a list of one's own. -/
namespace DL
open PySem PySem.Spec PyProof.Rows L2 GG DD PT
variable {K : KX}
theorem ArgsOk.get {K : PySem.W.Frag} {W : Wo} {S : Addr → Prop} {H : Hp} : ∀ {vs : List V} {as : List DV} {i : Nat} {dv : DV}, ArgsOk K W S H vs as → as[i]? = some dv → ∃ v, vs[i]? = some v ∧ ArgOk K W S H v dv
  | _, _, _, _, .nil, e => by simp at e
  | _, _, 0, _, .cons h _, e => by
    simp at e
    subst e
    exact ⟨_, rfl, h⟩
  | _, _, i + 1, dv, .cons _ t, e => by
    obtain ⟨v, h1, h2⟩ := ArgsOk.get (i := i) (dv := dv) t (by simpa using e)
    exact ⟨v, by simpa using h1, h2⟩
/-- what such a def does: its other arguments, the list, the draws so far, what is wished -/
abbrev FM := List DV → List PyData → Nat → (PyData → List PyData → Nat → Prop) → Prop
def spMut (K : PySem.W.Frag) (m : Nat) (F : FM) : Sp := fun vs H Q _ => vs.length = m ∧ ∃ (W : Wo) (S0 : Addr → Prop) (n : Nat) (us0 : List V) (a : Addr) (us : List V) (as : List DV) (ds : List PyData) (P : PyData → List PyData → Nat → Prop),
  vs = us0 ++ [.ref a] ∧ Taken H S0 ∧ DkOk W H n ∧ (∀ b, Mu W b → S0 b) ∧ S0 a ∧ ¬ Mu W a ∧ H a = some (.lst us) ∧ ArgsOk K W S0 H us0 as ∧ DaAll K (Hd S0 H) us ds ∧ F as ds n P ∧
  ∀ v H' d ds' n' us', P d ds' n' → DkOk W H' n' → (∀ b o, ¬ Mu W b → b ≠ a → H b = some o → H' b = some o) → H' a = some (.lst us') → DaAll K (Hd S0 H') us' ds' → Da K (Hd S0 H') v d → Q v H'
theorem get_app3 {A : Type} {as : List A} {x y : A} {m i : Nat} {z : A} (h : (as ++ (x :: List.replicate m y))[i]? = some z) : (i < as.length ∧ as[i]? = some z) ∨ (i = as.length ∧ z = x) ∨ (as.length < i ∧ i < as.length + 1 + m ∧ z = y) := by
  by_cases h1 : i < as.length
  · rw [List.getElem?_append_left h1] at h
    exact .inl ⟨h1, h⟩
  · rw [List.getElem?_append_right (by omega)] at h
    cases e : i - as.length with
    | zero =>
      rw [e] at h
      simp at h
      exact .inr (.inl ⟨by omega, h.symm⟩)
    | succ k =>
      rw [e] at h
      simp at h
      obtain ⟨h2, h3⟩ := List.getElem?_eq_some_iff.mp h
      simp at h2 h3
      exact .inr (.inr ⟨by omega, by omega, h3.symm⟩)
theorem rl_startM {K : PySem.W.Frag} {W : Wo} {S0 : Addr → Prop} {H : Hp} {n : Nat} {vs : List V} {as : List DV} {a : Addr} {us : List V} {ds : List PyData} (m : Nat) (T : Taken H S0) (dk : DkOk W H n) (hm : ∀ b, Mu W b → S0 b) (h0 : S0 a) (h1 : ¬ Mu W a) (eH : H a = some (.lst us)) (ha : ArgsOk K W S0 H vs as) (hd : DaAll K (Hd S0 H) us ds) :
    Rl (DC.base ⟨K, W, fun b => S0 b ∧ b ≠ a, del H a, fun _ _ => False, fun _ _ => False⟩) ((vs ++ [V.ref a]).map some ++ List.replicate m none) H ⟨as ++ (.arg a ds :: List.replicate m .un), n⟩ := by
  have hl := ha.len
  have es : (vs ++ [V.ref a]).map some ++ List.replicate m none = vs.map some ++ (some (V.ref a) :: List.replicate m none) := by simp
  rw [es]
  have own : ∀ {i : Nat} {dv : DV}, (as ++ (.arg a ds :: List.replicate m .un))[i]? = some dv → isOwn dv = true → i = as.length ∧ dv = .arg a ds := fun {i dv} h ho => by
    rcases get_app3 h with ⟨_, h⟩ | h | ⟨_, _, rfl⟩
    · obtain ⟨v, _, z⟩ := ha.get h
      cases dv <;> first | exact z.elim | cases ho
    · exact h
    · cases ho
  have at_a : (vs.map some ++ (some (V.ref a) :: List.replicate m none))[as.length]? = some (some (V.ref a)) := by
    rw [List.getElem?_append_right (by simp [hl]), List.length_map, hl, Nat.sub_self]
    rfl
  have ad : ∀ {i : Nat} {dv : DV} {b : Addr}, (as ++ (.arg a ds :: List.replicate m .un))[i]? = some dv → isOwn dv = true → (vs.map some ++ (some (V.ref a) :: List.replicate m none))[i]? = some (some (V.ref b)) → b = a := fun {i dv b} h ho e => by
    obtain ⟨rfl, _⟩ := own h ho
    rw [at_a] at e
    cases e
    rfl
  have sub : ∀ b, Sof (DC.base ⟨K, W, fun b => S0 b ∧ b ≠ a, del H a, fun _ _ => False, fun _ _ => False⟩) (vs.map some ++ (some (V.ref a) :: List.replicate m none)) (as ++ (.arg a ds :: List.replicate m .un)) b → S0 b := fun b h => by
    rcases h with h | h | ⟨i, dv, g1, g2, g3⟩
    · exact h.1
    · exact hm b h
    · rw [ad g1 g2 g3]
      exact h0
  have hs := hd_mono (H := H) sub
  refine ⟨by simp [hl], fun i dv h => ?_, fun i j b dv ev g1 g2 g3 g4 _ _ => (own g1 g3).1.trans (own g2 g4).1.symm, fun i b dv g1 g2 g3 => ?_, dk, fun b o hb e => ?_, fun b hb => T b hb.1, fun _ _ h => h.elim, fun _ _ h => h.elim⟩
  · rcases get_app3 h with ⟨hi, h⟩ | ⟨rfl, rfl⟩ | ⟨h2, h3, rfl⟩
    · obtain ⟨v, g1, g2⟩ := ha.get h
      refine ⟨some v, by rw [List.getElem?_append_left (by simp [hl, hi]), List.getElem?_map, g1]; rfl, ?_⟩
      cases dv with
      | dat d => exact ⟨v, rfl, Da.of g2 hs⟩
      | deck =>
        obtain ⟨p, l, e1, e2⟩ := g2
        exact ⟨p, l, e1, by rw [e2]⟩
      | _ => exact g2.elim
    · exact ⟨_, at_a, us, rfl, eH, hd.of hs⟩
    · refine ⟨none, ?_, trivial⟩
      rw [List.getElem?_append_right (by simp [hl]; omega), List.length_map, hl]
      cases e : i - as.length with
      | zero => omega
      | succ k =>
        rw [List.getElem?_cons_succ]
        have hk : k < m := by omega
        simp [hk]
  · rw [ad g1 g2 g3]
    exact ⟨if_pos rfl, fun z => z.2 rfl, h1⟩
  · by_cases e2 : b = a
    · subst e2
      have e3 : del H b b = none := if_pos rfl
      rw [show ((DC.base ⟨K, W, fun c => S0 c ∧ c ≠ b, del H b, fun _ _ => False, fun _ _ => False⟩) : DC).H0 = del H b from rfl, e3] at e
      cases e
    · exact (del_ne e2).symm.trans e
/-- such a def's body, by data -/
def bodyM (d : DS) (m : Nat) : FM := fun as ds n P => ∀ a, d { nx := fun s => ∃ ds', s.sl[as.length]? = some (.arg a ds') ∧ P .none ds' s.n, rt := fun v s => ∃ ds', s.sl[as.length]? = some (.arg a ds') ∧ P v ds' s.n } ⟨as ++ (.arg a ds :: List.replicate m .un), n⟩
theorem body_okM {K : PySem.W.Frag} {d : DS} {N : List Str} {k : Nat} {vs : List V} {H : Hp} {Q : VK} {X : TS → Prop} (h : ∀ W B H0 G0 Z0, ∃ t, X t ∧ RS ⟨K, W, B, H0, G0, Z0⟩ t d) (hsp : spMut K k (bodyM d (N.length - k)) vs H Q E0) : ∃ t, X t ∧ t { nx := fun _ H' => Q .non H', rt := Q } (L2.start N vs) H := by
  obtain ⟨hl, W, S0, n, us0, a, us, as, ds, P, rfl, T, dk, hm, h0, h1, eH, ha, hda, hF, q⟩ := hsp
  obtain ⟨t, hX, h⟩ := h W (fun b => S0 b ∧ b ≠ a) (del H a) (fun _ _ => False) (fun _ _ => False)
  refine ⟨t, hX, ?_⟩
  unfold L2.start
  rw [hl]
  have fin : ∀ {σ : L2.St} {H' : Hp} {s : DSt} {ds' : List PyData} {v : V} {d : PyData}, s.sl[as.length]? = some (.arg a ds') → P d ds' s.n → Rl (DC.base ⟨K, W, fun b => S0 b ∧ b ≠ a, del H a, fun _ _ => False, fun _ _ => False⟩) σ H' s →
      Da K (Hd (Sof (DC.base ⟨K, W, fun b => S0 b ∧ b ≠ a, del H a, fun _ _ => False, fun _ _ => False⟩) σ s.sl) H') v d → Q v H' := fun {σ H' s ds' v d} e hp R hv => by
    obtain ⟨sl, g1, us', rfl, g2, g3⟩ := R.slots _ _ e
    have hs := hd_mono (S := Sof (DC.base ⟨K, W, fun b => S0 b ∧ b ≠ a, del H a, fun _ _ => False, fun _ _ => False⟩) σ s.sl) (S' := S0) (H := H') fun b hb => by
      by_cases z : b = a
      · subst z
        exact .inr (.inr ⟨_, _, e, rfl, g1⟩)
      · exact .inl ⟨hb, z⟩
    exact q v H' d ds' s.n us' hp R.dk (fun b o nb nz e => R.but b o nb ((del_ne nz).trans e)) g2 (DaAll.of g3 hs) (hv.of hs)
  refine h (DC.base ⟨K, W, fun b => S0 b ∧ b ≠ a, del H a, fun _ _ => False, fun _ _ => False⟩) rfl _ _ (hF a) _ H _ (rl_startM _ T dk hm h0 h1 eH ha hda) ⟨fun σ H' s ⟨ds', e, hp⟩ R => fin e hp R .non, fun σ v H' d s ⟨ds', e, hp⟩ R hv => fin e hp R hv, fun _ _ _ h => h.elim, fun _ _ _ h => h.elim⟩
section
variable {P : Program} {w : World} {K : PySem.W.Frag} {mg : Str → Option Value} {base : Heap} {k : Nat} {f : Addr} {fd : FuncData} {ps : List Str}
theorem okdM {x qual : Str} {st : Stmt} {N : List Str} {d : DS} {m : Nat} (hm : ps.length = m) (F : L2.Fun K x qual st f fd) (S : FnScope N ps (defScope st))
    (body : ∀ (cdv : Value) (A : Around) (outer : List Env) (s : Shared) (H : Hp), Rm k (A.deeper (envOfC qual (defScope st) s.heap.objs.size f cdv)) → ∀ W B H0 G0 Z0,
      ∃ t, PSs (cxOf CX0 P w K mg base N qual (defScope st) f cdv A outer s H E0).nox (defBody st) t ∧ RS ⟨K, W, B, H0, G0, Z0⟩ t d) :
    Fg P w K mg base (k + 1) f fd ps (spMut K m (bodyM d (N.length - m))) :=
  okg F S (fun vs H Q h => by rw [h.1]; exact hm.symm) fun cdv A outer s H vs Q hr h => body_okM (body cdv A outer s H hr) h
end
/-! ### the call of such a def -/
def isOwnA : Option DV → Prop
  | some (.own _) => True
  | some (.arg _ _) => True
  | _ => False
theorem ownA_at {C : DC} {σ : L2.St} {H : Hp} {s : DSt} (R : Rl C σ H s) {i : Nat} (h : isOwnA s.sl[i]?) : ∃ a, σ[i]? = some (some (V.ref a)) := by
  cases e : s.sl[i]? with
  | none => rw [e] at h; exact h.elim
  | some dv =>
    rw [e] at h
    obtain ⟨sl, h1, h2⟩ := R.slots i _ e
    cases dv with
    | own ds =>
      obtain ⟨a, vs, rfl, _⟩ := h2
      exact ⟨a, h1⟩
    | arg b ds =>
      obtain ⟨vs, rfl, _⟩ := h2
      exact ⟨b, h1⟩
    | _ => exact h.elim
def RM (K : KX) (i : Nat) (ta : TA) (dx : DX) : Prop := ∀ C : DC, C.K = K → ∀ s P, dx s P → ∀ (σ : L2.St) (H : Hp) (Q : List V → Hp → Prop), Rl C σ H s →
  (∀ vs H' as s' a, P as s' → Rl C σ H' s' → ArgsOk C.K C.W (Sof C σ s'.sl) H' vs as → σ[i]? = some (some (V.ref a)) → Q (vs ++ [.ref a]) H') → ta σ H Q
def xLast (i : Nat) : DX := fun s P => isOwnA s.sl[i]? ∧ P [] s
theorem rm_last {i : Nat} : RM K i (tCons (tVar i) tNil) (xLast i) := fun C _ s P h σ H Q R q => by
  obtain ⟨a, e⟩ := ownA_at R h.1
  exact rd_cons (rd_var e (rd_nil (q [] H [] s a h.2 R .nil e)))
theorem rm_cons {i : Nat} {te : TE} {ta : TA} {de : DE} {da : DX} (h1 : RE K te de) (h2 : RM K i ta da) : RM K i (tCons te ta) (xCons de da) := fun C hC s P hd σ H Q R q =>
  rd_cons (h1 C hC s _ hd σ H _ R fun v H1 d s1 hd1 R1 hv => h2 (C.keep v d) hC s1 _ hd1 σ H1 _ (R1.keep hv) fun vs H2 ds s2 a hp R2 hvs e => by
    obtain ⟨R3, hv3⟩ := R2.kept
    exact q (v :: vs) H2 (.dat d :: ds) s2 a hp R3 (.cons hv3 hvs) e)
theorem rm_deck {i j : Nat} {ta : TA} {da : DX} (h2 : RM K i ta da) : RM K i (tCons (tVar j) ta) (xDeck j da) := fun C hC s P hd σ H Q R q => by
  unfold xDeck at hd
  split at hd
  · rename_i e
    obtain ⟨sl, h1, p, l, hW, rfl⟩ := R.slots j _ e
    exact rd_cons (rd_var h1 (h2 C hC s _ hd σ H _ R fun vs H2 ds s2 a hp R2 hvs ea => q (.ref p :: vs) H2 (.deck :: ds) s2 a hp R2 (.cons ⟨p, l, hW, rfl⟩ hvs) ea))
  · exact hd.elim
theorem upd_upd {H : Hp} {a : Addr} {x y : HO} (h : H a = some y) : upd (upd H a x) a y = H := funext fun b => by
  by_cases e : b = a
  · subst e
    rw [upd_same, h]
  · rw [upd_ne e, upd_ne e]
/-- the list goes on, by what a called def did to it -/
theorem Rl.called {C : DC} {σ : L2.St} {H H' : Hp} {s : DSt} (R : Rl C σ H s) {i n' : Nat} {a : Addr} {us us' : List V} {ds' : List PyData} {dv ev : DV} (e : s.sl[i]? = some dv) (ho : isOwn dv = true) (hv : ev = .own ds' ∨ ev = .arg a ds') (h1 : σ[i]? = some (some (V.ref a))) (eH : H a = some (.lst us))
    (dk : DkOk C.W H' n') (bt : ∀ b o, ¬ Mu C.W b → b ≠ a → H b = some o → H' b = some o) (e' : H' a = some (.lst us')) (hd : DaAll C.K (Hd (Sof C σ s.sl) H') us' ds') : Rl C σ H' ⟨s.sl.set i ev, n'⟩ := by
  obtain ⟨f1, f2, f3⟩ := R.fr i a dv e ho h1
  have R2 : Rl C σ (upd H' a (.lst us)) ⟨s.sl, n'⟩ := R.step (fun b o nb eb => by
    by_cases z : b = a
    · subst z
      rw [upd_same]
      rw [eH] at eb
      exact eb
    · rw [upd_ne z]
      exact bt b o nb z eb) (dk.upd f3)
  have sa : Sof C σ s.sl a := .inr (.inr ⟨i, _, e, ho, h1⟩)
  have ho2 : isOwn ev = true := by rcases hv with rfl | rfl <;> rfl
  have hs1 : Same (Hd (Sof C σ s.sl) H') (Hd (Sof C σ s.sl) (upd H' a (.lst us))) := fun b u z => by
    obtain ⟨z1, z2⟩ := hd_some z
    have hb : b ≠ a := fun w => z1 (by rw [w]; exact sa)
    rw [hd_ne z1, upd_ne hb]
    exact z2
  have R3 := R2.mut (o := .lst us') (ev := ev) e ho ho2 h1 fun hs => by
    rcases hv with rfl | rfl
    · exact ⟨a, us', rfl, upd_same, (hd.of hs1).of hs⟩
    · exact ⟨us', rfl, upd_same, (hd.of hs1).of hs⟩
  rw [upd_upd e'] at R3
  exact R3
/-- f(.., x): x in slot i, one's own, may be changed -/
def dCallM (i m : Nat) (F : FM) (da : DX) : DS := fun E s => da s fun as s1 => as.length + 1 = m ∧ match s1.sl[i]? with
  | some (.own ds) => F as ds s1.n fun _ ds' n' => E.nx ⟨s1.sl.set i (.own ds'), n'⟩
  | some (.arg a ds) => F as ds s1.n fun _ ds' n' => E.nx ⟨s1.sl.set i (.arg a ds'), n'⟩
  | _ => False
theorem rs_callM {i m : Nat} {F : FM} {ta : TA} {da : DX} (h : RM K i ta da) : RS K (tDrop (tCall (spMut K m F) [] E0 ta)) (dCallM i m F da) := fun C hC E s hd σ H D R o => by
  refine rd_call (h C hC s _ hd σ H _ R fun vs H1 as s1 a hp R1 hv ea => ?_)
  subst hC
  obtain ⟨hl, hp⟩ := hp
  cases e : s1.sl[i]? with
  | none => rw [e] at hp; exact hp.elim
  | some dv =>
    rw [e] at hp
    cases dv with
    | own ds =>
      obtain ⟨sl, g1, b, us, rfl, g2, g3⟩ := R1.slots i _ e
      rw [ea] at g1
      cases g1
      refine ⟨by rw [List.append_nil, List.length_append, hv.len]; exact hl, C.W, Sof C σ s1.sl, s1.n, vs, a, us, as, ds, _, by rw [List.append_nil], R1.taken, R1.dk, fun b hb => .inr (.inl hb), .inr (.inr ⟨i, _, e, rfl, ea⟩), (R1.fr i a _ e rfl ea).2.2, g2, hv, g3, hp, fun v H' d ds' n' us' hP hD hB e' hda hv' => ?_⟩
      exact o.nx _ _ _ hP (R1.called e rfl (.inl rfl) ea g2 hD hB e' hda)
    | arg b ds =>
      obtain ⟨sl, g1, us, rfl, g2, g3⟩ := R1.slots i _ e
      rw [ea] at g1
      cases g1
      refine ⟨by rw [List.append_nil, List.length_append, hv.len]; exact hl, C.W, Sof C σ s1.sl, s1.n, vs, _, us, as, ds, _, by rw [List.append_nil], R1.taken, R1.dk, fun b hb => .inr (.inl hb), .inr (.inr ⟨i, _, e, rfl, ea⟩), (R1.fr i _ _ e rfl ea).2.2, g2, hv, g3, hp, fun v H' d ds' n' us' hP hD hB e' hda hv' => ?_⟩
      exact o.nx _ _ _ hP (R1.called e rfl (.inr rfl) ea g2 hD hB e' hda)
    | _ => exact hp.elim
/-! ### lists that may be one's own -/
/-- x.append(e), x an argument -/
def dAppA (i : Nat) (de : DE) : DS := fun E s => (match s.sl[i]? with
  | some (.arg _ _) => True
  | _ => False) ∧ de s fun d s1 => match s1.sl[i]? with
  | some (.arg a ds) => ds.length < 1000000 ∧ E.nx ⟨s1.sl.set i (.arg a (ds ++ [d])), s1.n⟩
  | _ => False
theorem rs_appA {i : Nat} {te : TE} {de : DE} (h : RE K te de) : RS K (tDrop (tBM K "list" rAppend (tVar i) (tCons te tNil))) (dAppA i de) := fun C hC E s hd σ H D R o => by
  obtain ⟨h0, hd⟩ := hd
  split at h0
  · rename_i a0 ds0 e0
    obtain ⟨sl, h1, vs, rfl, h2, _⟩ := R.slots i _ e0
    refine ⟨_, h1, ty_list h2, h C hC s _ hd σ H _ R fun v H1 d s1 hp R1 hv => rd_nil ?_⟩
    cases e : s1.sl[i]? with
    | none => rw [e] at hp; exact hp.elim
    | some dv =>
      cases dv with
      | arg b ds =>
        rw [e] at hp
        obtain ⟨sl, k1, us, rfl, k2, k3⟩ := R1.slots i _ e
        rw [h1] at k1
        cases k1
        exact ⟨_, us, v, rfl, rfl, k2, by rw [k3.len]; exact Nat.lt_of_lt_of_le hp.1 sz6, o.nx _ _ _ hp.2 (R1.mut e rfl rfl h1 fun hs => ⟨us ++ [v], rfl, upd_same, (k3.append (.cons hv .nil)).of hs⟩)⟩
      | _ => rw [e] at hp; exact hp.elim
  · exact h0.elim
/-- x in xs, x flat, xs a list in a slot -/
def dInVar (neg : Bool) (de : DE) (i : Nat) : DE := fun s P => de s fun d s1 => match flatD d with
  | some x => dListVar i s1 fun ds s2 => ∃ vs, flatsD ds = some vs ∧ flatV x = true ∧ vs.all flatV = true ∧ P (.bool (if neg then !inV x vs else inV x vs)) s2
  | none => False
theorem re_inVar {neg : Bool} {i : Nat} {te : TE} {de : DE} (h : RE K te de) : RE K (tOp (rIn K neg) te (tVar i)) (dInVar neg de i) := fun C hC s P hd σ H Q R q =>
  rd_op (h C hC s _ hd σ H _ R fun v H1 d s1 hp R1 hv => by
    cases e1 : flatD d with
    | none => rw [e1] at hp; exact hp.elim
    | some x =>
      rw [e1] at hp
      obtain ⟨a, us, ds, h1, ⟨vs, e2, g1, g2, hP⟩, h4, h5⟩ := list_at R1 hp
      subst hC
      have e3 := flats_da h5 e2
      subst e3
      have e4 := flat_v hv e1
      subst e4
      exact rd_var h1 ⟨a, us, rfl, .inl (sq h4), g1, g2, q _ H1 _ s1 hP R1 (.bl _)⟩)
end DL

set_option Elab.async false
set_option linter.all false
set_option maxRecDepth 100000
set_option maxHeartbeats 4000000
/-! EQS: two lists of texts compared, of whatever signs. -/
namespace EQS
open PySem PySem.Spec PyProof.Rows L2 GG PT
variable {X : Cx}
def rEqSs (K : PySem.W.Frag) : R2 := fun x y H Q => ∃ (a b : Addr) (xs ys : List Str), x = .ref a ∧ y = .ref b ∧ SqL K H a (xs.map V.str) ∧ SqL K H b (ys.map V.str) ∧ Q (.bl (decide (xs = ys))) H
theorem strs_get {xs : List Str} {us : List Value} (r : Vals (xs.map V.str) us) {j : Nat} (hj : j < us.length) : ∃ x t, xs[j]? = some x ∧ us[j] = Value.str x t := by
  have hl := r.length
  rw [List.length_map] at hl
  have e : xs[j]? = some (xs[j]'(by omega)) := List.getElem?_eq_getElem (by omega)
  obtain ⟨u, h1, t, h2⟩ := r.get (i := j) (x := V.str (xs[j]'(by omega))) (by rw [List.getElem?_map, e]; rfl)
  rw [List.getElem?_eq_getElem hj] at h1
  cases h1
  exact ⟨_, t, e, h2⟩
def eAt (xs ys : List Str) (j : Nat) : Bool := xs.getD j "" == ys.getD j ""
theorem all_eAt {xs ys : List Str} (hl : xs.length = ys.length) : (List.range xs.length).all (eAt xs ys) = decide (xs = ys) := by
  by_cases h : xs = ys
  · subst h
    rw [decide_eq_true rfl, List.all_eq_true]
    intro j _
    exact beq_self_eq_true _
  · rw [decide_eq_false h]
    cases e : (List.range xs.length).all (eAt xs ys) with
    | false => rfl
    | true =>
      rw [List.all_eq_true] at e
      refine absurd (List.ext_getElem hl fun j h1 h2 => ?_) h
      have z := e j (List.mem_range.mpr h1)
      unfold eAt at z
      rw [List.getD_eq_getElem?_getD, List.getD_eq_getElem?_getD, List.getElem?_eq_getElem h1, List.getElem?_eq_getElem h2] at z
      exact eq_of_beq z
theorem op_eqSs (hu : X.A.units + 64 < cLine) : OpR X (compareOp .Eq) (rEqSs X.K) := by
  intro pins s σ H x y v u Q I rx ry h
  obtain ⟨a, b, xs, ys, rfl, rfl, ha, hb, q⟩ := h
  cases (show v = Value.ref a from rx)
  cases (show u = Value.ref b from ry)
  obtain ⟨its, rv, pl, _⟩ := I.list ha
  obtain ⟨its2, rv2, pl2, _⟩ := I.list hb
  have l1 := rv.length
  have l2 := rv2.length
  rw [List.length_map] at l1 l2
  by_cases hl : xs.length = ys.length
  · refine SeqAt.eq_listAt (e := eAt xs ys) pl.isList pl2.isList (by simp; omega) (by omega) (fun j h1 h2 => ?_) ?_
    · have h1' : j < its.length := by simpa using h1
      have h2' : j < its2.length := by simpa using h2
      obtain ⟨x, t, e1, e2⟩ := strs_get rv h1'
      obtain ⟨y, t', e3, e4⟩ := strs_get rv2 h2'
      have z1 : its.toArray[j] = Value.str x t := by simpa using e2
      have z2 : its2.toArray[j] = Value.str y t' := by simpa using e4
      rw [z1, z2]
      have ee : eAt xs ys j = (x == y) := by
        unfold eAt
        rw [List.getD_eq_getElem?_getD, List.getD_eq_getElem?_getD, e1, e3]
        rfl
      rw [ee]
      exact SeqAt.EqAt.str_str x t y t'
    · have e : (List.range its.toArray.size).all (eAt xs ys) = decide (xs = ys) := by
        rw [List.size_toArray, ← l1]
        exact all_eAt hl
      rw [e]
      exact ⟨.bl _, H, I, rfl, q⟩
  · refine SeqAt.eq_list_lengthsAt pl.isList pl2.isList ?_ (by omega) ?_
    · rw [List.size_toArray, List.size_toArray, ← l1, ← l2]
      simpa using hl
    · have e : decide (xs = ys) = false := decide_eq_false fun z => hl (by rw [z])
      rw [e] at q
      exact ⟨.bl false, H, I, rfl, q⟩
end EQS
namespace DL
open PySem PySem.Spec PyProof.Rows L2 GG DD PT
variable {K : KX}
def oEqSs : D2 := fun d e P => match d, e with
  | .list ds, .list es => ∃ xs ys, strsD ds = some xs ∧ strsD es = some ys ∧ P (.bool (decide (xs = ys)))
  | _, _ => False
theorem ro_eqSs : RO K (EQS.rEqSs K) oEqSs := fun S H x y d e P Q _ hx hy h q => by
  unfold oEqSs at h
  split at h
  · obtain ⟨xs, ys, e1, e2, hp⟩ := h
    obtain ⟨a, vs, rfl, k1, k2⟩ := da_list hx
    obtain ⟨b, us, rfl, k3, k4⟩ := da_list hy
    have z1 := strs_da k2 e1
    have z2 := strs_da k4 e2
    subst z1
    subst z2
    exact ⟨a, b, xs, ys, rfl, rfl, sq k1, sq k3, q _ H _ hp (Same.refl _) (.bl _)⟩
  · exact h.elim
end DL

set_option Elab.async false
set_option linter.all false
set_option maxRecDepth 100000
set_option maxHeartbeats 4000000
/-! LBM: a def that calls itself and changes a list of its caller's. -/
namespace DL
open PySem PySem.Spec PyProof.Rows L2 GG DD PT
section
variable {P : Program} {w : World} {K : PySem.W.Frag} {mg : Str → Option Value} {base : Heap} {f : Addr} {fd : FuncData} {ps : List Str} {k : Nat}
theorem fg_noneM (m : Nat) : Fg P w K mg base k f fd ps (spMut K m fun _ _ _ _ => False) :=
  ⟨fun vs H Q h => by
    obtain ⟨_, _, _, _, _, _, _, _, _, _, _, _, _, _, _, _, _, _, _, hF, _⟩ := h
    exact hF.elim, fun A o s H a us vs Q r e b v h => by
    obtain ⟨_, _, _, _, _, _, _, _, _, _, _, _, _, _, _, _, _, _, _, hF, _⟩ := h
    exact hF.elim⟩
theorem fg_recM {m l : Nat} {F : Nat → FM} (h0 : F 0 = fun _ _ _ _ => False) (step : ∀ j, Fg P w K mg base (l + j) f fd ps (spMut K m (F j)) → Fg P w K mg base (l + j + 1) f fd ps (spMut K m (F (j + 1)))) : ∀ j, Fg P w K mg base (l + j) f fd ps (spMut K m (F j))
  | 0 => by
    rw [h0]
    exact fg_noneM m
  | j + 1 => step j (fg_recM h0 step j)
end
end DL

set_option Elab.async false
set_option linter.all false
set_option maxRecDepth 100000
set_option maxHeartbeats 4000000
/-! GXA: the context of a generator expression's own frame. -/
namespace GXR
open PySem PySem.Spec PyProof.Rows L2 GG GxR
/-- the generator expression's scope: its targets (slots vs), the walked thing, captured names -/
structure GScope (X : Cx) (scope : Scope) (vs : List Nat) : Prop where
  kind : scope.kind = .function
  co : scope.isCoroutine = false
  cell : ∀ y ∈ scope.names, y.2 ≠ .cell
  dot : scope.names.lookup (".0" : Str) = some NameKind.local
  free : ∀ y ∈ scope.names, y.2 = .free → X.env.scope.names.lookup y.1 = some .cell ∨ X.env.scope.names.lookup y.1 = some .free
  vis : ∀ (i : Nat) (x : Str), X.N[i]? = some x → i ∉ vs → Vis scope x → scope.names.lookup x = some .free
/-- the generator's frame as a context -/
def gcx (X : Cx) (scope : Scope) (code : Value) (C : Addr) (pins : List (Addr × Obj)) (fp : List Addr) (s0 : Shared) (H0 : Hp) (A' : Around) : Cx where
  prog := X.prog
  w := X.w
  K := X.K
  mg := X.mg
  base := X.base
  A := A'
  N := X.N
  s_0 := s0
  H_0 := H0
  env := genEnv scope (cloFrom X.env.cells scope.names []) C code builtinsNs X.env
  outer := X.stack
  stack := genEnv scope (cloFrom X.env.cells scope.names []) C code builtinsNs X.env :: X.stack
  ex := fp
  fn := fun _ => false
  calm := true
  pn := X.pn ++ pins
  xe := fun _ _ => False
section
variable {X : Cx} {scope : Scope} {vs : List Nat} {code : Value} {C : Addr} {pins : List (Addr × Obj)} {fp : List Addr} {s0 : Shared} {H0 : Hp} {A' : Around} {σ : L2.St}
theorem GScope.has (S : GScope X scope vs) (ok : X.Ok) : ∀ y ∈ scope.names, y.2 = .free → ∃ c, X.env.cells.lookup y.1 = some c := fun y hy e => (S.free y hy e).elim (fun z => ok.has _ (.inl z)) fun z => ok.has _ (.inr z)
theorem gcx_ok (I0 : Inv X pins σ H0 s0) (S : GScope X scope vs) (hf : ∀ b ∈ fp, FpOk X pins H0 b) (hfo : ∀ b ∈ fp, ∃ o, s0.heap.get? b = some o) (hC : s0.heap.objs.size = C) (hA : A'.frames = some (genEnv scope (cloFrom X.env.cells scope.names []) C code builtinsNs X.env :: X.stack)) (hh : A'.handled = none) :
    (gcx X scope code C pins fp s0 H0 A').Ok := by
  have sub : ∀ y c, (cloFrom X.env.cells scope.names []).lookup y = some c → X.env.cells.lookup y = some c := fun y c e => NdefX.clo_cm (S.has I0.ok) e
  have nofs : ∀ b ∈ fp, b ∉ frs X.stack := fun b hb hm => by
    obtain ⟨_, f1, f2, _⟩ := hf b hb
    rcases List.mem_cons.mp (I0.stkSub b hm) with z | z
    · exact f1 z
    · exact f2 z
  refine ⟨I0.ok.mod, S.kind, I0.ok.glob, rfl, Nat.le_of_eq hC, fun x y c h1 h2 => I0.ok.inj x y c (sub x c h1) (sub y c h2), fun x hx => ?_, fun x c h => (by cases h), fun _ => hh, hA, .inr ⟨rfl, rfl⟩, fun b hb => ⟨fun z => ?_, fun x c e => (hf b hb).2.2.2.2.1 x c (sub x c e)⟩, fun b o e => I0.bs b o e,
    Nat.le_trans I0.ok.bsz I0.sz, fun b o e hb => ?_, nofs, I0.stack, I0.stkFree⟩
  · have hx : scope.names.lookup x = some .cell ∨ scope.names.lookup x = some .free := hx
    rcases hx with hx | hx
    · exact absurd rfl (S.cell _ (PySem.mem_of_lookup hx))
    · have hm := PySem.mem_of_lookup hx
      obtain ⟨c, hc⟩ := S.has I0.ok _ hm rfl
      exact ⟨c, NdefX.clo_has (S.has I0.ok) hm hc⟩
  · obtain ⟨o, ho⟩ := hfo b hb
    have z1 := Heap.lt_size ho
    have z : b = C := z
    rw [z, ← hC] at z1
    exact absurd z1 (Nat.lt_irrefl _)
  · rcases (hf b hb).2.2.2.1 with z | z
    · exact I0.ok.noex b o e z
    · exact absurd (Nat.lt_of_lt_of_le (Heap.lt_size e) (Nat.le_trans I0.ok.bsz z)) (Nat.lt_irrefl _)
/-- the frame begins -/
theorem gcx_start {h' : Heap} {g' : Array GenState} {d' : Drawn} {t' : Nat} {m : Str → Option Value} {pl : List (Addr × Obj)} (I0 : Inv X pins σ H0 s0) (S : GScope X scope vs) (hf : ∀ b ∈ fp, FpOk X pins H0 b) (hfo : ∀ b ∈ fp, ∃ o, s0.heap.get? b = some o) (hC : s0.heap.objs.size = C)
    (hA : A'.frames = some (genEnv scope (cloFrom X.env.cells scope.names []) C code builtinsNs X.env :: X.stack)) (hh : A'.handled = none) (kh : ∀ b o, s0.heap.get? b = some o → h'.get? b = some o) (hn : h'.Ns C m) (hg : AllBare g')
    (hp : ∀ p ∈ pl, h'.get? p.1 = some p.2 ∧ C < p.1 ∧ ∀ v, p.2.data ≠ .cell v) : Inv (gcx X scope code C pins fp s0 H0 A') pl (wipe σ vs) H0 { s0 with heap := h', gens := g', drawn := d', toks := t' } := by
  have sub : ∀ y c, (cloFrom X.env.cells scope.names []).lookup y = some c → X.env.cells.lookup y = some c := fun y c e => NdefX.clo_cm (S.has I0.ok) e
  have fresh : H0 C = none := I0.hok.fresh (Nat.le_of_eq hC)
  refine ⟨gcx_ok I0 S hf hfo hC hA hh, rfl, hg, Un.kept kh, ⟨m, hn, fun i x v h1 h2 h3 => ?_⟩, fun x c h => ?_, fresh, fun x c h => I0.freeC x c (sub x c h), fun p hpm => ?_, I0.hok.kept kh, ?_⟩
  · obtain ⟨h4, h5⟩ := wipe_some (show (wipe σ vs)[i]? = some (some v) from h2)
    have hx : scope.names.lookup x = some .free := S.vis i x h1 h5 h3
    have hm := PySem.mem_of_lookup hx
    obtain ⟨m0, _, hl⟩ := I0.loc
    have vX : Vis X.env.scope x := (S.free _ hm rfl).elim (fun z => .inr (.inl z)) fun z => .inr (.inr z)
    obtain ⟨u, ru, q⟩ := hl i x v h1 h4 vX
    refine ⟨u, ru, .inr ⟨.inr hx, ?_⟩⟩
    rcases q with ⟨q, _⟩ | ⟨_, c, hc, o, ho, hd⟩
    · rcases S.free _ hm rfl with z | z
      · have q : X.env.scope.names.lookup x = some .local := q
        have z : X.env.scope.names.lookup x = some .cell := z
        rw [q] at z
        cases z
      · have q : X.env.scope.names.lookup x = some .local := q
        have z : X.env.scope.names.lookup x = some .free := z
        rw [q] at z
        cases z
    · exact ⟨c, NdefX.clo_has (S.has I0.ok) hm hc, o, kh _ _ ho, hd⟩
  · obtain ⟨v, o, ho, hd⟩ := I0.cell x c (sub x c h)
    exact ⟨v, o, kh _ _ ho, hd⟩
  · rcases List.mem_append.mp hpm with hpm | hpm
    · obtain ⟨p1, p2, p3, p4, p5⟩ := I0.pin p hpm
      refine ⟨kh _ _ p1, p2, fun z => ?_, fun z => ?_, p5⟩
      · have l := Heap.lt_size p1
        have z : p.1 = C := z
        rw [z, ← hC] at l
        exact Nat.lt_irrefl _ l
      · rcases List.mem_cons.mp (I0.stkSub p.1 z) with z | z
        · exact p3 z
        · exact p4 z
    · obtain ⟨p1, p2, p3⟩ := hp p hpm
      refine ⟨p1, I0.hok.fresh (by rw [hC]; exact Nat.le_of_lt p2), fun z => ?_, fun z => ?_, p3⟩
      · have z : p.1 = C := z
        rw [z] at p2
        exact Nat.lt_irrefl _ p2
      · rcases List.mem_cons.mp (I0.stkSub p.1 z) with z | z
        · have l := I0.lt
          rw [← z, hC] at l
          exact Nat.lt_irrefl _ (Nat.lt_trans p2 l)
        · exact I0.nofs (by rw [hC]; exact Nat.le_of_lt p2) z
  · rw [wipe_length]
    exact I0.len
/-- behind the generator: the def goes on -/
theorem gcx_up {σ' : L2.St} {H' : Hp} {s' : Shared} {pl : List (Addr × Obj)} (I0 : Inv X pins σ H0 s0) (hf : ∀ b ∈ fp, FpOk X pins H0 b) (J : Inv (gcx X scope code C pins fp s0 H0 A') pl σ' H' s') : Inv X pins σ H' s' :=
  I0.call' (ch := fp) J.os J.base J.hok J.bare fun b hb => ⟨(hf b hb).2.2.2.1, (hf b hb).2.1, fun x c e => (hf b hb).2.2.2.2.1 x c e, (hf b hb).2.2.2.2.2⟩
end
end GXR
namespace GXR
open PySem PySem.Spec PyProof.Rows L2 GG GxR
def gsB (N : List Str) (sc scope : Scope) (vs : List Nat) : Bool :=
  scope.names.all (fun y => !(y.2 == .cell)) && (scope.names.all (fun y => !(y.2 == .free) || (sc.names.lookup y.1 == some .cell || sc.names.lookup y.1 == some .free)) &&
    (List.range N.length).all fun i => vs.contains i || (match scope.names.lookup (N.getD i "") with
      | none => true
      | some .free => true
      | some .local => false
      | some .cell => false
      | some _ => true))
theorem gscope_by {X : Cx} {N : List Str} {sc scope : Scope} {vs : List Nat} (h : gsB N sc scope vs = true) (hN : X.N = N := by rfl) (hs : X.env.scope = sc := by rfl) (k : scope.kind = .function := by rfl) (co : scope.isCoroutine = false := by rfl)
    (dot : scope.names.lookup (".0" : Str) = some NameKind.local := by rfl) : GScope X scope vs := by
  unfold gsB at h
  rw [Bool.and_eq_true, Bool.and_eq_true] at h
  obtain ⟨h1, h2, h3⟩ := h
  refine ⟨k, co, fun y hy e => ?_, dot, fun y hy e => ?_, fun i x hx hi hv => ?_⟩
  · have z := List.all_eq_true.mp h1 y hy
    rw [e] at z
    cases z
  · have z := List.all_eq_true.mp h2 y hy
    rw [e] at z
    rw [hs]
    have z : (sc.names.lookup y.1 == some .cell || sc.names.lookup y.1 == some .free) = true := z
    rw [Bool.or_eq_true, beq_iff_eq, beq_iff_eq] at z
    exact z
  · rw [hN] at hx
    have hl := (List.getElem?_eq_some_iff.mp hx).1
    have z := List.all_eq_true.mp h3 i (List.mem_range.mpr hl)
    have ex : N.getD i "" = x := by rw [List.getD_eq_getElem?_getD, hx]; rfl
    rw [ex] at z
    have hc : vs.contains i = false := by
      cases q : vs.contains i with
      | false => rfl
      | true => exact absurd (List.contains_iff_mem.mp q) hi
    rw [hc, Bool.false_or] at z
    rcases hv with e | e | e
    · rw [e] at z
      cases z
    · rw [e] at z
      cases z
    · exact e
end GXR

set_option Elab.async false
set_option linter.all false
set_option maxRecDepth 100000
set_option maxHeartbeats 4000000
/-! GXB: a generator expression's segments. -/
namespace GXR
open PySem PySem.Spec PyProof.Rows L2 GG GxR
theorem over_comp {A : Around} {elt tg iter : Expr} {ifs : List Expr} {scope : Scope} {gpos : Pos} {it : Value} {cenv : Env} : A.over (.compLoop (.GeneratorExp elt [⟨tg, iter, ifs, 0⟩] scope gpos) 0 it .none cenv) [] = A.deeper cenv := by
  first
    | rfl
    | (obtain ⟨hd, d, fr, gs, u⟩ := A; simp [Around.over, Around.deeper, marksOver, frameCount, unitsOf, envsOf, guardsOf, pushEnvs, pushGuards, Code.envs, Code.env?, Code.isFrame, Code.guards, Code.isGuard, Code.weight, Code.cUnits])
theorem over_comp0 {A : Around} {elt tg iter : Expr} {ifs : List Expr} {scope : Scope} {gpos : Pos} {it : Value} {cenv : Env} : A.over (.compStart (.GeneratorExp elt [⟨tg, iter, ifs, 0⟩] scope gpos) 0 it .none cenv) [] = A.deeper cenv := by
  first
    | rfl
    | (obtain ⟨hd, d, fr, gs, u⟩ := A; simp [Around.over, Around.deeper, marksOver, frameCount, unitsOf, envsOf, guardsOf, pushEnvs, pushGuards, Code.envs, Code.env?, Code.isFrame, Code.guards, Code.isGuard, Code.weight, Code.cUnits])
/-- between the turns -/
structure GSt (Y : Cx) (pl : List (Addr × Obj)) (σ0 : L2.St) (fp : List Addr) (tn : Nat → Heap → Prop) (i : Nat) (H : Hp) (s : Shared) : Prop where
  inv : Inv Y pl σ0 H s
  tn : tn i s.heap
  nf : ∀ b ∈ fp, H b = none
/-- what a turn does: J the walked thing, m its length; W at the head of a turn, VY behind a yield, Dn at the end -/
def Turns (J : It) (m : Nat) (σ0 : L2.St) (vs : List Nat) (g : TG) (tt : TT) (te : TE) (W : Nat → Hp → Prop) (VY : Nat → V → Hp → Prop) (Dn : Hp → Prop) : Prop :=
  ∀ i H, W i H → (i = m ∧ J.stop i H ∧ Dn H) ∨ (i < m ∧ J.go i H ∧ ∀ x H', J.yld i H x H' → g x σ0 H' fun σ2 H2 => wipe σ2 vs = σ0 ∧ tt σ2 H2 fun b H3 => if b = true then te σ2 H3 fun y H4 => VY (i + 1) y H4 else W (i + 1) H3)
def gProto (Y : Cx) (pl : List (Addr × Obj)) (σ0 : L2.St) (fp : List Addr) (tn : Nat → Heap → Prop) (m : Nat) (W : Nat → Hp → Prop) (VY : Nat → V → Hp → Prop) : Protocol := fun n _ v s1 kap =>
  ∃ (j : Nat) (y : V) (H' : Hp), RelV y v ∧ GSt Y pl σ0 fp tn j H' s1 ∧ VY j y H' ∧ m ≤ n + j ∧ ∀ s'', GSt Y pl σ0 fp tn j H' s'' → W j H' → kap (.send .none) s''
def gEnd (Y : Cx) (pl : List (Addr × Obj)) (σ0 : L2.St) (Dn : Hp → Prop) : GenEnd := fun _ _ r s1 => r = .ok .next ∧ ∃ H', Inv Y pl σ0 H' s1 ∧ Dn H'
section
variable {Y : Cx} {A : Around} {pl : List (Addr × Obj)} {σ0 : L2.St} {fp : List Addr} {tn : Nat → Heap → Prop} {m : Nat} {W : Nat → Hp → Prop} {VY : Nat → V → Hp → Prop} {Dn : Hp → Prop} {J : It} {vs : List Nat} {g : TG} {tt : TT} {te : TE}
  {elt tg iter : Expr} {ifs : List Expr} {scope : Scope} {gpos : Pos} {it : Addr}
theorem seg_loop (hx : ∀ e s, ¬ Y.xe e s) (hc : Y.calm = true) (hA : Y.A = A.deeper Y.env) (hco : Y.env.scope.isCoroutine = false) (hfp : ∀ b ∈ fp, b ∈ Y.ex) (hpl : ∀ p ∈ Y.pn ++ pl, p.1 ∉ fp)
    (T : Turn Y.prog Y.w Y.K tg J fp it tn) (hg : PG Y tg g) (ht : PTs Y ifs tt) (he : PE Y elt te) (turn : Turns J m σ0 vs g tt te W VY Dn) :
    ∀ (k i n : Nat) (s₀ s : Shared) (H : Hp), m ≤ k + i → m ≤ n + i → GSt Y pl σ0 fp tn i H s → W i H →
      Seg (model Y.prog Y.w) A (gEnd Y pl σ0 Dn) (gProto Y pl σ0 fp tn m W VY) n s₀ (.compLoop (.GeneratorExp elt [⟨tg, iter, ifs, 0⟩] scope gpos) 0 (.ref it) .none Y.env)
        ((model Y.prog Y.w).den (.compLoop (.GeneratorExp elt [⟨tg, iter, ifs, 0⟩] scope gpos) 0 (.ref it) .none Y.env)) [] s := by
  have stat : ∀ {σ' : L2.St} {H' : Hp} {s' : Shared}, Inv Y pl σ' H' s' → (∀ b ∈ fp, H' b = none) → ∀ b ∈ fp, FpOk Y pl H' b := fun {σ' H' s'} I' hn b hb =>
    ⟨hn b hb, (I'.ok.exf b (hfp b hb)).1, I'.ok.exfs b (hfp b hb), .inl (hfp b hb), fun x c e => (I'.ok.exf b (hfp b hb)).2 x c e, fun p hp z => hpl p hp (z ▸ hb)⟩
  intro k
  induction k with
  | zero =>
    intro i n s₀ s H hk hn G w0
    rcases turn i H w0 with ⟨him, stop, dn⟩ | ⟨hlt, _⟩
    · show Seg _ A _ _ _ s₀ _ ((compTurn (.GeneratorExp elt [⟨tg, iter, ifs, 0⟩] scope gpos) 0 (.ref it) .none Y.env).onRaise (leaving Y.env)) [] s
      rw [compTurn_gen, Sem.onRaise_eq_wrap]
      refine seg_bind_wrap (wpAny_standAt ?_)
      refine seg_bind_wrap ?_
      rw [over_comp, ← hA]
      have td := T.done Y rfl rfl rfl hc i pl s _ H (fun _ _ => False) G.inv (stat G.inv G.nf) G.tn stop
      refine wpAny_mono td (fun r s6 ⟨hr, I6⟩ => ?_) fun _ _ z => z.elim
      subst hr
      exact seg_end (.ok .next) ⟨rfl, H, I6, dn⟩
    · omega
  | succ k ih =>
    intro i n s₀ s H hk hn G w0
    rcases turn i H w0 with ⟨him, stop, dn⟩ | ⟨hlt, go, step⟩
    · show Seg _ A _ _ _ s₀ _ ((compTurn (.GeneratorExp elt [⟨tg, iter, ifs, 0⟩] scope gpos) 0 (.ref it) .none Y.env).onRaise (leaving Y.env)) [] s
      rw [compTurn_gen, Sem.onRaise_eq_wrap]
      refine seg_bind_wrap (wpAny_standAt ?_)
      refine seg_bind_wrap ?_
      rw [over_comp, ← hA]
      have td := T.done Y rfl rfl rfl hc i pl s _ H (fun _ _ => False) G.inv (stat G.inv G.nf) G.tn stop
      refine wpAny_mono td (fun r s6 ⟨hr, I6⟩ => ?_) fun _ _ z => z.elim
      subst hr
      exact seg_end (.ok .next) ⟨rfl, H, I6, dn⟩
    · show Seg _ A _ _ _ s₀ _ ((compTurn (.GeneratorExp elt [⟨tg, iter, ifs, 0⟩] scope gpos) 0 (.ref it) .none Y.env).onRaise (leaving Y.env)) [] s
      rw [compTurn_gen, Sem.onRaise_eq_wrap]
      refine seg_bind_wrap (wpAny_standAt ?_)
      refine seg_bind_wrap ?_
      rw [over_comp, ← hA]
      have ti := T.item Y rfl rfl rfl hc i pl s _ H (fun _ _ => False) G.inv (stat G.inv G.nf) G.tn go
      refine wpAny_mono ti (fun r s6 ⟨u, hr, h6⟩ => ?_) fun _ _ z => z.elim
      subst hr
      refine seg_bind_wrap ?_
      rw [over_comp, ← hA]
      refine wpAny_mono h6 (fun _ s7 ⟨x, H7, I7, r7, y7, st7, n7⟩ => ?_) fun _ _ z => z.elim
      have I7' := I7.pinned (stat I7 n7) (T.obj _ _ st7)
      refine seg_bind_wrap ?_
      rw [over_comp, ← hA]
      refine wpAny_mono (hg.run _ s7 _ H7 x u _ I7' r7 (step x H7 y7)) (fun _ s8 ⟨σ8, H8, I8, hw8, q8⟩ => ?_) fun e s z => absurd z (hx e s)
      refine seg_bind_wrap ?_
      rw [over_comp, ← hA]
      refine wpAny_mono (ht.run _ s8 σ8 H8 _ I8 q8) (fun b s9 ⟨H9, I9, q9⟩ => ?_) fun e s z => absurd z (hx e s)
      have fin : ∀ {s' : Shared} {H' : Hp}, Inv Y (pl ++ pinsAt fp s7.heap) σ8 H' s' → GSt Y pl σ0 fp tn (i + 1) H' s' := fun {s' H'} I' => by
        have pin' : ∀ b ∈ fp, ∀ o, s7.heap.get? b = some o → s'.heap.get? b = some o ∧ H' b = none := fun b hb o e =>
          let z := I'.pin (b, o) (List.mem_append_right _ (List.mem_append_right _ (mem_pinsAt hb e)))
          ⟨z.1, z.2.1⟩
        have hl : σ0.length = σ8.length := by rw [← hw8, wipe_length]
        refine ⟨(I'.unpinned (pins := pl)).weak hl (fun j v e => ?_), T.keep _ _ _ st7 fun b hb o e => (pin' b hb o e).1, fun b hb => ?_⟩
        · rw [← hw8] at e
          exact (wipe_some e).1
        · obtain ⟨o, e, _⟩ := T.obj _ _ st7 b hb
          exact (pin' b hb o e).2
      cases b with
      | false =>
        simp only [Bool.false_eq_true, if_false] at q9 ⊢
        exact seg_again rfl (ih (i + 1) n s₀ s9 H9 (by omega) (by omega) (fin I9) q9)
      | true =>
        simp only [if_true] at q9 ⊢
        have hy : ∀ v, yieldOut Y.env v = yieldValue v := fun v => by simp only [yieldOut, hco, Bool.false_eq_true, if_false]
        simp only [hy]
        rw [Sem.bind_eq_wrap', Sem.bind_eq_wrap', Sem.wrap_wrap, Sem.wrap_wrap]
        refine seg_wrap ?_
        rw [over_comp, ← hA]
        refine wpAny_mono (he.run _ s9 σ8 H9 _ I9 q9) (fun z s10 ⟨yv, H10, I10, r10, vy⟩ => ?_) fun e s z => absurd z (hx e s)
        obtain ⟨n', rfl⟩ : ∃ n', n = n' + 1 := ⟨n - 1, by omega⟩
        exact seg_at (seg_yield rfl rfl rfl ⟨i + 1, yv, H10, r10, fin I10, vy, by omega, fun s'' G' w' => seg_again rfl (ih (i + 1) n' s'' s'' H10 (by omega) (by omega) G' w')⟩)
/-- from its beginning -/
theorem seg_start (hx : ∀ e s, ¬ Y.xe e s) (hc : Y.calm = true) (hA : Y.A = A.deeper Y.env) (hco : Y.env.scope.isCoroutine = false) (hfp : ∀ b ∈ fp, b ∈ Y.ex) (hpl : ∀ p ∈ Y.pn ++ pl, p.1 ∉ fp)
    (T : Turn Y.prog Y.w Y.K tg J fp it tn) (hg : PG Y tg g) (ht : PTs Y ifs tt) (he : PE Y elt te) (turn : Turns J m σ0 vs g tt te W VY Dn) (s₀ s : Shared) (H : Hp) (G : GSt Y pl σ0 fp tn 0 H s) (w0 : W 0 H) :
      Seg (model Y.prog Y.w) A (gEnd Y pl σ0 Dn) (gProto Y pl σ0 fp tn m W VY) m s₀ (.compStart (.GeneratorExp elt [⟨tg, iter, ifs, 0⟩] scope gpos) 0 (.ref it) .none Y.env)
        ((model Y.prog Y.w).den (.compStart (.GeneratorExp elt [⟨tg, iter, ifs, 0⟩] scope gpos) 0 (.ref it) .none Y.env)) [] s := by
  have loop := seg_loop (iter := iter) (scope := scope) (gpos := gpos) hx hc hA hco hfp hpl T hg ht he turn m 0 m s₀ s H (Nat.le_refl _) (Nat.le_refl _) G w0
  show Seg _ A _ _ _ s₀ _ ((compStart (.GeneratorExp elt [⟨tg, iter, ifs, 0⟩] scope gpos) 0 (.ref it) .none Y.env).onRaise (leaving Y.env)) [] s
  unfold compStart
  rw [Sem.onRaise_eq_wrap]
  show Seg _ A _ _ _ s₀ _ ((ask >>= _).wrap _ _ _ _) [] s
  refine seg_bind_wrap (wpAny_askSetting ?_)
  split
  · exact seg_again rfl loop
  · first
      | exact seg_bind_wrap (wpAny_rule (seg_bind_wrap (wpAny_standAt (seg_bind_wrap (T.self _ 0 s _ _ G.tn (seg_again rfl loop))))))
      | (refine seg_bind_wrap (wpAny_rule ?_); show Seg _ A _ _ _ s₀ _ ((standAt iter.pos >>= _).wrap _ _ _ _) [] s; exact seg_bind_wrap (wpAny_standAt (seg_bind_wrap (T.self _ 0 s _ _ G.tn (seg_again rfl loop)))))
end
end GXR

set_option Elab.async false
set_option linter.all false
set_option maxRecDepth 100000
set_option maxHeartbeats 4000000
/-! GXC: a generator expression walked by pyNext; all and any over it. -/
namespace GXR
open PySem PySem.Spec PyProof.Rows L2 GG GxR GenW
theorem inv_gens {Y : Cx} {pl : List (Addr × Obj)} {σ : L2.St} {H : Hp} {s : Shared} (I : Inv Y pl σ H s) {g' : Array GenState} (hg : AllBare g') : Inv Y pl σ H { s with gens := g' } :=
  I.call' (s' := { s with gens := g' }) (ch := []) rfl Un.refl I.hok hg fun b hb => absurd hb (by simp)
section
variable {Y : Cx} {A : Around} {pl : List (Addr × Obj)} {σ0 : L2.St} {fp : List Addr} {tn : Nat → Heap → Prop} {m : Nat} {W : Nat → Hp → Prop} {VY : Nat → V → Hp → Prop} {Dn : Hp → Prop} {a : Addr} {g : Nat}
theorem GSt.gens {i : Nat} {H : Hp} {s : Shared} (G : GSt Y pl σ0 fp tn i H s) {x : GenState} (hx : x.bare = true) : GSt Y pl σ0 fp tn i H (s.setGen g x) := ⟨inv_gens G.inv (allBare_setGen G.inv.bare hx), G.tn, G.nf⟩
/-- the generator stands at turn i and may yield n times more -/
def Ready (Y : Cx) (A : Around) (pl : List (Addr × Obj)) (σ0 : L2.St) (fp : List Addr) (tn : Nat → Heap → Prop) (m : Nat) (W : Nat → Hp → Prop) (VY : Nat → V → Hp → Prop) (Dn : Hp → Prop) (g : Nat) (n i : Nat) (H : Hp) (s : Shared) : Prop :=
  GSt Y pl σ0 fp tn i H s ∧ W i H ∧ ∃ gs, s.gens[g]? = some gs ∧ ∀ s'', GSt Y pl σ0 fp tn i H s'' → gs.Goes (model Y.prog Y.w) A.in1 (gEnd Y pl σ0 Dn) (gProto Y pl σ0 fp tn m W VY) n (.send .none) s''
/-- the next item of the generator -/
theorem next_ready {n i : Nat} {H : Hp} {s : Shared} {Q : Option Value → Shared → Prop} {E : Value → Shared → Prop} (hh : A.handled = none) (hroom : A.depth < recursionLimit) (hgen : ∀ s' : Shared, (∀ p ∈ pl, s'.heap.get? p.1 = some p.2) → s'.heap.IsGen a g)
    (R : Ready Y A pl σ0 fp tn m W VY Dn g n i H s)
    (hY : ∀ v s1 j y H', RelV y v → GSt Y pl σ0 fp tn j H' s1 → VY j y H' → (W j H' → ∃ n', n = n' + 1 ∧ Ready Y A pl σ0 fp tn m W VY Dn g n' j H' s1) → Q (some v) s1)
    (hD : ∀ s1 H', Inv Y pl σ0 H' s1 → Dn H' → Q none s1) : wpAny (model Y.prog Y.w) A (pyNext (.ref a)) Q E s := by
  obtain ⟨G, w0, gs, hgs, hgo⟩ := R
  have hg : s.heap.IsGen a g := hgen s fun p hp => (G.inv.pin p (List.mem_append_right _ hp)).1
  have hgl : g < s.gens.size := (Array.getElem?_eq_some_iff.mp hgs).1
  refine wpAny_gsz (n := g + 1) hgl (wpAny_pyNext_genexpQ (P := fun _ _ s1 => ∃ H', Inv Y pl σ0 H' s1 ∧ Dn H') hh G.inv.nolimit hroom hg hgs (hgo _ (G.gens (x := .running) rfl)) (fun v s1 gs' hb hv => ?_) (fun s1 hp h' hk => ?_))
  · intro hsz
    obtain ⟨j, y, H', ry, G1, vy, hm, hnx⟩ := hv
    have hsz1 : g < s1.gens.size := by
      have q : (s1.setGen g gs').gens.size = s1.gens.size := setGen_size _ _ _
      have hsz' : g + 1 ≤ (s1.setGen g gs').gens.size := hsz
      omega
    refine hY v _ j y H' ry (G1.gens hb) vy fun w1 => ?_
    cases n with
    | zero => exact (hnx s1 G1 w1).elim
    | succ n' => exact ⟨n', rfl, G1.gens hb, w1, gs', setGen_at hsz1, fun s'' G2 => hnx s'' G2 w1⟩
  · intro hsz
    obtain ⟨H', I1, d⟩ := hp
    have I2 : Inv Y pl σ0 H' (s1.setGen g .finished) := inv_gens I1 (allBare_setGen I1.bare rfl)
    have I3 := I2.kept (t' := s1.toks) hk
    exact hD _ H' I3 d
end
section
variable {Y : Cx} {A : Around} {pl : List (Addr × Obj)} {σ0 : L2.St} {fp : List Addr} {tn : Nat → Heap → Prop} {m : Nat} {W : Nat → Hp → Prop} {Qb : Bool → Hp → Prop} {a : Addr} {g : Nat} {R : Result → Shared → Prop}
/-- what a turn owes to all (stop = false) or any (stop = true) -/
def VYb (stop : Bool) (W : Nat → Hp → Prop) (Qb : Bool → Hp → Prop) : Nat → V → Hp → Prop := fun j y H => ∃ c, y = .bl c ∧ (c = stop → Qb stop H) ∧ (c ≠ stop → W j H)
theorem all_loop (hh : A.handled = none) (hroom : A.in1.depth < recursionLimit) (hgen : ∀ s' : Shared, (∀ p ∈ pl, s'.heap.get? p.1 = some p.2) → s'.heap.IsGen a g)
    (hR : ∀ b s1 H' σ1, Inv Y pl σ1 H' s1 → Qb b H' → R (.ok (.ret (.bool b))) s1) :
    ∀ (n i : Nat) (H : Hp) (s : Shared), Ready Y A.in1 pl σ0 fp tn m W (VYb false W Qb) (Qb true) g n i H s → codeAny (model Y.prog Y.w) A (.builtin "all.loop" ⟨[.ref a], []⟩) R s := by
  intro n
  induction n with
  | zero =>
    intro i H s r
    refine codeAny_builtin F.entry_all_loop ?_
    rw [Around.under_plainId F.plain_all_loop _]
    show wpAny _ A.in1 (pyNext (.ref a) >>= _) _ _ s
    refine wpAny_bind (next_ready hh hroom hgen r (fun v s1 j y H' ry G1 vy nx => ?_) fun s1 H' I1 d => wpAny_bind (wpAny_rule (wpAny_pure (hR true s1 H' _ I1 d))))
    obtain ⟨c, rfl, h1, h2⟩ := vy
    obtain rfl : v = Value.bool c := ry
    refine wpAny_bind (wpAny_holding (wpAny_truthy_bool ?_))
    refine wpAny_bind (wpAny_letGo ?_)
    cases c with
    | true =>
      obtain ⟨n', e, _⟩ := nx (h2 (by decide))
      exact absurd e (by omega)
    | false =>
      simp only [Bool.false_eq_true, if_false]
      exact wpAny_bind (wpAny_rule (wpAny_pure (hR false s1 H' _ G1.inv (h1 rfl))))
  | succ n ih =>
    intro i H s r
    refine codeAny_builtin F.entry_all_loop ?_
    rw [Around.under_plainId F.plain_all_loop _]
    show wpAny _ A.in1 (pyNext (.ref a) >>= _) _ _ s
    refine wpAny_bind (next_ready hh hroom hgen r (fun v s1 j y H' ry G1 vy nx => ?_) fun s1 H' I1 d => wpAny_bind (wpAny_rule (wpAny_pure (hR true s1 H' _ I1 d))))
    obtain ⟨c, rfl, h1, h2⟩ := vy
    obtain rfl : v = Value.bool c := ry
    refine wpAny_bind (wpAny_holding (wpAny_truthy_bool ?_))
    refine wpAny_bind (wpAny_letGo ?_)
    cases c with
    | true =>
      obtain ⟨n', e, r'⟩ := nx (h2 (by decide))
      obtain rfl : n' = n := by omega
      simp only [if_true]
      exact wpAny_pure ⟨plainId_quiet F.plain_all_loop _, ih j H' s1 r'⟩
    | false =>
      simp only [Bool.false_eq_true, if_false]
      exact wpAny_bind (wpAny_rule (wpAny_pure (hR false s1 H' _ G1.inv (h1 rfl))))
theorem any_loop (hh : A.handled = none) (hroom : A.in1.depth < recursionLimit) (hgen : ∀ s' : Shared, (∀ p ∈ pl, s'.heap.get? p.1 = some p.2) → s'.heap.IsGen a g)
    (hR : ∀ b s1 H' σ1, Inv Y pl σ1 H' s1 → Qb b H' → R (.ok (.ret (.bool b))) s1) :
    ∀ (n i : Nat) (H : Hp) (s : Shared), Ready Y A.in1 pl σ0 fp tn m W (VYb true W Qb) (Qb false) g n i H s → codeAny (model Y.prog Y.w) A (.builtin "any.loop" ⟨[.ref a], []⟩) R s := by
  intro n
  induction n with
  | zero =>
    intro i H s r
    refine codeAny_builtin F.entry_any_loop ?_
    rw [Around.under_plainId F.plain_any_loop _]
    show wpAny _ A.in1 (pyNext (.ref a) >>= _) _ _ s
    refine wpAny_bind (next_ready hh hroom hgen r (fun v s1 j y H' ry G1 vy nx => ?_) fun s1 H' I1 d => wpAny_bind (wpAny_rule (wpAny_pure (hR false s1 H' _ I1 d))))
    obtain ⟨c, rfl, h1, h2⟩ := vy
    obtain rfl : v = Value.bool c := ry
    refine wpAny_bind (wpAny_holding (wpAny_truthy_bool ?_))
    refine wpAny_bind (wpAny_letGo ?_)
    cases c with
    | false =>
      obtain ⟨n', e, _⟩ := nx (h2 (by decide))
      exact absurd e (by omega)
    | true =>
      simp only [if_true]
      exact wpAny_bind (wpAny_rule (wpAny_pure (hR true s1 H' _ G1.inv (h1 rfl))))
  | succ n ih =>
    intro i H s r
    refine codeAny_builtin F.entry_any_loop ?_
    rw [Around.under_plainId F.plain_any_loop _]
    show wpAny _ A.in1 (pyNext (.ref a) >>= _) _ _ s
    refine wpAny_bind (next_ready hh hroom hgen r (fun v s1 j y H' ry G1 vy nx => ?_) fun s1 H' I1 d => wpAny_bind (wpAny_rule (wpAny_pure (hR false s1 H' _ I1 d))))
    obtain ⟨c, rfl, h1, h2⟩ := vy
    obtain rfl : v = Value.bool c := ry
    refine wpAny_bind (wpAny_holding (wpAny_truthy_bool ?_))
    refine wpAny_bind (wpAny_letGo ?_)
    cases c with
    | false =>
      obtain ⟨n', e, r'⟩ := nx (h2 (by decide))
      obtain rfl : n' = n := by omega
      simp only [Bool.false_eq_true, if_false]
      exact wpAny_pure ⟨plainId_quiet F.plain_any_loop _, ih j H' s1 r'⟩
    | true =>
      simp only [if_true]
      exact wpAny_bind (wpAny_rule (wpAny_pure (hR true s1 H' _ G1.inv (h1 rfl))))
end
end GXR

set_option Elab.async false
set_option linter.all false
set_option maxRecDepth 100000
set_option maxHeartbeats 4000000
/-! GXD: a generator expression is made; all and any of one, whatever its element does. -/
namespace GXR
open PySem PySem.Spec PyProof.Rows L2 GG GxR GenW
theorem Rm.in1 {k : Nat} {A : Around} (r : Rm (k + 1) A) : Rm k A.in1 := ⟨r.room.in1, r.plain⟩
/-- a generator expression: made, and ready at its first turn -/
def MadeG (X : Cx) (pins : List (Addr × Obj)) (σ : L2.St) (scope : Scope) (vs : List Nat) (elt tg iter : Expr) (ifs : List Expr) (gpos : Pos) (J : It) (H2 : Hp) (A : Around) (g : TG) (tt : TT) (te : TE) (u : Value) (s5 : Shared) : Prop :=
  ∃ (a : Addr) (gi : Nat) (go : Obj) (Y : Cx) (fp : List Addr) (tn : Nat → Heap → Prop), u = .ref a ∧ Y.prog = X.prog ∧ Y.w = X.w ∧
    (∀ s' : Shared, (∀ p ∈ [(a, go)], s'.heap.get? p.1 = some p.2) → s'.heap.IsGen a gi) ∧ (∀ σ' H' s', Inv Y [(a, go)] σ' H' s' → Inv X pins σ H' s') ∧
    ∀ (m : Nat) (W : Nat → Hp → Prop) (VY : Nat → V → Hp → Prop) (Dn : Hp → Prop), W 0 H2 → Turns J m (wipe σ vs) vs g tt te W VY Dn → Ready Y A [(a, go)] (wipe σ vs) fp tn m W VY Dn gi m 0 H2 s5
section
variable {X : Cx} {pins : List (Addr × Obj)} {σ : L2.St} {H : Hp} {s : Shared} {c P : Addr} {elt tg iter : Expr} {ifs : List Expr} {gpos p pos : Pos} {scope : Scope} {wi : TI} {g : TG} {tt : TT} {te : TE} {vs : List Nat} {k : Nat}
theorem made {Q' : Value → Shared → Prop} {R : It → Hp → Prop} {A : Around} (hr : Rm (k + 1) X.A) (hAd : A.in1.handled = none) (hAf : A.in1.frames = some X.stack) (hAr : Rm (k + 1) A.in1) (TB : TabB X.base X.mg c P) (hcode : X.env.code = .ref c) (S : GScope X scope vs) (hi : PI X tg iter wi)
    (hg : ∀ (code : Value) (C : Addr) (fp : List Addr) (s0 : Shared) (H0 : Hp) (A' : Around), Rm k A' → PG (gcx X scope code C pins fp s0 H0 A') tg g) (ht : ∀ (code : Value) (C : Addr) (fp : List Addr) (s0 : Shared) (H0 : Hp) (A' : Around), Rm k A' → PTs (gcx X scope code C pins fp s0 H0 A') ifs tt)
    (he : ∀ (code : Value) (C : Addr) (fp : List Addr) (s0 : Shared) (H0 : Hp) (A' : Around), Rm k A' → PE (gcx X scope code C pins fp s0 H0 A') elt te)
    (hs : ∀ v, genFold iter X.env v = pure v) (I : Inv X pins σ H s) (h : wi σ H fun J H1 => TabG H1 P ∧ ∀ H2, Tabbed P H1 H2 → R J H2)
    (hQ : ∀ J H2 u s5, R J H2 → MadeG X pins σ scope vs elt tg iter ifs gpos J H2 A g tt te u s5 → Q' u s5) :
    wpAny (model X.prog X.w) X.A (eval (.GeneratorExp elt [⟨tg, iter, ifs, 0⟩] scope gpos) X.env) Q' X.xe s := by
  refine wpAny_GeneratorExp_make S.co (closure_ok (S.has I.ok)) S.cell S.dot S.kind hr.room.depth ?_ hs
  refine thn (hi.run pins s σ H _ I h) fun xv s1 hx => thn hx fun itv s2 h2 => ?_
  obtain ⟨it, fp, tn, J, H1, e, I1, T, st2, f2, ⟨ps, hP, htr⟩, q⟩ := h2
  subst e
  have hPs : s2.heap.get? P = some { cls := .none, data := .fields ps } := I1.hok P _ hP
  have cd : PySem.W.CodeHd s2.heap c P := TB.code.keeps fun b u e => I1.bk b u e
  have lim2 : s2.heap.NoLimit := I1.nolimit
  obtain ⟨bm, ob, e1, e2, e3, e4, e5, e6, e7, e8⟩ := TB.bm
  have cont : ∀ (code : Value) (h3 : Heap) (tk : Nat) (ps' : Array Value), Heap.ExtBut P s2.heap h3 → s2.heap.objs.size ≤ h3.objs.size → h3.get? P = some { cls := .none, data := .fields ps' } → (∃ more, ps' = ps ++ more) → TriplesOk ps'.toList →
      wpAny (model X.prog X.w) X.A (builtinsFor X.env.globals X.env.builtins) (fun bi s₄ =>
        ∀ h', h'.Ns s₄.heap.objs.size (fun y => if y = ".0" then some (Value.ref it) else none) → Heap.SameBut s₄.heap.objs.size (s₄.heap.push { cls := .type "frame", data := .dict #[] }) h' →
          Q' (.ref h'.objs.size) { s₄ with
            gens := s₄.gens.push (.fresh (.compStart (.GeneratorExp elt [⟨tg, iter, ifs, 0⟩] scope gpos) 0 (.ref it) .none (genEnv scope (cloFrom X.env.cells scope.names []) s₄.heap.objs.size code bi X.env))),
            toks := s₄.toks + 1 + 1 + 1,
            heap := h'.push { cls := .type "generator", data := .fields #[.int s₄.gens.size 0, .str "<genexpr>" (s₄.toks + 1), .str (X.env.qual ++ "<genexpr>") (s₄.toks + 1 + 1)] } }) X.xe { s2 with heap := h3, toks := tk } := by
    intro code h3 tk ps' hx hsz hP3 hmore ht3
    have keep3 : ∀ b u, b ≠ P → s2.heap.get? b = some u → h3.get? b = some u := fun b u hb e => hx b u hb e
    refine wpAny_builtinsFor (m := X.mg) (by rw [I1.ok.glob]; exact (I1.mod.glob.keeps I1.bk).extBut hx TB.gP) e1 e2 (keep3 _ _ e4 (I1.bk _ _ e5)) e6 e7 e8 ?_
    obtain ⟨more, em⟩ := hmore
    -- the state before the frame
    have I3 : Inv X pins σ (upd H1 P (.tbl (ps ++ more))) { s2 with heap := h3, toks := tk } := inv_tab (more := more) (h' := h3) (g' := s2.gens) (d' := s2.drawn) (t' := tk) I1 hP keep3 (by rw [← em]; exact hP3) I1.bare
    have hTab : Tabbed P H1 (upd H1 P (.tbl (ps ++ more))) := ⟨⟨ps ++ more, upd_same, by rw [← em]; exact ht3⟩, fun b hb => upd_ne hb⟩
    generalize hH2 : upd H1 P (.tbl (ps ++ more)) = H2 at I3 hTab
    have fpP : ∀ b ∈ fp, b ≠ P := fun b hb z => by
      have := (f2 b hb).1
      rw [z, hP] at this
      cases this
    have f3 : ∀ b ∈ fp, FpOk X pins H2 b := fun b hb => ⟨by rw [hTab.2 b (fpP b hb)]; exact (f2 b hb).1, (f2 b hb).2⟩
    have fo3 : ∀ b ∈ fp, ∃ o, h3.get? b = some o := fun b hb => by
      obtain ⟨o, e, _⟩ := T.obj _ _ st2 b hb
      exact ⟨o, keep3 b o (fpP b hb) e⟩
    have st3 : tn 0 h3 := T.keep _ _ _ st2 fun b hb o e => keep3 b o (fpP b hb) e
    intro h' hn' hsb
    show Q' (.ref h'.objs.size) _
    have kh : ∀ b o, h3.get? b = some o → (h'.push ({ cls := .type "generator", data := .fields #[.int s2.gens.size 0, .str "<genexpr>" (tk + 1), .str (X.env.qual ++ "<genexpr>") (tk + 1 + 1)] } : Obj)).get? b = some o := fun b o e =>
      Heap.get?_push_of_some _ (hsb.extBut b o (Nat.ne_of_lt (Heap.lt_size e)) (Heap.get?_push_of_some _ e))
    have hC' : h3.objs.size < h'.objs.size := hn'.lt
    have hgo : (h'.push ({ cls := .type "generator", data := .fields #[.int s2.gens.size 0, .str "<genexpr>" (tk + 1), .str (X.env.qual ++ "<genexpr>") (tk + 1 + 1)] } : Obj)).get? h'.objs.size = some ({ cls := .type "generator", data := .fields #[.int s2.gens.size 0, .str "<genexpr>" (tk + 1), .str (X.env.qual ++ "<genexpr>") (tk + 1 + 1)] } : Obj) := Heap.get?_push_size _ rfl
    have IY := gcx_start (X := X) (code := code) (A' := A.in1.deeper (genEnv scope (cloFrom X.env.cells scope.names []) h3.objs.size code builtinsNs X.env)) (vs := vs) (d' := s2.drawn) (t' := tk + 1 + 1 + 1)
      (g' := s2.gens.push (.fresh (.compStart (.GeneratorExp elt [⟨tg, iter, ifs, 0⟩] scope gpos) 0 (.ref it) .none (genEnv scope (cloFrom X.env.cells scope.names []) h3.objs.size code builtinsNs X.env))))
      (pl := [(h'.objs.size, ({ cls := .type "generator", data := .fields #[.int s2.gens.size 0, .str "<genexpr>" (tk + 1), .str (X.env.qual ++ "<genexpr>") (tk + 1 + 1)] } : Obj))]) I3 S f3 fo3 rfl
      (Around.frames_deeper hAf) hAd kh (hn'.keeps fun b o e => Heap.get?_push_of_some _ e) (I1.bare.push rfl) (fun q hq => by
        obtain rfl := List.mem_singleton.mp hq
        exact ⟨hgo, hC', fun v z => by cases z⟩)
    refine hQ J H2 _ _ (q H2 hTab) ⟨h'.objs.size, s2.gens.size, ({ cls := .type "generator", data := .fields #[.int s2.gens.size 0, .str "<genexpr>" (tk + 1), .str (X.env.qual ++ "<genexpr>") (tk + 1 + 1)] } : Obj), (gcx X scope code h3.objs.size pins fp { s2 with heap := h3, toks := tk } H2 (A.in1.deeper (genEnv scope (cloFrom X.env.cells scope.names []) h3.objs.size code builtinsNs X.env))), fp, tn, rfl, rfl, rfl, fun s' hp => ⟨_, _, _, hp _ (List.mem_singleton.mpr rfl), rfl, rfl, rfl⟩, fun σ' H' s' J' => gcx_up I3 f3 J', fun m W VY Dn w0 turn => ⟨⟨IY, T.keep _ _ _ st3 fun b _ o e => kh b o e, fun b hb => (f3 b hb).1⟩, w0, _, Array.getElem?_push_size .., fun s'' G => ?_⟩⟩
    refine ⟨rfl, ?_⟩
    have rk := hAr.deep (genEnv scope (cloFrom X.env.cells scope.names []) h3.objs.size code builtinsNs X.env)
    exact seg_start (Y := gcx X scope code h3.objs.size pins fp { s2 with heap := h3, toks := tk } H2 (A.in1.deeper (genEnv scope (cloFrom X.env.cells scope.names []) h3.objs.size code builtinsNs X.env))) (fun _ _ z => z) rfl rfl S.co (fun b hb => hb) (fun q hq z => by
      rcases List.mem_append.mp hq with hq | hq
      · exact (f3 q.1 z).2.2.2.2.2 q hq rfl
      · have e := List.mem_singleton.mp hq
        obtain ⟨o, ho⟩ := fo3 q.1 z
        have l := Heap.lt_size ho
        rw [e] at l
        exact Nat.lt_irrefl _ (Nat.lt_trans l hC')) T (hg _ _ _ _ _ _ rk) (ht _ _ _ _ _ _ rk) (he _ _ _ _ _ _ rk) turn s'' s'' H2 G w0
  refine ⟨lim2, ?_⟩
  cases hf : codeAmong gpos ps.toList with
  | none =>
    refine wpAny_genexprCodeX hcode (cd.code hPs htr) (cd.tab hPs) hf fun c' h' tk hx hge hlt hco' _ htab' _ => ?_
    obtain ⟨o1, vs1, f1, tf, fl, tg1, inF, tx, tt1, op, _, _, _, _, _, _, _, _, _, htr', _⟩ := hco'
    exact cont _ h' tk _ hx (Nat.le_trans hge (Nat.le_of_lt hlt)) htab'.2 ⟨_, rfl⟩ htr'
  | some cv =>
    refine wpAny_genexprCode_hit hcode (cd.code hPs htr) hf ?_
    exact cont cv s2.heap s2.toks ps (Heap.ExtBut.refl _ _) (Nat.le_refl _) hPs ⟨#[], by simp⟩ htr
/-- all(e for ..), any(e for ..) -/
def tAllG (stop : Bool) (P : Addr) (wi : TI) (g : TG) (tt : TT) (te : TE) (vs : List Nat) : TE := fun σ H Q => wi σ H fun J H1 => TabG H1 P ∧ ∀ H2, Tabbed P H1 H2 → ∃ (m : Nat) (W : Nat → Hp → Prop), W 0 H2 ∧ Turns J m (wipe σ vs) vs g tt te W (VYb stop W fun b => Q (.bl b)) (Q (.bl !stop))
theorem pe_allG (hr : Rm (k + 4) X.A) (hc : X.calm = true) (hgl : Gl X "all") (hm : X.mg "all" = none) (hb : bootBuiltins "all" = some (.builtin "all")) (TB : TabB X.base X.mg c P) (hcode : X.env.code = .ref c) (S : GScope X scope vs) (hi : PI X tg iter wi)
    (hg : ∀ (pins : List (Addr × Obj)) (code : Value) (C : Addr) (fp : List Addr) (s0 : Shared) (H0 : Hp) (A' : Around), Rm k A' → PG (gcx X scope code C pins fp s0 H0 A') tg g) (ht : ∀ (pins : List (Addr × Obj)) (code : Value) (C : Addr) (fp : List Addr) (s0 : Shared) (H0 : Hp) (A' : Around), Rm k A' → PTs (gcx X scope code C pins fp s0 H0 A') ifs tt)
    (he : ∀ (pins : List (Addr × Obj)) (code : Value) (C : Addr) (fp : List Addr) (s0 : Shared) (H0 : Hp) (A' : Around), Rm k A' → PE (gcx X scope code C pins fp s0 H0 A') elt te)
    (hs : ∀ v, genFold iter X.env v = pure v)
    (hst : starEach [.GeneratorExp elt [⟨tg, iter, ifs, 0⟩] scope gpos] X.env = (false, eval (.GeneratorExp elt [⟨tg, iter, ifs, 0⟩] scope gpos) X.env) :: starEach [] X.env := by rfl) :
    PE X (.Call (.Name "all" p) [.GeneratorExp elt [⟨tg, iter, ifs, 0⟩] scope gpos] [] pos) (tAllG false P wi g tt te vs) := by
  refine ⟨fun pins s σ H Q I h => ?_⟩
  refine wpAny_Call_Name_kw (ld_blt I hgl hm hb ?_)
  refine PyProof.Rows.callWith_builtin1 ?_ hst (by rfl)
  rw [hst]
  show wpAny _ _ (spliced ((false, eval (.GeneratorExp elt [⟨tg, iter, ifs, 0⟩] scope gpos) X.env) :: backTo pos (starEach [] X.env))) _ _ s
  refine Calls.spliced_cons (made (k := k) (A := X.A.in1) (R := fun J H2 => ∃ (m : Nat) (W : Nat → Hp → Prop), W 0 H2 ∧ Turns J m (wipe σ vs) vs g tt te W (VYb false W fun b => Q (.bl b)) (Q (.bl true))) (hr.mono (by omega)) hr.room.hd I.ok.frames (Rm.in1 (Rm.in1 (hr.mono (by omega)))) TB hcode S hi (hg pins) (ht pins) (he pins) hs I h
    fun J H2 u s5 ⟨m, W, w0, turn⟩ M => ?_)
  obtain ⟨a, gi, go, Y, fp, tn, rfl, eP, ew, hgen, up, rdy⟩ := M
  have r0 := rdy m W _ _ w0 turn
  refine Calls.spliced_nil ?_
  refine call_function_tree F.kind_all F.plain_all F.entry_all (F.args_all1 _) ?_
  unfold Builtin.«all»
  refine wpAny_bind (m := oneArg "all" _) (wpAny_pure ?_)
  have hgi : s5.heap.IsGen a gi := hgen s5 fun q hq => (r0.1.inv.pin q (List.mem_append_right _ hq)).1
  refine wpAny_bind (wpAny_pyIter_gen hgi (wpAny_pure ⟨plainId_quiet F.plain_all_loop _, ?_⟩))
  have z := fun (R' : Result → Shared → Prop) hR => all_loop (A := X.A) (R := R') (a := a) (Qb := fun b => Q (.bl b)) hr.room.hd (hr.mono (j := k) (by omega)).room.depth hgen hR m 0 H2 s5 r0
  rw [eP, ew] at z
  exact z _ fun b s1 H' σ1 J1 qb => ⟨.bl b, H', up σ1 H' s1 J1, rfl, qb⟩
theorem pe_anyG (hr : Rm (k + 4) X.A) (hc : X.calm = true) (hgl : Gl X "any") (hm : X.mg "any" = none) (hb : bootBuiltins "any" = some (.builtin "any")) (TB : TabB X.base X.mg c P) (hcode : X.env.code = .ref c) (S : GScope X scope vs) (hi : PI X tg iter wi)
    (hg : ∀ (pins : List (Addr × Obj)) (code : Value) (C : Addr) (fp : List Addr) (s0 : Shared) (H0 : Hp) (A' : Around), Rm k A' → PG (gcx X scope code C pins fp s0 H0 A') tg g) (ht : ∀ (pins : List (Addr × Obj)) (code : Value) (C : Addr) (fp : List Addr) (s0 : Shared) (H0 : Hp) (A' : Around), Rm k A' → PTs (gcx X scope code C pins fp s0 H0 A') ifs tt)
    (he : ∀ (pins : List (Addr × Obj)) (code : Value) (C : Addr) (fp : List Addr) (s0 : Shared) (H0 : Hp) (A' : Around), Rm k A' → PE (gcx X scope code C pins fp s0 H0 A') elt te)
    (hs : ∀ v, genFold iter X.env v = pure v)
    (hst : starEach [.GeneratorExp elt [⟨tg, iter, ifs, 0⟩] scope gpos] X.env = (false, eval (.GeneratorExp elt [⟨tg, iter, ifs, 0⟩] scope gpos) X.env) :: starEach [] X.env := by rfl) :
    PE X (.Call (.Name "any" p) [.GeneratorExp elt [⟨tg, iter, ifs, 0⟩] scope gpos] [] pos) (tAllG true P wi g tt te vs) := by
  refine ⟨fun pins s σ H Q I h => ?_⟩
  refine wpAny_Call_Name_kw (ld_blt I hgl hm hb ?_)
  refine PyProof.Rows.callWith_builtin1 ?_ hst (by rfl)
  rw [hst]
  show wpAny _ _ (spliced ((false, eval (.GeneratorExp elt [⟨tg, iter, ifs, 0⟩] scope gpos) X.env) :: backTo pos (starEach [] X.env))) _ _ s
  refine Calls.spliced_cons (made (k := k) (A := X.A.in1) (R := fun J H2 => ∃ (m : Nat) (W : Nat → Hp → Prop), W 0 H2 ∧ Turns J m (wipe σ vs) vs g tt te W (VYb true W fun b => Q (.bl b)) (Q (.bl false))) (hr.mono (by omega)) hr.room.hd I.ok.frames (Rm.in1 (Rm.in1 (hr.mono (by omega)))) TB hcode S hi (hg pins) (ht pins) (he pins) hs I h
    fun J H2 u s5 ⟨m, W, w0, turn⟩ M => ?_)
  obtain ⟨a, gi, go, Y, fp, tn, rfl, eP, ew, hgen, up, rdy⟩ := M
  have r0 := rdy m W _ _ w0 turn
  refine Calls.spliced_nil ?_
  refine call_function_tree F.kind_any F.plain_any F.entry_any (F.args_any1 _) ?_
  unfold Builtin.«any»
  refine wpAny_bind (m := oneArg "any" _) (wpAny_pure ?_)
  have hgi : s5.heap.IsGen a gi := hgen s5 fun q hq => (r0.1.inv.pin q (List.mem_append_right _ hq)).1
  refine wpAny_bind (wpAny_pyIter_gen hgi (wpAny_pure ⟨plainId_quiet F.plain_any_loop _, ?_⟩))
  have z := fun (R' : Result → Shared → Prop) hR => any_loop (A := X.A) (R := R') (a := a) (Qb := fun b => Q (.bl b)) hr.room.hd (hr.mono (j := k) (by omega)).room.depth hgen hR m 0 H2 s5 r0
  rw [eP, ew] at z
  exact z _ fun b s1 H' σ1 J1 qb => ⟨.bl b, H', up σ1 H' s1 J1, rfl, qb⟩
end
end GXR

set_option Elab.async false
set_option linter.all false
set_option maxRecDepth 100000
set_option maxHeartbeats 4000000
/-! DLG: all and any of a generator expression, told by data. -/
namespace DL
open PySem PySem.Spec PyProof.Rows L2 GG DD PT GXR
variable {K : KX}
def dAg (stop : Bool) (g : DG) (t : DT) (e : DE) (base : List DV) : List PyData → Nat → (Bool → Nat → Prop) → Prop
  | [], n, P => P (!stop) n
  | d :: ds, n, P => g d (fun s1 => t s1 fun b s2 => if b = true then e s2 fun y s3 => s3.sl = s1.sl ∧ (match y with
    | .bool c => if c = stop then P stop s3.n else dAg stop g t e base ds s3.n P
    | _ => False) else s2.sl = s1.sl ∧ dAg stop g t e base ds s2.n P) ⟨base, n⟩
def dAllG (stop : Bool) (di : DA) (g : DG) (t : DT) (e : DE) (vs : List Nat) : DE := fun s P => di s fun items s1 => noOwnB s1.sl vs = true ∧ dAg stop g t e (wipeD s1.sl vs) items s1.n fun b n => P (.bool b) ⟨s1.sl, n⟩
/-- the table has grown -/
theorem Rl.tabbed {C : DC} {σ : L2.St} {H H' : Hp} {s : DSt} {P : Addr} (R : Rl C σ H s) (hP : P ∈ tabs) (t : GxR.Tabbed P H H') : Rl C σ H' s := by
  refine R.step (fun b o hb e => by rw [t.2 b (fun z => hb (.inr (z ▸ hP)))]; exact e) ⟨?_, fun b hb => ?_⟩
  · obtain ⟨ps, h1, _⟩ := R.dk.tb P hP
    have d := R.dk.dk
    generalize C.W = W at d
    cases W with
    | none => trivial
    | some w =>
      obtain ⟨⟨m, cs, e1, e2, e3⟩, e4⟩ := (show Deck H w.1 w.2 s.n from d)
      refine (show Deck H' w.1 w.2 s.n from ⟨⟨m, cs, ?_, ?_, e3⟩, e4⟩)
      · rw [t.2 _ (fun z => by rw [z, h1] at e1; cases e1)]
        exact e1
      · rw [t.2 _ (fun z => by rw [z, h1] at e2; cases e2)]
        exact e2
  · by_cases z : b = P
    · rw [z]
      exact t.1
    · obtain ⟨ps, h1, h2⟩ := R.dk.tb b hb
      exact ⟨ps, by rw [t.2 b z]; exact h1, h2⟩
theorem re_allG {w stop : Bool} {P : Addr} {wi : TI} {g : TG} {tt : TT} {te : TE} {vs : List Nat} {di : DA} {dg : DG} {dt : DT} {de : DE} (hP : P ∈ tabs) (hi : RI w K wi di) (hg : RGv w K vs g dg) (hgw : GW vs dg) (ht : RT K tt dt) (he : RE K te de) :
    RE K (tAllG stop P wi g tt te vs) (dAllG stop di dg dt de vs) := fun C hC s P0 hd σ H Q R q =>
  hi C hC s _ hd σ H _ R fun J H1 items s1 G' Z' hp R1 hZ' ok => by
    obtain ⟨no, hp⟩ := hp
    refine ⟨R1.dk.tb P hP, fun H2 hT => ?_⟩
    replace R1 := R1.tabbed hP hT
    have no := noOwn_of no
    have hv := slots_hv R1
    generalize hC1 : (C.more G').more (outG σ s1.sl vs) = C1
    have cK : C1.K = C.K := by rw [← hC1]; rfl
    have cG : ∀ v d, G' v d → C1.G v d := fun v d z => by rw [← hC1]; exact .inl (.inr z)
    have cO : ∀ v d, outG σ s1.sl vs v d → C1.G v d := fun v d z => by rw [← hC1]; exact .inr z
    have R1' : Rl C1 σ H2 s1 := by rw [← hC1]; exact R1.more (out_da R1 vs)
    have cB : ∀ {H' : Hp} {s' : DSt}, Rl C1 σ H' s' → Rl C σ H' s' := fun {H' s'} z => by
      rw [← hC1] at z
      exact z.less.less
    have cW : C1.W = C.W := by rw [← hC1]; rfl
    have cZ : ∀ a o, Z' a o → C1.Z a o := fun a o z => by rw [← hC1]; exact hZ' a o z
    clear hC1
    have idem : wipe (wipe σ vs) vs = wipe σ vs := by
      apply List.ext_getElem?
      intro j
      rw [wipe_get, wipe_get, wipe_length]
      by_cases e : j ∈ vs
      · rw [if_pos e, if_pos e]
      · rw [if_neg e, if_neg e]
    have idemD : wipeD (wipeD s1.sl vs) vs = wipeD s1.sl vs := by
      apply List.ext_getElem?
      intro j
      rw [wipeD_get, wipeD_get, wipeD_len]
      by_cases e : j ∈ vs
      · rw [if_pos e, if_pos e]
      · rw [if_neg e, if_neg e]
    have out : ∀ {H' : Hp} {n' : Nat} (b : Bool), Rl C1 (wipe σ vs) H' ⟨wipeD s1.sl vs, n'⟩ → P0 (.bool b) ⟨s1.sl, n'⟩ → Q (.bl b) H' := fun {H' n'} b R3 hp => by
      obtain ⟨R4, _⟩ := R3.unwiped R1.len no cO (cW ▸ hv)
      exact q _ H' _ _ hp (cB R4) (.bl b)
    refine ⟨items.length, fun i H' => i ≤ items.length ∧ ∃ n', Rl C1 (wipe σ vs) H' ⟨wipeD s1.sl vs, n'⟩ ∧ dAg stop dg dt de (wipeD s1.sl vs) (items.drop i) n' fun b n => P0 (.bool b) ⟨s1.sl, n⟩, ⟨Nat.zero_le _, s1.n, (R1'.wiped vs).1, hp⟩, fun i H' ⟨hle, n', R3, h⟩ => ?_⟩
    by_cases hlt : i < items.length
    · refine .inr ⟨hlt, ?_⟩
      obtain ⟨d, hd⟩ : ∃ d, items[i]? = some d := ⟨_, List.getElem?_eq_getElem hlt⟩
      obtain ⟨k1, k2⟩ := (ok C1 cK cG cZ (wipe σ vs) H' ⟨_, n'⟩ R3).2 i d hd
      refine ⟨k1, fun x H3 hy => ?_⟩
      obtain ⟨R4, _, hx⟩ := k2 x H3 hy
      have e : items.drop i = d :: items.drop (i + 1) := by
        rw [List.drop_eq_getElem_cons hlt]
        rw [List.getElem?_eq_getElem hlt] at hd
        rw [Option.some.inj hd]
      rw [e] at h
      have h' := hgw.w d _ _ h
      refine hg C1 (cK.trans hC) d _ ⟨_, n'⟩ h' (wipe σ vs) H3 x _ R4 hx fun σ2 s2 hn R5 hw => ?_
      obtain ⟨hn, hwD⟩ := hn
      have hwD : wipeD s2.sl vs = wipeD s1.sl vs := hwD.trans idemD
      have hww : wipe σ2 vs = wipe σ vs := hw.trans idem
      refine ⟨hww, ?_⟩
      have back : ∀ {H4 : Hp} {s4 : DSt}, Rl C1 σ2 H4 s4 → s4.sl = s2.sl → Rl C1 (wipe σ vs) H4 ⟨wipeD s1.sl vs, s4.n⟩ := fun {H4 s4} R6 e6 => by
        have z := (R6.wiped vs).1
        rw [hww, e6, hwD] at z
        exact z
      refine ht C1 (cK.trans hC) s2 _ hn σ2 H3 _ R5 fun b H4 s3 hb R6 => ?_
      cases b with
      | false =>
        have hb' : s3.sl = s2.sl ∧ dAg stop dg dt de (wipeD s1.sl vs) (items.drop (i + 1)) s3.n fun b n => P0 (.bool b) ⟨s1.sl, n⟩ := by simpa using hb
        exact pF (by decide) ⟨hlt, s3.n, back R6 hb'.1, hb'.2⟩
      | true =>
        refine pT rfl ?_
        have hb' := hb
        rw [if_pos rfl] at hb'
        refine he C1 (cK.trans hC) s3 _ hb' σ2 H4 _ R6 fun y H5 dy s4 hy4 R7 hyd => ?_
        obtain ⟨e4, hy4⟩ := hy4
        have R8 := back R7 e4
        cases dy with
        | bool c =>
          cases hyd
          have hy4 : if c = stop then P0 (.bool stop) ⟨s1.sl, s4.n⟩ else dAg stop dg dt de (wipeD s1.sl vs) (items.drop (i + 1)) s4.n fun b n => P0 (.bool b) ⟨s1.sl, n⟩ := hy4
          refine ⟨c, rfl, fun z => ?_, fun z => ?_⟩
          · rw [if_pos z] at hy4
            exact out stop R8 hy4
          · rw [if_neg z] at hy4
            exact ⟨hlt, s4.n, R8, hy4⟩
        | _ => exact hy4.elim
    · have him : i = items.length := by omega
      subst him
      rw [List.drop_length] at h
      exact .inl ⟨rfl, (ok C1 cK cG cZ (wipe σ vs) H' ⟨_, n'⟩ R3).1, out (!stop) R3 h⟩
end DL

set_option Elab.async false
set_option linter.all false
set_option maxRecDepth 100000
set_option maxHeartbeats 4000000
/-! GGT: promises of defs whose code object is known (generator expressions are made in it). -/
namespace GG
open PySem PySem.Spec PyProof.Rows L2
/-- a def of the text, its code object at c -/
structure FunC (K : PySem.W.Frag) (x qual : Str) (st : Stmt) (f : Addr) (fd : FuncData) (c : Addr) : Prop where
  fn : L2.Fun K x qual st f fd
  cd : ∃ kV doc pm an ct, fd = PySem.W.fnOf x qual (defArgs st) (defBody st) (defScope st) .none kV doc pm an (.ref c) ct
section
variable {P : Program} {w : World} {K : PySem.W.Frag} {mg : Str → Option Value} {base : Heap} {j k : Nat} {f c : Addr} {fd : FuncData} {ps : List Str} {sp : Sp}
theorem okgT {x qual : Str} {st : Stmt} {N : List Str} (F : FunC K x qual st f fd c) (S : FnScope N ps (defScope st)) (size : ∀ vs H Q, sp vs H Q E0 → vs.length = ps.length)
    (body : ∀ (A : Around) (outer : List Env) (s : Shared) (H : Hp) (vs : List V) (Q : VK), Rm k (A.deeper (envOfC qual (defScope st) s.heap.objs.size f (.ref c))) → sp vs H Q E0 →
      ∃ t, PSs (cxOf CX0 P w K mg base N qual (defScope st) f (.ref c) A outer s H E0).nox (defBody st) t ∧ t { nx := fun _ H' => Q .non H', rt := Q } (start N vs) H) :
    Fg P w K mg base (k + 1) f fd ps sp := by
  obtain ⟨oc, od, kV, doc, pm, an, cdv, ct, osl, e0fd, lk, hcd⟩ := F.fn.ex
  obtain ⟨kV2, doc2, pm2, an2, ct2, e1fd⟩ := F.cd
  have ec : cdv = .ref c := by
    have e := e0fd.symm.trans e1fd
    unfold PySem.W.fnOf at e
    injection e
  subst e0fd
  subst ec
  refine ⟨size, fun A outer s H args us vs Q hr e0 hb r hsp => ?_⟩
  have hl := size _ _ _ hsp
  have keep : ∀ b o, base.get? b = some o → s.heap.get? b = some o := fun b o e => (e0.bs b o e).1
  have KX : K.In s.heap := e0.mod.kin.keeps keep
  have lim : s.heap.NoLimit := e0.mod.nolimit.keeps keep
  have hkind : ∀ y ∈ ps.zip us, (defScope st).names.lookup y.1 = some .local ∨ ((defScope st).names.lookup y.1 = some .cell ∧ ((cellsFrom (s.heap.objs.size + 1) (defScope st).names []).lookup y.1).isSome = true) := by
    rintro ⟨n, v⟩ hy
    rcases S.par n (List.of_mem_zip hy).1 with q | q
    · exact .inl q
    · exact .inr ⟨q, PySem.W.cellsFrom_some _ _ _ (.inl q)⟩
  refine codeAny_call_function hr.room.depth (KX _ _ lk) rfl S.co S.gen rfl (PySem.W.codeRec_of KX hcd) (hb _ _ _ _ ?_)
  refine wpAny_newFunctionEnv_cells S.kind hkind fun env he s1 x => ?_
  subst he
  refine ⟨lim.keeps x.toInCall.keep, codeAny_func ?_⟩
  obtain ⟨t, ht, hq⟩ := body A outer s H vs Q (hr.deep _) hsp
  have I := inv_start (CX := CX0) (E := E0) S hr.room.hd e0 hl r x
  refine wpAny_mono (ht.nox.run [] s1 (start N vs) H _ I hq) (fun fl s' hs => ?_) fun e s' hs => hs
  have fin : ∀ {σ' : L2.St} {H' : Hp} {v : V} {u : Value}, Inv (cxOf CX0 P w K mg base N qual (defScope st) f (.ref c) A outer s H E0) [] σ' H' s' → RelV v u → Q v H' → CE outer P w H s Q u s' :=
    fun {σ' H' v u} J rv q => ⟨v, H', J.os, J.bare, J.base, J.hok, rv, q⟩
  cases fl with
  | ret u => obtain ⟨v, σ', H', J, rv, q⟩ := hs; exact fin J rv q
  | next => obtain ⟨σ', H', J, q⟩ := hs; exact fin (v := V.non) (u := Value.none) J rfl q
  | brk => obtain ⟨_, _, _, q⟩ := hs; exact q.elim
  | cont => obtain ⟨_, _, _, q⟩ := hs; exact q.elim
end
end GG
namespace DL
open PySem PySem.Spec PyProof.Rows L2 GG DD PT
section
variable {P : Program} {w : World} {K : PySem.W.Frag} {mg : Str → Option Value} {base : Heap} {k : Nat} {f c : Addr} {fd : FuncData} {ps : List Str}
theorem okdT {x qual : Str} {st : Stmt} {N : List Str} {d : DS} {m : Nat} (hm : ps.length = m) (F : FunC K x qual st f fd c) (S : FnScope N ps (defScope st))
    (body : ∀ (A : Around) (outer : List Env) (s : Shared) (H : Hp), Rm k (A.deeper (envOfC qual (defScope st) s.heap.objs.size f (.ref c))) → ∀ W B H0 G0 Z0,
      ∃ t, PSs (cxOf CX0 P w K mg base N qual (defScope st) f (.ref c) A outer s H E0).nox (defBody st) t ∧ RS ⟨K, W, B, H0, G0, Z0⟩ t d) :
    Fg P w K mg base (k + 1) f fd ps (spOf K m (bodyD d (N.length - m))) :=
  okgT F S (fun vs H Q h => by rw [h.1]; exact hm.symm) fun A outer s H vs Q hr h => body_ok (body A outer s H hr) h
end
end DL

set_option Elab.async false
set_option linter.all false
set_option maxRecDepth 100000
set_option maxHeartbeats 4000000
/-! GGE: the end of a law's row where tables of code objects may grow. -/
namespace GG
open PySem PySem.Spec PyProof.Rows L2
abbrev tabO : Obj := { cls := .none, data := .fields #[] }
/-- the tables, tracked as they stand at the start -/
def HT (ts : List Addr) (H : Hp) : Hp := fun b => if b ∈ ts then some (.tbl #[]) else H b
theorem HT_in {ts : List Addr} {H : Hp} {b : Addr} (h : b ∈ ts) : HT ts H b = some (.tbl #[]) := if_pos h
theorem HT_out {ts : List Addr} {H : Hp} {b : Addr} (h : ¬ b ∈ ts) : HT ts H b = H b := if_neg h
theorem law_goT {P : Program} {w : World} {K : PySem.W.Frag} {mg mb : Str → Option Value} {k : Nat} {fa a : Addr} {fd : FuncData} {x : Str} {sp : Sp} {s₁ : Shared} {vs : List Value} {ns : List Int} {cs : List (Addr × Addr)} {ts : List Addr}
    (KX : K.In s₁.heap) (hns : s₁.heap.Ns mainGlobals mg) (hb : s₁.heap.Ns builtinsNs mb) (hbb : ∀ x : Str, x ≠ "__name__" → mb x = bootBuiltins x) (hlim : s₁.heap.NoLimit) (hg : s₁.gens = #[])
    (hT : ∀ t ∈ ts, s₁.heap.get? t = some tabO) (nT : ∀ t ∈ ts, K.lookup t = none) (hcs : ∀ p ∈ cs, p.2 ∈ ts) (hts : ∀ t ∈ ts, ∃ p ∈ cs, p.2 = t) (hC : ∀ p ∈ cs, PySem.W.CodeHd s₁.heap p.1 p.2)
    (hbm : ∃ (m : Addr) (o : Obj), mg "__builtins__" = some (.ref m) ∧ m ≠ builtinsNs ∧ s₁.heap.get? m = some o ∧ o.cls = .type "module" ∧ o.dict = some builtinsNs ∧ o.data = .plain)
    (ha : s₁.heap.get? a = some { cls := .type "list", data := .seq vs.toArray }) (hi : IntsAre vs ns) (hl : ns.length ≤ sizeLine) (hr : Rm k callerA)
    (F : ∀ base : Heap, K.In base → base.Ns mainGlobals mg → (∀ p ∈ cs, GxR.TabB base mg p.1 p.2) → Fg P w K mg base k fa fd [x] sp) (hbind : ∀ (s : Shared) (u : Value), BindsTo s fd ⟨[u], []⟩ [(x, u)])
    (hsp : ∀ H : Hp, (∀ t ∈ ts, H t = some (.tbl #[])) → SqL K H a (ns.map V.int) → sp [.ref a] H (fun v _ => v = .bl true) E0) :
    codeAny (model P w) callerA (.call (.ref fa) ⟨[.ref a], []⟩) (fun r s' => r = .ok (.ret (.bool true)) ∧ OldK s₁.heap s'.heap ∧ s'.os = s₁.os ∧ AllBare s'.gens) s₁ := by
  have rv := vals_ints hi
  have lenV := hi.length
  have aT : ¬ a ∈ ts := fun z => by
    have q := hT a z
    rw [ha] at q
    have q2 := congrArg Obj.data (Option.some.inj q)
    exact nomatch (show Data.seq vs.toArray _ = Data.fields #[] from q2)
  have main : ∀ H0 : Hp, Only H0 → (∀ b, H0 b ≠ none → b = a) → SqL K (HT ts H0) a (ns.map V.int) → HOk P w (HT ts H0) s₁.heap → (H0 a ≠ none → K.lookup a = none) →
      codeAny (model P w) callerA (.call (.ref fa) ⟨[.ref a], []⟩) (fun r s' => r = .ok (.ret (.bool true)) ∧ OldK s₁.heap s'.heap ∧ s'.os = s₁.os ∧ AllBare s'.gens) s₁ := by
    intro H0 hO hA hS hok hK
    have untracked : ∀ {b : Addr} {o : Obj}, s₁.heap.get? b = some o → o.data ≠ .seq vs.toArray → o.data ≠ .fields #[] → HT ts H0 b = none := fun {b o} e n1 n2 => by
      by_cases hb : b ∈ ts
      · rw [hT b hb] at e
        cases e
        exact absurd rfl n2
      · rw [HT_out hb]
        cases q : H0 b with
        | none => rfl
        | some u =>
          have eb := hA b (by rw [q]; exact fun z => nomatch z)
          rw [eb, ha] at e
          cases e
          exact absurd rfl n1
    have ns_of : ∀ {b : Addr} {m : Str → Option Value}, s₁.heap.Ns b m → (hidT s₁.heap (HT ts H0)).Ns b m := fun {b m} ⟨o, es, ep, e, d, r⟩ =>
      ⟨o, es, ep, hidT_get e (untracked e (by rw [d]; exact fun z => nomatch z) (by rw [d]; exact fun z => nomatch z)), d, r⟩
    have hKb : K.In (hidT s₁.heap (HT ts H0)) := fun b o e => hidT_get (KX b o e) (by
      by_cases hb : b ∈ ts
      · rw [nT b hb] at e
        cases e
      · rw [HT_out hb]
        cases q : H0 b with
        | none => rfl
        | some u =>
          have eb := hA b (by rw [q]; exact fun z => nomatch z)
          rw [eb, hK (by rw [← eb, q]; exact fun z => nomatch z)] at e
          cases e)
    have hM : Mod K mg (hidT s₁.heap (HT ts H0)) := ⟨hKb, ns_of hns, ⟨mb, ns_of hb, hbb⟩, let ⟨mc, h1, h2⟩ := hlim; ⟨mc, ns_of h1, h2⟩⟩
    have glob : ∃ o es ep, s₁.heap.get? mainGlobals = some o ∧ o.data = .dict es ep := by
      obtain ⟨o, es, ep, e, d, _⟩ := hns
      exact ⟨o, es, ep, e, d⟩
    obtain ⟨og, eg, pg, g1, g2⟩ := glob
    have TB : ∀ p ∈ cs, GxR.TabB (hidT s₁.heap (HT ts H0)) mg p.1 p.2 := by
      intro p hp
      have tp := hT p.2 (hcs p hp)
      obtain ⟨oc, us, c1, c2, c3, c4, c5, c6, c7, q1, q2, q3, q4, q5, q6, q7, q8, q9, q10⟩ := hC p hp
      obtain ⟨m, om, m1, m2, m3, m4, m5, m6⟩ := hbm
      refine ⟨⟨oc, us, c1, c2, c3, c4, c5, c6, c7, hidT_get q1 (untracked q1 ?_ ?_), q2, q3, q4, q5, q6, q7, q8, q9, q10⟩, ⟨m, om, m1, m2, ?_, ?_, hidT_get m3 (untracked m3 ?_ ?_), m4, m5, m6⟩, ?_⟩
      · rw [q3]
        exact fun z => nomatch z
      · rw [q3]
        intro z
        cases z
        simp at q4
      · intro z
        rw [z, g1] at m3
        cases m3
        rw [g2] at m6
        cases m6
      · intro z
        rw [z, tp] at m3
        cases m3
        cases m6
      · rw [m6]
        exact fun z => nomatch z
      · rw [m6]
        exact fun z => nomatch z
      · intro z
        rw [z, tp] at g1
        cases g1
        cases g2
    have e0 : Env0 P w K mg (hidT s₁.heap (HT ts H0)) callerA [] s₁ (HT ts H0) := ⟨rfl, hM, fun b o e => of_hidT e, Nat.le_of_eq (hidT_size _ _), trivial, fun b hb => absurd (show b ∈ ([] : List Addr) from hb) List.not_mem_nil, hok, .of_eq hg⟩
    refine codeAny_mono ((F _ hKb (ns_of hns) TB).go callerA [] s₁ (HT ts H0) ⟨[.ref a], []⟩ [.ref a] [.ref a] _ hr e0 (hbind s₁ (.ref a)) (.cons rfl .nil) (hsp _ (fun t ht => HT_in ht) hS)) fun r s' h => ?_
    cases r with
    | error e => exact False.elim h
    | ok fl =>
      cases fl with
      | next => exact False.elim h
      | brk => exact False.elim h
      | cont => exact False.elim h
      | ret u =>
        obtain ⟨v, H', os, bare, un, hok', r', q⟩ := h
        obtain rfl : v = .bl true := q
        obtain rfl : u = Value.bool true := r'
        have same : ∀ b o, ¬ b ∈ ts → s₁.heap.get? b = some o → s'.heap.get? b = some o := by
          intro b o nb e
          have eb : HT ts H0 b = H0 b := HT_out nb
          rcases hO b with z | ⟨ob, xs, z⟩
          · exact un.keep b o e (eb.trans z) (fun z => absurd (show b ∈ ([] : List Addr) from z) List.not_mem_nil) List.not_mem_nil
          · have y1 := (hok b _ (eb.trans z)).1
            have y2 := (hok' b _ (un.frzs b ob _ (eb.trans z))).1
            rw [e] at y1
            cases y1
            exact y2
        have big : ∀ t ∈ ts, ∃ more : Array Value, s'.heap.get? t = some { cls := .none, data := .fields more } := by
          intro t ht
          obtain ⟨more, z⟩ := un.tbls t #[] (HT_in ht)
          exact ⟨_, hok' t _ z⟩
        refine ⟨rfl, ⟨fun b o e => ?_, fun b o e => ?_⟩, os, bare⟩
        · by_cases ht : b ∈ ts
          · obtain ⟨p, hp, ep⟩ := hts b ht
            obtain ⟨more, hm⟩ := big b ht
            rw [hT b ht] at e
            cases e
            have tp := hT p.2 (hcs p hp)
            rw [← ep] at hm ⊢
            exact .inr (.inl ⟨((hC p hp).tab tp).isCodeTable, rfl, #[], more, rfl, by rw [Array.empty_append]; exact hm⟩)
          · exact .inl (same b o ht e)
        · by_cases ht : b ∈ ts
          · obtain ⟨more, hm⟩ := big b ht
            exact ⟨_, hm⟩
          · exact ⟨o, same b o ht e⟩
  have okT : ∀ (H0 : Hp), (∀ b u, H0 b = some u → b = a ∧ u = .frz { cls := .type "list", data := .seq vs.toArray } (.lst (ns.map V.int))) → HOk P w (HT ts H0) s₁.heap := by
    intro H0 h0 b u e
    by_cases hb : b ∈ ts
    · rw [HT_in hb] at e
      cases e
      exact hT b hb
    · rw [HT_out hb] at e
      obtain ⟨rfl, rfl⟩ := h0 b u e
      exact ⟨ha, by rw [List.length_map]; exact hl, vs, _, rv, ha⟩
  cases hk : K.lookup a with
  | some o =>
    have e := KX a o hk
    rw [ha] at e
    cases e
    exact main (fun _ => none) (fun _ => .inl rfl) (fun b z => absurd rfl z) (.inr ⟨_, vs.toArray, _, hk, rfl, rfl, rfl, by rw [List.size_toArray, lenV]; exact hl, by simpa using rv⟩) (okT _ fun b u z => nomatch (show (none : Option HO) = some u from z)) fun z => absurd rfl z
  | none =>
    have at_ : ∀ b u, (if b = a then some (HO.frz { cls := .type "list", data := .seq vs.toArray } (.lst (ns.map V.int))) else none) = some u → b = a ∧ u = .frz { cls := .type "list", data := .seq vs.toArray } (.lst (ns.map V.int)) := by
      intro b u z
      by_cases hb : b = a
      · rw [if_pos hb] at z
        exact ⟨hb, (Option.some.inj z).symm⟩
      · rw [if_neg hb] at z
        cases z
    refine main (fun b => if b = a then some (.frz { cls := .type "list", data := .seq vs.toArray } (.lst (ns.map V.int))) else none) (fun b => ?_) (fun b z => ?_) (.inl (.inr ⟨{ cls := .type "list", data := .seq vs.toArray }, (HT_out aT).trans (if_pos rfl)⟩)) (okT _ at_) fun _ => hk
    · by_cases hb : b = a
      · exact .inr ⟨_, _, if_pos hb⟩
      · exact .inl (if_neg hb)
    · by_cases hb : b = a
      · exact hb
      · exact absurd (if_neg hb) z
/-- what the law's row owes at its start: its promise, its tables -/
structure LawAtT (l : PySem.W.OpenLaw) (w : World) (K : PySem.W.Frag) (k : Nat) (x : Str) (sp : Sp) (ts : List Addr) (mg : Str → Option Value) (fa : Addr) (h : Heap) : Prop where
  at_ : ∃ (fd : FuncData) (cs : List (Addr × Addr)), (∀ t ∈ ts, h.get? t = some tabO) ∧ (∀ t ∈ ts, K.lookup t = none) ∧ (∀ p ∈ cs, p.2 ∈ ts) ∧ (∀ t ∈ ts, ∃ p ∈ cs, p.2 = t) ∧ (∀ p ∈ cs, PySem.W.CodeHd h p.1 p.2) ∧
    (∀ (s : Shared) (u : Value), BindsTo s fd ⟨[u], []⟩ [(x, u)]) ∧ ∀ base : Heap, K.In base → base.Ns mainGlobals mg → (∀ p ∈ cs, GxR.TabB base mg p.1 p.2) → Fg l.prog w K mg base k fa fd [x] sp
theorem walk_goT {l : PySem.W.OpenLaw} {n k : Nat} {q : Program} {loose : List Str} {XP : (Str → Option Value) → Heap → Prop} {YP : World → Heap → Prop} {d : DefRec} {K : Params → PySem.W.Frag} {sp : PySem.W.Frag → Sp} {x : Str} {ts : List Addr}
    (hn : l.most = some n) (hn2 : n ≤ sizeLine) (hdf : d.params.defaults = []) (hr : Rm k callerA) (hY : ∀ (w : World) (h : Heap), YP w h → (K w.params).In h)
    (F : ∀ (w : World) (mg : Str → Option Value) (fa : Addr) (h : Heap), YP w h → (K w.params).In h → h.Ns mainGlobals mg → mg d.name = some (.ref fa) → LawAtT l w (K w.params) k x (sp (K w.params)) ts mg fa h)
    (hsp : ∀ (K : PySem.W.Frag) (H : Hp) (a : Addr) (ns : List Int), ns.length ≤ n → (∀ t ∈ ts, H t = some (.tbl #[])) → SqL K H a (ns.map V.int) → sp K [.ref a] H (fun v _ => v = .bl true) E0) :
    PySem.W.WalkO q loose XP YP l.row.toRowW d [] (fun f vs => PySem.call f vs) := by
  refine Att.attach_call hn hdf fun w s₀ s₁ mg mb fa o pm cd doc a vs ns G Y ho hd hcd hmg hobj hints hlen hg => ?_
  have KX := hY w _ Y
  obtain ⟨fd, cs, h1, h2, h3, h4, h5, h6, h7⟩ := (F w mg fa _ Y KX G.T.g hmg).at_
  exact law_goT KX G.T.g G.T.b G.T.builtins G.T.nolimit hg h1 h2 h3 h4 h5 G.T.bmain hobj hints (Nat.le_trans hlen hn2) hr h7 h6 fun H hH hS => hsp _ H a ns hlen hH hS
end GG

set_option Elab.async false
set_option linter.all false
set_option maxRecDepth 100000
set_option maxHeartbeats 4000000
/-! DM: the display {**d, k: v}. -/
namespace DM
open PySem PySem.Spec PyProof.Rows L2
section
variable {P : Program} {w : World} {κ : Type} [DecidableEq κ] {kn : KeyKind P w κ} {A : Around} {E : Value → Shared → Prop} {s : Shared}
/-- an entry is put in, its hash known -/
theorem put_run {d : Addr} {kvs : List (κ × Value)} {k : κ} {u v : Value} {Q : Unit → Shared → Prop} (hu : kn.is k u = true) (hd : s.heap.DictOf kn d kvs) (hz : kvs.length ≤ sizeLine)
    (q : ∀ h', h'.DictOf kn d (stored kvs k v) → Heap.SameBut d s.heap h' → Q () { s with heap := h' }) : wpAny (model P w) A (dictPut d (kn.hash k) u v) Q E s := by
  obtain ⟨o, es, ep, g, c, dt, ko, pr, nd⟩ := hd
  have es_le : es.size ≤ sizeLine := by
    have a1 := pr.length
    have a2 : es.toList.length = es.size := by simp
    omega
  have ix : (es.findIdx? fun e => kn.is k e.key) = kvs.findIdx? fun kv => decide (kv.1 = k) := by
    have a := pr.findIdx k
    rw [← a]
    obtain ⟨l⟩ := es
    simp
  unfold dictPut
  refine wpAny_bind (wpAny_dictFind_of hu g dt ko ?_)
  rcases hi : es.findIdx? (fun e => kn.is k e.key) with _ | i
  · have no : k ∉ kvs.map (·.1) := not_mem_of_findIdx_none (ix ▸ hi)
    have no' : ¬ (kvs.any fun kv => decide (kv.1 = k)) = true := fun z => by
      obtain ⟨kv, m, e⟩ := List.any_eq_true.mp z
      exact no (List.mem_map.mpr ⟨kv, m, of_decide_eq_true e⟩)
    rw [hi]
    show wpAny _ _ (updateDictKeys d fun x => x.push ⟨kn.hash k, u, v⟩) _ _ _
    refine wpAny_updateDictKeys (hz := es_le) g dt (q _ ⟨_, _, ep + 1, Heap.get?_update_self _ g (Obj.isFreed_of_dict (Obj.data_mapDictKeys dt _)), c.mapDictKeys _, Obj.data_mapDictKeys dt _, ko.push hu _, ?_, ?_⟩ (Heap.SameBut.update ..))
    · rw [stored, if_neg no']
      have a := pr.append hu (kn.hash k) v
      obtain ⟨l⟩ := es
      simpa using a
    · rw [stored, if_neg no', List.map_append, List.nodup_append]
      refine ⟨nd, by simp, fun x hx y hy => ?_⟩
      have e : y = k := by simpa using hy
      exact fun z => no (e ▸ z ▸ hx)
  · have yes := any_of_findIdx_some (ix ▸ hi)
    rw [hi]
    show wpAny _ _ (updateDict d fun x => x.modify i fun e => { e with val := v }) _ _ _
    refine wpAny_updateDict g dt (q _ ⟨_, _, ep, Heap.get?_update_self _ g (Obj.isFreed_of_dict (Obj.data_mapDict dt _)), c.mapDict _, Obj.data_mapDict dt _, ko.modify _ _, ?_, ?_⟩ (Heap.SameBut.update ..))
    · have hl : (es.toList.findIdx? fun e => kn.is k e.key) = some i := by
        rw [← hi]
        obtain ⟨l⟩ := es
        simp
      have a := pr.modify nd hl v
      rw [stored, if_pos yes]
      obtain ⟨l⟩ := es
      simpa using a
    · rw [stored, if_pos yes, keys_map_store]
      exact nd
theorem ite_pre {M : Model} {α : Type} {c : Prop} [Decidable c] {m : Sem α} {g : α → Sem PUnit} {r : Sem Unit} {Q : Unit → Shared → Prop} (h : wpAny M A r Q E s) (hc : wpAny M A m (fun a s' => wpAny M A (g a) (fun _ s'' => s'' = s) E s') E s) :
    wpAny M A (if c then m >>= fun a => g a >>= fun _ => r else r) Q E s := by
  split
  · refine wpAny_bind (wpAny_mono hc (fun a s1 z => wpAny_bind (wpAny_mono z (fun _ s2 e => ?_) fun _ _ e => e)) fun _ _ e => e)
    rw [e]
    exact h
  · exact h
theorem merge_run {d b : Addr} {kvs more : List (κ × Value)} {Q : Unit → Shared → Prop} (ne : d ≠ b) (lo : (b == sysModules) = false) (hd : s.heap.DictOf kn d kvs) (hb : s.heap.DictOf kn b more) (hz : kvs.length + more.length ≤ sizeLine)
    (q : ∀ h', h'.DictOf kn d (merged kvs more) → Heap.SameBut d s.heap h' → Q () { s with heap := h' }) : wpAny (model P w) A (mergeMapping d (.ref b) false) Q E s := by
  obtain ⟨o1, es1, ep1, g1, c1, dt1, ko1, pr1, nd1⟩ := id hd
  obtain ⟨o2, es2, ep2, g2, c2, dt2, ko2, pr2, nd2⟩ := id hb
  have len : more.length = es2.size := by
    have a := pr2.length
    rw [← a]
    simp
  unfold mergeMapping
  refine wpAny_bind (wpAny_isInstance hb.typeIs isSubtype_dict_dict ?_)
  dsimp only
  rw [if_pos rfl]
  refine wpAny_bind (wpAny_specialOf hb.typeIs F.slot_dict_iter.lookup (wpAny_bind (wpAny_pure ?_)))
  rw [show (some (Value.builtin "dict.__iter__") == some (Value.builtin "dict.__iter__")) = true from beq_self_eq_true _]
  dsimp only
  rw [if_neg (by rw [lo]; exact Bool.false_ne_true)]
  refine wpAny_bind (wpAny_dictEntries g1 dt1 ?_)
  refine ite_pre ?_ ?_
  · refine wpAny_bind (wpAny_dictEntries g2 dt2 ?_)
    refine wpAny_bind (wpAny_dictEpoch g2 dt2 (wpAny_bind ?_))
    rw [List.range_eq_range']
    refine wpAny_forIn_list _
      (fun rest _ s' => ∃ (h' : Heap) (i : Nat), s' = { s with heap := h' } ∧ rest = List.range' i (es2.size - i) ∧ i ≤ es2.size ∧ h'.DictOf kn d (merged kvs (more.take i)) ∧ h'.get? b = some o2 ∧ Heap.SameBut d s.heap h')
      _ ?_ ?_ _ _ ⟨s.heap, 0, rfl, by simp, Nat.zero_le _, by simpa [merged] using hd, g2, Heap.SameBut.refl _ _⟩
    · rintro x rest c s' ⟨h', i, rfl, er, hi, hm, gb, sb⟩
      have lt : i < es2.size := by
        rcases Nat.lt_or_ge i es2.size with z | z
        · exact z
        · rw [Nat.sub_eq_zero_of_le z] at er
          simp at er
      have er' : x = i ∧ rest = List.range' (i + 1) (es2.size - (i + 1)) := by
        rw [show es2.size - i = (es2.size - (i + 1)) + 1 by omega, List.range'_succ] at er
        injection er with e1 e2
        exact ⟨e1, e2⟩
      obtain ⟨rfl, er2⟩ := er'
      refine wpAny_bind (wpAny_dictEntries gb dt2 ?_)
      rw [Array.getElem?_eq_getElem lt]
      dsimp only
      rw [if_neg Bool.false_ne_true]
      have ml : x < more.length := by rw [len]; exact lt
      have mk : more[x]? = some more[x] := List.getElem?_eq_getElem ml
      obtain ⟨k1, k2⟩ := pr2.get? (e := es2[x]) (k := more[x].1) (v := more[x].2) (by simp [lt]) mk
      obtain ⟨y, y1, y2⟩ := ko2 es2[x] (Array.getElem_mem lt)
      have ey : y = more[x].1 := kn.inj _ _ _ y1 k1
      subst ey
      rw [y2, k2]
      have z1 : (merged kvs (more.take x)).length ≤ sizeLine := by
        have a1 := merged_length_le kvs (more.take x)
        have a2 : (more.take x).length ≤ more.length := by rw [List.length_take]; omega
        omega
      refine wpAny_bind (wpAny_holding (put_run y1 hm z1 fun h2 hd2 sb2 => ?_))
      have gb2 : h2.get? b = some o2 := (sb2.2 b (Ne.symm ne)).trans gb
      refine wpAny_bind (wpAny_dictEpoch gb2 dt2 ?_)
      rw [if_neg (by simp)]
      exact wpAny_pure ⟨h2, x + 1, rfl, er2, lt, by rw [merged_take_succ kvs more x _ mk]; exact hd2, gb2, sb.trans sb2⟩
    · rintro c s' ⟨h', i, rfl, er, hi, hm, gb, sb⟩
      have ei : i = es2.size := by
        rcases Nat.lt_or_ge i es2.size with z | z
        · rw [show es2.size - i = (es2.size - (i + 1)) + 1 by omega, List.range'_succ] at er
          exact nomatch er
        · exact Nat.le_antisymm hi z
      refine wpAny_pure (q h' ?_ sb)
      rw [ei, ← len, List.take_length] at hm
      exact hm
  · refine wpAny_dictEntries g2 dt2 ?_
    have z : (forIn es2 PUnit.unit fun e (_ : PUnit) => (match e.key with
          | Value.ref a => do
            let __do_lift ← specialOf e.key (Str.ofString "__eq__")
            if (__do_lift != some (Value.builtin "object.__eq__")) = true then
                if (Array.filter (fun x => x.hash == e.hash) es2).size > 1 then do
                  let _ ← (unsupported "dict.merge-into-an-empty-dict:keys-of-equal-hash" : Sem PUnit)
                  pure (ForInStep.yield PUnit.unit)
                else pure (ForInStep.yield PUnit.unit)
              else pure (ForInStep.yield PUnit.unit)
          | x => pure (ForInStep.yield PUnit.unit) : Sem (ForInStep PUnit))) = pure PUnit.unit := by
      rw [← Array.forIn_toList]
      refine forIn_yield_id _ fun e he c => ?_
      obtain ⟨y, y1, _⟩ := ko2 e (Array.mem_toList_iff.mp he)
      have bv := kn.byValue y _ y1
      cases hk : e.key <;> first | rfl | (rw [hk] at bv; cases bv)
    exact wpAny_of_eq z rfl
end
end DM
namespace DM
open PySem PySem.Spec PyProof.Rows L2
/-- {**d, k: v}: d a dict with keys ints and texts -/
def tSplat (te tk tv : TE) : TE := fun σ H Q => ∀ p, H p = none → te σ (upd H p (.dK [])) fun m H1 => H1 p = some (.dK []) ∧ ∃ (a : Addr) (es : List (Key × V)), m = .ref a ∧ a ≠ p ∧ H1 a = some (.dK es) ∧ es.length ≤ 1000000 ∧
  ∀ b, b ≠ p → upd H1 p (.dK (mergeK [] es)) b = none → tk σ (upd (upd H1 p (.dK (mergeK [] es))) b (.dK [])) fun x H2 => tv σ H2 fun y H3 => H3 p = some (.dK (mergeK [] es)) ∧ H3 b = some (.dK []) ∧
    ∃ k : Key, x = kV k ∧ Q (.ref p) (upd (upd H3 b (.dK [(k, y)])) p (.dK (putK (mergeK [] es) k y)))
theorem sz7 : 1000002 ≤ sizeLine := by rw [sizeLine_eq]; decide
theorem dd_at {P : Program} {w : World} {h : Heap} {d : Addr} {kvs : List (Key × Value)} (z : h.DictOf (mixKind P w) d kvs) : ∃ q, h.get? d = some q := let ⟨q, _, _, hq, _⟩ := z; ⟨q, hq⟩
theorem pe_splat {X : Cx} {e k v : Expr} {pos : Pos} {te tk tv : TE} (he : PE X e te) (hk : PE X k tk) (hv : PE X v tv) : PE X (.Dict [none, some k] [e, v] pos) (tSplat te tk tv) := by
  refine ⟨fun pins s σ H Q I q => ?_⟩
  have np := I.hok.fresh (Nat.le_refl s.heap.objs.size)
  have I1 := I.laid (a := s.heap.objs.size) (o := .dK []) (h' := s.heap.push { cls := .type "dict", data := .dict #[] }) (t' := s.toks) (fun _ _ r => Heap.get?_push_of_some _ r) (Nat.le_refl _) (dk_empty s.heap I.big)
  have q1 := q _ np
  rw [arm_eval_Dict]
  refine wpAny_bind (wpAny_standAt ?_)
  show wpAny _ _ (dictDisplay [(none, do let x ← eval e X.env; standAt pos; pure x), (some (eval k X.env), do let x ← eval v X.env; standAt pos; pure x)]) _ _ _
  unfold dictDisplay
  simp only [List.forIn_cons, List.forIn_nil, pure_bind, bind_assoc, List.isEmpty_nil, if_true, List.nil_append, List.isEmpty_cons, List.length_singleton, Bool.false_eq_true, if_false, show ((1 : Nat) == 17) = false from rfl]
  refine wpAny_bind (wpAny_alloc ?_)
  generalize s.heap.objs.size = p at np I1 q1 ⊢
  refine wpAny_bind (wpAny_holding (wpAny_bind (thn (he.run pins _ σ _ _ I1 q1) fun u s1 ⟨x, H1, J1, rx, e1, a, es, ex, ap, ea, hl, q2⟩ => wpAny_bind (wpAny_standAt (wpAny_pure ?_)))))
  subst ex
  obtain rfl : u = Value.ref a := rx
  obtain ⟨_, lp, vs0, r0, d0⟩ := dk_of J1.hok e1
  cases r0
  obtain ⟨_, la, vs1, r1, d1⟩ := dk_of J1.hok ea
  have z1 : vs1.length ≤ 1000000 := by rw [← r1.length]; exact hl
  refine wpAny_bind (wpAny_onRaise (wpAny_tryCatch (wpAny_onRaise (wpAny_holding (merge_run (kn := mixKind X.prog X.w) (Ne.symm ap) la d0 d1 (by have := sz7; simp; omega) fun h1 dm sb => ?_)))))
  have zm : (mergeK [] es).length ≤ 1000000 := by
    have a1 := length_mergeK es []
    rw [List.length_nil] at a1
    omega
  have J2 : Inv X pins σ (upd H1 p (.dK (mergeK [] es))) { s1 with heap := h1 } := d_write (t' := s1.toks) J1 (by rw [e1]; exact True.intro) sb (dd_at dm) (dk_new (by have := sz7; omega) lp (r1.merge .nil) dm)
  refine wpAny_bind (wpAny_holding (wpAny_subDict (knd := mixKind X.prog X.w) (by simp) ?_))
  have nb := J2.hok.fresh (Nat.le_refl h1.objs.size)
  have J3 := J2.laid (a := h1.objs.size) (o := .dK []) (h' := h1.push { cls := .type "dict", data := .dict #[] }) (t' := s1.toks) (fun _ _ r => Heap.get?_push_of_some _ r) (Nat.le_refl _) (dk_empty h1 J2.big)
  have bp : h1.objs.size ≠ p := fun z => by
    rw [z, upd_same] at nb
    cases nb
  have q3 := q2 _ bp nb
  show wpAny _ _ (evalPairs _) _ _ { heap := h1.push { cls := .type "dict", data := .dict #[] }, gens := s1.gens, drawn := s1.drawn, toks := s1.toks, os := s1.os }
  dsimp only
  generalize h1.objs.size = b at nb J3 bp q3 ⊢
  refine evalPairs_cons (thn (hk.run pins _ σ _ _ J3 q3) fun u2 s2 ⟨x, H2, K1, rx, q4⟩ => wpAny_bind (thn (hv.run pins s2 σ H2 _ K1 q4) fun u3 s3 ⟨y, H3, K2, ry, e3, e4, k', ek, q5⟩ => wpAny_bind (wpAny_standAt (wpAny_pure (evalPairs_nil ?_)))))
  subst ek
  obtain ⟨_, lb, vs2, r2, d2⟩ := dk_of K2.hok e4
  cases r2
  refine ⟨[(k', u3)], ⟨kV_is rx, rfl, True.intro⟩, d2, fun h2 dn sc => ?_⟩
  have rk : KV [(k', y)] [(k', u3)] := .cons ⟨rfl, ry⟩ .nil
  have K3 : Inv X pins σ (upd H3 b (.dK [(k', y)])) { s3 with heap := h2, toks := s3.toks + 1 } := d_write (t' := s3.toks + 1) K2 (by rw [e4]; exact True.intro) sc (dd_at dn) (dk_new (by show 1 ≤ sizeLine; have := sz7; omega) lb rk dn)
  have e5 : upd H3 b (.dK [(k', y)]) p = some (.dK (mergeK [] es)) := by rw [upd_ne (Ne.symm bp)]; exact e3
  obtain ⟨_, _, vs3, r3, d3⟩ := dk_of K3.hok e5
  have z3 : vs3.length ≤ 1000000 := by rw [← r3.length]; exact zm
  refine wpAny_bind (wpAny_onRaise (wpAny_holding (merge_run (kn := mixKind X.prog X.w) (Ne.symm bp) lb d3 dn (by have := sz7; show vs3.length + 1 ≤ sizeLine; omega) fun h3 dq sd => wpAny_pure ?_)))
  have zp := length_putK (mergeK [] es) k' y
  exact ⟨.ref p, _, d_write (t' := s3.toks + 1) K3 (by rw [e5]; exact True.intro) sd (dd_at dq) (dk_new (by have := sz7; omega) lp (r3.put k' ry) dq), rfl, q5⟩
end DM

set_option Elab.async false
set_option linter.all false
set_option maxRecDepth 100000
set_option maxHeartbeats 4000000
/-! DSM: {**d, k: v} and `is` of bools over the data layer. -/
namespace DL
open PySem PySem.Spec PyProof.Rows L2 GG DD PT DM
variable {K : KX}
def oIsB (neg : Bool) : D2 := fun d e P => match d, e with
  | .bool a, .bool b => P (.bool (if neg then !decide (a = b) else decide (a = b)))
  | _, _ => False
theorem ro_isB : RO K rIsB (oIsB false) := fun S H x y d e P Q _ hx hy h q => by
  unfold oIsB at h
  split at h
  · cases hx
    cases hy
    exact ⟨_, _, rfl, rfl, q _ H _ h (Same.refl _) (.bl _)⟩
  · exact h.elim
theorem ro_notB : RO K rNotB (oIsB true) := fun S H x y d e P Q _ hx hy h q => by
  unfold oIsB at h
  split at h
  · cases hx
    cases hy
    exact ⟨_, _, rfl, rfl, q _ H _ h (Same.refl _) (.bl _)⟩
  · exact h.elim
/-! ### {**d, k: i}, the key and the number written in the text -/
def dSplat (de : DE) (k : L2.Key) (i : Int) : DK := fun s P => de s fun d s1 => match d with
  | .dict kvs => kvs.length ≤ 1000000 ∧ ∃ k0, keysD kvs = some k0 ∧ P (dputD (mergeD [] k0) k (.int i)) s1
  | _ => False
theorem keyD_kOf (k : L2.Key) : kOf (keyD k) = some k := by cases k <;> rfl
theorem keysD_da {H : Hp} : ∀ {es : List (L2.Key × V)} {kvs : List (PyData × PyData)} {k0 : List (L2.Key × PyData)}, DaKv K H es kvs → keysD kvs = some k0 → Paired (fun (a : L2.Key × V) (b : L2.Key × PyData) => a.1 = b.1 ∧ Da K H a.2 b.2) es k0 ∧ es.length = kvs.length
  | _, _, _, .nil, e => by
    cases e
    exact ⟨.nil, rfl⟩
  | _, _, _, .cons (k := k) (v := v) (r := r) (d := d) (ds := ds) h t, e => by
    unfold keysD at e
    rw [keyD_kOf] at e
    cases e2 : keysD ds with
    | none => rw [e2] at e; cases e
    | some r' =>
      rw [e2] at e
      cases e
      obtain ⟨p, l⟩ := keysD_da t e2
      exact ⟨.cons ⟨rfl, h⟩ p, by simp [l]⟩
theorem keysD_kt {H : Hp} {es : List (List L2.Key × V)} {kvs : List (PyData × PyData)} {k0 : List (L2.Key × PyData)} (h : DaKt K H es kvs) (n : es ≠ []) (e : keysD kvs = some k0) : False := by
  cases h with
  | nil => exact n rfl
  | cons h t =>
    unfold keysD at e
    rw [show kOf (.tuple _) = none from rfl] at e
    cases e
theorem upd_two {H : Hp} {p b : Addr} {x y z u : HO} (n : b ≠ p) : upd (upd (upd (upd H p x) b y) b z) p u = upd (upd (del H p) b z) p u := by
  funext c
  by_cases e : c = p
  · subst e
    rw [upd_same, upd_same]
  · rw [upd_ne e, upd_ne e]
    by_cases e2 : c = b
    · subst e2
      rw [upd_same, upd_same]
    · rw [upd_ne e2, upd_ne e2, upd_ne e2, upd_ne e, del_ne e]
theorem rd_splat {te : TE} {de : DE} {k : L2.Key} {i : Int} (h1 : RE K te de) : RD K (tSplat te (tC (kV k)) (tC (.int i))) (dSplat de k i) := fun C hC s P hd σ H Q R q p np => by
  obtain ⟨n1, n2⟩ := R.new np
  have nM : ¬ Mu C.W p := fun z => n1 (.inr (.inl z))
  have R1 : Rl ((C.hide p).pin p (.dK [])) σ (upd H p (.dK [])) s := (R.hidden np).pin (.inr rfl) nM upd_same
  refine h1 ((C.hide p).pin p (.dK [])) hC s _ hd σ _ _ R1 fun m H1 d s1 hp R2 hm => ⟨R2.unpin.2, ?_⟩
  cases d with
  | dict kvs =>
    obtain ⟨hl, k0, hk, hp⟩ := hp
    cases hm with
    | dct g hn t => exact (keysD_kt t hn hk).elim
    | @dic a es _ g t =>
      obtain ⟨g1, g3⟩ := hd_some g
      have ap : a ≠ p := fun z => g1 (.inl (.inr z))
      obtain ⟨pr, len⟩ := keysD_da t hk
      refine ⟨a, es, rfl, ap, g3, by omega, fun b bp nb => ?_⟩
      have nb1 : H1 b = none := by rw [upd_ne bp] at nb; exact nb
      obtain ⟨R3, hs⟩ := R2.unpin.1.leave (fun z => n1 (.inl z)) nM n2 fun a u z => (R.fz a u z).1
      have nb2 : del H1 p b = none := by rw [del_ne bp]; exact nb1
      refine ⟨by rw [upd_ne (Ne.symm bp)]; exact upd_same, upd_same, k, rfl, ?_⟩
      rw [upd_two bp]
      refine q p _ _ _ s1 hp (R3.ext (same_upd nb2)) (by rw [upd_ne (Ne.symm bp)]; exact if_pos rfl) (put_da ?_ (.int i))
      exact (merge_da pr .nil).of (hs.trans (R3.kp nb2))
  | _ => exact hp.elim
end DL

set_option Elab.async false
set_option linter.all false
set_option maxRecDepth 100000
set_option maxHeartbeats 4000000
/-! ZS: zip(a, b, strict=True) of lists and tuples of one length. -/
namespace ZS
open PySem PySem.Spec PyProof.Rows L2
/-- kinds: true lists, false tuples -/
def ItB : Bool → Heap → Addr → Addr → Nat → Prop
  | true, h, i, l, k => h.IsListIter i l k
  | false, h, i, l, k => h.IsTupleIter i l k
def SeB : Bool → Heap → Addr → Array Value → Prop
  | true, h, l, xs => h.IsList l xs
  | false, h, l, xs => h.IsTuple l xs
theorem ItB.ext {b : Bool} {h h' : Heap} {i j l : Addr} {k : Nat} (x : ItB b h i l k) (e : Heap.ExtBut j h h') (n : i ≠ j) : ItB b h' i l k := by
  cases b with
  | true => exact Heap.IsListIter.extBut x e n
  | false => exact Heap.IsTupleIter.extBut x e n
theorem ItB.mv {b : Bool} {h h' : Heap} {i l : Addr} {k : Nat} (x : ItB b h i l k) (e : ∀ o, h.get? i = some o → h'.get? i = some o) : ItB b h' i l k := by
  cases b with
  | true => exact Heap.IsListIter.at x e
  | false => exact Heap.IsTupleIter.at x e
theorem ItB.ob {b : Bool} {h : Heap} {i l : Addr} {k : Nat} (x : ItB b h i l k) : ∃ o, h.get? i = some o ∧ ∀ v, o.data ≠ .cell v := by
  cases b with
  | true =>
    obtain ⟨o, e, _, d⟩ := x
    exact ⟨o, e, fun v q => by rw [d] at q; cases q⟩
  | false =>
    obtain ⟨o, e, _, d⟩ := x
    exact ⟨o, e, fun v q => by rw [d] at q; cases q⟩
theorem SeB.ext {b : Bool} {h h' : Heap} {j l : Addr} {xs : Array Value} (x : SeB b h l xs) (e : Heap.ExtBut j h h') (n : l ≠ j) : SeB b h' l xs := by
  cases b with
  | true => exact Heap.IsList.extBut x e n
  | false => exact Heap.IsTuple.extBut x e n
section
variable {P : Program} {w : World} {A : Around} {E : Value → Shared → Prop} {s : Shared}
theorem nx_item {b : Bool} {i l : Addr} {k : Nat} {xs : Array Value} {x : Value} {Q : Option Value → Shared → Prop} (h1 : ItB b s.heap i l k) (h2 : SeB b s.heap l xs) (hx : xs[k]? = some x)
    (q : ∀ h', ItB b h' i l (k + 1) → Heap.SameBut i s.heap h' → Q (some x) { s with heap := h' }) : wpAny (model P w) A (Builtin.SmallTypes.nextOrEnd (.ref i)) Q E s := by
  unfold Builtin.SmallTypes.nextOrEnd
  refine wpAny_bind (wpAny_attempt ?_)
  cases b with
  | true => exact wpAny_nextOf_list_item h1 h2 hx fun h' a c => wpAny_pure (q h' a c)
  | false => exact RZ.nextOf_tuple_item h1 h2 hx fun h' a c => wpAny_pure (q h' a c)
theorem nx_end {b : Bool} {i l : Addr} {k : Nat} {xs : Array Value} {Q : Option Value → Shared → Prop} (hh : A.handled = none) (h1 : ItB b s.heap i l k) (h2 : SeB b s.heap l xs) (hx : xs[k]? = none)
    (q : ∀ h', Heap.ExtBut i s.heap h' → Q none { s with heap := h' }) : wpAny (model P w) A (Builtin.SmallTypes.nextOrEnd (.ref i)) Q E s := by
  unfold Builtin.SmallTypes.nextOrEnd
  refine wpAny_bind (wpAny_attempt ?_)
  have fin : ∀ h' e, Heap.ExtBut i s.heap h' → (∃ o, h'.get? e = some o ∧ o.cls = .type "StopIteration") → wpAny (model P w) A (do if ← isInstance (.ref e) (.type "StopIteration") then pure none else throw (.ref e) : Sem (Option Value)) Q E { s with heap := h' } := fun h' e k ⟨o, ho, hc⟩ =>
    wpAny_bind (wpAny_isInstance (T := "StopIteration") (b := true) ⟨o, ho, hc⟩ isSubtype_stop (wpAny_pure (q h' k)))
  cases b with
  | true => exact wpAny_nextOf_list_end hh h1 h2 hx fin
  | false => exact RZ.nextOf_tuple_end hh h1 h2 hx fin
/-- the zip object itself -/
abbrev ZAt (h : Heap) (z TI TO : Addr) (f0 : Value) (f1 : Bool) : Prop := h.get? z = some { cls := .type "zip", dict := none, data := .fields #[f0, .bool f1, .bool true, .ref TI, .ref TO], slots := #[] }
def F0 (f0 : Value) : Prop := f0 = .none ∨ ∃ T : Addr, f0 = rawInt T
theorem dead {a : Addr} {Q : Option Obj → Shared → Prop} (ho : s.heap.get? a = none) (h : Q none s) : wpAny (model P w) A (loadIfAlive a) Q E s := by
  have h' : Q (s.heap.get? a) s := by rw [ho]; exact h
  exact fun _ _ _ => h'
theorem own_free {z TI TO : Addr} {f0 : Value} {f1 : Bool} {Q : Bool → Shared → Prop} (hz : ZAt s.heap z TI TO f0 f1) (hf : F0 f0) (q1 : Q true s) (q2 : ∀ h', ZAt h' z TI TO f0 true → Heap.SameBut z s.heap h' → Q false { s with heap := h' }) :
    wpAny (model P w) A (Builtin.SmallTypes.ownedTupleIsFree (.ref z)) Q E s := by
  unfold Builtin.SmallTypes.ownedTupleIsFree
  rcases hf with rfl | ⟨T, rfl⟩
  · exact wpAny_bind (wpAny_field hz rfl (x := .none) rfl (wpAny_pure q1))
  · refine wpAny_bind (wpAny_field hz rfl (x := rawInt T) rfl ?_)
    show wpAny _ _ (loadIfAlive ((T : Int).toNat) >>= _) _ _ _
    rw [Int.toNat_natCast]
    cases hT : s.heap.get? T with
    | none =>
      refine wpAny_bind (dead hT ?_)
      simp only [Option.isNone_none, if_true]
      exact wpAny_pure q1
    | some oT =>
      refine wpAny_bind (PySem.W.kdx_alive hT ?_)
      simp only [Option.isNone_some, Bool.false_eq_true, if_false]
      refine wpAny_bind (wpAny_field hz rfl (x := .bool f1) rfl ?_)
      cases f1 with
      | true =>
        rw [if_neg (show ¬ ((Value.bool true != Value.bool true) = true) from Bool.false_ne_true)]
        exact wpAny_pure (q2 s.heap hz (Heap.SameBut.refl _ _))
      | false =>
        rw [if_pos (show (Value.bool false != Value.bool true) = true from rfl)]
        exact wpAny_bind (wpAny_setField_rec hz (by simp) fun h1 hz1 hs1 => wpAny_pure (q2 h1 hz1 hs1))
/-- the zip between two turns -/
structure ZSt (b1 b2 : Bool) (z TI TO i1 i2 l1 l2 : Addr) (k : Nat) (h : Heap) : Prop where
  z : ∃ f0 f1, F0 f0 ∧ ZAt h z TI TO f0 f1
  i : IsPair h TI (.ref i1) (.ref i2)
  o : ∃ a b, IsPair h TO a b
  j1 : ItB b1 h i1 l1 k
  j2 : ItB b2 h i2 l2 k
theorem zs_item {b1 b2 : Bool} {z TI TO i1 i2 l1 l2 : Addr} {k : Nat} {xs ys : Array Value} {x y : Value} {Q : Value → Shared → Prop} (D : ZipApart z TI TO i1 i2 l1 l2)
    (S : ZSt b1 b2 z TI TO i1 i2 l1 l2 k s.heap) (q1 : SeB b1 s.heap l1 xs) (q2 : SeB b2 s.heap l2 ys) (hx : xs[k]? = some x) (hy : ys[k]? = some y)
    (q : ∀ h', ZSt b1 b2 z TI TO i1 i2 l1 l2 (k + 1) h' → IsPair h' s.heap.objs.size x y → (∀ c o, c ≠ z → c ≠ TO → c ≠ i1 → c ≠ i2 → s.heap.get? c = some o → h'.get? c = some o) → Q (.ref s.heap.objs.size) { s with heap := h' }) :
    wpAny (model P w) A (Builtin.«zip.__next__» ⟨[.ref z], []⟩) (fun f s' => ∃ v, f = .done (.ret v) ∧ Q v s') E s := by
  obtain ⟨⟨f0, f1, hf, hz⟩, hI, ⟨a, b, hO⟩, j1, j2⟩ := S
  show wpAny _ _ (field (.ref z) 2 >>= _) _ _ _
  refine wpAny_bind (wpAny_field hz rfl (x := .bool true) rfl ?_); show wpAny _ _ (field (.ref z) 3 >>= _) _ _ _
  refine wpAny_bind (wpAny_field hz rfl (x := .ref TI) rfl (wpAny_bind (wpAny_seqItems hI rfl ?_)))
  show wpAny _ _ (Builtin.SmallTypes.ownedTupleIsFree (.ref z) >>= _) _ _ _; refine wpAny_bind (own_free hz hf ?_ fun h1 z1 s1 => ?_)
  · simp only [if_true]
    refine wpAny_bind (wpAny_rule (wpAny_bind (wpAny_field hz rfl (x := .ref TO) rfl (wpAny_bind (wpAny_setField_rec hz (by simp) fun g1 z1 s1 => wpAny_bind ?_)))))
    replace z1 : ZAt g1 z TI TO .ellipsis f1 := z1
    simp only [List.zipIdx_cons, List.zipIdx_nil, List.forIn_cons, List.forIn_nil]; refine wpAny_bind (wpAny_bind (wpAny_onRaise ?_))
    show wpAny _ _ (Builtin.SmallTypes.nextOrEnd (.ref i1)) _ _ _
    refine nx_item (j1.ext s1.extBut D.i1z) (q1.ext s1.extBut D.l1z) hx fun g2 j12 s2 => ?_
    have o2 : IsPair g2 TO a b := s2.extBut _ _ D.TOi1 (s1.extBut _ _ D.TOz hO)
    refine wpAny_bind (wpAny_seqItems o2 rfl (wpAny_bind (wpAny_updateSeq_pair o2 fun g3 o3 s3 => ?_))); replace o3 : IsPair g3 TO x b := o3
    refine wpAny_bind (wpAny_letGo (wpAny_pure ?_)); refine wpAny_bind (wpAny_bind (wpAny_onRaise ?_))
    show wpAny _ _ (Builtin.SmallTypes.nextOrEnd (.ref i2)) _ _ _
    refine nx_item (((j2.ext s1.extBut D.i2z).ext s2.extBut D.i12.symm).ext s3.extBut D.TOi2.symm) (((q2.ext s1.extBut D.l2z).ext s2.extBut D.l2i1).ext s3.extBut D.l2TO) hy fun g4 j24 s4 => ?_
    have o4 : IsPair g4 TO x b := s4.extBut _ _ D.TOi2 o3
    refine wpAny_bind (wpAny_seqItems o4 rfl (wpAny_bind (wpAny_updateSeq_pair o4 fun g5 o5 s5 => ?_))); replace o5 : IsPair g5 TO x y := o5
    refine wpAny_bind (wpAny_letGo (wpAny_pure (wpAny_pure (wpAny_bind (wpAny_seqItems o5 rfl (wpAny_bind (wpAny_newTuple ?_)))))))
    have sz : g5.objs.size = s.heap.objs.size := by rw [s5.1, s4.1, s3.1, s2.1, s1.1]
    have z5 : ZAt g5 z TI TO .ellipsis f1 := s5.extBut _ _ D.TOz.symm (s4.extBut _ _ D.i2z.symm (s3.extBut _ _ D.TOz.symm (s2.extBut _ _ D.i1z.symm z1)))
    have kp : ∀ c o, c ≠ z → c ≠ TO → c ≠ i1 → c ≠ i2 → s.heap.get? c = some o → g5.get? c = some o := fun c o n1 n2 n3 n4 e => s5.extBut _ _ n2 (s4.extBut _ _ n4 (s3.extBut _ _ n2 (s2.extBut _ _ n3 (s1.extBut _ _ n1 e))))
    have j15 : ItB b1 g5 i1 l1 (k + 1) := ((j12.ext s3.extBut D.TOi1.symm).ext s4.extBut D.i12).ext s5.extBut D.TOi1.symm
    have j25 : ItB b2 g5 i2 l2 (k + 1) := j24.ext s5.extBut D.TOi2.symm
    have zl : z < g5.objs.size := Heap.lt_size z5
    show wpAny _ _ (Builtin.SmallTypes.ownedTupleHandOut (.ref z) (.ref g5.objs.size) >>= _) _ _ _; refine wpAny_bind ?_
    unfold Builtin.SmallTypes.ownedTupleHandOut
    have z6 : ZAt (g5.push { cls := .type "tuple", data := .seq #[x, y] }) z TI TO .ellipsis f1 := Heap.get?_push_of_some _ z5
    refine wpAny_bind (wpAny_setField_rec z6 (by simp) fun g7 z7 s7 => ?_); replace z7 : ZAt g7 z TI TO (rawInt g5.objs.size) f1 := z7
    refine wpAny_setField_rec z7 (by simp) fun g8 z8 s8 => ?_; replace z8 : ZAt g8 z TI TO (rawInt g5.objs.size) false := z8
    have up : ∀ c o, c ≠ z → g5.get? c = some o → g8.get? c = some o := fun c o n e => s8.extBut _ _ n (s7.extBut _ _ n (Heap.get?_push_of_some _ e))
    have t8 : IsPair g8 g5.objs.size x y := s8.extBut _ _ (Nat.ne_of_gt zl) (s7.extBut _ _ (Nat.ne_of_gt zl) (Heap.get?_push_size _ rfl))
    rw [sz] at z8 t8
    have hI8 : IsPair g8 TI (.ref i1) (.ref i2) := up _ _ D.TIz (kp _ _ D.TIz D.TITO D.TIi1 D.TIi2 hI)
    refine wpAny_pure ⟨_, rfl, ?_⟩; show Q (.ref g5.objs.size) _
    rw [sz]
    exact q g8 ⟨⟨_, _, .inr ⟨_, rfl⟩, z8⟩, hI8, ⟨_, _, up _ _ D.TOz o5⟩, j15.mv fun o e => up _ o D.i1z e, j25.mv fun o e => up _ o D.i2z e⟩ t8 fun c o n1 n2 n3 n4 e => up c o n1 (kp c o n1 n2 n3 n4 e)
  · simp only [Bool.false_eq_true, if_false]; refine wpAny_bind ?_; rw [← Array.forIn_toList]; simp only [List.forIn_cons, List.forIn_nil]
    refine wpAny_bind (wpAny_bind (wpAny_holding ?_)); show wpAny _ _ (Builtin.SmallTypes.nextOrEnd (.ref i1)) _ _ _
    refine nx_item (s := { s with heap := h1 }) (j1.ext s1.extBut D.i1z) (q1.ext s1.extBut D.l1z) hx fun g2 j12 s2 => wpAny_pure ?_
    refine wpAny_bind (wpAny_bind (wpAny_holding ?_)); show wpAny _ _ (Builtin.SmallTypes.nextOrEnd (.ref i2)) _ _ _
    refine nx_item (s := { s with heap := g2 }) ((j2.ext s1.extBut D.i2z).ext s2.extBut D.i12.symm) ((q2.ext s1.extBut D.l2z).ext s2.extBut D.l2i1) hy fun g3 j23 s3 => wpAny_pure (wpAny_pure ?_)
    show wpAny _ _ (newTuple [x, y] >>= _) _ _ _; refine wpAny_bind (wpAny_newTuple ?_)
    have sz : g3.objs.size = s.heap.objs.size := by rw [s3.1, s2.1, s1.1]
    have tp : IsPair (g3.push { cls := .type "tuple", data := .seq #[x, y] }) g3.objs.size x y := Heap.get?_push_size _ rfl
    have kp : ∀ c o, c ≠ z → c ≠ i1 → c ≠ i2 → s.heap.get? c = some o → g3.get? c = some o := fun c o n1 n3 n4 e => s3.extBut _ _ n4 (s2.extBut _ _ n3 (s1.extBut _ _ n1 e))
    have z3 : ZAt g3 z TI TO f0 true := s3.extBut _ _ D.i2z.symm (s2.extBut _ _ D.i1z.symm z1)
    refine wpAny_pure ⟨_, rfl, ?_⟩; show Q (.ref g3.objs.size) _
    rw [sz] at tp ⊢
    exact q _ ⟨⟨_, _, hf, Heap.get?_push_of_some _ z3⟩, Heap.get?_push_of_some _ (kp _ _ D.TIz D.TIi1 D.TIi2 hI), ⟨_, _, Heap.get?_push_of_some _ (kp _ _ D.TOz D.TOi1 D.TOi2 hO)⟩,
      (j12.ext s3.extBut D.i12).mv fun o e => Heap.get?_push_of_some _ e, j23.mv fun o e => Heap.get?_push_of_some _ e⟩ tp fun c o n1 _ n3 n4 e => Heap.get?_push_of_some _ (kp c o n1 n3 n4 e)
theorem stop_it {α : Type} {Q : α → Shared → Prop} (hh : A.handled = none) (q : ∀ h' e, (∀ c o, s.heap.get? c = some o → h'.get? c = some o) → (∃ o, h'.get? e = some o ∧ o.cls = .type "StopIteration") → E (.ref e) { s with heap := h' }) :
    wpAny (model P w) A (Builtin.SmallTypes.stopIteration : Sem α) Q E s := by
  show wpAny _ _ (newExc (.type "StopIteration") [] >>= _) _ _ _
  refine wpAny_bind ?_
  simp only [newExc, newTuple]
  refine wpAny_bind (wpAny_newObj_type ?_ (by size_fits))
  refine wpAny_bind (m := firstArgMember _ _) (wpAny_of_eq (a := Value.none) (by first | rfl | (simp only [firstArgMember]; rfl)) ?_)
  refine wpAny_newObj_type ?_ (by size_fits)
  simp only [raiseNew]
  refine wpAny_bind (wpAny_handled ?_)
  rw [hh]
  refine wpAny_bind (wpAny_pure (wpAny_throw ?_))
  exact q _ _ (fun c o e => Heap.get?_push_of_some _ (Heap.get?_push_of_some _ e)) ⟨_, Heap.get?_push_size _ rfl, rfl⟩
theorem zs_end {b1 b2 : Bool} {z TI TO i1 i2 l1 l2 : Addr} {k : Nat} {xs ys : Array Value} {Q : Fin → Shared → Prop} (hh : A.handled = none) (D : ZipApart z TI TO i1 i2 l1 l2)
    (S : ZSt b1 b2 z TI TO i1 i2 l1 l2 k s.heap) (q1 : SeB b1 s.heap l1 xs) (q2 : SeB b2 s.heap l2 ys) (hx : xs[k]? = none) (hy : ys[k]? = none)
    (q : ∀ h' e, (∀ c o, c ≠ z → c ≠ TO → c ≠ i1 → c ≠ i2 → s.heap.get? c = some o → h'.get? c = some o) → (∃ o, h'.get? e = some o ∧ o.cls = .type "StopIteration") → E (.ref e) { s with heap := h' }) :
    wpAny (model P w) A (Builtin.«zip.__next__» ⟨[.ref z], []⟩) Q E s := by
  obtain ⟨⟨f0, f1, hf, hz⟩, hI, ⟨a, b, hO⟩, j1, j2⟩ := S
  show wpAny _ _ (field (.ref z) 2 >>= _) _ _ _
  refine wpAny_bind (wpAny_field hz rfl (x := .bool true) rfl ?_); show wpAny _ _ (field (.ref z) 3 >>= _) _ _ _
  refine wpAny_bind (wpAny_field hz rfl (x := .ref TI) rfl (wpAny_bind (wpAny_seqItems hI rfl ?_)))
  show wpAny _ _ (Builtin.SmallTypes.ownedTupleIsFree (.ref z) >>= _) _ _ _; refine wpAny_bind (own_free hz hf ?_ fun h1 z1 s1 => ?_)
  · simp only [if_true]
    refine wpAny_bind (wpAny_rule (wpAny_bind (wpAny_field hz rfl (x := .ref TO) rfl (wpAny_bind (wpAny_setField_rec hz (by simp) fun g1 z1 s1 => wpAny_bind ?_)))))
    replace z1 : ZAt g1 z TI TO .ellipsis f1 := z1
    simp only [List.zipIdx_cons, List.zipIdx_nil, List.forIn_cons, List.forIn_nil]; refine wpAny_bind (wpAny_bind (wpAny_onRaise ?_))
    show wpAny _ _ (Builtin.SmallTypes.nextOrEnd (.ref i1)) _ _ _
    refine nx_end hh (j1.ext s1.extBut D.i1z) (q1.ext s1.extBut D.l1z) hx fun g2 s2 => ?_
    show wpAny _ _ (setField (.ref z) 0 .none >>= _) _ _ _
    have z2 : ZAt g2 z TI TO .ellipsis f1 := s2 _ _ D.i1z.symm z1
    refine wpAny_bind (wpAny_setField_rec (s := { s with heap := g2 }) z2 (by simp) fun g3 z3 s3 => wpAny_bind ?_)
    show wpAny _ _ (bind _ _) _ _ _
    refine wpAny_bind ?_
    simp only [List.drop_succ_cons, List.drop_zero, List.zipIdx_cons, List.zipIdx_nil, List.forIn_cons, List.forIn_nil]
    refine wpAny_bind (wpAny_bind ?_)
    refine nx_end (s := { s with heap := g3 }) hh (((j2.ext s1.extBut D.i2z).ext s2 D.i12.symm).ext s3.extBut D.i2z) (((q2.ext s1.extBut D.l2z).ext s2 D.l2i1).ext s3.extBut D.l2z) hy fun g4 s4 => ?_
    simp only [Option.isSome_none, Bool.false_eq_true, if_false]
    refine wpAny_pure (wpAny_pure (wpAny_bind (wpAny_rule ?_)))
    refine stop_it (s := { s with heap := g4 }) hh fun h' e k he => ?_
    exact q h' e (fun c o n1 n2 n3 n4 x => k c o (s4 _ _ n4 (s3.extBut _ _ n1 (s2 _ _ n3 (s1.extBut _ _ n1 x))))) he
  · simp only [Bool.false_eq_true, if_false]; refine wpAny_bind ?_; rw [← Array.forIn_toList]; simp only [List.forIn_cons, List.forIn_nil]
    refine wpAny_bind (wpAny_bind (wpAny_holding ?_)); show wpAny _ _ (Builtin.SmallTypes.nextOrEnd (.ref i1)) _ _ _
    refine nx_end (s := { s with heap := h1 }) hh (j1.ext s1.extBut D.i1z) (q1.ext s1.extBut D.l1z) hx fun g2 s2 => ?_
    refine wpAny_bind ?_
    show wpAny _ _ (bind _ _) _ _ _
    refine wpAny_bind ?_
    simp only [List.drop_succ_cons, List.drop_zero, List.zipIdx_cons, List.zipIdx_nil, List.forIn_cons, List.forIn_nil]
    refine wpAny_bind (wpAny_bind ?_)
    refine nx_end (s := { s with heap := g2 }) hh ((j2.ext s1.extBut D.i2z).ext s2 D.i12.symm) ((q2.ext s1.extBut D.l2z).ext s2 D.l2i1) hy fun g4 s4 => ?_
    simp only [Option.isSome_none, Bool.false_eq_true, if_false]
    refine wpAny_pure (wpAny_pure (wpAny_bind (wpAny_rule ?_)))
    refine stop_it (s := { s with heap := g4 }) hh fun h' e k he => ?_
    exact q h' e (fun c o n1 n2 n3 n4 x => k c o (s4 _ _ n4 (s2 _ _ n3 (s1.extBut _ _ n1 x)))) he
theorem py_item {b1 b2 : Bool} {z TI TO i1 i2 l1 l2 : Addr} {k : Nat} {xs ys : Array Value} {x y : Value} {Q : Option Value → Shared → Prop} (D : ZipApart z TI TO i1 i2 l1 l2)
    (S : ZSt b1 b2 z TI TO i1 i2 l1 l2 k s.heap) (q1 : SeB b1 s.heap l1 xs) (q2 : SeB b2 s.heap l2 ys) (hx : xs[k]? = some x) (hy : ys[k]? = some y)
    (q : ∀ h', ZSt b1 b2 z TI TO i1 i2 l1 l2 (k + 1) h' → IsPair h' s.heap.objs.size x y → (∀ c o, c ≠ z → c ≠ TO → c ≠ i1 → c ≠ i2 → s.heap.get? c = some o → h'.get? c = some o) → Q (some (.ref s.heap.objs.size)) { s with heap := h' }) :
    wpAny (model P w) A (pyNext (.ref z)) Q E s := by
  have hT : s.TypeIs (.ref z) "zip" := by
    obtain ⟨f0, f1, _, e⟩ := S.z
    exact ⟨_, e, rfl⟩
  unfold pyNext
  exact wpAny_bind (wpAny_attempt (wpAny_callSpecial?_slot (name := Str.ofString "__next__") hT F.slot_zip_next
    (wpAny_call_entry F.slot_zip_next hT F.entry_zip_next (zs_item D S q1 q2 hx hy fun h' a1 a2 a3 => wpAny_pure (q h' a1 a2 a3)) (F.args_zip_next_1 _))))
theorem py_end {b1 b2 : Bool} {z TI TO i1 i2 l1 l2 : Addr} {k : Nat} {xs ys : Array Value} {Q : Option Value → Shared → Prop} (hh : A.handled = none) (D : ZipApart z TI TO i1 i2 l1 l2)
    (S : ZSt b1 b2 z TI TO i1 i2 l1 l2 k s.heap) (q1 : SeB b1 s.heap l1 xs) (q2 : SeB b2 s.heap l2 ys) (hx : xs[k]? = none) (hy : ys[k]? = none)
    (q : ∀ h', (∀ c o, c ≠ z → c ≠ TO → c ≠ i1 → c ≠ i2 → s.heap.get? c = some o → h'.get? c = some o) → Q none { s with heap := h' }) :
    wpAny (model P w) A (pyNext (.ref z)) Q E s := by
  have hT : s.TypeIs (.ref z) "zip" := by
    obtain ⟨f0, f1, _, e⟩ := S.z
    exact ⟨_, e, rfl⟩
  unfold pyNext
  refine wpAny_bind (wpAny_attempt (wpAny_callSpecial?_slot (name := Str.ofString "__next__") hT F.slot_zip_next
    (wpAny_call_entry F.slot_zip_next hT F.entry_zip_next (zs_end hh D S q1 q2 hx hy fun h' e hk he => ?_) (F.args_zip_next_1 _))))
  obtain ⟨o, ho, hc⟩ := he
  refine wpAny_bind (wpAny_isInstance (T := "StopIteration") (b := true) ⟨o, ho, hc⟩ isSubtype_stop ?_)
  exact wpAny_pure (q _ hk)
theorem zs_go {tg : Expr} {z TI TO : Addr} {f0 : Value} {f1 : Bool} {u : Value} {Q : Unit → Shared → Prop} (hz : ZAt s.heap z TI TO f0 f1) (hf : F0 f0) (q : ∀ h' f0', F0 f0' → ZAt h' z TI TO f0' f1 → Heap.SameBut z s.heap h' → Q () { s with heap := h' }) :
    wpAny (model P w) A (letOwnedTupleGo tg (.ref z) u) Q E s := by
  have q0 : Q () s := q s.heap f0 hf hz (Heap.SameBut.refl _ _)
  have key : ∀ T : Addr, wpAny (model P w) A (if (["enumerate", "zip", "dict_itemiterator", "dict_reverseitemiterator", "odict_iterator", "itertools.zip_longest", "itertools.pairwise"].contains "zip" && (#[f0, .bool f1, .bool true, .ref TI, .ref TO] : Array Value)[0]? == some (rawInt T)) = true then
      (do rule "for.unpacks-the-owned-tuple"; updateField z 0 .none : Sem Unit) else pure ()) Q E s := fun T => by
    split
    · refine wpAny_bind (wpAny_rule ?_)
      show wpAny _ _ (setField (.ref z) 0 .none) Q E s
      exact wpAny_setField_rec hz (by simp) fun h' hz' hs' => q h' .none (.inl rfl) hz' hs'
    · exact wpAny_pure q0
  unfold letOwnedTupleGo
  cases tg <;> first
    | exact wpAny_pure q0
    | (cases u <;> first
        | exact wpAny_pure q0
        | exact wpAny_bind (wpAny_load hz (key _)))
theorem zs_self {z TI TO : Addr} {f0 : Value} {f1 : Bool} {Q : Value → Shared → Prop} (hz : ZAt s.heap z TI TO f0 f1) (h : Q (.ref z) s) : wpAny (model P w) A (pyIter (.ref z)) Q E s := by
  have hT : s.TypeIs (.ref z) "zip" := ⟨_, hz, rfl⟩
  refine wpAny_pyIter_slot hT F.slot_zip_iter (wpAny_call_entry F.slot_zip_iter hT F.entry_zip_iter ?_ (F.args_zip_iter_1 _))
  show wpAny _ _ (ret (.ref z)) _ _ s
  exact wpAny_pure ⟨_, rfl, "zip", _, hT, F.slot_zip_next.lookup, h⟩
end
/-! ### zip(a, b, strict=True) is made -/
abbrev itName (b : Bool) : String := if b then "list_iterator" else "tuple_iterator"
abbrev zH1 (b1 : Bool) (h : Heap) (l1 : Addr) : Heap := h.push { cls := .type (itName b1), data := .fields #[.ref l1, .int 0 0] }
abbrev zH2 (b1 b2 : Bool) (h : Heap) (l1 l2 : Addr) : Heap := (zH1 b1 h l1).push { cls := .type (itName b2), data := .fields #[.ref l2, .int 0 0] }
abbrev zH3 (b1 b2 : Bool) (h : Heap) (l1 l2 : Addr) : Heap := (zH2 b1 b2 h l1 l2).push { cls := .type "tuple", data := .seq #[.ref h.objs.size, .ref (zH1 b1 h l1).objs.size] }
abbrev zH4 (b1 b2 : Bool) (h : Heap) (l1 l2 : Addr) : Heap := (zH3 b1 b2 h l1 l2).push { cls := .type "tuple", data := .seq #[.none, .none] }
abbrev zH5 (b1 b2 : Bool) (h : Heap) (l1 l2 : Addr) : Heap := (zH4 b1 b2 h l1 l2).push { cls := .type "zip", data := .fields #[.none, .bool false, .bool true, .ref (zH2 b1 b2 h l1 l2).objs.size, .ref (zH3 b1 b2 h l1 l2).objs.size] }
theorem meets_new (b1 b2 : Bool) (l1 l2 : Addr) (xs ys : Array Value) :
    Meets (Builtin.«zip.__new__» ⟨[.type "zip", .ref l1, .ref l2], [("strict", .bool true)]⟩) (fun _ R s => SeB b1 s.heap l1 xs ∧ SeB b2 s.heap l2 ys ∧
      R (.ok (.ret (.ref (zH4 b1 b2 s.heap l1 l2).objs.size))) { s with heap := zH5 b1 b2 s.heap l1 l2 }) :=
  .of_wp fun prog w A R s h => by
    obtain ⟨hp, g, d, tk, os⟩ := s; obtain ⟨hl1, hl2, h⟩ := h
    have hsub := sub_zip
    cases b1 <;> cases b2
    · have hL1 : Heap.IsTuple (Shared.heap ⟨hp, g, d, tk, os⟩) l1 xs := hl1
      have hL2 : Heap.IsTuple (Shared.heap ⟨hp.push { cls := .type "tuple_iterator", data := .fields #[.ref l1, .int 0 0] }, g, d, tk, os⟩) l2 ys := Heap.IsTuple.push hl2 _
      wp_walk using wpAny_pyIter_tuple hL1, wpAny_pyIter_tuple hL2
      exact ⟨_, rfl, h⟩
    · have hL1 : Heap.IsTuple (Shared.heap ⟨hp, g, d, tk, os⟩) l1 xs := hl1
      have hL2 : Heap.IsList (Shared.heap ⟨hp.push { cls := .type "tuple_iterator", data := .fields #[.ref l1, .int 0 0] }, g, d, tk, os⟩) l2 ys := Heap.IsList.push hl2 _
      wp_walk using wpAny_pyIter_tuple hL1, wpAny_pyIter_list hL2
      exact ⟨_, rfl, h⟩
    · have hL1 : Heap.IsList (Shared.heap ⟨hp, g, d, tk, os⟩) l1 xs := hl1
      have hL2 : Heap.IsTuple (Shared.heap ⟨hp.push { cls := .type "list_iterator", data := .fields #[.ref l1, .int 0 0] }, g, d, tk, os⟩) l2 ys := Heap.IsTuple.push hl2 _
      wp_walk using wpAny_pyIter_list hL1, wpAny_pyIter_tuple hL2
      exact ⟨_, rfl, h⟩
    · have hL1 : Heap.IsList (Shared.heap ⟨hp, g, d, tk, os⟩) l1 xs := hl1
      have hL2 : Heap.IsList (Shared.heap ⟨hp.push { cls := .type "list_iterator", data := .fields #[.ref l1, .int 0 0] }, g, d, tk, os⟩) l2 ys := Heap.IsList.push hl2 _
      wp_walk using wpAny_pyIter_list hL1, wpAny_pyIter_list hL2
      exact ⟨_, rfl, h⟩
end ZS

set_option Elab.async false
set_option linter.all false
set_option maxRecDepth 100000
set_option maxHeartbeats 4000000
/-! ZT: a loop over zip(a, b, strict=True). -/
namespace ZS
open PySem PySem.Spec PyProof.Rows L2
section
variable {P : Program} {w : World} {A : Around} {E : Value → Shared → Prop} {s : Shared}
/-- a built-in type called with keywords -/
theorem callTypeK {T newId : String} {Bn : Builtin} {args : List Value} {kw : List (Str × Value)} {S : PySem.Spec} {Q : Value → Shared → Prop} (ft : TypeCalled T newId "object.__init__")
    (hct : checkTypeCall T ⟨args, kw⟩ = pure ()) (hcn : checkBuiltinCall newId ⟨.type T :: args, kw⟩ = pure ())
    (hok : ∀ obj, argsOk "object.__init__" ⟨obj :: args, kw⟩) (entryN : entryFor table newId = some Bn) (g : Meets (Bn ⟨.type T :: args, kw⟩) S) (gi : ∀ obj, Meets (Builtin.«object.__init__» ⟨obj :: args, kw⟩) (fun _ R s => s.TypeIs obj T ∧ R (.ok (.ret .none)) s))
    (h : S A.in1 (wants (fun obj s₁ => s₁.TypeIs obj T ∧ Q obj s₁) E) s) : wpAny (model P w) A (call (.type T) args kw) Q E s := by
  obtain ⟨c, tl, hmro⟩ := ft.mro
  have hmade := ft.made
  have hsub := ft.sub
  refine wpAny_call (codeAny_of_tree ?_)
  show wpAny _ _ (callAny (.type T) _) _ _ _
  refine wpAny_pure ⟨Code.quiet_builtin _ (by decide +kernel), codeAny_builtin F.entry_type_call ?_⟩
  rw [Around.under_plain (weight_type_call_type T args kw) (units_type_call_type T args kw)]
  have h1 := ft.notType
  have h2 := ft.canCreate
  repeat (any_goals (first | assumption | wp_step))
  refine codeAny_mono (codeAny_call_builtin ft.plain entryN (wpAny_of_eq hcn (g P w A.in1 _ s h))) fun r s₁ hr => ?_
  cases r with
  | error e => exact hr
  | ok fl =>
    cases fl with
    | ret obj =>
      obtain ⟨hT, hq⟩ := hr
      have hli := ft.init.lookup
      have hbi := ft.init.bind obj
      repeat (any_goals (first | assumption | wp_step))
      refine codeAny_mono (codeAny_call_builtin ft.init.plain F.entry_object_init (ft.init.check _ _ _ _ _ _ _ _ hT (hok obj) (gi obj P w A.in1 (wants (fun r s₂ => r = .none ∧ Q obj s₂) E) s₁ ⟨hT, rfl, hq⟩))) fun r₂ s₂ hr₂ => ?_
      cases r₂ with
      | error e => exact hr₂
      | ok fl₂ =>
        cases fl₂ with
        | ret r =>
          obtain ⟨rfl, hq⟩ := hr₂
          repeat (any_goals (first | assumption | wp_step))
        | _ => exact hr₂.elim
    | _ => exact hr.elim
theorem init_zip (obj l1 l2 : Value) : Meets (Builtin.«object.__init__» ⟨obj :: [l1, l2], [("strict", .bool true)]⟩) (fun _ R s => s.TypeIs obj "zip" ∧ R (.ok (.ret .none)) s) := by
  refine Meets.of_wp fun prog w A R s hs => ?_
  obtain ⟨hT, hq⟩ := hs
  have hl := F.called_zip.init.lookup
  have hm := F.called_zip.made
  repeat (any_goals (first | assumption | wp_step))
  exact ⟨_, rfl, hq⟩
theorem tc_zip (a b : Value) : checkTypeCall "zip" ⟨[a, b], [("strict", .bool true)]⟩ = pure () := by kernel_rfl
theorem nc_zip (a b : Value) : checkBuiltinCall "zip.__new__" ⟨[.type "zip", a, b], [("strict", .bool true)]⟩ = pure () := by kernel_rfl
theorem oi_zip (obj a b : Value) : argsOk "object.__init__" ⟨[obj, a, b], [("strict", .bool true)]⟩ := by first | exact F.args_object_init_3 obj a b | kernel_rfl | (unfold argsOk; kernel_rfl)
theorem it_new {b : Bool} {h : Heap} {l : Addr} : ItB b (h.push { cls := .type (itName b), data := .fields #[.ref l, .int 0 0] }) h.objs.size l 0 := by
  cases b with
  | true => exact ⟨_, Heap.get?_push_size _ rfl, rfl, rfl⟩
  | false => exact ⟨_, Heap.get?_push_size _ rfl, rfl, rfl⟩
theorem call_zipS {b1 b2 : Bool} {l1 l2 : Addr} {xs ys : Array Value} {Q : Value → Shared → Prop} (hl1 : SeB b1 s.heap l1 xs) (hl2 : SeB b2 s.heap l2 ys)
    (h : ∀ h', ZSt b1 b2 (s.heap.objs.size + 4) (s.heap.objs.size + 2) (s.heap.objs.size + 3) s.heap.objs.size (s.heap.objs.size + 1) l1 l2 0 h' → (∀ c o, s.heap.get? c = some o → h'.get? c = some o) → Q (.ref (s.heap.objs.size + 4)) { s with heap := h' }) :
    wpAny (model P w) A (call (.type "zip") [.ref l1, .ref l2] [("strict", .bool true)]) Q E s := by
  refine callTypeK F.called_zip (tc_zip _ _) (nc_zip _ _) (fun obj => oi_zip obj _ _) F.entry_zip_new (meets_new b1 b2 l1 l2 xs ys) (fun obj => init_zip obj _ _) ⟨hl1, hl2, ?_⟩
  have z1 : (zH1 b1 s.heap l1).objs.size = s.heap.objs.size + 1 := Heap.size_push ..
  have z2 : (zH2 b1 b2 s.heap l1 l2).objs.size = s.heap.objs.size + 2 := by rw [Heap.size_push, z1]
  have z3 : (zH3 b1 b2 s.heap l1 l2).objs.size = s.heap.objs.size + 3 := by rw [Heap.size_push, z2]
  have z4 : (zH4 b1 b2 s.heap l1 l2).objs.size = s.heap.objs.size + 4 := by rw [Heap.size_push, z3]
  have g5 : (zH5 b1 b2 s.heap l1 l2).get? (zH4 b1 b2 s.heap l1 l2).objs.size = some _ := Heap.get?_push_size _ rfl
  have g4 : (zH5 b1 b2 s.heap l1 l2).get? (zH3 b1 b2 s.heap l1 l2).objs.size = some _ := Heap.get?_push_of_some _ (Heap.get?_push_size _ rfl)
  have g3 : (zH5 b1 b2 s.heap l1 l2).get? (zH2 b1 b2 s.heap l1 l2).objs.size = some _ := Heap.get?_push_of_some _ (Heap.get?_push_of_some _ (Heap.get?_push_size _ rfl))
  have up2 : ∀ c o, (zH2 b1 b2 s.heap l1 l2).get? c = some o → (zH5 b1 b2 s.heap l1 l2).get? c = some o := fun c o x => Heap.get?_push_of_some _ (Heap.get?_push_of_some _ (Heap.get?_push_of_some _ x))
  have up1 : ∀ c o, (zH1 b1 s.heap l1).get? c = some o → (zH5 b1 b2 s.heap l1 l2).get? c = some o := fun c o x => up2 c o (Heap.get?_push_of_some _ x)
  have i1 : ItB b1 (zH5 b1 b2 s.heap l1 l2) s.heap.objs.size l1 0 := it_new.mv fun o e => up1 _ o e
  have i2 : ItB b2 (zH5 b1 b2 s.heap l1 l2) (zH1 b1 s.heap l1).objs.size l2 0 := it_new.mv fun o e => up2 _ o e
  show _ ∧ _
  rw [z2, z3, z4] at g5
  rw [z1, z2] at g3
  rw [z3] at g4
  rw [z1] at i2
  rw [z4]
  exact ⟨⟨_, g5, rfl⟩, h _ ⟨⟨_, _, .inl rfl, g5⟩, g3, ⟨_, _, g4⟩, i1, i2⟩ fun c o x => up1 c o (Heap.get?_push_of_some _ x)⟩
end
/-! ### a loop over it -/
def SqB (K : PySem.W.Frag) : Bool → Hp → Addr → List V → Prop
  | true => fun H a xs => SqL K H a xs
  | false => fun H a xs => SqT K H a xs
theorem sqB {X : Cx} {b : Bool} {pins : List (Addr × Obj)} {σ : L2.St} {H : Hp} {s : Shared} (I : Inv X pins σ H s) {a : Addr} {xs : List V} (h : SqB X.K b H a xs) : ∃ its : List Value, Vals xs its ∧ SeB b s.heap a its.toArray ∧ a < s.heap.objs.size := by
  cases b with
  | true =>
    obtain ⟨its, rv, p, _⟩ := I.list h
    exact ⟨its, rv, p.isList, p.lt⟩
  | false =>
    obtain ⟨its, rv, p, _⟩ := I.tuple h
    obtain ⟨o, e, _⟩ := id p
    exact ⟨its, rv, p, Heap.lt_size e⟩
theorem sqB_inj {X : Cx} {b : Bool} {pins : List (Addr × Obj)} {σ : L2.St} {H : Hp} {s : Shared} (I : Inv X pins σ H s) {a : Addr} {xs ys : List V} (h : SqB X.K b H a xs) (h' : SqB X.K b H a ys) : xs = ys := by
  cases b with
  | true => exact I.list_inj h h'
  | false => exact I.tuple_inj h h'
def ItZ (K : PySem.W.Frag) (b1 b2 : Bool) (a b : Addr) : It :=
  ⟨fun i H => ∃ (xs ys : List V) (x y : V), SqB K b1 H a xs ∧ SqB K b2 H b ys ∧ xs[i]? = some x ∧ ys[i]? = some y,
    fun i H v H' => ∃ T o x y, v = .ref T ∧ H T = none ∧ H' = upd H T (.frz o (.tup [x, y])) ∧ o.dict = none ∧ (∀ xs, SqB K b1 H a xs → xs[i]? = some x) ∧ ∀ ys, SqB K b2 H b ys → ys[i]? = some y,
    fun i H => ∃ xs ys : List V, SqB K b1 H a xs ∧ SqB K b2 H b ys ∧ xs.length ≤ i ∧ ys.length ≤ i⟩
theorem turn_zipS {P : Program} {w : World} {K : PySem.W.Frag} {tg : Expr} {b1 b2 : Bool} {a b z TI TO i1 i2 : Addr} (D : ZipApart z TI TO i1 i2 a b) :
    Turn P w K tg (ItZ K b1 b2 a b) [z, TI, TO, i1, i2] z (ZSt b1 b2 z TI TO i1 i2 a b) where
  mem := by simp
  obj := fun i h st c hc => by
    obtain ⟨⟨f0, f1, _, hz⟩, hTI, ⟨x, y, hTO⟩, j1, j2⟩ := st
    have e' : c = z ∨ c = TI ∨ c = TO ∨ c = i1 ∨ c = i2 := by simpa using hc
    rcases e' with q | q | q | q | q
    · rw [q]; exact ⟨_, hz, fun v q => nomatch q⟩
    · rw [q]; exact ⟨_, hTI, fun v q => nomatch q⟩
    · rw [q]; exact ⟨_, hTO, fun v q => nomatch q⟩
    · rw [q]; exact j1.ob
    · rw [q]; exact j2.ob
  keep := fun i h h' st k => by
    obtain ⟨⟨f0, f1, hf, hz⟩, hTI, ⟨x, y, hTO⟩, j1, j2⟩ := st
    exact ⟨⟨f0, f1, hf, k z (by simp) _ hz⟩, k TI (by simp) _ hTI, ⟨x, y, k TO (by simp) _ hTO⟩, j1.mv fun o q => k i1 (by simp) o q, j2.mv fun o q => k i2 (by simp) o q⟩
  item := by
    intro X hP hw hK hc i pins s σ H E I hf st hg
    subst hP hw hK
    obtain ⟨xs, ys, x, y, hqx, hqy, hx, hy⟩ := hg
    obtain ⟨its, rv, p, _⟩ := sqB I hqx
    obtain ⟨its2, rv2, p2, _⟩ := sqB I hqy
    obtain ⟨u, hu, ru⟩ := rv.get hx
    obtain ⟨u2, hu2, ru2⟩ := rv2.get hy
    refine py_item D st p p2 (x := u) (y := u2) (by simpa using hu) (by simpa using hu2) fun h' st' hT hk => ?_
    obtain ⟨⟨f0, f1, hf0, hz⟩, hTI, ⟨x0, y0, hTO⟩, j1, j2⟩ := st'
    refine ⟨_, rfl, zs_go (s := { s with heap := h' }) hz hf0 fun h'' f0' hf0' z'' sb => ?_⟩
    have lt5 : ∀ c, c ∈ [z, TI, TO, i1, i2] → c < s.heap.objs.size := fun c hcm => by
      obtain ⟨⟨_, _, _, g1⟩, g2, ⟨_, _, g3⟩, g4, g5⟩ := st
      have e' : c = z ∨ c = TI ∨ c = TO ∨ c = i1 ∨ c = i2 := by simpa using hcm
      rcases e' with q | q | q | q | q
      · rw [q]; exact Heap.lt_size g1
      · rw [q]; exact Heap.lt_size g2
      · rw [q]; exact Heap.lt_size g3
      · rw [q]; obtain ⟨_, e1, _⟩ := g4.ob; exact Heap.lt_size e1
      · rw [q]; obtain ⟨_, e1, _⟩ := g5.ob; exact Heap.lt_size e1
    have hzl : z < s.heap.objs.size := lt5 z (by simp)
    have hT2 : h''.get? s.heap.objs.size = some { cls := .type "tuple", data := .seq #[u, u2] } := (sb.2 _ (Nat.ne_of_gt hzl)).trans hT
    have new : ObjOk X.prog X.w (upd H s.heap.objs.size (.frz { cls := .type "tuple", data := .seq #[u, u2] } (.tup [x, y]))) h'' s.heap.objs.size (.frz { cls := .type "tuple", data := .seq #[u, u2] } (.tup [x, y])) :=
      ⟨hT2, by show 2 ≤ sizeLine; decide, [u, u2], .cons ru (.cons ru2 .nil), ⟨_, hT2, rfl, _, rfl⟩⟩
    have I1 := I.turnedNew (h' := h'') (t' := s.toks) (ch := [z, TI, TO, i1, i2]) (fun c o hb q => (sb.2 c (fun q' => hb (by simp [q']))).trans (hk c o (fun q' => hb (by simp [q'])) (fun q' => hb (by simp [q'])) (fun q' => hb (by simp [q'])) (fun q' => hb (by simp [q'])) q)) hf (Nat.le_refl _) new
    refine ⟨.ref s.heap.objs.size, _, I1, rfl, ⟨_, _, x, y, rfl, I.hok.fresh (Nat.le_refl _), rfl, rfl, fun l hl => by rw [sqB_inj I hl hqx]; exact hx, fun l hl => by rw [sqB_inj I hl hqy]; exact hy⟩,
      ⟨⟨f0', f1, hf0', z''⟩, (sb.2 _ D.TIz).trans hTI, ⟨x0, y0, (sb.2 _ D.TOz).trans hTO⟩, j1.mv fun o q => (sb.2 _ D.i1z).trans q, j2.mv fun o q => (sb.2 _ D.i2z).trans q⟩, fun c hcm => ?_⟩
    rw [upd_ne (Nat.ne_of_lt (lt5 c hcm))]
    exact (hf c hcm).1
  done := by
    intro X hP hw hK hc i pins s σ H E I hf st hg
    subst hP hw hK
    obtain ⟨xs, ys, hqx, hqy, h1, h2⟩ := hg
    obtain ⟨its, rv, p, _⟩ := sqB I hqx
    obtain ⟨its2, rv2, p2, _⟩ := sqB I hqy
    have l1 := rv.length
    have l2 := rv2.length
    exact py_end (I.ok.hd hc) D st p p2 (by simp; omega) (by simp; omega) fun h' hk => ⟨rfl, I.turnedL (t' := s.toks) (ch := [z, TI, TO, i1, i2]) (fun c o hb q =>
      hk c o (fun q' => hb (by simp [q'])) (fun q' => hb (by simp [q'])) (fun q' => hb (by simp [q'])) (fun q' => hb (by simp [q'])) q) hf⟩
  self := fun A i s Q E st h => by
    obtain ⟨f0, f1, _, hz⟩ := st.z
    exact zs_self hz h
end ZS

set_option Elab.async false
set_option linter.all false
set_option maxRecDepth 100000
set_option maxHeartbeats 4000000
/-! ZU: zip(a, b, strict=True) as a walked thing, written. -/
namespace ZS
open PySem PySem.Spec PyProof.Rows L2
/-- zip(a, b, strict=True): lists and tuples of one length -/
def iZipS (K : PySem.W.Frag) (ta tk : TA) : TI := fun σ H R => ta σ H fun vs H0 => tk σ H0 fun ks H1 => ∃ b1 b2 a b xs ys, ks = [.bl true] ∧ vs = [.ref a, .ref b] ∧ SqB K b1 H1 a xs ∧ SqB K b2 H1 b ys ∧ xs.length = ys.length ∧ R (ItZ K b1 b2 a b) H1
theorem callWith_typeK {M : Model} {A : Around} {E : Value → Shared → Prop} {s : Shared} {env : Env} {pos : Pos} {T : String} {e : Expr} {rest : List Expr} {kws : List Keyword} {Q : Value → Shared → Prop}
    (h : wpAny M A (spliced (backTo pos (starEach (e :: rest) env))) (fun vs s₁ => wpAny M A (evalAll ((backToKw pos (keywordEach kws env)).map (·.2)))
      (fun kvs s₂ => wpAny M A (call (.type T) vs (((backToKw pos (keywordEach kws env)).filterMap (·.1)).zip kvs)) Q E s₂) E s₁) E s)
    (he : backTo pos (starEach (e :: rest) env) = (false, eval e env) :: backTo pos (starEach rest env) := by rfl)
    (hplain : (backTo pos (starEach (e :: rest) env)).any (·.1) = false := by rfl)
    (hall : (backToKw pos (keywordEach kws env)).all (·.1.isSome) = true := by rfl)
    (hkw : (backToKw pos (keywordEach kws env)).any (·.1.isNone) = false := by rfl) :
    wpAny M A (callWith pos (.type T) [] (backTo pos (starEach (e :: rest) env)) (backToKw pos (keywordEach kws env))) Q E s := by
  have h0 : wpAny M A (evalArgs (.type T) true (backTo pos (starEach (e :: rest) env)) (backToKw pos (keywordEach kws env))) (fun a s₁ => wpAny M A (call (.type T) ([] ++ a.pos) a.kw) Q E s₁) E s := by
    rw [he] at h ⊢
    exact PyProof.Rows.evalArgs_kwB hall h
  unfold callWith
  refine wpAny_bind (wpAny_holding (wpAny_mono h0 (fun a s₁ h₁ => wpAny_bind (wpAny_standAt ?_)) fun _ _ x => x))
  simp only [hplain, hkw, Bool.or_false]
  refine wpAny_bind (wpAny_pure ?_)
  exact wpAny_bind (wpAny_mono h₁ (fun r s₂ hr => wpAny_bind (wpAny_holding (wpAny_point (wpAny_pure hr)))) fun _ _ x => x)
theorem pi_zipS {X : Cx} {tg e e2 ev : Expr} {ta tk : TA} {p pos kpos : Pos} (hg : Gl X "zip") (hm : X.mg "zip" = none) (ha : PA X [e, e2] ta) (hk : PK X [⟨some "strict", ev, kpos⟩] tk)
    (he : backTo pos (starEach [e, e2] X.env) = (false, eval e X.env) :: backTo pos (starEach [e2] X.env) := by rfl) (hpl : (backTo pos (starEach [e, e2] X.env)).any (·.1) = false := by rfl)
    (hall : (backToKw pos (keywordEach [⟨some "strict", ev, kpos⟩] X.env)).all (·.1.isSome) = true := by rfl) (hnone : (backToKw pos (keywordEach [⟨some "strict", ev, kpos⟩] X.env)).any (·.1.isNone) = false := by rfl)
    (hks : (backToKw pos (keywordEach [⟨some "strict", ev, kpos⟩] X.env)).filterMap (·.1) = ([("strict" : Str)] : List Str) := by rfl) :
    PI X tg (.Call (.Name "zip" p) [e, e2] [⟨some "strict", ev, kpos⟩] pos) (iZipS X.K ta tk) := by
  refine ⟨fun pins s σ H R I h => ?_⟩
  refine wpAny_Call_Name_kw (ld_blt I hg hm PyProof.Rows.boot_zip ?_)
  refine callWith_typeK (thn (ha.run pos pins s σ H _ I h) fun us s1 ⟨vs, H1, I1, r1, q1⟩ => thn (hk.run pos pins s1 σ H1 _ I1 q1) fun ws s2 ⟨zs, H2, I2, r2, q2⟩ => ?_) he hpl hall hnone
  rw [hks]
  obtain ⟨b1, b2, a, b, xs, ys, rfl, rfl, hqx, hqy, hl, q⟩ := q2
  cases r1 with
  | cons r rr =>
    cases rr with
    | cons r' rr =>
      cases rr
      cases r
      cases r'
      cases r2 with
      | cons rk rr =>
        cases rr
        cases rk
        obtain ⟨its, rv, p1, la⟩ := sqB I2 hqx
        obtain ⟨its2, rv2, p2, lb⟩ := sqB I2 hqy
        show wpAny _ _ (call (.type "zip") [.ref a, .ref b] [("strict", .bool true)]) _ _ _
        refine call_zipS p1 p2 fun h' hz hkp => ?_
        obtain ⟨f0, f1, hf, hzz⟩ := hz.z
        refine zs_self (s := { s2 with heap := h' }) hzz ?_
        have fresh5 : ∀ c, c ∈ [s2.heap.objs.size + 4, s2.heap.objs.size + 2, s2.heap.objs.size + 3, s2.heap.objs.size, s2.heap.objs.size + 1] → FpOk X pins H2 c := fun c hcm => by
          have e' : c = s2.heap.objs.size + 4 ∨ c = s2.heap.objs.size + 2 ∨ c = s2.heap.objs.size + 3 ∨ c = s2.heap.objs.size ∨ c = s2.heap.objs.size + 1 := by simpa using hcm
          have hle : s2.heap.objs.size ≤ c := by
            rcases e' with z | z | z | z | z
            · rw [z]; exact Nat.le_add_right _ _
            · rw [z]; exact Nat.le_add_right _ _
            · rw [z]; exact Nat.le_add_right _ _
            · rw [z]; exact Nat.le_refl _
            · rw [z]; exact Nat.le_add_right _ _
          exact I2.fpOk hle (I2.hok.fresh hle)
        have I3 : Inv X pins σ H2 { s2 with heap := h' } := I2.kept (t' := s2.toks) hkp
        exact ⟨s2.heap.objs.size + 4, [s2.heap.objs.size + 4, s2.heap.objs.size + 2, s2.heap.objs.size + 3, s2.heap.objs.size, s2.heap.objs.size + 1], _, _, H2, rfl, I3, turn_zipS (PySem.W.ktu_apart s2.heap.objs.size a b la lb), hz, fresh5, q⟩
end ZS

set_option Elab.async false
set_option linter.all false
set_option maxRecDepth 100000
set_option maxHeartbeats 4000000
/-! DLz: zip(a, b, strict=True) walked, told by data; enumerate of a tuple. -/
namespace DL
open PySem PySem.Spec PyProof.Rows L2 GG DD PT ZS
variable {K : KX}
def seqOf : PyData → Option (List PyData)
  | .list ds => some ds
  | .tuple ds => some ds
  | _ => none
def isLstD : PyData → Bool
  | .list _ => true
  | _ => false
theorem da_seq {K : PySem.W.Frag} {S : Addr → Prop} {H : Hp} {v : V} {d : PyData} {ds : List PyData} (h : Da K (Hd S H) v d) (e : seqOf d = some ds) : ∃ a vs, v = .ref a ∧ SqB K (isLstD d) H a vs ∧ DaAll K (Hd S H) vs ds := by
  cases d with
  | list xs =>
    cases e
    obtain ⟨a, vs, rfl, h1, h2⟩ := da_list h
    exact ⟨a, vs, rfl, sq h1, h2⟩
  | tuple xs =>
    cases e
    obtain ⟨a, vs, rfl, h1, h2⟩ := da_tup h
    exact ⟨a, vs, rfl, h1, h2⟩
  | _ => cases e
def dZipS (de df : DE) : DA := fun s P => de s fun d s1 => df s1 fun e s2 => match seqOf d, seqOf e with
  | some xs, some ys => xs.length = ys.length ∧ P (zipD xs ys) s2
  | _, _ => False
theorem ri_zipS {te tf : TE} {de df : DE} (h : RE K te de) (h2 : RE K tf df) : RI false K (iZipS K (tCons te (tCons tf tNil)) (tCons (tC (.bl true)) tNil)) (dZipS de df) := fun C hC s P hd σ H R0 R q =>
  h C hC s _ hd σ H _ R fun v H1 d s1 hd1 R1 hv => h2 (C.keep v d) hC s1 _ hd1 σ H1 _ (R1.keep hv) fun w H2 e s2 hp R2 hw => by
    obtain ⟨R3, hv3⟩ := R2.kept
    cases e1 : seqOf d with
    | none => rw [e1] at hp; exact hp.elim
    | some xs =>
      cases e2 : seqOf e with
      | none => rw [e1, e2] at hp; exact hp.elim
      | some ys =>
        rw [e1, e2] at hp
        obtain ⟨hl, hp⟩ := hp
        obtain ⟨a, vs, rfl, k1, k2⟩ := da_seq hv3 e1
        obtain ⟨b, us, rfl, k3, k4⟩ := da_seq hw e2
        subst hC
        refine ⟨isLstD d, isLstD e, a, b, vs, us, rfl, rfl, k1, k3, by rw [k2.len, k4.len, hl], q _ H2 (zipD xs ys) s2 (fun x y => (x = .ref a ∧ y = d) ∨ (x = .ref b ∧ y = e)) (fun _ _ => False) hp (R3.more fun x y z => by
          rcases z with ⟨rfl, rfl⟩ | ⟨rfl, rfl⟩
          · exact hv3
          · exact hw) (fun _ _ z => z.elim) ?_⟩
        intro C' hK hG _ σ' H' s' R'
        obtain ⟨a', vs', e1', j1, j2⟩ := da_seq (R'.gh _ _ (hG _ _ (.inl ⟨rfl, rfl⟩))) e1
        cases e1'
        obtain ⟨b', us', e2', j3, j4⟩ := da_seq (R'.gh _ _ (hG _ _ (.inr ⟨rfl, rfl⟩))) e2
        cases e2'
        rw [hK] at j1 j3
        have len : (zipD xs ys).length = xs.length := by
          unfold zipD
          rw [List.length_map, List.length_zip]
          omega
        refine ⟨⟨vs', us', j1, j3, by rw [len, j2.len]; exact Nat.le_refl _, by rw [len, j4.len, hl]; exact Nat.le_refl _⟩, fun i d' hi => ?_⟩
        unfold zipD at hi
        rw [List.getElem?_map] at hi
        cases ez : (xs.zip ys)[i]? with
        | none => rw [ez] at hi; cases hi
        | some pr =>
          rw [ez] at hi
          cases hi
          obtain ⟨x0, y0⟩ := pr
          obtain ⟨z1, z2⟩ := List.getElem?_zip_eq_some.mp ez
          obtain ⟨u1, hu1, hd1⟩ := j2.getD z1
          obtain ⟨u2, hu2, hd2⟩ := j4.getD z2
          refine ⟨⟨vs', us', u1, u2, j1, j3, hu1, hu2⟩, fun x H3 hy => ?_⟩
          obtain ⟨T, o, p1, p2, rfl, nT, rfl, eo, y1, y2⟩ := hy
          have e1 := y1 vs' j1
          have e2 := y2 us' j3
          rw [hu1] at e1
          rw [hu2] at e2
          cases e1
          cases e2
          exact ⟨R'.ext (same_upd nT), same_upd nT, .inl (.tup (.inl ⟨o, R'.see nT, eo⟩) (.cons (hd1.of (R'.kp nT)) (.cons (hd2.of (R'.kp nT)) .nil)))⟩
end DL

set_option Elab.async false
set_option linter.all false
set_option maxRecDepth 100000
set_option maxHeartbeats 4000000
/-! DLy: find, upper; a text walked sign by sign; by data. -/
namespace DL
open PySem PySem.Spec PyProof.Rows L2 GG DD PT
variable {K : KX}
def dFind (de df : DE) : DE := fun s P => de s fun d s1 => match d with
  | .str a => df s1 fun e s2 => match e with
    | .str b => P (.int (Txt.find a b)) s2
    | _ => False
  | _ => False
theorem re_find {te tf : TE} {de df : DE} (h1 : RE K te de) (h2 : RE K tf df) : RE K (tM1 (fun x xs H Q => ∃ a b, x = .str a ∧ xs = [.str b] ∧ Q (.int (Txt.find a b)) H) te tf) (dFind de df) := fun C hC s P hd σ H Q R q =>
  h1 C hC s _ hd σ H _ R fun v H1 d s1 hd1 R1 hv => by
    cases d with
    | str a =>
      cases hv
      refine ⟨⟨a, rfl⟩, h2 C hC s1 _ hd1 σ H1 _ R1 fun w H2 e s2 hp R2 hw => ?_⟩
      cases e with
      | str b =>
        cases hw
        exact ⟨a, b, rfl, rfl, q _ H2 _ s2 hp R2 (.int _)⟩
      | _ => exact hp.elim
    | _ => exact hd1.elim
def dUpper (de : DE) : DE := fun s P => de s fun d s1 => match d with
  | .str a => a.length ≤ 1000000 ∧ P (.str (Txt.upper a)) s1
  | _ => False
theorem re_upper {te : TE} {de : DE} (h1 : RE K te de) : RE K (tM0 (fun x xs H Q => ∃ a, x = .str a ∧ xs = [] ∧ a.length ≤ 5592405 ∧ Q (.str (Txt.upper a)) H) te) (dUpper de) := fun C hC s P hd σ H Q R q =>
  h1 C hC s _ hd σ H _ R fun v H1 d s1 hd1 R1 hv => by
    cases d with
    | str a =>
      cases hv
      exact ⟨⟨a, rfl⟩, a, rfl, rfl, Nat.le_trans hd1.1 (by decide), q _ H1 _ s1 hd1.2 R1 (.str _)⟩
    | _ => exact hd1.elim
def signsD (x : Str) : List PyData := x.cps.toList.map fun c => .str ⟨#[c]⟩
theorem it_str (x : Str) : ItOk false K (fun _ _ => False) (fun _ _ => False) (Its x) (signsD x) := fun C hK hG _ σ H s R => by
  unfold signsD
  refine ⟨by rw [List.length_map, Array.length_toList]; exact Nat.le_refl _, fun i d hi => ?_⟩
  rw [List.getElem?_map, Array.getElem?_toList] at hi
  cases e : x.cps[i]? with
  | none => rw [e] at hi; cases hi
  | some c =>
    rw [e] at hi
    cases hi
    refine ⟨(Array.getElem?_eq_some_iff.mp e).1, fun y H' hy => ?_⟩
    obtain ⟨rfl, c', e', rfl⟩ := hy
    rw [e] at e'
    cases e'
    exact ⟨R, Same.refl _, .inl (.str _)⟩
def dStrIt (de : DE) : DA := fun s P => de s fun d s1 => match d with
  | .str x => P (signsD x) s1
  | _ => False
theorem ri_str {te : TE} {de : DE} (h : RE K te de) : RI false K (iStr te) (dStrIt de) := fun C hC s P hd σ H R0 R q =>
  h C hC s _ hd σ H _ R fun v H1 d s1 hp R1 hv => by
    cases d with
    | str x =>
      cases hv
      exact ⟨x, rfl, q _ H1 _ s1 (fun _ _ => False) (fun _ _ => False) hp (R1.more fun _ _ z => z.elim) (fun _ _ z => z.elim) (it_str x)⟩
    | _ => exact hp.elim
end DL

set_option Elab.async false
set_option linter.all false
set_option maxRecDepth 100000
set_option maxHeartbeats 4000000
/-! RVT: t[::-1] of a tuple. -/
namespace RVT
open PySem PySem.Spec PyProof.Rows L2 GG PT HT
section
variable {prog : Program} {w : World} {A : Around} {E : Value → Shared → Prop} {s : Shared}
theorem adj (n : Nat) : Builtin.Slice.sliceAdjust none none (-1) (n : Int) = ((n : Int) - 1, -1) := by
  unfold Builtin.Slice.sliceAdjust
  simp
theorem plc (n : Nat) : Builtin.Slice.slicePlaces ((n : Int) - 1) (-1) (-1) = n := by
  unfold Builtin.Slice.slicePlaces
  rw [if_neg (by omega)]
  by_cases h : (n : Int) - 1 > -1
  · rw [if_pos h]
    have e : ((n : Int) - 1 - -1 - 1) / (-(-1)) + 1 = n := by
      have : -(-1 : Int) = 1 := by omega
      rw [this, Int.ediv_one]
      omega
    rw [e]
    exact Int.toNat_natCast n
  · rw [if_neg h]
    omega
theorem pick {α : Type} (xs : Array α) : ((List.range xs.size).filterMap fun (k : Nat) => xs[((xs.size : Int) - 1 + (k : Int) * (-1)).toNat]?) = xs.toList.reverse := by
  have key : ∀ (n : Nat) (l : List α) (f : Nat → Option α), l.length = n → (∀ k, k < n → f k = l[k]?) → (List.range n).filterMap f = l := by
    intro n
    induction n with
    | zero =>
      intro l f hl _
      rw [List.eq_nil_of_length_eq_zero hl]
      rfl
    | succ n ih =>
      intro l f hl hf
      rw [List.range_succ, List.filterMap_append]
      have e : l = l.take n ++ [l[n]'(by omega)] := by
        rw [List.take_append_getElem]
        rw [List.take_of_length_le (by omega)]
      have h1 := ih (l.take n) f (by rw [List.length_take]; omega) (fun k hk => by rw [hf k (by omega), List.getElem?_take, if_pos hk])
      rw [h1]
      have h2 : f n = some (l[n]'(by omega)) := by rw [hf n (by omega), List.getElem?_eq_getElem]
      rw [List.filterMap_cons, h2, List.filterMap_nil]
      exact e.symm
  refine key xs.size xs.toList.reverse _ (by rw [List.length_reverse, Array.length_toList]) fun k hk => ?_
  rw [List.getElem?_reverse (by rw [Array.length_toList]; exact hk), Array.getElem?_toList, Array.length_toList]
  have e : ((xs.size : Int) - 1 + (k : Int) * (-1)).toNat = xs.size - 1 - k := by omega
  rw [e]
theorem getItem_rev {t sl : Addr} {items : Array Value} {vs : Value} {Q : Value → Shared → Prop} (ht : IsTup s.heap t items) (hs : s.heap.IsSliceOf sl .none .none vs) (ps : IsPart vs (some (-1)))
    (h : Q (.ref s.heap.objs.size) { s with heap := s.heap.push { cls := .type "tuple", data := .seq items.toList.reverse.toArray } })
    (hsz : items.size ≤ sizeLine) : wpAny (model prog w) A (getItem (.ref t) (.ref sl)) Q E s := by
  have htake : sizeOk (.seq items.toList.reverse.toArray) := by
    show items.toList.reverse.toArray.size ≤ sizeLine
    rw [List.size_toArray, List.length_reverse, Array.length_toList]
    exact hsz
  obtain ⟨os, hos, hcs, hds⟩ := id hs
  have hTs : s.TypeIs (.ref sl) "slice" := ⟨os, hos, hcs⟩
  unfold getItem
  try with_reducible refine wpAny_holding ?_
  first | refine wpAny_bind (wpAny_pure ?_) | skip
  refine wpAny_bind (wpAny_sequenceKey ht.typeIs (by decide) ?_)
  refine wpAny_bind (wpAny_callSpecial?_slot (name := Str.ofString "__getitem__") ht.typeIs PyProof.Rows.slot_tuple_getitem
    (wpAny_call_entry PyProof.Rows.slot_tuple_getitem ht.typeIs entry_tuple_getitem ?_ (args_tuple_getitem _ _)))
  show wpAny _ _ (Builtin.Tuple.tupleItemsOf (.ref t) >>= _) _ _ s
  refine wpAny_bind (tupleItemsOf_ ht ?_)
  refine wpAny_bind (wpAny_typeOf hTs ?_)
  rw [if_pos (by decide)]
  refine wpAny_bind ?_
  unfold Builtin.Slice.sliceApplied Builtin.Slice.sliceFields
  refine wpAny_bind (wpAny_bind (wpAny_field hos hds (x := .none) rfl (wpAny_bind (wpAny_field hos hds (x := .none) rfl (wpAny_bind (wpAny_field hos hds (x := vs) rfl (wpAny_pure ?_)))))))
  refine wpAny_bind (slicePart_ ps ?_)
  show wpAny _ _ (if ((-1 : Int) == 0) = true then _ else _) _ _ s
  rw [if_neg (by decide)]
  refine wpAny_bind (slicePart_none (wpAny_bind (slicePart_none (wpAny_bind (wpAny_pure ?_)))))
  show wpAny _ _ (match Builtin.Slice.sliceAdjust none none (-1) (items.size : Int) with | (lo, hi) => pure (lo, (-1 : Int), Builtin.Slice.slicePlaces lo hi (-1))) _ _ s
  rw [adj]
  show wpAny _ _ (pure ((items.size : Int) - 1, (-1 : Int), Builtin.Slice.slicePlaces ((items.size : Int) - 1) (-1) (-1))) _ _ s
  rw [plc]
  refine wpAny_pure ?_
  show wpAny _ _ (if ((items.size : Int) - 1 == 0 && (-1 : Int) == 1 && items.size == items.size) = true then _ else _) _ _ s
  rw [if_neg (by simp), pick]
  first
    | exact wpAny_bind (m := Builtin.Tuple.tupleExact _) (wpAny_newObj_type (wpAny_pure ⟨_, rfl, wpAny_pure h⟩) htake)
    | exact wpAny_bind (m := Builtin.Tuple.tupleExact _) (wpAny_newObj_type (wpAny_bind (wpAny_pure (wpAny_pure ⟨_, rfl, wpAny_pure h⟩))) htake)
    | exact wpAny_bind (wpAny_bind (m := Builtin.Tuple.tupleExact _) (wpAny_newObj_type (wpAny_pure (wpAny_pure ⟨_, rfl, wpAny_pure h⟩)) htake))
    | exact wpAny_bind (wpAny_bind (m := Builtin.Tuple.tupleExact _) (wpAny_newObj_type (wpAny_pure ⟨_, rfl, wpAny_pure h⟩) htake))
end
/-! ### written -/
def tRevT (K : PySem.W.Frag) (te : TE) : TE := fun σ H Q => te σ H fun x H1 => ∃ a xs, x = .ref a ∧ SqT K H1 a xs ∧ NewT H1 xs.reverse Q
section
variable {X : Cx}
theorem pe_revT {e : Expr} {te : TE} {k : Nat} {p1 p2 p3 pos : Pos} (he : PE X e te) : PE X (.Subscript e (.Slice none none (some (.UnaryOp .USub (.Constant (.int 1) k p1) p2)) p3) pos) (tRevT X.K te) := by
  refine ⟨fun pins s σ H Q I h => ?_⟩
  refine Subscript_ (thn (he.run pins s σ H _ I h) fun v s1 ⟨x, H1, I1, r1, q1⟩ => ?_)
  obtain ⟨a, xs, ex, hx, q⟩ := q1
  subst ex
  cases r1
  have hst : PO X (some (.UnaryOp .USub (.Constant (.int 1) k p1) p2)) (tPart (tUn (rU fun i => .int (-i)) (tC (.int 1)))) := po_some (pe_un un_neg pe_int)
  refine wpAny_Slice (thn (po_none.run pins s1 σ H1 (fun o H2 => o = none ∧ H2 = H1) I1 ⟨rfl, rfl⟩) fun vl s2 ⟨l, H2, I2, pl, el, e2⟩ => ?_)
  subst el e2
  refine thn (po_none.run pins s2 σ H2 (fun o H3 => o = none ∧ H3 = H2) I2 ⟨rfl, rfl⟩) fun vu s3 ⟨u, H3, I3, pu, eu, e3⟩ => ?_
  subst eu e3
  refine thn (hst.run pins s3 σ H3 (fun o H4 => o = some (-1) ∧ H4 = H3) I3 ⟨1, rfl, -1, rfl, rfl, rfl⟩) fun vs s4 ⟨o, H4, I4, ps, eo, e4⟩ => ?_
  subst eo e4
  have I5 : Inv X pins σ H4 { s4 with heap := s4.heap.push { cls := .type "slice", data := .fields #[vl, vu, vs] } } := I4.kept (t' := s4.toks) fun b ob q => Heap.get?_push_of_some _ q
  obtain ⟨its, r, ht, hz⟩ := I5.tuple hx
  have hlen := r.length
  cases pl
  cases pu
  show wpAny (model X.prog X.w) X.A (subscriptTail e (.Slice none none (some (.UnaryOp .USub (.Constant (.int 1) k p1) p2)) p3) (.ref a) (.ref s4.heap.objs.size)) (EP X pins σ Q) X.xe { s4 with heap := s4.heap.push { cls := .type "slice", data := .fields #[.none, .none, vs] } }
  refine tail_any (ops := [.ref a, .ref s4.heap.objs.size]) ht.typeIs (PyProof.Rows.slot_tuple_getitem.lookup) ?_ (by with_unfolding_all rfl)
  refine getItem_rev ht (Heap.IsSliceOf.new _ .none .none vs) ps ?_ (by rw [List.size_toArray, ← hlen]; exact hz)
  exact laidT I5 (r.reverse) (by rw [List.length_reverse]; exact hz) q
end
end RVT
namespace DL
open PySem PySem.Spec PyProof.Rows L2 GG DD PT
variable {K : KX}
def dRevU (de : DE) : DE := fun s P => de s fun d s1 => match d with
  | .tuple ds => P (.tuple ds.reverse) s1
  | _ => False
theorem re_revU {te : TE} {de : DE} (h : RE K te de) : RE K (RVT.tRevT K te) (dRevU de) := fun C hC s P hd σ H Q R q =>
  h C hC s _ hd σ H _ R fun v H1 d s1 hp R1 hv => by
    cases d with
    | tuple ds =>
      obtain ⟨a, vs, rfl, k1, k2⟩ := da_tup hv
      exact ⟨a, vs, rfl, hC ▸ k1, fun p o np eo => q _ _ _ s1 hp (R1.ext (same_upd np)) (.tup (.inl ⟨o, R1.see np, eo⟩) (k2.rev.of (R1.kp np)))⟩
    | _ => exact hp.elim
end DL

set_option Elab.async false
set_option linter.all false
set_option maxRecDepth 100000
set_option maxHeartbeats 4000000
/-! MLS: a text times a number. -/
namespace MLS
open PySem PySem.Spec PyProof.Rows L2 GG
def timesS (x : Str) (n : Nat) : Str := ⟨(List.replicate n x.cps).foldl (· ++ ·) #[]⟩
theorem times_list (a : Array Nat) : ∀ (n : Nat) (acc : Array Nat), ((List.replicate n a).foldl (· ++ ·) acc).toList = acc.toList ++ (List.replicate n a.toList).flatten
  | 0, acc => by simp
  | n + 1, acc => by
    rw [List.replicate_succ, List.foldl_cons, times_list a n, List.replicate_succ, List.flatten_cons, Array.toList_append, List.append_assoc]
def rMulS : R2 := fun x y H Q => ∃ (z : Str) (n : Int), x = .str z ∧ y = .int n ∧ 2 ≤ n ∧ n ≤ 10000 ∧ 1 ≤ z.length ∧ z.length ≤ 100 ∧ Q (.str (timesS z n.toNat)) H
theorem times_len (x : Str) (n : Nat) : (timesS x n).length = n * x.length := by
  have h := congrArg List.length (times_list x.cps n #[])
  have e1 : (timesS x n).length = (timesS x n).cps.toList.length := by simp [Str.length]
  rw [e1]
  show ((List.replicate n x.cps).foldl (· ++ ·) #[]).toList.length = _
  rw [h]
  simp [Str.length]
theorem op_mulS {X : Cx} : OpR X (binaryOp .Mult) rMulS := by
  intro pins s σ H x y v u Q I rx ry h
  obtain ⟨z, n, rfl, rfl, h1, h2, h3, h4, q⟩ := h
  obtain ⟨t, rfl⟩ := rx
  obtain ⟨t', rfl⟩ := ry
  have hp : z.length * n.toNat ≤ 1000000 := by
    have a : z.length * n.toNat ≤ 100 * 10000 := Nat.mul_le_mul h4 (by omega)
    omega
  have e1 : ¬ n < 1 := by omega
  have e2 : (n == 1 || z.length == 0) = false := by
    rw [Bool.or_eq_false_iff]
    exact ⟨beq_eq_false_iff_ne.mpr (by omega), beq_eq_false_iff_ne.mpr (by omega)⟩
  refine PySem.P.mul_str ?_ (fun _ _ => ?_) (fun _ _ => ?_) ?_
  · rw [Bool.or_eq_false_iff]
    exact ⟨decide_eq_false (by omega), decide_eq_false (by omega)⟩
  · have a : (2 ^ 63 - 1 : Int) / n ≥ 100 := by
      rw [ge_iff_le, Int.le_ediv_iff_mul_le (by omega)]
      omega
    omega
  · exact decide_eq_false (by
      have a : sizeLine ≥ 1000000 := by decide
      omega)
  · rw [if_neg e1, if_neg (by rw [e2]; exact Bool.false_ne_true)]
    refine ⟨?_, .str (timesS z n.toNat), H, I.tok _, ⟨_, rfl⟩, q⟩
    have e := times_len z n.toNat
    have a : sizeLine ≥ 1000000 := by decide
    rw [Nat.mul_comm] at hp
    show (timesS z n.toNat).length ≤ sizeLine
    omega
end MLS
namespace DL
open PySem PySem.Spec PyProof.Rows L2 GG DD PT
variable {K : KX}
def oRepS : D2 := fun d e P => match d, e with
  | .str z, .int n => 2 ≤ n ∧ n ≤ 10000 ∧ 1 ≤ z.length ∧ z.length ≤ 100 ∧ P (.str (MLS.timesS z n.toNat))
  | _, _ => False
theorem ro_repS : RO K MLS.rMulS oRepS := fun S H x y d e P Q _ hx hy h q => by
  unfold oRepS at h
  split at h
  · cases hx
    cases hy
    exact ⟨_, _, rfl, rfl, h.1, h.2.1, h.2.2.1, h.2.2.2.1, q _ H _ h.2.2.2.2 (Same.refl _) (.str _)⟩
  · exact h.elim
end DL

set_option Elab.async false
set_option linter.all false
set_option maxRecDepth 100000
set_option maxHeartbeats 4000000
/-! NX: a dict of one's own whose keys are any tuples: {}, setdefault, len. -/
namespace NX
open PySem PySem.Spec PyProof.Rows L2 TK
abbrev NKV := List (List Key × Addr × V)
abbrev NR (p : List Key × Addr × V) (q : List Key × Addr × Value) : Prop := p.1 = q.1 ∧ p.2.1 = q.2.1 ∧ RelV p.2.2 q.2.2
def NmP (P : Program) (w : World) (a : Addr) (kvs : NKV) (h : Heap) : Prop := (a == sysModules) = false ∧ ∃ xs : List (List Key × Addr × Value), Paired NR kvs xs ∧ ∃ o es ep, h.get? a = some o ∧ o.ExactDict ∧ o.data = .dict es ep ∧ es.toList = xs.map (entryOfKey (tupleKind (mixKind P w))) ∧ (xs.map (·.1)).Nodup
/-- the dict at a has these keys, kept at these places, with these values -/
def NmO (P : Program) (w : World) (a : Addr) (kvs : NKV) : HO := .ext (NmP P w a kvs)
def KeysIn (K : PySem.W.Frag) (H : Hp) (kvs : NKV) : Prop := ∀ p, p ∈ kvs → SqT K H p.2.1 (p.1.map kV)
theorem nm_obj {P : Program} {w : World} {H : Hp} {h : Heap} {a : Addr} {kvs : NKV} (x : NmP P w a kvs h) : ObjOk P w H h a (NmO P w a kvs) := by
  refine ⟨x, ?_, fun h1 h2 y k => ?_⟩
  · obtain ⟨_, _, _, o, _, _, ho, _⟩ := x
    exact ⟨o, ho⟩
  · obtain ⟨y0, xs, yp, o, es, ep, ho, r⟩ := y
    exact ⟨y0, xs, yp, o, es, ep, k o ho, r⟩
def getN (kvs : NKV) (k : List Key) : Option V := (kvs.find? fun p => decide (p.1 = k)).map (·.2.2)
theorem getN_rel {kvs : NKV} {xs : List (List Key × Addr × Value)} (r : Paired NR kvs xs) (k : List Key) : RelO (getN kvs k) ((atKey xs k).map (·.2)) := by
  induction r with
  | nil => exact True.intro
  | @cons p q ps qs h t ih =>
    obtain ⟨h1, _, h2⟩ := h
    by_cases e : p.1 = k
    · have e' : q.1 = k := h1.symm.trans e
      have b : atKey (q :: qs) k = some q.2 := by simp [atKey, List.find?_cons, e']
      have c : getN (p :: ps) k = some p.2.2 := by simp [getN, List.find?_cons, e]
      rw [b, c]
      exact h2
    · have e' : ¬ q.1 = k := fun z => e (h1.trans z)
      have b : atKey (q :: qs) k = atKey qs k := by simp [atKey, List.find?_cons, e']
      have c : getN (p :: ps) k = getN ps k := by simp [getN, List.find?_cons, e]
      rw [b, c]
      exact ih
section
variable {X : Cx} {pins : List (Addr × Obj)} {σ : L2.St} {H : Hp} {s : Shared} {a b : Addr} {kvs : NKV}
theorem nm_dict (I : Inv X pins σ H s) (e : H a = some (NmO X.prog X.w a kvs)) (hk : KeysIn X.K H kvs) : (a == sysModules) = false ∧ ∃ xs, Paired NR kvs xs ∧ s.heap.DictOfH (tupleKind (mixKind X.prog X.w)) a xs := by
  obtain ⟨h0, xs, hp, o, es, ep, h1, h2, h3, h4, h5⟩ := (show ObjOk X.prog X.w H s.heap a (NmO X.prog X.w a kvs) from I.hok a _ e).1
  refine ⟨h0, xs, hp, o, es, ep, h1, h2, h3, h4, fun x hx => ?_, h5⟩
  have all : ∀ {l : NKV} {m : List (List Key × Addr × Value)}, Paired NR l m → (∀ p, p ∈ l → SqT X.K H p.2.1 (p.1.map kV)) → ∀ x ∈ m, (tupleKind (mixKind X.prog X.w)).is s.heap x.1 x.2.1 := by
    intro l m q
    induction q with
    | nil => intro _ x hx; exact nomatch hx
    | @cons p q ps qs hq t ih =>
      intro hl x hx
      rcases List.mem_cons.mp hx with e | hx
      · subst e
        have z := hl p List.mem_cons_self
        rw [hq.1, hq.2.1] at z
        exact key_ofQ I z
      · exact ih (fun y hy => hl y (List.mem_cons_of_mem _ hy)) x hx
  exact all hp hk x hx
theorem nm_type (I : Inv X pins σ H s) (e : H a = some (NmO X.prog X.w a kvs)) : s.TypeIs (.ref a) "dict" ∧ (∀ b, Value.ref a = .ref b → ∃ ob, s.heap.get? b = some ob ∧ ob.dict = none) := by
  obtain ⟨h0, xs, hp, o, es, ep, h1, h2, h3, h4, h5⟩ := (show ObjOk X.prog X.w H s.heap a (NmO X.prog X.w a kvs) from I.hok a _ e).1
  exact ⟨⟨o, h1, h2.1⟩, fun b q => by cases q; exact ⟨o, h1, h2.2.1⟩⟩
end
/-! ### readings -/
def tDNewX (P : Program) (w : World) : TE := fun _ H Q => ∀ p, H p = none → Q (.ref p) (upd H p (NmO P w p []))
def tDSetdX (P : Program) (w : World) (K : PySem.W.Frag) (td ty tx : TE) : TE := fun σ H Q => td σ H fun x H1 => (∃ a kvs, x = .ref a ∧ H1 a = some (NmO P w a kvs)) ∧ ty σ H1 fun y H2 => tx σ H2 fun z H3 => ∃ (a : Addr) (kvs : NKV) (k : List Key) (b : Addr), x = .ref a ∧ H3 a = some (NmO P w a kvs) ∧ KeysIn K H3 kvs ∧ y = .ref b ∧ SqT K H3 b (k.map kV) ∧ kvs.length < sizeLine ∧
  (∀ v, getN kvs k = some v → Q v H3) ∧ (getN kvs k = none → Q z (upd H3 a (NmO P w a (kvs ++ [(k, b, z)]))))
def rLenX (P : Program) (w : World) (K : PySem.W.Frag) : List V → Hp → VK → Prop := fun xs H Q => ∃ (p : Addr) (kvs : NKV), xs = [.ref p] ∧ H p = some (NmO P w p kvs) ∧ KeysIn K H kvs ∧ kvs.length ≤ sizeLine ∧ Q (.int ((kvs.length : Nat) : Int)) H
section
variable {X : Cx} {pos : Pos}
theorem pe_dnewX : PE X (.Dict [] [] pos) (tDNewX X.prog X.w) := ⟨fun pins s σ H Q I h =>
  wpAny_Dict_empty ⟨.ref s.heap.objs.size, _, I.laid (a := s.heap.objs.size) (o := NmO X.prog X.w s.heap.objs.size []) (t' := s.toks) (fun _ _ q => Heap.get?_push_of_some _ q) (Nat.le_refl _)
    (nm_obj ⟨beq_eq_false_iff_ne.mpr (Ne.symm (Nat.ne_of_lt I.big)), [], .nil, _, #[], 0, Heap.get?_push_size _ rfl, ⟨rfl, rfl, rfl⟩, rfl, rfl, List.nodup_nil⟩), rfl, h _ (I.hok.fresh (Nat.le_refl _))⟩⟩
theorem call_lenX : CallR X (.builtin "len") (rLenX X.prog X.w X.K) := by
  intro pins s σ H xs us Q I r h
  obtain ⟨p, kvs, rfl, hp, hk, hz, q⟩ := h
  obtain ⟨u, rfl, rx⟩ := vals1 r
  obtain rfl : u = .ref p := rx
  obtain ⟨hd, ys, rel, dd⟩ := nm_dict I hp hk
  have hl : kvs.length = ys.length := Paired.length rel
  refine call_len_dictH hd dd (by rw [← hl]; rw [sizeLine_eq] at hz; omega) ?_
  rw [← hl]
  exact ⟨.int ((kvs.length : Nat) : Int), H, I.tok _, ⟨_, rfl⟩, q⟩
theorem pe_dsetdX {o e f : Expr} {td ty tx : TE} {apos cpos : Pos} (hu : X.A.units + 1 < cLine) (ho : PE X o td) (he : PE X e ty) (hf : PE X f tx) (m : M2 X o "setdefault" apos e f cpos) : PE X (.Call (.Attribute o "setdefault" apos) [e, f] [] cpos) (tDSetdX X.prog X.w X.K td ty tx) := by
  refine ⟨fun pins s σ H Q I h => ?_⟩
  refine wpAny_Call_method m.base m.few m.line PySem.F.plainAttrs_dict PySem.F.slot_dict_setdefault PySem.F.type_dict_setdefault (thn (ho.run pins s σ H _ I h) fun u s1 ⟨x, H1, I1, rx, ⟨a, kvs0, ex, e1⟩, q1⟩ => ?_)
  subst ex
  obtain rfl : u = Value.ref a := rx
  obtain ⟨t1, t2⟩ := nm_type I1 e1
  refine ⟨t1, t2, ?_⟩
  rw [m.trees]
  refine Calls.callWith_builtin rfl (Calls.evalArgs_plain (Calls.spliced_cons (thn (he.run pins s1 σ H1 _ I1 q1) fun iv s2 ⟨y, H2, I2, ry, q2⟩ =>
    Calls.spliced_cons (thn (hf.run pins s2 σ H2 _ I2 q2) fun fv s3 ⟨z, H3, I3, rz, a', kvs, k, b, ea, e3, hk, ey, eb, hl, q3, q4⟩ => Calls.spliced_nil ?_))))
  subst ey
  obtain rfl : iv = Value.ref b := ry
  obtain rfl : a = a' := by cases ea; rfl
  obtain ⟨hd, xs, rel, dd⟩ := nm_dict I3 e3 hk
  have hz : xs.length ≤ sizeLine := by rw [← Paired.length rel]; omega
  refine call_setdefault_heap (hsz := hz) (tupleKind_room_in1 hu) (key_ofQ I3 eb) hd dd (fun p hp => ?_) fun hn h' dd' hs => ?_
  · have q := getN_rel rel k
    rw [hp] at q
    cases q0 : getN kvs k with
    | none =>
      rw [q0] at q
      exact (show False from q).elim
    | some v0 =>
      rw [q0] at q
      exact ⟨v0, _, I3.tok _, q, q3 v0 q0⟩
  · have q := getN_rel rel k
    rw [hn] at q
    cases q0 : getN kvs k with
    | some v0 =>
      rw [q0] at q
      exact (show False from q).elim
    | none =>
      have est : storedH xs k b fv = xs ++ [(k, b, fv)] := by
        unfold storedH
        rw [hn]
        rfl
      rw [est] at dd'
      obtain ⟨qo, es, ep, hq, h2, h3, h4, _, h5⟩ := dd'
      refine ⟨z, _, d_write I3 (by rw [e3]; exact True.intro) hs ⟨qo, hq⟩ (nm_obj ⟨hd, _, Paired.snoc rel ⟨rfl, rfl, rz⟩, qo, es, ep, hq, h2, h3, h4, h5⟩), rz, q4 q0⟩
end
end NX

set_option Elab.async false
set_option linter.all false
set_option maxRecDepth 100000
set_option maxHeartbeats 4000000
/-! PL2: more data functions stepped through: dicts, walks of dicts, lists as arguments. -/
namespace DL
open PySem PySem.Spec PyProof.Rows L2 GG DD PT
section
variable {P : PyData → DSt → Prop} {PA : List PyData → DSt → Prop} {PT' : Bool → DSt → Prop} {PX : List DV → DSt → Prop} {PO : PyData → Prop} {PK : List (PyData × PyData) → DSt → Prop} {s : DSt} {E : DEnds} {i j l m : Nat} {d e : PyData} {de df da db dc : DE} {dl dm : DA} {c c2 : DT} {a b : DS} {x : DX} {F : FD}
theorem w_listA {ad : Addr} {ds : List PyData} (e : s.sl[i]? = some (.arg ad ds)) (h : PA ds s) : dListVar i s PA := by unfold dListVar; rw [e]; exact h
theorem w_par3 (h : dl s fun ds s1 => match ds with
  | [d, e, f] => E.nx ⟨((s1.sl.set i (.dat d)).set j (.dat e)).set l (.dat f), s1.n⟩
  | _ => False) : dPar3 i j l dl E s := h
theorem w_par3R (h : de s fun d s1 => df s1 fun e s2 => dl s2 fun ds s3 => i ≠ j ∧ i ≠ l ∧ j ≠ l ∧ l < s3.sl.length ∧ E.nx ⟨((s3.sl.set i (.dat d)).set j (.dat e)).set l (.own ds), s3.n⟩) : dPar3R i j l de df dl E s := h
theorem w_tupLL (h0 : i ≠ j) (h : dParLL i j dl dm E s) : dTupLL i j dl dm E s := ⟨h0, h⟩
theorem w_par0L (h : i < s.sl.length ∧ j < s.sl.length ∧ i ≠ j ∧ dl ⟨s.sl, s.n⟩ fun ds s2 => s2.sl = s.sl ∧ E.nx ⟨(s2.sl.set i (.owd [])).set j (.own ds), s2.n⟩) : dPar0L i j dl E s := h
def extK (i : Nat) (E : DEnds) (d : PyData) (s1 : DSt) : Prop := match s1.sl[i]?, d with
  | some (.own ds), .list es => ds.length + es.length ≤ 1000000 ∧ E.nx ⟨s1.sl.set i (.own (ds ++ es)), s1.n⟩
  | _, _ => False
theorem w_ext (h0 : isOwnL s.sl[i]?) (h : de s fun d s1 => extK i E d s1) : dExt i de E s := ⟨h0, h⟩
theorem w_extK {ds es : List PyData} (e : s.sl[i]? = some (.own ds)) (h1 : ds.length + es.length ≤ 1000000) (h : E.nx ⟨s.sl.set i (.own (ds ++ es)), s.n⟩) : extK i E (.list es) s := by
  unfold extK
  rw [e]
  exact ⟨h1, h⟩
theorem w_pop {ds : List PyData} (e : s.sl[i]? = some (.own (ds ++ [d]))) (h : P d ⟨s.sl.set i (.own ds), s.n⟩) : dPop i s P := by
  unfold dPop
  rw [e]
  refine ⟨d, by simp, ?_⟩
  rw [List.dropLast_concat]
  exact h
theorem w_revL (h : dl s fun ds s1 => PA ds.reverse s1) : dRevL dl s PA := h
theorem w_listQ (h : de s fun d s1 => match d with
  | .list ds => PA ds s1
  | .tuple ds => PA ds s1
  | _ => False) : dListQ de s PA := h
theorem w_listDictO {kvs : List (PyData × PyData)} (e : s.sl[i]? = some (.owd kvs)) (h : PA (kvs.map (·.1)) s) : dListDict i s PA := by
  refine ⟨by rw [e]; trivial, ?_⟩
  unfold dDictVar
  rw [e]
  exact h
theorem w_lenDictO {kvs : List (PyData × PyData)} (e : s.sl[i]? = some (.owd kvs)) (h : P (.int kvs.length) s) : dLenDict i s P := by
  refine ⟨by rw [e]; trivial, ?_⟩
  unfold dDictVar
  rw [e]
  exact h
theorem w_star (h : dl s fun xs s1 => dm s1 fun ys s2 => PA (xs ++ ys) s2) : dStar dl dm s PA := h
theorem w_split (h : de s fun d s1 => match d with
  | .str a => df s1 fun e s2 => match e with
    | .str b => (b.length == 0) = false ∧ a.length ≤ 1000000 ∧ PA ((Txt.split a b).map .str) s2
    | _ => False
  | _ => False) : dSplit de df s PA := h
theorem w_intB (h : de s fun d s1 => match d with
  | .int i => P (.int i) s1
  | .bool b => P (.int (if b then 1 else 0)) s1
  | _ => False) : dIntB de s P := h
theorem w_catVarO {ds : List PyData} (e : s.sl[i]? = some (.own ds)) (h : db s fun e s1 => match e with
  | .list b => dListVar i s1 fun a s2 => a.length + b.length ≤ 1000000 ∧ PA (a ++ b) s2
  | _ => False) : dCatVar i db s PA := ⟨by rw [e]; trivial, h⟩
theorem w_catVarD (e : s.sl[i]? = some (.dat d)) (h : db s fun e s1 => match e with
  | .list b => dListVar i s1 fun a s2 => a.length + b.length ≤ 1000000 ∧ PA (a ++ b) s2
  | _ => False) : dCatVar i db s PA := ⟨by rw [e]; trivial, h⟩
/-! dicts with tuple keys -/
def getT (i : Nat) (P : PyData → DSt → Prop) (kd : PyData) (s1 : DSt) : Prop := match kT kd with
  | some k => dTupVar i s1 fun kvs s2 => ∃ d, dgetT kvs k = some d ∧ P d s2
  | none => False
theorem w_dGetT (h0 : hasVT s.sl[i]?) (h : de s fun kd s1 => getT i P kd s1) : dDGetT i de s P := ⟨h0, h⟩
theorem w_getTO {kvs : List (PyData × PyData)} {k : List L2.Key} {x : PyData} (ek : kT d = some k) (e : s.sl[i]? = some (.owt kvs)) (hx : dgetT kvs k = some x) (h : P x s) : getT i P d s := by
  unfold getT
  rw [ek]
  show dTupVar i s _
  unfold dTupVar
  rw [e]
  exact ⟨x, hx, h⟩
theorem w_getTL {ad : Addr} {o : HO} {kvs : List (PyData × PyData)} {k : List L2.Key} {x : PyData} (ek : kT d = some k) (e : s.sl[i]? = some (.lkd ad o kvs)) (hx : dgetT kvs k = some x) (h : P x s) : getT i P d s := by
  unfold getT
  rw [ek]
  show dTupVar i s _
  unfold dTupVar
  rw [e]
  exact ⟨x, hx, h⟩
theorem w_getTD {kvs : List (PyData × PyData)} {k : List L2.Key} {x : PyData} (ek : kT d = some k) (e : s.sl[i]? = some (.dat (.dict kvs))) (hh : headK kvs = false) (hx : dgetT kvs k = some x) (h : P x s) : getT i P d s := by
  unfold getT
  rw [ek]
  show dTupVar i s _
  unfold dTupVar
  rw [e]
  exact ⟨hh, x, hx, h⟩
theorem w_setT (h0 : i < s.sl.length) (h : E.nx ⟨s.sl.set i (.owt []), s.n⟩) : dSetT i E s := ⟨h0, h⟩
def putNK (i : Nat) (E : DEnds) (d : PyData) (ks : List PyData) (s2 : DSt) : Prop := ks.length ≤ 1000000 ∧ match kTs ks, s2.sl[i]? with
  | some k, some (.owt kvs) => kvs.length < 1000000 ∧ E.nx ⟨s2.sl.set i (.owt (dputT kvs k d)), s2.n⟩
  | _, _ => False
theorem w_dPutN (h : df s fun d s1 => isOwt s1.sl[i]? ∧ dl s1 fun ks s2 => putNK i E d ks s2) : dDPutN i dl df E s := h
theorem w_putNK {kvs : List (PyData × PyData)} {ks : List PyData} {k : List L2.Key} (hl : ks.length ≤ 1000000) (ek : kTs ks = some k) (e : s.sl[i]? = some (.owt kvs)) (h1 : kvs.length < 1000000) (h : E.nx ⟨s.sl.set i (.owt (dputT kvs k d)), s.n⟩) : putNK i E d ks s := by
  refine ⟨hl, ?_⟩
  rw [ek, e]
  exact ⟨h1, h⟩
def putOK (i : Nat) (E : DEnds) (d kd : PyData) (s2 : DSt) : Prop := match kT kd, s2.sl[i]? with
  | some k, some (.owt kvs) => (dgetT kvs k).isSome = true ∧ kvs.length < 1000000 ∧ E.nx ⟨s2.sl.set i (.owt (dputT kvs k d)), s2.n⟩
  | _, _ => False
theorem w_dPutO (h : df s fun d s1 => isOwt s1.sl[i]? ∧ de s1 fun kd s2 => putOK i E d kd s2) : dDPutO i de df E s := h
theorem w_putOK {kvs : List (PyData × PyData)} {kd : PyData} {k : List L2.Key} (ek : kT kd = some k) (e : s.sl[i]? = some (.owt kvs)) (hs : (dgetT kvs k).isSome = true) (h1 : kvs.length < 1000000) (h : E.nx ⟨s.sl.set i (.owt (dputT kvs k d)), s.n⟩) : putOK i E d kd s := by
  unfold putOK
  rw [ek, e]
  exact ⟨hs, h1, h⟩
theorem w_forT {g : DG} {kvs : List (PyData × PyData)} (e : s.sl[i]? = some (.owt kvs)) (hn : noLkB s.sl = true) (h : ∀ ad o, dLoop g b { nx := fun s2 => s2.sl[i]? = some (.lkd ad o kvs) ∧ noLkB (s2.sl.set i .un) = true ∧ E.nx ⟨s2.sl.set i (.owt kvs), s2.n⟩, rt := fun _ _ => False } (kvs.map (·.1)) ⟨s.sl.set i (.lkd ad o kvs), s.n⟩) : dForT i g b E s := by
  unfold dForT
  rw [e]
  refine ⟨hn, fun ad o => ?_⟩
  unfold dFor dKeysT
  have hi : i < s.sl.length := (List.getElem?_eq_some_iff.mp e).1
  rw [List.getElem?_set, if_pos rfl, if_pos hi]
  exact h ad o
theorem w_fzT {kvs : List (PyData × PyData)} (e : s.sl[i]? = some (.owt kvs)) (hn : kvs ≠ []) (h : b E ⟨s.sl.set i (.dat (.dict kvs)), s.n⟩) : dFreeze i b E s := by unfold dFreeze; rw [e]; exact ⟨hn, h⟩
theorem w_listZipT {d1 d2 : DE} (h : d1 s fun x s1 => d2 s1 fun y s2 => match x, y with
  | .tuple a, .tuple b => PA (List.zipWith (fun p q => PyData.tuple [p, q]) a b) s2
  | _, _ => False) : dListZipT d1 d2 s PA := h
/-! lists as arguments -/
def callMK (i m : Nat) (F : FM) (E : DEnds) (as : List DV) (s1 : DSt) : Prop := as.length + 1 = m ∧ match s1.sl[i]? with
  | some (.own ds) => F as ds s1.n fun _ ds' n' => E.nx ⟨s1.sl.set i (.own ds'), n'⟩
  | some (.arg a ds) => F as ds s1.n fun _ ds' n' => E.nx ⟨s1.sl.set i (.arg a ds'), n'⟩
  | _ => False
theorem w_callM {F : FM} (h : x s fun as s1 => callMK i m F E as s1) : dCallM i m F x E s := h
theorem w_callMO {F : FM} {as : List DV} {ds : List PyData} (hl : as.length + 1 = m) (e : s.sl[i]? = some (.own ds)) (h : F as ds s.n fun _ ds' n' => E.nx ⟨s.sl.set i (.own ds'), n'⟩) : callMK i m F E as s := by
  refine ⟨hl, ?_⟩
  rw [e]
  exact h
theorem w_callMA {F : FM} {as : List DV} {ad : Addr} {ds : List PyData} (hl : as.length + 1 = m) (e : s.sl[i]? = some (.arg ad ds)) (h : F as ds s.n fun _ ds' n' => E.nx ⟨s.sl.set i (.arg ad ds'), n'⟩) : callMK i m F E as s := by
  refine ⟨hl, ?_⟩
  rw [e]
  exact h
theorem w_xLast (h0 : isOwnA s.sl[i]?) (h : PX [] s) : xLast i s PX := ⟨h0, h⟩
def appAK (i : Nat) (E : DEnds) (d : PyData) (s1 : DSt) : Prop := match s1.sl[i]? with
  | some (.arg a ds) => ds.length < 1000000 ∧ E.nx ⟨s1.sl.set i (.arg a (ds ++ [d])), s1.n⟩
  | _ => False
theorem w_appA {ad : Addr} {ds : List PyData} (e : s.sl[i]? = some (.arg ad ds)) (h : de s fun d s1 => appAK i E d s1) : dAppA i de E s := ⟨by rw [e]; trivial, h⟩
theorem w_appAK {ad : Addr} {ds : List PyData} (e : s.sl[i]? = some (.arg ad ds)) (h1 : ds.length < 1000000) (h : E.nx ⟨s.sl.set i (.arg ad (ds ++ [d])), s.n⟩) : appAK i E d s := by
  unfold appAK
  rw [e]
  exact ⟨h1, h⟩
def inVK (neg : Bool) (i : Nat) (P : PyData → DSt → Prop) (d : PyData) (s1 : DSt) : Prop := match flatD d with
  | some x => dListVar i s1 fun ds s2 => ∃ vs, flatsD ds = some vs ∧ flatV x = true ∧ vs.all flatV = true ∧ P (.bool (if neg then !inV x vs else inV x vs)) s2
  | none => False
theorem w_inVar {neg : Bool} (h : de s fun d s1 => inVK neg i P d s1) : dInVar neg de i s P := h
/-! operations -/
theorem w_oI {cc : Int → Int → Prop} {g : Int → Int → Int} {p q : Int} (h0 : cc p q) (h : PO (.int (g p q))) : oI cc g (.int p) (.int q) PO := ⟨h0, h⟩
theorem w_catS {p q : Str} (h0 : p.length + q.length ≤ 1000000) (h : PO (.str (p ++ q))) : oCatS (.str p) (.str q) PO := ⟨h0, h⟩
theorem w_ixS {z : Str} {k : Int} {cc : Nat} (hz : z.length ≤ 1000000) (e : atI z.cps.toList k = some cc) (h : PO (.str ⟨#[cc]⟩)) : oIxS (.str z) (.int k) PO := ⟨hz, cc, e, h⟩
theorem w_slS {d1 d2 : DO} (h : de s fun d s1 => d1 s1 fun lo s2 => d2 s2 fun hi s3 => match d with
  | .str z => z.length ≤ 1000000 ∧ P (.str (cutS z lo hi)) s3
  | _ => False) : dSlS de d1 d2 s P := h
theorem w_sortS (h : dl s fun ds s1 => ∃ xs, strsD ds = some xs ∧ xs.length < 64 ∧ ∀ ys : List Str, ys.Perm xs → sortedS ys = true → PA (ys.map .str) s1) : dSortS dl s PA := h
theorem w_neMtL {ds : List PyData} (h : PO (.bool !ds.isEmpty)) : oNeMtL (.list ds) (.list []) PO := h
theorem w_while (I : Nat → DSt → Prop) (h0 : ∃ m, I m s) (step : ∀ m s, I m s → c s fun t s1 => if t = true then b { nx := fun s2 => ∃ m', m' < m ∧ I m' s2, rt := E.rt, ct := fun s2 => ∃ m', m' < m ∧ I m' s2, bk := E.nx } s1 else E.nx s1) : dWhile c b E s := ⟨I, h0, step⟩
/-! dict comprehensions -/
theorem w_dcomp {g : DG} {t : DT} {ek ev : DE} {vs : List Nat} (h : dl s fun items s1 => items.length ≤ 1000 ∧ noOwnB s1.sl vs = true ∧ dDc g t ek ev (wipeD s1.sl vs) items [] s1.n fun acc n => PK acc ⟨s1.sl, n⟩) : dDcomp dl g t ek ev vs s PK := h
end
/-- each item gives its pair; no draw -/
theorem dc_map {g : DG} {t : DT} {ek ev : DE} {base : List DV} {P : List (PyData × PyData) → Nat → Prop} {n : Nat} {items : List PyData} (f : PyData → L2.Key × PyData)
    (step : ∀ d, d ∈ items → ∀ (Y : PyData → PyData → Nat → Prop) (Z : Nat → Prop), Y (keyD (f d).1) (f d).2 n →
      g d (fun s1 => t s1 fun b s2 => if b = true then ek s2 fun kd s3 => ev s3 fun y s4 => s4.sl = s1.sl ∧ Y kd y s4.n else s2.sl = s1.sl ∧ Z s2.n) ⟨base, n⟩)
    (fin : P (mergeD [] (items.map f)) n) : dDc g t ek ev base items [] n P := by
  have key : ∀ (its : List PyData) (acc : List (PyData × PyData)), (∀ d, d ∈ its → d ∈ items) → mergeD acc (its.map f) = mergeD [] (items.map f) → dDc g t ek ev base its acc n P := by
    intro its
    induction its with
    | nil =>
      intro acc _ h
      have h : acc = _ := h
      rw [h]
      exact fin
    | cons d ds ih =>
      intro acc hm h
      exact step d (hm d List.mem_cons_self) (fun kd y n' => ∃ k, kOf kd = some k ∧ dDc g t ek ev base ds (dputD acc k y) n' P) (fun n' => dDc g t ek ev base ds acc n' P) ⟨(f d).1, kOf_keyD _, ih _ (fun x hx => hm x (List.mem_cons_of_mem _ hx)) h⟩
  exact key items [] (fun _ h => h) rfl
/-! what a dict with tuple keys tells -/
theorem getT_map (k k' : List L2.Key) (d : PyData) : ∀ kvs : List (PyData × PyData), dgetT (kvs.map fun p => if kT p.1 = some k then (p.1, d) else p) k' = if k = k' then (dgetT kvs k).map (fun _ => d) else dgetT kvs k'
  | [] => by
    show none = _
    split <;> rfl
  | p :: r => by
    have ih := getT_map k k' d r
    rw [List.map_cons]
    by_cases e : kT p.1 = some k
    · rw [if_pos e]
      show (if kT p.1 = some k' then some d else dgetT _ k') = _
      by_cases e2 : k = k'
      · subst e2
        rw [if_pos e, if_pos rfl]
        show _ = (if kT p.1 = some k then some p.2 else dgetT r k).map _
        rw [if_pos e]
        rfl
      · have e3 : ¬ kT p.1 = some k' := fun z => e2 (Option.some.inj (e.symm.trans z))
        rw [if_neg e3, ih, if_neg e2, if_neg e2]
        show _ = (if kT p.1 = some k' then some p.2 else dgetT r k')
        rw [if_neg e3]
    · rw [if_neg e]
      show (if kT p.1 = some k' then some p.2 else dgetT _ k') = _
      rw [ih]
      by_cases e2 : k = k'
      · subst e2
        rw [if_neg e, if_pos rfl, if_pos rfl]
        show _ = (if kT p.1 = some k then some p.2 else dgetT r k).map _
        rw [if_neg e]
      · rw [if_neg e2, if_neg e2]
        rfl
theorem getT_append (k : List L2.Key) (b : List (PyData × PyData)) : ∀ a : List (PyData × PyData), dgetT (a ++ b) k = (dgetT a k).or (dgetT b k)
  | [] => rfl
  | p :: r => by
    show (if kT p.1 = some k then some p.2 else dgetT (r ++ b) k) = (if kT p.1 = some k then some p.2 else dgetT r k).or _
    by_cases e : kT p.1 = some k
    · rw [if_pos e, if_pos e]
      rfl
    · rw [if_neg e, if_neg e]
      exact getT_append k b r
theorem getT_put (kvs : List (PyData × PyData)) (k k' : List L2.Key) (d : PyData) : dgetT (dputT kvs k d) k' = if k = k' then some d else dgetT kvs k' := by
  unfold dputT
  by_cases h : (dgetT kvs k).isSome = true
  · rw [if_pos h, getT_map]
    by_cases e : k = k'
    · rw [if_pos e, if_pos e]
      obtain ⟨x, hx⟩ := Option.isSome_iff_exists.mp h
      rw [hx]
      rfl
    · rw [if_neg e, if_neg e]
  · rw [if_neg h, getT_append]
    have hn : dgetT kvs k = none := by
      cases e : dgetT kvs k with
      | none => rfl
      | some x => rw [e] at h; exact absurd rfl h
    show (dgetT kvs k').or (if kT (.tuple (k.map keyD)) = some k' then some d else none) = _
    rw [kT_map]
    by_cases e : k = k'
    · subst e
      rw [hn, if_pos rfl, if_pos rfl]
      rfl
    · rw [if_neg (fun z => e (Option.some.inj z)), if_neg e]
      cases dgetT kvs k' <;> rfl
theorem putT_len_in {kvs : List (PyData × PyData)} {k : List L2.Key} {d : PyData} (h : (dgetT kvs k).isSome = true) : (dputT kvs k d).map (·.1) = kvs.map (·.1) := by
  unfold dputT
  rw [if_pos h, List.map_map]
  refine List.map_congr_left fun p _ => ?_
  show (if kT p.1 = some k then (p.1, d) else p).1 = p.1
  split <;> rfl
theorem putT_new {kvs : List (PyData × PyData)} {k : List L2.Key} {d : PyData} (h : dgetT kvs k = none) : dputT kvs k d = kvs ++ [(.tuple (k.map keyD), d)] := by
  unfold dputT
  rw [h, if_neg (by decide)]
end DL

set_option Elab.async false
set_option linter.all false
set_option maxRecDepth 100000
set_option maxHeartbeats 4000000
/-! PLN: steps of not, of -x, of chained tests. -/
namespace DL
open PySem PySem.Spec PyProof.Rows L2 GG DD PT
section
variable {da db dc de : DE} {s : DSt} {P : PyData → DSt → Prop}
theorem w_notV (h : da s fun d s1 => match d with
  | .bool c => P (.bool (!c)) s1
  | _ => False) : dNotV da s P := h
theorem w_neg (h : da s fun d s1 => match d with
  | .int k => P (.int (-k)) s1
  | _ => False) : dNeg da s P := h
theorem w_chain {r r' : D2} (h : da s fun x s1 => db s1 fun y s2 => r x y fun z => match z with
  | .bool k => if k = true then dc s2 fun w s3 => r' y w fun u => P u s3 else P (.bool false) s2
  | _ => False) : dChain r r' da db dc s P := h
end
end DL

set_option Elab.async false
set_option linter.all false
set_option maxRecDepth 100000
set_option maxHeartbeats 4000000
/-! PLG: steps of all and any of a generator expression, of {**d, k: i}, of `is` of bools. -/
namespace DL
open PySem PySem.Spec PyProof.Rows L2 GG DD PT
section
variable {de : DE} {s : DSt} {P : PyData → DSt → Prop} {di : DA} {g : DG} {t : DT} {vs : List Nat} {stop : Bool} {PO : PyData → Prop} {PK : List (PyData × PyData) → DSt → Prop}
theorem w_allG (h : di s fun items s1 => noOwnB s1.sl vs = true ∧ dAg stop g t de (wipeD s1.sl vs) items s1.n fun b n => P (.bool b) ⟨s1.sl, n⟩) : dAllG stop di g t de vs s P := h
theorem w_isB {a b : Bool} (h : PO (.bool (decide (a = b)))) : oIsB false (.bool a) (.bool b) PO := h
theorem w_notB {a b : Bool} (h : PO (.bool (!decide (a = b)))) : oIsB true (.bool a) (.bool b) PO := h
theorem w_splat {k : L2.Key} {i : Int} (h : de s fun d s1 => match d with
  | .dict kvs => kvs.length ≤ 1000000 ∧ ∃ k0, keysD kvs = some k0 ∧ PK (dputD (mergeD [] k0) k (.int i)) s1
  | _ => False) : dSplat de k i s PK := h
/-- all(e for ..): each item has its answer, no draw -/
theorem ag_all {base : List DV} {n : Nat} {PB : Bool → Nat → Prop} {items : List PyData} (f : PyData → Bool)
    (step : ∀ d, d ∈ items → ∀ (Y : PyData → Nat → Prop) (Z : Nat → Prop), Y (.bool (f d)) n → g d (fun s1 => t s1 fun b s2 => if b = true then de s2 fun y s3 => s3.sl = s1.sl ∧ Y y s3.n else s2.sl = s1.sl ∧ Z s2.n) ⟨base, n⟩)
    (fin : PB (items.all f) n) : dAg false g t de base items n PB := by
  induction items with
  | nil => exact fin
  | cons d ds ih =>
    refine step d List.mem_cons_self (fun y n' => match y with
      | .bool c => if c = false then PB false n' else dAg false g t de base ds n' PB
      | _ => False) (fun n' => dAg false g t de base ds n' PB) ?_
    show if f d = false then PB false n else dAg false g t de base ds n PB
    rw [List.all_cons] at fin
    cases e : f d with
    | false =>
      rw [if_pos rfl]
      rw [e] at fin
      exact fin
    | true =>
      rw [if_neg (by decide)]
      rw [e, Bool.true_and] at fin
      exact ih (fun x hx => step x (List.mem_cons_of_mem _ hx)) fin
theorem ag_any {base : List DV} {n : Nat} {PB : Bool → Nat → Prop} {items : List PyData} (f : PyData → Bool)
    (step : ∀ d, d ∈ items → ∀ (Y : PyData → Nat → Prop) (Z : Nat → Prop), Y (.bool (f d)) n → g d (fun s1 => t s1 fun b s2 => if b = true then de s2 fun y s3 => s3.sl = s1.sl ∧ Y y s3.n else s2.sl = s1.sl ∧ Z s2.n) ⟨base, n⟩)
    (fin : PB (items.any f) n) : dAg true g t de base items n PB := by
  induction items with
  | nil => exact fin
  | cons d ds ih =>
    refine step d List.mem_cons_self (fun y n' => match y with
      | .bool c => if c = true then PB true n' else dAg true g t de base ds n' PB
      | _ => False) (fun n' => dAg true g t de base ds n' PB) ?_
    show if f d = true then PB true n else dAg true g t de base ds n PB
    rw [List.any_cons] at fin
    cases e : f d with
    | true =>
      rw [if_pos rfl]
      rw [e] at fin
      exact fin
    | false =>
      rw [if_neg (by decide)]
      rw [e, Bool.false_or] at fin
      exact ih (fun x hx => step x (List.mem_cons_of_mem _ hx)) fin
end
end DL

set_option Elab.async false
set_option linter.all false
set_option maxRecDepth 100000
set_option maxHeartbeats 4000000
/-! PLY: steps of find, upper, signs, strict zip, reversed tuples, str(int). -/
namespace DL
open PySem PySem.Spec PyProof.Rows L2 GG DD PT
section
variable {da db de df : DE} {s : DSt} {P : PyData → DSt → Prop} {PA : List PyData → DSt → Prop} {PO : PyData → Prop}
theorem w_find (h : de s fun d s1 => match d with
  | .str a => df s1 fun e s2 => match e with
    | .str b => P (.int (Txt.find a b)) s2
    | _ => False
  | _ => False) : dFind de df s P := h
theorem w_upper (h : de s fun d s1 => match d with
  | .str a => a.length ≤ 1000000 ∧ P (.str (Txt.upper a)) s1
  | _ => False) : dUpper de s P := h
theorem w_strIt (h : de s fun d s1 => match d with
  | .str x => PA (signsD x) s1
  | _ => False) : dStrIt de s PA := h
theorem w_zipS (h : de s fun d s1 => df s1 fun e s2 => match seqOf d, seqOf e with
  | some xs, some ys => xs.length = ys.length ∧ PA (zipD xs ys) s2
  | _, _ => False) : dZipS de df s PA := h
theorem w_revU (h : de s fun d s1 => match d with
  | .tuple ds => P (.tuple ds.reverse) s1
  | _ => False) : dRevU de s P := h
theorem w_strI (h : de s fun d s1 => match d with
  | .int i => i.natAbs.log2 < 1920 ∧ P (.str (toString i)) s1
  | _ => False) : dStrI de s P := h
theorem w_rng2 (h : de s fun d s1 => df s1 fun e s2 => match d, e with
  | .int i, .int j => (-(2 ^ 62) ≤ i ∧ i < 2 ^ 62 ∧ -(2 ^ 62) ≤ j ∧ j < 2 ^ 62) ∧ PA (rngD i (j - i).toNat) s2
  | _, _ => False) : dRng2 de df s PA := h
theorem w_S {g : Str → Str → Bool} {p q : Str} (h : PO (.bool (g p q))) : oS g (.str p) (.str q) PO := h
theorem w_repS {z : Str} {n : Int} (h : 2 ≤ n ∧ n ≤ 10000 ∧ 1 ≤ z.length ∧ z.length ≤ 100) (k : PO (.str (MLS.timesS z n.toNat))) : oRepS (.str z) (.int n) PO := ⟨h.1, h.2.1, h.2.2.1, h.2.2.2, k⟩
end
end DL

set_option Elab.async false
set_option linter.all false
set_option maxRecDepth 100000
set_option maxHeartbeats 4000000
/-! LSM: sheets in plain Lean: rows that no path tells apart, walks, the least sheet. -/
namespace LS
open PySem
abbrev Row := Str × List Nat
abbrev Sheet := List Row
def rowAt (r : Sheet) (k : Nat) : Row := r.getD k ("", [])
theorem row_mem {r : Sheet} {k : Nat} (h : k < r.length) : rowAt r k ∈ r := by
  unfold rowAt
  rw [List.getD_eq_getElem?_getD, List.getElem?_eq_getElem h]
  exact List.getElem_mem h
theorem row_some {r : Sheet} {k : Nat} (h : k < r.length) : r[k]? = some (rowAt r k) := by
  unfold rowAt
  rw [List.getD_eq_getElem?_getD, List.getElem?_eq_getElem h]
  rfl
/-- pairs of a relation -/
inductive F2 {α β : Type} (R : α → β → Prop) : List α → List β → Prop
  | nil : F2 R [] []
  | cons {x : α} {y : β} {xs : List α} {ys : List β} : R x y → F2 R xs ys → F2 R (x :: xs) (y :: ys)
section
variable {α β γ : Type} {R R' : α → β → Prop}
theorem F2.len : ∀ {xs : List α} {ys : List β}, F2 R xs ys → xs.length = ys.length
  | _, _, .nil => rfl
  | _, _, .cons _ t => by rw [List.length_cons, List.length_cons, t.len]
theorem F2.mono (h : ∀ x y, R x y → R' x y) : ∀ {xs : List α} {ys : List β}, F2 R xs ys → F2 R' xs ys
  | _, _, .nil => .nil
  | _, _, .cons a t => .cons (h _ _ a) (t.mono h)
theorem F2.monoMem : ∀ {xs : List α} {ys : List β}, F2 R xs ys → (∀ x y, x ∈ xs → y ∈ ys → R x y → R' x y) → F2 R' xs ys
  | _, _, .nil, _ => .nil
  | _, _, .cons a t, h => .cons (h _ _ List.mem_cons_self List.mem_cons_self a) (t.monoMem fun x y hx hy => h x y (List.mem_cons_of_mem _ hx) (List.mem_cons_of_mem _ hy))
theorem F2.append : ∀ {xs us : List α} {ys vs : List β}, F2 R xs ys → F2 R us vs → F2 R (xs ++ us) (ys ++ vs)
  | _, _, _, _, .nil, h => h
  | _, _, _, _, .cons a t, h => .cons a (t.append h)
theorem F2.symm {S : β → α → Prop} (h : ∀ x y, R x y → S y x) : ∀ {xs : List α} {ys : List β}, F2 R xs ys → F2 S ys xs
  | _, _, .nil => .nil
  | _, _, .cons a t => .cons (h _ _ a) (t.symm h)
theorem F2.comp {S : β → γ → Prop} {T : α → γ → Prop} (h : ∀ x y z, R x y → S y z → T x z) : ∀ {xs : List α} {ys : List β} {zs : List γ}, F2 R xs ys → F2 S ys zs → F2 T xs zs
  | _, _, _, .nil, .nil => .nil
  | _, _, _, .cons a t, .cons b u => .cons (h _ _ _ a b) (t.comp h u)
theorem F2.at : ∀ {xs : List α} {ys : List β} {i : Nat} {x : α}, F2 R xs ys → xs[i]? = some x → ∃ y, ys[i]? = some y ∧ R x y
  | _, _, _, _, .nil, e => by simp at e
  | _, _, 0, _, .cons a _, e => by
    simp at e
    subst e
    exact ⟨_, rfl, a⟩
  | _, _, i + 1, x, .cons _ t, e => by
    obtain ⟨y, h1, h2⟩ := F2.at (i := i) (x := x) t (by simpa using e)
    exact ⟨y, by simpa using h1, h2⟩
theorem F2.of_at : ∀ {xs : List α} {ys : List β}, xs.length = ys.length → (∀ (i : Nat) (x : α) (y : β), xs[i]? = some x → ys[i]? = some y → R x y) → F2 R xs ys
  | [], [], _, _ => .nil
  | [], _ :: _, h, _ => by cases h
  | _ :: _, [], h, _ => by cases h
  | x :: xs, y :: ys, h, k => .cons (k 0 x y rfl rfl) (F2.of_at (by simpa using h) fun i a b e f => k (i + 1) a b (by simpa using e) (by simpa using f))
theorem F2.refl {R : α → α → Prop} : ∀ {xs : List α}, (∀ x, x ∈ xs → R x x) → F2 R xs xs
  | [], _ => .nil
  | x :: xs, h => .cons (h x List.mem_cons_self) (F2.refl fun y hy => h y (List.mem_cons_of_mem _ hy))
theorem F2.map_left {δ : Type} {f : δ → α} : ∀ {xs : List δ} {ys : List β}, F2 (fun x y => R (f x) y) xs ys → F2 R (xs.map f) ys
  | _, _, .nil => .nil
  | _, _, .cons a t => .cons a t.map_left
theorem F2.map_right {δ : Type} {f : δ → β} : ∀ {xs : List α} {ys : List δ}, F2 (fun x y => R x (f y)) xs ys → F2 R xs (ys.map f)
  | _, _, .nil => .nil
  | _, _, .cons a t => .cons a t.map_right
theorem F2.map_eq {f : α → γ} {g : β → γ} (h : ∀ x y, R x y → f x = g y) : ∀ {xs : List α} {ys : List β}, F2 R xs ys → xs.map f = ys.map g
  | _, _, .nil => rfl
  | _, _, .cons a t => by rw [List.map_cons, List.map_cons, h _ _ a, t.map_eq h]
theorem F2.of_map_eq {f : α → γ} {g : β → γ} (h : ∀ x y, f x = g y → R x y) : ∀ {xs : List α} {ys : List β}, xs.map f = ys.map g → F2 R xs ys
  | [], [], _ => .nil
  | [], _ :: _, e => by cases e
  | _ :: _, [], e => by cases e
  | x :: xs, y :: ys, e => by
    rw [List.map_cons, List.map_cons] at e
    obtain ⟨e1, e2⟩ := List.cons.inj e
    exact .cons (h _ _ e1) (F2.of_map_eq h e2)
end
/-! ### rows that no path tells apart -/
structure G where
  tg : Nat → Str
  ch : Nat → List Nat
  nd : Nat → Prop
def Bis (g h : G) (x y : Nat) : Prop := ∃ R : Nat → Nat → Prop, R x y ∧ ∀ a b, R a b → g.nd a ∧ h.nd b ∧ g.tg a = h.tg b ∧ F2 R (g.ch a) (h.ch b)
theorem Bis.out {g h : G} {x y : Nat} (b : Bis g h x y) : g.nd x ∧ h.nd y ∧ g.tg x = h.tg y ∧ F2 (Bis g h) (g.ch x) (h.ch y) := by
  obtain ⟨R, h1, h2⟩ := b
  obtain ⟨a1, a2, a3, a4⟩ := h2 _ _ h1
  exact ⟨a1, a2, a3, a4.mono fun u v q => ⟨R, q, h2⟩⟩
theorem Bis.refl {g : G} (cl : ∀ k, g.nd k → ∀ f, f ∈ g.ch k → g.nd f) {x : Nat} (hx : g.nd x) : Bis g g x x :=
  ⟨fun a b => a = b ∧ g.nd a, ⟨rfl, hx⟩, fun a b ⟨e, h⟩ => by
    subst e
    exact ⟨h, h, rfl, F2.refl fun f hf => ⟨rfl, cl a h f hf⟩⟩⟩
theorem Bis.symm {g h : G} {x y : Nat} (b : Bis g h x y) : Bis h g y x :=
  ⟨fun a b => Bis g h b a, b, fun a b q => by
    obtain ⟨a1, a2, a3, a4⟩ := q.out
    exact ⟨a2, a1, a3.symm, a4.symm fun _ _ z => z⟩⟩
theorem Bis.trans {f g h : G} {x y z : Nat} (b : Bis f g x y) (c : Bis g h y z) : Bis f h x z :=
  ⟨fun a e => ∃ d, Bis f g a d ∧ Bis g h d e, ⟨y, b, c⟩, fun a e ⟨d, q1, q2⟩ => by
    obtain ⟨a1, a2, a3, a4⟩ := q1.out
    obtain ⟨b1, b2, b3, b4⟩ := q2.out
    exact ⟨a1, b2, a3.trans b3, a4.comp (fun _ _ _ u v => ⟨_, u, v⟩) b4⟩⟩
/-! ### walks -/
inductive Dfs (rep : Nat → Nat) (ch : Nat → List Nat) : List Nat → List Nat → List Nat → Prop
  | nil (V : List Nat) : Dfs rep ch [] V V
  | skip {a : Nat} {st V W : List Nat} : rep a ∈ V → Dfs rep ch st V W → Dfs rep ch (a :: st) V W
  | visit {a : Nat} {st V W : List Nat} : ¬ rep a ∈ V → Dfs rep ch (ch (rep a) ++ st) (V ++ [rep a]) W → Dfs rep ch (a :: st) V W
section
variable {rep : Nat → Nat} {ch : Nat → List Nat} {U : List Nat}
theorem nodup_snoc {V : List Nat} {a : Nat} (h : V.Nodup) (ha : ¬ a ∈ V) : (V ++ [a]).Nodup := by
  rw [List.nodup_append]
  exact ⟨h, by simp, fun x hx y hy e => by
    rw [List.mem_singleton] at hy
    subst hy
    exact ha (e ▸ hx)⟩
theorem sub_snoc {V : List Nat} {a : Nat} (h : V ⊆ U) (ha : a ∈ U) : (V ++ [a]) ⊆ U := fun x hx => by
  rcases List.mem_append.mp hx with hx | hx
  · exact h hx
  · rw [List.mem_singleton] at hx
    rw [hx]
    exact ha
theorem dfs_exists (hU : ∀ v, v ∈ U → rep v ∈ U ∧ ∀ f, f ∈ ch (rep v) → f ∈ U) : ∀ (m : Nat) (V : List Nat), U.length - V.length < m → V.Nodup → V ⊆ U → ∀ st : List Nat, st ⊆ U → ∃ W, Dfs rep ch st V W
  | 0, _, h, _, _, _, _ => absurd h (Nat.not_lt_zero _)
  | m + 1, V, hm, hn, hs, st, hst => by
    induction st with
    | nil => exact ⟨V, .nil V⟩
    | cons a st ih =>
      have ha : a ∈ U := hst List.mem_cons_self
      have hst' : st ⊆ U := fun x hx => hst (List.mem_cons_of_mem _ hx)
      by_cases hr : rep a ∈ V
      · obtain ⟨W, hW⟩ := ih hst'
        exact ⟨W, .skip hr hW⟩
      · have n2 := nodup_snoc hn hr
        have s2 := sub_snoc hs (hU a ha).1
        have hl := n2.length_le_of_subset s2
        rw [List.length_append, List.length_singleton] at hl
        obtain ⟨W, hW⟩ := dfs_exists hU m (V ++ [rep a]) (by rw [List.length_append, List.length_singleton]; omega) n2 s2 (ch (rep a) ++ st) fun x hx => by
          rcases List.mem_append.mp hx with hx | hx
          · exact (hU a ha).2 x hx
          · exact hst' hx
        exact ⟨W, .visit hr hW⟩
theorem dfs_split : ∀ {st V W : List Nat} {s t : List Nat}, Dfs rep ch st V W → st = s ++ t → ∃ X, Dfs rep ch s V X ∧ Dfs rep ch t X W := by
  intro st V W s t h
  induction h generalizing s with
  | nil V =>
    intro e
    obtain ⟨rfl, rfl⟩ := List.append_eq_nil_iff.mp e.symm
    exact ⟨V, .nil V, .nil V⟩
  | @skip a st V W hr h ih =>
    intro e
    cases s with
    | nil =>
      rw [List.nil_append] at e
      subst e
      exact ⟨V, .nil V, .skip hr h⟩
    | cons b s =>
      rw [List.cons_append] at e
      obtain ⟨rfl, e'⟩ := List.cons.inj e
      obtain ⟨X, h1, h2⟩ := ih e'
      exact ⟨X, .skip hr h1, h2⟩
  | @visit a st V W hr h ih =>
    intro e
    cases s with
    | nil =>
      rw [List.nil_append] at e
      subst e
      exact ⟨V, .nil V, .visit hr h⟩
    | cons b s =>
      rw [List.cons_append] at e
      obtain ⟨rfl, e'⟩ := List.cons.inj e
      obtain ⟨X, h1, h2⟩ := ih (s := ch (rep a) ++ s) (by rw [e', List.append_assoc])
      exact ⟨X, .visit hr h1, h2⟩
theorem dfs_grow (hU : ∀ v, v ∈ U → rep v ∈ U ∧ ∀ f, f ∈ ch (rep v) → f ∈ U) {st V W : List Nat} (h : Dfs rep ch st V W) : V.Nodup → V ⊆ U → st ⊆ U → W.Nodup ∧ W ⊆ U ∧ V.length ≤ W.length ∧ V ⊆ W := by
  induction h with
  | nil V => exact fun a b _ => ⟨a, b, Nat.le_refl _, fun _ h => h⟩
  | @skip a st V W hr h ih => exact fun x y z => ih x y fun q hq => z (List.mem_cons_of_mem _ hq)
  | @visit a st V W hr h ih =>
    intro x y z
    have ha := hU a (z List.mem_cons_self)
    obtain ⟨h1, h2, h3, h4⟩ := ih (nodup_snoc x hr) (sub_snoc y ha.1) fun q hq => by
      rcases List.mem_append.mp hq with hq | hq
      · exact ha.2 q hq
      · exact z (List.mem_cons_of_mem _ hq)
    rw [List.length_append, List.length_singleton] at h3
    exact ⟨h1, h2, by omega, fun q hq => h4 (List.mem_append_left _ hq)⟩
theorem dfs_sub {st V W : List Nat} (h : Dfs rep ch st V W) : V ⊆ W := by
  induction h with
  | nil V => exact fun _ h => h
  | skip _ _ ih => exact ih
  | visit _ _ ih => exact fun q hq => ih (List.mem_append_left _ hq)
theorem dfs_closed {st V W : List Nat} (h : Dfs rep ch st V W) : (∀ a, a ∈ st → rep a ∈ W) ∧ ∀ v, v ∈ W → v ∈ V ∨ ∀ f, f ∈ ch v → rep f ∈ W := by
  induction h with
  | nil V => exact ⟨fun a h => absurd h List.not_mem_nil, fun v h => .inl h⟩
  | @skip a st V W hr h ih =>
    refine ⟨fun b hb => ?_, ih.2⟩
    rcases List.mem_cons.mp hb with rfl | hb
    · exact dfs_sub h hr
    · exact ih.1 b hb
  | @visit a st V W hr h ih =>
    refine ⟨fun b hb => ?_, fun v hv => ?_⟩
    · rcases List.mem_cons.mp hb with rfl | hb
      · exact dfs_sub h (List.mem_append_right _ (List.mem_singleton.mpr rfl))
      · exact ih.1 b (List.mem_append_right _ hb)
    · rcases ih.2 v hv with q | q
      · rcases List.mem_append.mp q with q | q
        · exact .inl q
        · rw [List.mem_singleton] at q
          subst q
          exact .inr fun f hf => ih.1 f (List.mem_append_left _ hf)
      · exact .inr q
end
/-! ### two walks side by side -/
def idx (x : Nat) : List Nat → Nat
  | [] => 0
  | y :: r => if y = x then 0 else idx x r + 1
theorem idx_at : ∀ {V : List Nat} {x : Nat}, x ∈ V → V[idx x V]? = some x
  | [], _, h => absurd h List.not_mem_nil
  | y :: r, x, h => by
    unfold idx
    by_cases e : y = x
    · rw [if_pos e, e]
      rfl
    · rw [if_neg e]
      rcases List.mem_cons.mp h with q | q
      · exact absurd q.symm e
      · rw [List.getElem?_cons_succ]
        exact idx_at q
theorem idx_lt {V : List Nat} {x : Nat} (h : x ∈ V) : idx x V < V.length := (List.getElem?_eq_some_iff.mp (idx_at h)).1
theorem idx_of : ∀ {V : List Nat} {x i : Nat}, V.Nodup → V[i]? = some x → idx x V = i
  | [], _, _, _, e => by simp at e
  | y :: r, x, 0, _, e => by
    simp at e
    unfold idx
    rw [if_pos e]
  | y :: r, x, i + 1, hn, e => by
    rw [List.getElem?_cons_succ] at e
    rw [List.nodup_cons] at hn
    unfold idx
    rw [if_neg (fun z => hn.1 (by rw [z]; exact List.mem_of_getElem? e)), idx_of hn.2 e]
/-- the rows of a walk -/
def outR (tg : Nat → Str) (rep : Nat → Nat) (ch : Nat → List Nat) (W : List Nat) : Sheet := W.map fun v => (tg v, (ch v).map fun f => idx (rep f) W)
section
variable {rep1 rep2 : Nat → Nat} {ch1 ch2 : Nat → List Nat} {R : Nat → Nat → Prop}
/-- what two walks side by side keep -/
structure Lk (rep1 rep2 : Nat → Nat) (ch1 ch2 : Nat → List Nat) (R : Nat → Nat → Prop) : Prop where
  rp : ∀ a b, R a b → R (rep1 a) (rep2 b)
  ch : ∀ a b, R a b → F2 R (ch1 (rep1 a)) (ch2 (rep2 b))
  iff : ∀ a b a' b', R a b → R a' b' → (rep1 a = rep1 a' ↔ rep2 b = rep2 b')
  id1 : ∀ a b, R a b → rep1 (rep1 a) = rep1 a
  id2 : ∀ a b, R a b → rep2 (rep2 b) = rep2 b
def Rp (rep1 rep2 : Nat → Nat) (R : Nat → Nat → Prop) (x y : Nat) : Prop := R x y ∧ rep1 x = x ∧ rep2 y = y
theorem lk_eq (L : Lk rep1 rep2 ch1 ch2 R) {x y a b : Nat} (h : Rp rep1 rep2 R x y) (k : R a b) : x = rep1 a ↔ y = rep2 b := by
  have z := L.iff x y a b h.1 k
  rw [h.2.1, h.2.2] at z
  exact z
theorem lk_mem (L : Lk rep1 rep2 ch1 ch2 R) {a b : Nat} (k : R a b) : ∀ {V V' : List Nat}, F2 (Rp rep1 rep2 R) V V' → (rep1 a ∈ V ↔ rep2 b ∈ V')
  | _, _, .nil => by simp
  | _, _, .cons (x := x) (y := y) h t => by
    have e := lk_eq L h k
    have ih := lk_mem L k t
    rw [List.mem_cons, List.mem_cons, ih]
    exact ⟨fun z => z.imp (fun q => (e.mp q.symm).symm) id, fun z => z.imp (fun q => (e.mpr q.symm).symm) id⟩
theorem lk_idx (L : Lk rep1 rep2 ch1 ch2 R) {a b : Nat} (k : R a b) : ∀ {V V' : List Nat}, F2 (Rp rep1 rep2 R) V V' → idx (rep1 a) V = idx (rep2 b) V'
  | _, _, .nil => rfl
  | _, _, .cons (x := x) (y := y) h t => by
    have e := lk_eq L h k
    unfold idx
    by_cases q : x = rep1 a
    · rw [if_pos q, if_pos (e.mp q)]
    · rw [if_neg q, if_neg (fun z => q (e.mpr z)), lk_idx L k t]
theorem lk_walk (L : Lk rep1 rep2 ch1 ch2 R) {st V W : List Nat} (h : Dfs rep1 ch1 st V W) : ∀ {st' V' W' : List Nat}, F2 R st st' → F2 (Rp rep1 rep2 R) V V' → Dfs rep2 ch2 st' V' W' → F2 (Rp rep1 rep2 R) W W' := by
  induction h with
  | nil V =>
    intro st' V' W' h1 h2 h3
    cases h1
    cases h3
    exact h2
  | @skip a st V W hr h ih =>
    intro st' V' W' h1 h2 h3
    cases h1 with
    | cons q t =>
      have m := (lk_mem L q h2).mp hr
      cases h3 with
      | skip _ h3 => exact ih t h2 h3
      | visit n _ => exact absurd m n
  | @visit a st V W hr h ih =>
    intro st' V' W' h1 h2 h3
    cases h1 with
    | cons q t =>
      cases h3 with
      | skip m _ => exact absurd ((lk_mem L q h2).mpr m) hr
      | visit n h3 => exact ih ((L.ch _ _ q).append t) (h2.append (.cons ⟨L.rp _ _ q, L.id1 _ _ q, L.id2 _ _ q⟩ .nil)) h3
theorem lk_out (L : Lk rep1 rep2 ch1 ch2 R) {tg1 tg2 : Nat → Str} (ht : ∀ a b, R a b → tg1 a = tg2 b) {W W' : List Nat} (h : F2 (Rp rep1 rep2 R) W W') : outR tg1 rep1 ch1 W = outR tg2 rep2 ch2 W' := by
  refine F2.map_eq (R := Rp rep1 rep2 R) (fun x y q => ?_) h
  have c := L.ch _ _ q.1
  rw [q.2.1, q.2.2] at c
  have z := c.map_eq (f := fun f => idx (rep1 f) W) (g := fun f => idx (rep2 f) W') fun f g k => lk_idx L k h
  rw [ht _ _ q.1, z]
end
/-! ### the least sheet -/
def gr (r : Sheet) : G := ⟨fun k => (rowAt r k).1, fun k => (rowAt r k).2, fun k => k < r.length⟩
def Cl (r : Sheet) : Prop := ∀ k, k < r.length → ∀ f, f ∈ (rowAt r k).2 → f < r.length
open Classical in
/-- the first row that is not told apart from k -/
noncomputable def rp (r : Sheet) (k : Nat) : Nat := ((List.range r.length).find? fun j => decide (Bis (gr r) (gr r) j k)).getD k
theorem rp_spec {r : Sheet} (cl : Cl r) {k : Nat} (hk : k < r.length) : (rp r k < r.length ∧ Bis (gr r) (gr r) (rp r k) k) ∧ ∀ j, j < rp r k → ¬ Bis (gr r) (gr r) j k := by
  have hm : k ∈ List.range r.length := List.mem_range.mpr hk
  cases e : (List.range r.length).find? fun j => @decide (Bis (gr r) (gr r) j k) (Classical.propDecidable _) with
  | none =>
    rw [List.find?_eq_none] at e
    have := e k hm
    exact absurd (@decide_eq_true _ (Classical.propDecidable _) (Bis.refl (g := gr r) cl hk)) this
  | some j =>
    have e2 : rp r k = j := by
      unfold rp
      rw [e]
      rfl
    rw [e2]
    obtain ⟨h1, as, bs, h2, h3⟩ := List.find?_eq_some_iff_append.mp e
    have h1' : Bis (gr r) (gr r) j k := @of_decide_eq_true _ (Classical.propDecidable _) h1
    have hj : j ∈ List.range r.length := by rw [h2]; simp
    refine ⟨⟨List.mem_range.mp hj, h1'⟩, fun i hi hb => ?_⟩
    have hl : as.length = j := by
      have z : (List.range r.length)[as.length]? = some j := by rw [h2]; simp
      rw [List.getElem?_eq_some_iff] at z
      obtain ⟨_, z⟩ := z
      rw [List.getElem_range] at z
      exact z
    have hi2 : i ∈ as := by
      have z : (List.range r.length)[i]? = some i := by
        rw [List.getElem?_range (Nat.lt_trans hi (List.mem_range.mp hj))]
      rw [h2, List.getElem?_append_left (by omega)] at z
      exact List.mem_of_getElem? z
    have := h3 i hi2
    rw [@decide_eq_true _ (Classical.propDecidable _) hb] at this
    cases this
theorem rp_iff {r : Sheet} (cl : Cl r) {j k : Nat} (hj : j < r.length) (hk : k < r.length) : rp r j = rp r k ↔ Bis (gr r) (gr r) j k := by
  obtain ⟨⟨a1, a2⟩, a3⟩ := rp_spec cl hj
  obtain ⟨⟨b1, b2⟩, b3⟩ := rp_spec cl hk
  constructor
  · intro e
    rw [e] at a2
    exact a2.symm.trans b2
  · intro h
    rcases Nat.lt_trichotomy (rp r j) (rp r k) with q | q | q
    · exact absurd (a2.trans h) (b3 _ q)
    · exact q
    · exact absurd (b2.trans h.symm) (a3 _ q)
theorem rp_rp {r : Sheet} (cl : Cl r) {k : Nat} (hk : k < r.length) : rp r (rp r k) = rp r k := (rp_iff cl (rp_spec cl hk).1.1 hk).mpr (rp_spec cl hk).1.2
theorem rp_in {r : Sheet} (cl : Cl r) : ∀ v, v ∈ List.range r.length → rp r v ∈ List.range r.length ∧ ∀ f, f ∈ (gr r).ch (rp r v) → f ∈ List.range r.length := fun v hv => by
  have h := (rp_spec cl (List.mem_range.mp hv)).1.1
  exact ⟨List.mem_range.mpr h, fun f hf => List.mem_range.mpr (cl _ h f hf)⟩
def LeastAt (r : Sheet) (a : Nat) (o : Sheet) : Prop := ∃ W, Dfs (rp r) (gr r).ch [a] [] W ∧ o = outR (gr r).tg (rp r) (gr r).ch W
abbrev Least (r o : Sheet) : Prop := LeastAt r 0 o
theorem least_exists {r : Sheet} {a : Nat} (cl : Cl r) (h0 : a < r.length) : ∃ o, LeastAt r a o := by
  obtain ⟨W, hW⟩ := dfs_exists (rp_in cl) ((List.range r.length).length + 1) [] (by simp) List.nodup_nil (fun _ h => absurd h List.not_mem_nil) [a] fun x hx => by
    rw [List.mem_singleton] at hx
    rw [hx]
    exact List.mem_range.mpr h0
  exact ⟨_, W, hW, rfl⟩
/-- a walk in another system that goes along -/
theorem least_along {r o : Sheet} {b : Nat} (cl : Cl r) {rep : Nat → Nat} {g : G} {R : Nat → Nat → Prop} (L : Lk rep (rp r) g.ch (gr r).ch R) (ht : ∀ a b, R a b → g.tg a = (gr r).tg b) {a : Nat} (h0 : R a b) (hl : LeastAt r b o) {W : List Nat} (hW : Dfs rep g.ch [a] [] W) : outR g.tg rep g.ch W = o := by
  obtain ⟨W', h1, rfl⟩ := hl
  exact lk_out L ht (lk_walk L hW (.cons h0 .nil) .nil h1)
theorem least_bis {r q o p : Sheet} {x y : Nat} (cl : Cl r) (cq : Cl q) (h : Bis (gr q) (gr r) x y) (hl : LeastAt r y o) (hp : LeastAt q x p) : p = o := by
  obtain ⟨W, hW, rfl⟩ := hp
  refine least_along cl (g := gr q) (R := Bis (gr q) (gr r)) ⟨fun a b k => ?_, fun a b k => ?_, fun a b a' b' k k' => ?_, fun a b k => rp_rp cq k.out.1, fun a b k => rp_rp cl k.out.2.1⟩ (fun a b k => k.out.2.2.1) h hl hW
  · exact ((rp_spec cq k.out.1).1.2.trans k).trans (rp_spec cl k.out.2.1).1.2.symm
  · exact (((rp_spec cq k.out.1).1.2.trans k).trans (rp_spec cl k.out.2.1).1.2.symm).out.2.2.2
  · rw [rp_iff cq k.out.1 k'.out.1, rp_iff cl k.out.2.1 k'.out.2.1]
    exact ⟨fun z => (k.symm.trans z).trans k', fun z => (k.trans z).trans k'.symm⟩
theorem dfs_rep {rep : Nat → Nat} {ch : Nat → List Nat} {st V W : List Nat} (h : Dfs rep ch st V W) : ∀ v, v ∈ W → v ∈ V ∨ ∃ x, v = rep x := by
  induction h with
  | nil V => exact fun v hv => .inl hv
  | skip _ _ ih => exact ih
  | @visit a st V W _ _ ih =>
    intro v hv
    rcases ih v hv with h | h
    · rcases List.mem_append.mp h with h | h
      · exact .inl h
      · exact .inr ⟨a, List.mem_singleton.mp h⟩
    · exact .inr h
theorem dfs_stack {rep : Nat → Nat} {ch : Nat → List Nat} {U : List Nat} (hU : ∀ v, v ∈ U → rep v ∈ U ∧ ∀ f, f ∈ ch (rep v) → f ∈ U) {st V W : List Nat} (h : Dfs rep ch st V W) : st ⊆ U → ∀ v, v ∈ W → v ∈ V ∨ ∃ x, x ∈ U ∧ v = rep x := by
  induction h with
  | nil V => exact fun _ v hv => .inl hv
  | @skip a st V W _ _ ih => exact fun hs => ih fun x hx => hs (List.mem_cons_of_mem _ hx)
  | @visit a st V W _ _ ih =>
    intro hs v hv
    have ha := hs List.mem_cons_self
    rcases ih (fun x hx => by
      rcases List.mem_append.mp hx with h | h
      · exact (hU a ha).2 x h
      · exact hs (List.mem_cons_of_mem _ h)) v hv with h | h
    · rcases List.mem_append.mp h with h | h
      · exact .inl h
      · exact .inr ⟨a, ha, List.mem_singleton.mp h⟩
    · exact .inr h
/-- what a least sheet is -/
theorem least_bisW {r : Sheet} {a : Nat} (cl : Cl r) (h0 : a < r.length) {W : List Nat} (hW : Dfs (rp r) (gr r).ch [a] [] W) : Cl (outR (gr r).tg (rp r) (gr r).ch W) ∧ (∀ k, k ∈ W → k < r.length) ∧ W.Nodup ∧ 0 < W.length ∧ Bis (gr (outR (gr r).tg (rp r) (gr r).ch W)) (gr r) 0 a ∧ (∀ i v, W[i]? = some v → Bis (gr (outR (gr r).tg (rp r) (gr r).ch W)) (gr r) i v ∧ rp r v = v) := by
  have hst : [a] ⊆ List.range r.length := fun x hx => by
    rw [List.mem_singleton] at hx
    rw [hx]
    exact List.mem_range.mpr h0
  obtain ⟨g1, g2, _, _⟩ := dfs_grow (rp_in cl) hW List.nodup_nil (fun _ h => absurd h List.not_mem_nil) hst
  obtain ⟨c1, c2⟩ := dfs_closed hW
  have hm : ∀ v, v ∈ W → ∀ f, f ∈ (gr r).ch v → rp r f ∈ W := fun v hv => (c2 v hv).resolve_left List.not_mem_nil
  have hz : rp r a ∈ W := c1 a (List.mem_singleton.mpr rfl)
  have lt : ∀ k, k ∈ W → k < r.length := fun k hk => List.mem_range.mp (g2 hk)
  have le : (outR (gr r).tg (rp r) (gr r).ch W).length = W.length := by unfold outR; rw [List.length_map]
  have at' : ∀ {i v : Nat}, W[i]? = some v → rowAt (outR (gr r).tg (rp r) (gr r).ch W) i = ((gr r).tg v, ((gr r).ch v).map fun f => idx (rp r f) W) := fun {i v} e => by
    unfold rowAt outR
    rw [List.getD_eq_getElem?_getD, List.getElem?_map, e]
    rfl
  have rep : ∀ v, v ∈ W → rp r v = v := fun v hv => by
    obtain ⟨x, hx, rfl⟩ := (dfs_stack (rp_in cl) hW hst v hv).resolve_left List.not_mem_nil
    exact rp_rp cl (List.mem_range.mp hx)
  have all : ∀ i k, k < r.length → W[i]? = some (rp r k) → Bis (gr (outR (gr r).tg (rp r) (gr r).ch W)) (gr r) i k := fun i k hk e => by
    refine ⟨fun i k => k < r.length ∧ W[i]? = some (rp r k), ⟨hk, e⟩, fun i k ⟨hk, e⟩ => ?_⟩
    have hi := (List.getElem?_eq_some_iff.mp e).1
    have hb := (rp_spec cl hk).1.2
    refine ⟨by show i < _; rw [le]; exact hi, hk, ?_, ?_⟩
    · show (rowAt _ i).1 = _
      rw [at' e]
      exact hb.out.2.2.1
    · show F2 _ (rowAt _ i).2 _
      rw [at' e]
      refine F2.map_left (hb.out.2.2.2.monoMem fun f g hf hg z => ?_)
      have hf2 : f < r.length := z.out.1
      have hg2 : g < r.length := z.out.2.1
      refine ⟨hg2, ?_⟩
      rw [← (rp_iff cl hf2 hg2).mpr z]
      exact idx_at (hm _ (List.mem_of_getElem? e) f hf)
  refine ⟨fun k hk f hf => ?_, lt, g1, List.length_pos_of_mem hz, ?_, fun i v e => ⟨all i v (lt v (List.mem_of_getElem? e)) (by rw [rep v (List.mem_of_getElem? e)]; exact e), rep v (List.mem_of_getElem? e)⟩⟩
  · rw [le] at hk ⊢
    have e := List.getElem?_eq_getElem hk
    rw [at' e] at hf
    obtain ⟨f', h1, rfl⟩ := List.mem_map.mp hf
    exact idx_lt (hm _ (List.getElem_mem hk) f' h1)
  · have head : W[0]? = some (rp r a) := by
      cases hW with
      | skip h _ => exact absurd h List.not_mem_nil
      | visit _ h =>
        have key : ∀ {st V X : List Nat}, Dfs (rp r) (gr r).ch st V X → ∀ {y : Nat}, V[0]? = some y → X[0]? = some y := by
          intro st V X h
          induction h with
          | nil V => exact fun e => e
          | skip _ _ ih => exact ih
          | @visit a st V X _ _ ih =>
            intro y e
            refine ih ?_
            rw [List.getElem?_append_left (List.getElem?_eq_some_iff.mp e).1]
            exact e
        exact key h rfl
    exact all 0 a h0 head
theorem least_ok {r o : Sheet} {a : Nat} (cl : Cl r) (h0 : a < r.length) (hl : LeastAt r a o) : Cl o ∧ 0 < o.length ∧ o.length ≤ r.length ∧ Bis (gr o) (gr r) 0 a ∧ ∀ w, w ∈ o → ∃ k, k < r.length ∧ w.1 = (rowAt r k).1 ∧ w.2.length = (rowAt r k).2.length := by
  obtain ⟨W, hW, rfl⟩ := hl
  obtain ⟨h1, h2, h3, h4, h5, _⟩ := least_bisW cl h0 hW
  have le : (outR (gr r).tg (rp r) (gr r).ch W).length = W.length := by unfold outR; rw [List.length_map]
  refine ⟨h1, by rw [le]; exact h4, ?_, h5, fun w hw => ?_⟩
  · rw [le]
    have z := h3.length_le_of_subset (show W ⊆ List.range r.length from fun k hk => List.mem_range.mpr (h2 k hk))
    rwa [List.length_range] at z
  · unfold outR at hw
    obtain ⟨v, hv, rfl⟩ := List.mem_map.mp hw
    exact ⟨v, h2 v hv, rfl, List.length_map _⟩
/-- a least sheet is its own least sheet -/
theorem least_self {r o : Sheet} {a : Nat} (cl : Cl r) (h0 : a < r.length) (hl : LeastAt r a o) : Least o o := by
  obtain ⟨c, p, _, b, _⟩ := least_ok cl h0 hl
  obtain ⟨q, hq⟩ := least_exists (a := 0) c p
  rw [least_bis cl c b hl hq] at hq
  exact hq
/-- no two rows of a least sheet write the same -/
theorem least_rp {r o : Sheet} {a : Nat} (cl : Cl r) (h0 : a < r.length) (hl : LeastAt r a o) {k : Nat} (hk : k < o.length) : rp o k = k := by
  have c := (least_ok cl h0 hl).1
  obtain ⟨W, hW, rfl⟩ := hl
  obtain ⟨_, h2, h3, _, _, h6⟩ := least_bisW cl h0 hW
  have le : (outR (gr r).tg (rp r) (gr r).ch W).length = W.length := by unfold outR; rw [List.length_map]
  obtain ⟨⟨hi, b⟩, _⟩ := rp_spec c hk
  generalize rp (outR (gr r).tg (rp r) (gr r).ch W) k = i at hi b
  rw [le] at hi hk
  obtain ⟨b1, e1⟩ := h6 i _ (List.getElem?_eq_getElem hi)
  obtain ⟨b2, e2⟩ := h6 k _ (List.getElem?_eq_getElem hk)
  have z := (rp_iff cl (h2 _ (List.getElem_mem hi)) (h2 _ (List.getElem_mem hk))).mpr ((b1.symm.trans b).trans b2)
  rw [e1, e2] at z
  exact (List.getElem_inj h3).mp z
/-- the rows of a least sheet from one of its rows on -/
theorem least_from {r o p : Sheet} {a k : Nat} (cl : Cl r) (h0 : a < r.length) (hl : LeastAt r a o) (hk : k < o.length) (hp : LeastAt o k p) {W : List Nat} (hW : Dfs id (gr o).ch [k] [] W) : outR (gr o).tg id (gr o).ch W = p := by
  have c := (least_ok cl h0 hl).1
  have rr : ∀ {j}, j < o.length → rp o j = j := fun {j} hj => least_rp cl h0 hl hj
  refine least_along c (g := gr o) (R := fun x y => x = y ∧ x < o.length) ⟨fun x y ⟨e, h⟩ => ?_, fun x y ⟨e, h⟩ => ?_, fun x y x' y' ⟨e, h⟩ ⟨e', h'⟩ => ?_, fun _ _ _ => rfl, fun x y ⟨e, h⟩ => ?_⟩ (fun x y ⟨e, h⟩ => by rw [e]) ⟨rfl, hk⟩ hp hW
  · subst e
    exact ⟨(rr h).symm, h⟩
  · subst e
    rw [rr h]
    exact F2.refl fun f hf => ⟨rfl, c x h f hf⟩
  · subst e
    subst e'
    rw [rr h, rr h']
    first | done | exact Iff.rfl
  · subst e
    rw [rr h, rr h]
end LS

set_option Elab.async false
set_option linter.all false
set_option maxRecDepth 100000
set_option maxHeartbeats 4000000
/-! LSP: classes of rows made finer until they stand; marks of rows that differ. -/
namespace LS
open PySem
/-- numbers c below N, all of them, one for each key -/
structure Part {α : Type} (used : List Nat) (key : Nat → α) (c : Nat → Nat) (N : Nat) : Prop where
  lt : ∀ u, u ∈ used → c u < N
  onto : ∀ j, j < N → ∃ u, u ∈ used ∧ c u = j
  eq : ∀ u v, u ∈ used → v ∈ used → (c u = c v ↔ key u = key v)
theorem part_le {α : Type} {used : List Nat} {key : Nat → α} {c : Nat → Nat} {N : Nat} (p : Part used key c N) : N ≤ used.length := by
  have z := (List.nodup_range (n := N)).length_le_of_subset (show List.range N ⊆ used.map c from fun j hj => by
    obtain ⟨u, hu, e⟩ := p.onto j (List.mem_range.mp hj)
    exact List.mem_map.mpr ⟨u, hu, e⟩)
  rwa [List.length_range, List.length_map] at z
theorem part_pos {α : Type} {used : List Nat} {key : Nat → α} {c : Nat → Nat} {N : Nat} (p : Part used key c N) {u : Nat} (hu : u ∈ used) : 0 < N := Nat.lt_of_le_of_lt (Nat.zero_le _) (p.lt u hu)
/-- finer, but no more of them: the same -/
theorem part_same {α β : Type} {used : List Nat} {key : Nat → α} {key' : Nat → β} {c c' : Nat → Nat} {N N' : Nat} (p : Part used key c N) (p' : Part used key' c' N') (hN : N' ≤ N)
    (fine : ∀ u v, u ∈ used → v ∈ used → c' u = c' v → c u = c v) {u v : Nat} (hu : u ∈ used) (hv : v ∈ used) (e : c u = c v) : c' u = c' v := by
  by_cases h : c' u = c' v
  · exact h
  · exfalso
    obtain ⟨g, hg⟩ := Classical.axiomOfChoice fun j : Nat => (show ∃ w : Nat, j < N' → w ∈ used ∧ c' w = j from by
      by_cases hj : j < N'
      · obtain ⟨w, hw⟩ := p'.onto j hj
        exact ⟨w, fun _ => hw⟩
      · exact ⟨0, fun z => absurd z hj⟩)
    have hg2 : ∀ w, w ∈ used → c (g (c' w)) = c w := fun w hw => by
      obtain ⟨h1, h2⟩ := hg (c' w) (p'.lt w hw)
      exact fine _ _ h1 hw h2
    have sub : List.range N ⊆ ((List.range N').eraseIdx (c' u)).map fun j => c (g j) := fun j hj => by
      obtain ⟨w, hw, rfl⟩ := p.onto j (List.mem_range.mp hj)
      have ex : ∃ w', w' ∈ used ∧ c w' = c w ∧ c' w' ≠ c' u := by
        by_cases z : c' w = c' u
        · exact ⟨v, hv, by rw [← e]; exact (fine _ _ hw hu z).symm, fun q => h q.symm⟩
        · exact ⟨w, hw, rfl, z⟩
      obtain ⟨w', h1, h2, h3⟩ := ex
      refine List.mem_map.mpr ⟨c' w', ?_, by rw [hg2 w' h1]; exact h2⟩
      rw [List.mem_eraseIdx_iff_getElem?]
      exact ⟨c' w', h3, by rw [List.getElem?_range (p'.lt w' h1)]⟩
    have z := (List.nodup_range (n := N)).length_le_of_subset sub
    rw [List.length_range, List.length_map, List.length_eraseIdx_of_lt (by rw [List.length_range]; exact p'.lt u hu), List.length_range] at z
    have := p'.lt u hu
    omega
/-- the classes between the rounds -/
structure Cls (r : Sheet) (used : List Nat) (c : Nat → Nat) (N : Nat) : Prop where
  part : ∃ (α : Type) (key : Nat → α), Part used key c N
  bis : ∀ u v, u ∈ used → v ∈ used → Bis (gr r) (gr r) u v → c u = c v
  tag : ∀ u v, u ∈ used → v ∈ used → c u = c v → (gr r).tg u = (gr r).tg v
/-- the rows that are walked through -/
structure Use (r : Sheet) (used : List Nat) (a : Nat := 0) : Prop where
  ne : a ∈ used
  nd : used.Nodup
  lt : ∀ u, u ∈ used → u < r.length
  cl : ∀ u, u ∈ used → ∀ f, f ∈ (rowAt r u).2 → f ∈ used
theorem cls_first {r : Sheet} {used : List Nat} {c : Nat → Nat} {N : Nat} (p : Part used (gr r).tg c N) : Cls r used c N :=
  ⟨⟨_, _, p⟩, fun u v hu hv b => (p.eq u v hu hv).mpr b.out.2.2.1, fun u v hu hv e => (p.eq u v hu hv).mp e⟩
theorem cls_next {r : Sheet} {used : List Nat} {a0 : Nat} (U : Use r used a0) {c c' : Nat → Nat} {N N' : Nat} (h : Cls r used c N) (p : Part used (fun u => (c u, ((gr r).ch u).map c)) c' N') : Cls r used c' N' := by
  refine ⟨⟨_, _, p⟩, fun u v hu hv b => (p.eq u v hu hv).mpr ?_, fun u v hu hv e => ?_⟩
  · show (c u, ((gr r).ch u).map c) = (c v, ((gr r).ch v).map c)
    have z : ((gr r).ch u).map c = ((gr r).ch v).map c := F2.map_eq (R := fun f g => c f = c g) (fun _ _ q => q) (b.out.2.2.2.monoMem fun f g hf hg q => h.bis f g (U.cl u hu f hf) (U.cl v hv g hg) q)
    rw [h.bis u v hu hv b, z]
  · exact h.tag u v hu hv (Prod.mk.inj ((p.eq u v hu hv).mp e)).1
theorem cls_fine {r : Sheet} {used : List Nat} {c c' : Nat → Nat} {N' : Nat} (p : Part used (fun u => (c u, ((gr r).ch u).map c)) c' N') : ∀ u v, u ∈ used → v ∈ used → c' u = c' v → c u = c v := fun u v hu hv e => (Prod.mk.inj ((p.eq u v hu hv).mp e)).1
/-- the last round made nothing finer: the classes are the rows that no path tells apart -/
theorem cls_last {r : Sheet} {used : List Nat} {a0 : Nat} (U : Use r used a0) {c c' : Nat → Nat} {N N' : Nat} (h : Cls r used c N) (p : Part used (fun u => (c u, ((gr r).ch u).map c)) c' N') (hN : N' ≤ N) : ∀ u v, u ∈ used → v ∈ used → (c' u = c' v ↔ Bis (gr r) (gr r) u v) := by
  obtain ⟨α, key, q⟩ := h.part
  have h' := cls_next U h p
  have same : ∀ u v, u ∈ used → v ∈ used → c u = c v → c' u = c' v := fun u v hu hv e => part_same q p hN (cls_fine p) hu hv e
  refine fun u v hu hv => ⟨fun e => ⟨fun a b => a ∈ used ∧ b ∈ used ∧ c' a = c' b, ⟨hu, hv, e⟩, fun a b ⟨ha, hb, e⟩ => ⟨U.lt a ha, U.lt b hb, h'.tag a b ha hb e, ?_⟩⟩, h'.bis u v hu hv⟩
  have z := (Prod.mk.inj ((p.eq a b ha hb).mp e)).2
  exact (F2.of_map_eq (R := fun f g => c f = c g) (fun _ _ q => q) z).monoMem fun f g hf hg q => ⟨U.cl a ha f hf, U.cl b hb g hg, same f g (U.cl a ha f hf) (U.cl b hb g hg) q⟩
/-! ### the walk by classes -/
/-- the merged rows: of each class the row of one of its members -/
structure Mg (r : Sheet) (used : List Nat) (c : Nat → Nat) (g : G) : Prop where
  row : ∀ u, u ∈ used → ∃ w, w ∈ used ∧ c w = c u ∧ g.tg (c u) = (gr r).tg w ∧ g.ch (c u) = ((gr r).ch w).map c
theorem least_classes {r o : Sheet} {a : Nat} (cl : Cl r) {used : List Nat} (U : Use r used a) {c : Nat → Nat} (hc : ∀ u v, u ∈ used → v ∈ used → (c u = c v ↔ Bis (gr r) (gr r) u v)) {g : G} (M : Mg r used c g) (hl : LeastAt r a o) {W : List Nat} (hW : Dfs id g.ch [c a] [] W) : outR g.tg id g.ch W = o := by
  refine least_along cl (g := g) (R := fun x k => ∃ u, u ∈ used ∧ c u = x ∧ Bis (gr r) (gr r) u k) ⟨fun x k ⟨u, hu, e, b⟩ => ?_, fun x k ⟨u, hu, e, b⟩ => ?_, fun x k x' k' ⟨u, hu, e, b⟩ ⟨u', hu', e', b'⟩ => ?_, fun _ _ _ => rfl, fun x k ⟨u, hu, e, b⟩ => rp_rp cl b.out.2.1⟩ (fun x k ⟨u, hu, e, b⟩ => ?_) ⟨a, U.ne, rfl, Bis.refl (g := gr r) cl (U.lt a U.ne)⟩ hl hW
  · exact ⟨u, hu, e, b.trans (rp_spec cl b.out.2.1).1.2.symm⟩
  · obtain ⟨w, hw, e1, e2, e3⟩ := M.row u hu
    have b2 : Bis (gr r) (gr r) w (rp r k) := (((hc w u hw hu).mp e1).trans b).trans (rp_spec cl b.out.2.1).1.2.symm
    show F2 _ (g.ch x) _
    rw [← e, e3]
    exact F2.map_left (b2.out.2.2.2.monoMem fun f h hf _ q => ⟨f, U.cl w hw f hf, rfl, q⟩)
  · show x = x' ↔ _
    rw [rp_iff cl b.out.2.1 b'.out.2.1, ← e, ← e', hc u u' hu hu']
    exact ⟨fun z => (b.symm.trans z).trans b', fun z => (b.trans z).trans b'.symm⟩
  · obtain ⟨w, hw, e1, e2, _⟩ := M.row u hu
    rw [← e, e2]
    exact (((hc w u hw hu).mp e1).trans b).out.2.2.1
theorem walk_classes {r : Sheet} {used : List Nat} {a : Nat} (U : Use r used a) {c : Nat → Nat} {g : G} (M : Mg r used c g) : ∃ W, Dfs id g.ch [c a] [] W := by
  refine dfs_exists (U := used.map c) (fun x hx => ?_) ((used.map c).length + 1) [] (by simp) List.nodup_nil (fun _ h => absurd h List.not_mem_nil) [c a] fun x hx => ?_
  · obtain ⟨u, hu, rfl⟩ := List.mem_map.mp hx
    refine ⟨hx, fun f hf => ?_⟩
    obtain ⟨w, hw, _, _, e3⟩ := M.row u hu
    have hf : f ∈ g.ch (c u) := hf
    rw [e3] at hf
    obtain ⟨f', h1, rfl⟩ := List.mem_map.mp hf
    exact List.mem_map.mpr ⟨f', U.cl w hw f' h1, rfl⟩
  · rw [List.mem_singleton] at hx
    exact List.mem_map.mpr ⟨a, U.ne, hx.symm⟩
/-- the rows that a walk of the sheet itself finds -/
theorem walk_use {r : Sheet} {a : Nat} (cl : Cl r) (h0 : a < r.length) {W : List Nat} (hW : Dfs id (gr r).ch [a] [] W) : Use r W a := by
  have hU : ∀ v, v ∈ List.range r.length → id v ∈ List.range r.length ∧ ∀ f, f ∈ (gr r).ch (id v) → f ∈ List.range r.length := fun v hv => ⟨hv, fun f hf => List.mem_range.mpr (cl v (List.mem_range.mp hv) f hf)⟩
  obtain ⟨g1, g2, _, _⟩ := dfs_grow hU hW List.nodup_nil (fun _ h => absurd h List.not_mem_nil) fun x hx => by
    rw [List.mem_singleton] at hx
    rw [hx]
    exact List.mem_range.mpr h0
  obtain ⟨c1, c2⟩ := dfs_closed hW
  exact ⟨c1 a (List.mem_singleton.mpr rfl), g1, fun u hu => List.mem_range.mp (g2 hu), fun u hu f hf => (c2 u hu).resolve_left List.not_mem_nil f hf⟩
theorem walk_rows {r : Sheet} {a : Nat} (cl : Cl r) (h0 : a < r.length) : ∃ W, Dfs id (gr r).ch [a] [] W :=
  dfs_exists (U := List.range r.length) (fun v hv => ⟨hv, fun f hf => List.mem_range.mpr (cl v (List.mem_range.mp hv) f hf)⟩) ((List.range r.length).length + 1) [] (by simp) List.nodup_nil (fun _ h => absurd h List.not_mem_nil) [a] fun x hx => by
    rw [List.mem_singleton] at hx
    rw [hx]
    exact List.mem_range.mpr h0
/-! ### marks -/
/-- the same tag: as many fields -/
def Ar (r : Sheet) : Prop := ∀ j k, j < r.length → k < r.length → (rowAt r j).1 = (rowAt r k).1 → (rowAt r j).2.length = (rowAt r k).2.length
/-- marked rows differ -/
def Sound (r : Sheet) (m : Nat → Nat → Bool) : Prop := ∀ j k, j < r.length → k < r.length → m j k = true → ¬ Bis (gr r) (gr r) j k
theorem sound_tag {r : Sheet} {m : Nat → Nat → Bool} (h : ∀ j k, j < r.length → k < r.length → m j k = !decide ((rowAt r j).1 = (rowAt r k).1)) : Sound r m := fun j k hj hk e b => by
  rw [h j k hj hk] at e
  have z : (rowAt r j).1 = (rowAt r k).1 := b.out.2.2.1
  rw [decide_eq_true z] at e
  cases e
/-- nothing more is to be marked -/
theorem marks_done {r : Sheet} (cl : Cl r) (ar : Ar r) {m : Nat → Nat → Bool} (hs : Sound r m) (ht : ∀ j k, j < r.length → k < r.length → m j k = false → (rowAt r j).1 = (rowAt r k).1)
    (hd : ∀ j k, j < r.length → k < r.length → m j k = false → ∀ (i x y : Nat), (rowAt r j).2[i]? = some x → (rowAt r k).2[i]? = some y → m x y = false) : ∀ j k, j < r.length → k < r.length → (m j k = false ↔ Bis (gr r) (gr r) j k) := fun j k hj hk => by
  refine ⟨fun e => ⟨fun a b => a < r.length ∧ b < r.length ∧ m a b = false, ⟨hj, hk, e⟩, fun a b ⟨ha, hb, e⟩ => ⟨ha, hb, ht a b ha hb e, ?_⟩⟩, fun b => ?_⟩
  · exact F2.of_at (ar a b ha hb (ht a b ha hb e)) fun i x y hx hy => ⟨cl a ha x (List.mem_of_getElem? hx), cl b hb y (List.mem_of_getElem? hy), hd a b ha hb e i x y hx hy⟩
  · cases e : m j k with
    | false => rfl
    | true => exact absurd b (hs j k hj hk e)
/-- one more mark -/
theorem sound_more {r : Sheet} (cl : Cl r) {m m' : Nat → Nat → Bool} (hs : Sound r m) (h : ∀ j k, j < r.length → k < r.length → m' j k = true → m j k = true ∨ ∃ (i x y : Nat), (rowAt r j).2[i]? = some x ∧ (rowAt r k).2[i]? = some y ∧ m x y = true) : Sound r m' := fun j k hj hk e b => by
  rcases h j k hj hk e with q | ⟨i, x, y, h1, h2, h3⟩
  · exact hs j k hj hk q b
  · obtain ⟨y', h4, h5⟩ := b.out.2.2.2.at h1
    have z : (rowAt r k).2[i]? = some y' := h4
    rw [h2] at z
    cases z
    exact hs x y h5.out.1 h5.out.2.1 h3 h5
end LS

namespace K01
open PySem
def topS (i : Nat) : Stmt := PySem.Challenge.pw_roundcalls_k01_names_and_signatures.main.body.getD i (.Pass ⟨0, 0, 0, 0⟩)
end K01

set_option Elab.async false
set_option linter.all false
set_option maxRecDepth 100000
set_option maxHeartbeats 4000000
namespace K01
open PySem PySem.Spec PyProof.Rows L2 GG DD PT DL
abbrev s_deck : Stmt := topS 10
abbrev s_draw : Stmt := topS 11
theorem sc_deck : FnScope ["_law_script", "_law_cells", "_law_total", "_law_cell"] ["_law_script"] (defScope s_deck) := ⟨rfl, rfl, rfl, by decide +kernel, rfl, by decide +kernel, by decide +kernel⟩
theorem sc_draw : FnScope ["_law_deck_here", "_law_limit", "_law_cell", "_law_number"] ["_law_deck_here", "_law_limit"] (defScope s_draw) := ⟨rfl, rfl, rfl, by decide +kernel, rfl, by decide +kernel, by decide +kernel⟩
section
variable {P : Program} {w : World} {K : PySem.W.Frag} {mg : Str → Option Value} {base : Heap}
theorem ok_deck {f : Addr} {fd : FuncData} (F : L2.Fun K "_law_deck" "_law_deck" s_deck f fd) (m_list : mg "list" = none) : Fg P w K mg base 1 f fd ["_law_script"] (spDeckH K) := by
  refine okg F sc_deck (fun vs H Q h => ?_) (fun cdv A outer s H vs Q hr h => ?_)
  · obtain ⟨a, ns, rfl, _⟩ := h
    rfl
  · obtain ⟨a, ns, rfl, hS, hlen, q⟩ := h
    refine ⟨_, (pss_cons (ps_par (i := 1) (j := 2) (by rfl) sc_deck.nd rfl rfl (by decide) rfl rfl (pa_cons (pe_callTy call_list_of (by rfl) m_list (by decide +kernel) (pa_cons (pe_slice sl_list (pv 0) po_none (po_some pe_int)) pa_nil)) (pa_cons pe_int pa_nil)) (by rfl)) (pss_cons (ps_for PassesOwn.never rfl (pi_list (pv 1)) (pg_name (i := 3) sc_deck.nd rfl (Or.inl rfl)) (pss_one (ps_set (i := 2) sc_deck.nd rfl (Or.inl rfl) (pe_op op_mod (pe_op op_add (pe_op op_add (pe_op op_mul (pv 2) pe_int) (pe_op op_mod (pv 3) pe_int)) pe_int) pe_int)))) (pss_one (ps_ret (pe_lst (pa_cons (pe_revL (pv 1)) (pa_cons (pv 2) (pa_cons pe_int pa_nil)))))))), ?_⟩
    refine ⟨.ref a, rfl, 63, rfl, a, _, rfl, hS, fun p1 n1 => ?_⟩
    refine ⟨p1, _, rfl, .inl (sq upd_same), fun c nc => ?_⟩
    refine ⟨_, _, rfl, ?_⟩
    have hcut : cutV (ns.map V.int) none (some 63) = ns.map V.int := by
      unfold cutV
      rw [show HT.sIx (ns.map V.int).length (ns.map V.int).length (some 63) = min 63 (ns.map V.int).length from HT.sIx_nat _ _ 63, HT.sIx_none, List.drop_zero, Nat.sub_zero]
      exact List.take_of_length_le (by rw [List.length_map]; omega)
    rw [hcut] at nc ⊢
    have s1 : Same H (upd H p1 (.lst (ns.map V.int))) := same_upd n1
    have s2 : Same (upd H p1 (.lst (ns.map V.int))) (upd (upd H p1 (.lst (ns.map V.int))) c (.lst (ns.map V.int))) := same_upd nc
    have ec : (upd (upd H p1 (.lst (ns.map V.int))) c (.lst (ns.map V.int))) c = some (.lst (ns.map V.int)) := upd_same
    generalize hG : upd (upd H p1 (.lst (ns.map V.int))) c (.lst (ns.map V.int)) = G at *
    refine ⟨.ref c, rfl, c, rfl, ⟨_, sq ec⟩, for_list (K := K) (a := c) (xs := ns.map V.int) (fun i σ H' => ∃ (m : Int) (v : Option V), σ = [some (.ref a), some (.ref c), some (.int m), v] ∧ H' = G ∧ 0 ≤ m ∧ m < 2147483629) ⟨91009, none, rfl, rfl, by decide, by decide⟩ ?_ ?_ ?_⟩
    · rintro i σ H' _ ⟨m, v, rfl, rfl, _⟩
      exact sq ec
    · rintro i x σ H' hi ⟨m, v, rfl, rfl, h0, h1⟩
      obtain ⟨z, rfl⟩ : ∃ z, x = V.int z := by
        rw [List.getElem?_map] at hi
        cases e : ns[i]? with
        | none => rw [e] at hi; cases hi
        | some u => rw [e] at hi; exact ⟨u, (Option.some.inj hi).symm⟩
      refine ⟨_, rfl, _, _, rfl, rfl, .inl ⟨by omega, by omega⟩, .int z, rfl, z, 2147483587, rfl, rfl, (by show (0 : Int) < 2147483587; decide), _, _, rfl, rfl, _, _, rfl, rfl, _, _, rfl, rfl, (by show (0 : Int) < 2147483629; decide), ?_⟩
      exact ⟨_, _, rfl, rfl, Int.emod_nonneg _ (by decide), Int.emod_lt_of_pos _ (by decide)⟩
    · rintro σ H' ⟨m, v, rfl, rfl, h0, h1⟩
      refine ⟨.ref c, rfl, c, _, rfl, sq ec, fun l nl => ?_⟩
      refine ⟨_, rfl, (by show 3 ≤ sizeLine; decide), fun p np => ?_⟩
      have nlp : l ≠ p := ne_new upd_same np
      have np' : H' p = none := by rw [upd_ne nlp.symm] at np; exact np
      refine q _ p l (s1.trans (s2.trans ((same_upd nl).trans (same_upd np)))) ⟨⟨m, ns.reverse, upd_same, ?_, h0, by omega, by rw [List.length_reverse]; omega⟩, nlp⟩ (s1.free (s2.free np')) (s1.free (s2.free nl))
      rw [upd_ne nlp, upd_same, List.map_reverse]
theorem ok_drawH {f : Addr} {fd : FuncData} (F : L2.Fun K "_law_draw" "_law_draw" s_draw f fd) : Fg P w K mg base 1 f fd ["_law_deck_here", "_law_limit"] spDrawH := by
  refine okg F sc_draw (fun vs H Q h => ?_) (fun cdv A outer s H vs Q hr h => ?_)
  · obtain ⟨p, l, n, lim, rfl, _⟩ := h
    rfl
  · obtain ⟨p, l, n, lim, rfl, ⟨⟨m, cs, hp, hl, hm0, hm1, hcs⟩, hne⟩, hn, hlim, hlim2, q⟩ := h
    refine ⟨_, (pss_cons (ps_asg (pe_op op_add (pe_ix ix_list (pv 0) pe_int (fun _ _ => rfl)) pe_int) (pg_sub (pv 0) pe_int set_list)) (pss_cons (ps_set (i := 2) sc_draw.nd rfl (Or.inl rfl) (pe_ix ix_list (pv 0) pe_int (fun _ _ => rfl))) (Evl.pss_cut (ps_if (pt_cmpR (op_neD hr.room.units) (pe_ix ix_list (pv 0) pe_int (fun _ _ => rfl)) (pe_lst pa_nil) (nomark _)) (pss_cons (ps_set (i := 2) sc_draw.nd rfl (Or.inl rfl) (pe_bm0 PySem.F.plainAttrs_list PySem.F.slot_list_pop PySem.F.type_list_pop mt_pop (pe_ix ix_list (pv 0) pe_int (fun _ _ => rfl)))) (pss_cons (ps_if (pt_cmpR op_ge (pv 2) (pe_op op_pow pe_int pe_int) (nomark _)) (pss_cons (ps_expr (pe_bm PySem.F.plainAttrs_list PySem.F.slot_list_append PySem.F.type_list_append mt_append (pe_ix ix_list (pv 0) pe_int (fun _ _ => rfl)) (pa_cons (pe_op op_fdivN (pv 2) (pv 1)) pa_nil))) (pss_one (ps_ret (pe_op op_mod (pv 2) (pv 1))))) pss_nil) (pss_one (ps_set (i := 2) sc_draw.nd rfl (Or.inl rfl) (pe_op op_add (pv 2) (pe_ix ix_list (pv 0) pe_int (fun _ _ => rfl))))))) pss_nil) (pss_cons (ps_set (i := 3) sc_draw.nd rfl (Or.inl rfl) (pe_op op_mod (pe_op op_mul (pe_op op_add (pe_op op_add (pe_op op_mod (pv 2) pe_int) (pe_op op_mul (pe_op op_mul pe_int (pe_ix ix_list (pv 0) pe_int (fun _ _ => rfl))) (pe_ix ix_list (pv 0) pe_int (fun _ _ => rfl)))) pe_int) pe_int) pe_int)) (pss_cons (ps_set (i := 3) sc_draw.nd rfl (Or.inl rfl) (pe_op op_mod (pe_op op_add (pe_op op_add (pe_op op_mul (pv 3) (pv 3)) (pe_op op_mul pe_int (pe_ix ix_list (pv 0) pe_int (fun _ _ => rfl)))) pe_int) pe_int)) (pss_one (ps_ret (pe_op op_mod (pe_op op_fdivN (pe_op op_mod (pe_op op_add (pe_op op_mul (pv 3) (pv 3)) (pe_op op_mul pe_int (pv 3))) pe_int) pe_int) (pv 1))))))))), ?_⟩
    refine ⟨.ref p, rfl, p, _, 2, .int (n : Int), rfl, rfl, sq hp, rfl, _, _, rfl, rfl, .ref p, rfl, p, _, 2, 2, rfl, rfl, hp, rfl, ?_⟩
    have hp1 : (upd H p (.lst [.ref l, .int m, .int ((n : Int) + 1)])) p = some (.lst [.ref l, .int m, .int ((n : Int) + 1)]) := upd_same
    have hl1 : (upd H p (.lst [.ref l, .int m, .int ((n : Int) + 1)])) l = some (.lst (cs.map V.int)) := by rw [upd_ne hne]; exact hl
    have b1 : But p l H (upd H p (.lst [.ref l, .int m, .int ((n : Int) + 1)])) := (But.refl p l H).left
    show tSeq _ _ _ _ (upd H p (.lst [.ref l, .int m, .int ((n : Int) + 1)]))
    generalize upd H p (.lst [.ref l, .int m, .int ((n : Int) + 1)]) = H1 at hp1 hl1 b1 ⊢
    refine ⟨.ref p, rfl, p, _, 1, .int m, rfl, rfl, sq hp1, rfl, ?_⟩
    refine ⟨fun σ2 H2 => ∃ (c : Int) (cs2 : List Int), σ2 = [some (.ref p), some (.int lim), some (.int c), none] ∧ H2 p = some (.lst [.ref l, .int m, .int ((n : Int) + 1)]) ∧ H2 l = some (.lst (cs2.map V.int)) ∧ But p l H H2 ∧ cs2.length ≤ 64, ?_, ?_⟩
    · refine ⟨.ref p, rfl, p, _, 0, .ref l, rfl, rfl, sq hp1, rfl, Nat.zero_le _, fun e ne => ?_⟩
      have sE : Same H1 (upd H1 e (.lst [])) := same_upd ne
      have bE : But p l H (upd H1 e (.lst [])) := b1.trans (.of sE)
      have eE : (upd H1 e (.lst [])) e = some (.lst []) := upd_same
      have hp2 := sE _ _ hp1
      have hl2 := sE _ _ hl1
      generalize upd H1 e (.lst []) = G at sE bE eE hp2 hl2 ⊢
      refine ⟨.list (intsD cs), .list [], .lst (sq hl2) (dp_intsD cs), .lst (sq eE) .nil, shaped_ints cs, shaped_ints [], _, rfl, ?_⟩
      rw [eqv_ints_nil]
      cases cs with
      | nil => exact ⟨m, [], rfl, hp2, hl2, bE, Nat.zero_le _⟩
      | cons c0 cs0 =>
        have hlast : ((c0 :: cs0).map V.int)[((c0 :: cs0).map V.int).length - 1]? = some (.int ((c0 :: cs0).getLast (List.cons_ne_nil _ _))) := by
          rw [List.length_map, List.getElem?_map, ← List.getLast?_eq_getElem?, List.getLast?_eq_getLast (List.cons_ne_nil _ _)]
          rfl
        generalize hz : (c0 :: cs0).getLast (List.cons_ne_nil _ _) = z at hlast
        refine ⟨.ref p, rfl, p, _, 0, .ref l, rfl, rfl, sq hp2, rfl, .inl ⟨rfl, _, sq hl2⟩, l, _, _, rfl, rfl, hl2, hlast, ?_⟩
        have hdl : ((c0 :: cs0).map V.int).dropLast = ((c0 :: cs0).dropLast).map V.int := List.map_dropLast.symm
        rw [hdl]
        generalize hcs : (c0 :: cs0).dropLast = cs1
        have hlen1 : cs1.length ≤ 63 := by
          rw [← hcs, List.length_dropLast]
          omega
        have hp3 : (upd G l (.lst (cs1.map V.int))) p = some (.lst [.ref l, .int m, .int ((n : Int) + 1)]) := by rw [upd_ne hne.symm]; exact hp2
        have hl3 : (upd G l (.lst (cs1.map V.int))) l = some (.lst (cs1.map V.int)) := upd_same
        have b3 : But p l H (upd G l (.lst (cs1.map V.int))) := bE.right
        generalize upd G l (.lst (cs1.map V.int)) = G3 at hp3 hl3 b3 ⊢
        refine ⟨_, rfl, _, _, rfl, rfl, (by show (0 : Int) ≤ 18 ∧ (18 : Int) ≤ 1000000 ∧ (10 : Int).natAbs < 2 ^ 64; decide), _, _, rfl, rfl, _, rfl, ite2 (fun _ => ?_) (fun _ => ?_)⟩
        · refine ⟨.ref p, rfl, p, _, 0, .ref l, rfl, rfl, sq hp3, rfl, .inl ⟨rfl, _, sq hl3⟩, _, rfl, _, rfl, _, _, rfl, rfl, ⟨by omega, by omega⟩, l, _, _, rfl, rfl, hl3, (by rw [List.length_map]; exact szl (by omega)), ?_⟩
          refine ⟨_, rfl, _, rfl, _, _, rfl, rfl, by omega, ?_⟩
          refine q _ _ ⟨⟨m, cs1 ++ [z.fdiv lim], ?_, ?_, hm0, hm1, ?_⟩, hne⟩ b3.right (Int.emod_nonneg _ (by omega)) (Int.emod_lt_of_pos _ (by omega))
          · rw [upd_ne hne.symm]
            exact hp3
          · rw [upd_same, List.map_append]
            rfl
          · rw [List.length_append, List.length_singleton]
            omega
        · refine ⟨_, rfl, .ref p, rfl, p, _, 1, .int m, rfl, rfl, sq hp3, rfl, _, _, rfl, rfl, ?_⟩
          exact ⟨_, cs1, rfl, hp3, hl3, b3, by omega⟩
    · rintro σ2 H2 ⟨c, cs2, rfl, hp2, hl2, b2, hc2⟩
      refine ⟨_, rfl, _, _, rfl, rfl, (by show (0 : Int) < 2147483587; decide), .ref p, rfl, p, _, 2, .int ((n : Int) + 1), rfl, rfl, sq hp2, rfl, _, _, rfl, rfl, .inl ⟨by decide, by decide⟩, .ref p, rfl, p, _, 2, .int ((n : Int) + 1), rfl, rfl, sq hp2, rfl, _, _, rfl, rfl, .inl ⟨by omega, by omega⟩, _, _, rfl, rfl, _, _, rfl, rfl, _, _, rfl, rfl, .inr ⟨by decide, by decide⟩, _, _, rfl, rfl, (by show (0 : Int) < 2147483647; decide), ?_⟩
      have hx0 := Int.emod_nonneg ((c % 2147483587 + 65617 * ((n : Int) + 1) * ((n : Int) + 1) + 31) * 48271) (show (2147483647 : Int) ≠ 0 by decide)
      have hx1 := Int.emod_lt_of_pos ((c % 2147483587 + 65617 * ((n : Int) + 1) * ((n : Int) + 1) + 31) * 48271) (show (0 : Int) < 2147483647 by decide)
      show tSeq _ _ _ [some (.ref p), some (.int lim), some (.int c), some (.int ((c % 2147483587 + 65617 * ((n : Int) + 1) * ((n : Int) + 1) + 31) * 48271 % 2147483647))] H2
      generalize (c % 2147483587 + 65617 * ((n : Int) + 1) * ((n : Int) + 1) + 31) * 48271 % 2147483647 = x at hx0 hx1 ⊢
      refine ⟨_, rfl, _, rfl, _, _, rfl, rfl, .inl ⟨by omega, by omega⟩, .ref p, rfl, p, _, 2, .int ((n : Int) + 1), rfl, rfl, sq hp2, rfl, _, _, rfl, rfl, .inl ⟨by decide, by decide⟩, _, _, rfl, rfl, _, _, rfl, rfl, _, _, rfl, rfl, (by show (0 : Int) < 2147483563; decide), ?_⟩
      have hy0 := Int.emod_nonneg (x * x + 39373 * ((n : Int) + 1) + 23) (show (2147483563 : Int) ≠ 0 by decide)
      have hy1 := Int.emod_lt_of_pos (x * x + 39373 * ((n : Int) + 1) + 23) (show (0 : Int) < 2147483563 by decide)
      refine ⟨_, rfl, _, rfl, _, _, rfl, rfl, .inl ⟨Int.lt_of_lt_of_le (by decide) hy0, Int.lt_trans hy1 (by decide)⟩, _, rfl, _, _, rfl, rfl, .inl ⟨by decide, by decide⟩, _, _, rfl, rfl, _, _, rfl, rfl, (by show (0 : Int) < 2147483629; decide), _, _, rfl, rfl, ⟨by decide, by decide⟩, _, rfl, _, _, rfl, rfl, by omega, ?_⟩
      exact q H2 _ ⟨⟨m, cs2, hp2, hl2, hm0, hm1, hc2⟩, hne⟩ b2 (Int.emod_nonneg _ (by omega)) (Int.emod_lt_of_pos _ (by omega))
theorem ok_draw {f : Addr} {fd : FuncData} (F : L2.Fun K "_law_draw" "_law_draw" s_draw f fd) : Fg P w K mg base 1 f fd ["_law_deck_here", "_law_limit"] (spOf K 2 F_draw) := weak (ok_drawH F) fun _ _ _ h => draw_of h
end
end K01


set_option Elab.async false
set_option linter.all false
set_option maxRecDepth 100000
set_option maxHeartbeats 4000000
namespace K01
open PySem PySem.Spec PyProof.Rows L2 GG DD PT DL GXR
/-! ### is_integer -/
abbrev s_is_integer : Stmt := topS 4
theorem sc_is_integer : FnScope ["thing"] ["thing"] (defScope s_is_integer) := ⟨rfl, rfl, rfl, by decide +kernel, rfl, by decide +kernel, by decide +kernel⟩
def dB_is_integer  : DS := (dRet (dAndV (dIsi "int" (dVar 0)) (dNotV (dIsi "bool" (dVar 0)))))
theorem ok_is_integer {P : Program} {w : World} {K : PySem.W.Frag} {mg : Str → Option Value} {base : Heap} {f : Addr} {fd : FuncData} {k : Nat}  (F : L2.Fun K "is_integer" "is_integer" s_is_integer f fd)
    (m_bool : mg "bool" = none) (m_int : mg "int" = none) (m_isinstance : mg "isinstance" = none)  :
    Fg P w K mg base (k + 1) f fd ["thing"] (spOf K 1 (bodyD (dB_is_integer ) 0)) :=
  okd (m := 1) rfl F sc_is_integer fun cdv A outer s H hr W B H0 G0 Z0 => ⟨_, (pss_one (ps_ret (pe_and (pe_callB call_isi (by rfl) m_isinstance (by decide +kernel) (pa_cons (pv 0) (pa_cons (pe_bltn (v := .ty "int") (by rfl) m_int (by decide +kernel) rfl) pa_nil))) (pe_one (pe_not (pe_callB call_isi (by rfl) m_isinstance (by decide +kernel) (pa_cons (pv 0) (pa_cons (pe_bltn (v := .ty "bool") (by rfl) m_bool (by decide +kernel) rfl) pa_nil)))))))),
    (rs_ret (re_and (re_isi (n := "int") (re_var (i := 0))) (re_not (re_isi (n := "bool") (re_var (i := 0))))))⟩
/-! ### is_index -/
abbrev s_is_index : Stmt := topS 5
theorem sc_is_index : FnScope ["thing", "count"] ["thing", "count"] (defScope s_is_index) := ⟨rfl, rfl, rfl, by decide +kernel, rfl, by decide +kernel, by decide +kernel⟩
def dB_is_index (F_is_integer : FD) : DS := (dRet (dAndV (dCall 1 F_is_integer (xCons (dVar 0) xNil)) (dChain (oB0 fun i j => decide (i ≤ j)) (oB0 fun i j => decide (i < j)) (dC (.int 0)) (dVar 0) (dVar 1))))
theorem ok_is_index {P : Program} {w : World} {K : PySem.W.Frag} {mg : Str → Option Value} {base : Heap} {f : Addr} {fd : FuncData} {k : Nat} {F_is_integer : FD} (F : L2.Fun K "is_index" "is_index" s_is_index f fd)
    {k0 : Nat} (D_is_integer : Df P w K mg base k0 "is_integer" ["thing"] (spOf K 1 F_is_integer)) (h_k0 : k0 ≤ k) :
    Fg P w K mg base (k + 1) f fd ["thing", "count"] (spOf K 2 (bodyD (dB_is_index F_is_integer) 0)) :=
  okd (m := 2) rfl F sc_is_index fun cdv A outer s H hr W B H0 G0 Z0 => ⟨_, (pss_one (ps_ret (pe_and (dcall D_is_integer (hr.mono (h_k0)) (by rfl) (pa_cons (pv 0) pa_nil)) (pe_one (pe_chain op_le op_lt pe_int (pv 0) (pv 1)))))),
    (rs_ret (re_and (re_call (rx_cons (re_var (i := 0)) rx_nil)) (re_chain ro_B0 ro_B0 re_int (re_var (i := 0)) (re_var (i := 1)))))⟩
/-! ### is_name -/
abbrev s_is_name : Stmt := topS 6
theorem sc_is_name : FnScope ["thing", "letter"] ["thing"] (defScope s_is_name) := ⟨rfl, rfl, rfl, by decide +kernel, rfl, by decide +kernel, by decide +kernel⟩
def dB_is_name  : DS := (dSeq (dIf (dOr (dNot (dB (dIsi "str" (dVar 0)))) (dNot (dB (dChain (oB0 fun i j => decide (i ≤ j)) (oB0 fun i j => decide (i ≤ j)) (dC (.int 1)) (dLenS (dVar 0)) (dC (.int 8)))))) (dRet (dC (.bool false))) dNext) (dRet (dAllG false (dStrIt (dVar 0)) (gdN 1) dYes (dChain (oS fun i j => !decide (j.cps.toList < i.cps.toList)) (oS fun i j => !decide (j.cps.toList < i.cps.toList)) (dC (.str "a")) (dVar 1) (dC (.str "z"))) [1])))
theorem ok_is_name {P : Program} {w : World} {K : PySem.W.Frag} {mg : Str → Option Value} {base : Heap} {f : Addr} {fd : FuncData} {k : Nat} 
    (m_all : mg "all" = none) (m_isinstance : mg "isinstance" = none) (m_len : mg "len" = none) (m_str : mg "str" = none) {tl : Tok} (g_MOST_LETTERS : mg "MOST_LETTERS" = some (.int 8 tl)) {cP Pt : Addr} (TB : GxR.TabB base mg cP Pt) (hPt : Pt ∈ tabs) (ge4 : 4 ≤ k)  (F : FunC K "is_name" "is_name" s_is_name f fd cP) :
    Fg P w K mg base (k + 1) f fd ["thing"] (spOf K 1 (bodyD (dB_is_name ) 1)) :=
  okdT (m := 1) rfl F sc_is_name fun A outer s H hr W B H0 G0 Z0 => ⟨_, (pss_cons (ps_if (PW.pt (pw_or (pt_not (pt_val (pe_callB call_isi (by rfl) m_isinstance (by decide +kernel) (pa_cons (pv 0) (pa_cons (pe_bltn (v := .ty "str") (by rfl) m_str (by decide +kernel) rfl) pa_nil))))) (pw_or1 (pt_not (pt_chain op_le op_le pe_int (pe_callB call_len_str (by rfl) m_len (by decide +kernel) (pa_cons (pv 0) pa_nil)) (pe_glob (v := .int 8) (by rfl) g_MOST_LETTERS ⟨_, rfl⟩)))))) (pss_one (ps_ret pe_bl)) pss_nil) (pss_one (ps_ret (pe_allG (k := k - 4) (vs := [1]) (g := (gName 1)) (hr.mono (by omega)) rfl (by rfl) m_all (by decide +kernel) TB rfl (gscope_by (N := ["thing", "letter"]) (sc := defScope s_is_name) (by decide +kernel)) (pi_str (pv 0)) (fun pins code C fp s0 H0 A1 hrg => (pg_name (i := 1) sc_is_name.nd rfl (Or.inl rfl))) (fun pins code C fp s0 H0 A1 hrg => pts_nil) (fun pins code C fp s0 H0 A1 hrg => (pe_chain op_le_str op_le_str pe_str (pv 1) pe_str)) (fun _ => rfl))))),
    (rs_seq (rs_if (rt_or (rt_not (rt_val (re_isi (n := "str") (re_var (i := 0))))) (rt_not (rt_test (re_chain ro_B0 ro_B0 re_int (re_lenS (re_var (i := 0))) re_int)))) (rs_ret re_bl) rs_next) (rs_ret (re_allG (vs := [1]) hPt (ri_str (re_var (i := 0))) (rgv_name (i := 1) (by decide)) (gw_name (i := 1) (by decide)) rt_yes (re_chain ro_S ro_S re_str (re_var (i := 1)) re_str))))⟩
/-! ### is_entry -/
abbrev s_is_entry : Stmt := topS 7
theorem sc_is_entry : FnScope ["thing", "tag", "count"] ["thing"] (defScope s_is_entry) := ⟨rfl, rfl, rfl, by decide +kernel, rfl, by decide +kernel, by decide +kernel⟩
def dB_is_entry (F_is_name : FD) (F_is_index : FD) : DS := (dSeq (dIf (dOr (dNot (dB (dIsi "tuple" (dVar 0)))) (dB (dOp (oEq true) (dLenL (dAsU (dVar 0))) (dC (.int 2))))) (dRet (dC (.bool false))) dNext) (dSeq (dAsg (dVar 0) (gdTup 2 (gdCons (gdN 1) (gdCons (gdN 2) gdNil)))) (dRet (dAndV (dCall 1 F_is_name (xCons (dVar 1) xNil)) (dAndV (dOp (oEq true) (dVar 1) (dC (.str "void"))) (dCall 2 F_is_index (xCons (dVar 2) (xCons (dOp (oI0 fun i j => i + j) (dC (.int 3)) (dC (.int 1))) xNil))))))))
theorem ok_is_entry {P : Program} {w : World} {K : PySem.W.Frag} {mg : Str → Option Value} {base : Heap} {f : Addr} {fd : FuncData} {k : Nat} {F_is_name : FD} {F_is_index : FD} (F : L2.Fun K "is_entry" "is_entry" s_is_entry f fd)
    {k0 : Nat} {k1 : Nat} (D_is_name : Df P w K mg base k0 "is_name" ["thing"] (spOf K 1 F_is_name)) (D_is_index : Df P w K mg base k1 "is_index" ["thing", "count"] (spOf K 2 F_is_index)) (m_isinstance : mg "isinstance" = none) (m_len : mg "len" = none) (m_tuple : mg "tuple" = none) {tf : Tok} (g_MOST_FIELDS : mg "MOST_FIELDS" = some (.int 3 tf)) {tv : Tok} (g_VOID_TAG : mg "VOID_TAG" = some (.str "void" tv)) (h_k0 : k0 ≤ k) (h_k1 : k1 ≤ k) :
    Fg P w K mg base (k + 1) f fd ["thing"] (spOf K 1 (bodyD (dB_is_entry F_is_name F_is_index) 2)) :=
  okd (m := 1) rfl F sc_is_entry fun cdv A outer s H hr W B H0 G0 Z0 => ⟨_, (pss_cons (ps_if (PW.pt (pw_or (pt_not (pt_val (pe_callB call_isi (by rfl) m_isinstance (by decide +kernel) (pa_cons (pv 0) (pa_cons (pe_bltn (v := .ty "tuple") (by rfl) m_tuple (by decide +kernel) rfl) pa_nil))))) (pw_or1 (pt_cmpR op_ne (pe_callB call_len_seq (by rfl) m_len (by decide +kernel) (pa_cons (pv 0) pa_nil)) pe_int (nomark _))))) (pss_one (ps_ret pe_bl)) pss_nil) (pss_cons (ps_asg (pv 0) (pg_tup rfl (pgs_cons (pg_name (i := 1) sc_is_entry.nd rfl (Or.inl rfl)) (pgs_cons (pg_name (i := 2) sc_is_entry.nd rfl (Or.inl rfl)) pgs_nil)))) (pss_one (ps_ret (pe_and (dcall D_is_name (hr.mono (h_k0)) (by rfl) (pa_cons (pv 1) pa_nil)) (pe_and (pe_cmpR op_ne (pv 1) (pe_glob (v := .str "void") (by rfl) g_VOID_TAG ⟨_, rfl⟩) (nomark _)) (pe_one (dcall D_is_index (hr.mono (h_k1)) (by rfl) (pa_cons (pv 2) (pa_cons (pe_op op_add (pe_glob (v := .int 3) (by rfl) g_MOST_FIELDS ⟨_, rfl⟩) pe_int) pa_nil)))))))))),
    (rs_seq (rs_if (rt_or (rt_not (rt_val (re_isi (n := "tuple") (re_var (i := 0))))) (rt_test (re_op ro_ne (re_lenU (ru_of (re_var (i := 0)))) re_int))) (rs_ret re_bl) rs_next) (rs_seq (rs_asg (re_var (i := 0)) (rg_tup (rgs_cons (rg_name (i := 1)) (rgs_cons (rg_name (i := 2)) rgs_nil)))) (rs_ret (re_and (re_call (rx_cons (re_var (i := 1)) rx_nil)) (re_and (re_op ro_ne (re_var (i := 1)) re_str) (re_call (rx_cons (re_var (i := 2)) (rx_cons (re_op ro_I0 re_int re_int) rx_nil))))))))⟩
/-! ### is_signature -/
abbrev s_is_signature : Stmt := topS 8
theorem sc_is_signature : FnScope ["thing", "entry", "one", "other"] ["thing"] (defScope s_is_signature) := ⟨rfl, rfl, rfl, by decide +kernel, rfl, by decide +kernel, by decide +kernel⟩
def dB_is_signature (F_is_entry : FD) : DS := (dSeq (dIf (dOr (dNot (dB (dIsi "tuple" (dVar 0)))) (dNot (dB (dAllG false (dAsU (dVar 0)) (gdN 1) dYes (dCall 1 F_is_entry (xCons (dVar 1) xNil)) [1])))) (dRet (dC (.bool false))) dNext) (dRet (dAllG false (dZipS (dSlU (dVar 0) dNoP (dPart (dNeg (dC (.int 1))))) (dSlU (dVar 0) (dPart (dC (.int 1))) dNoP)) (gdTup 2 (gdCons (gdN 2) (gdCons (gdN 3) gdNil))) dYes (dOp (oS fun i j => decide (i.cps.toList < j.cps.toList)) (dOp oIxU (dVar 2) (dC (.int 0))) (dOp oIxU (dVar 3) (dC (.int 0)))) [2, 3])))
theorem ok_is_signature {P : Program} {w : World} {K : PySem.W.Frag} {mg : Str → Option Value} {base : Heap} {f : Addr} {fd : FuncData} {k : Nat} {F_is_entry : FD}
    {k0 : Nat} (D_is_entry : Df P w K mg base k0 "is_entry" ["thing"] (spOf K 1 F_is_entry)) (m_all : mg "all" = none) (m_isinstance : mg "isinstance" = none) (m_tuple : mg "tuple" = none) (m_zip : mg "zip" = none) {cP Pt : Addr} (TB : GxR.TabB base mg cP Pt) (hPt : Pt ∈ tabs) (ge4 : 4 ≤ k) (h_k0 : k0 + 4 ≤ k) (F : FunC K "is_signature" "is_signature" s_is_signature f fd cP) :
    Fg P w K mg base (k + 1) f fd ["thing"] (spOf K 1 (bodyD (dB_is_signature F_is_entry) 3)) :=
  okdT (m := 1) rfl F sc_is_signature fun A outer s H hr W B H0 G0 Z0 => ⟨_, (pss_cons (ps_if (PW.pt (pw_or (pt_not (pt_val (pe_callB call_isi (by rfl) m_isinstance (by decide +kernel) (pa_cons (pv 0) (pa_cons (pe_bltn (v := .ty "tuple") (by rfl) m_tuple (by decide +kernel) rfl) pa_nil))))) (pw_or1 (pt_not (pt_val (pe_allG (k := k - 4) (vs := [1]) (g := (gName 1)) (hr.mono (by omega)) rfl (by rfl) m_all (by decide +kernel) TB rfl (gscope_by (N := ["thing", "entry", "one", "other"]) (sc := defScope s_is_signature) (by decide +kernel)) (pi_tup (pv 0)) (fun pins code C fp s0 H0 A1 hrg => (pg_name (i := 1) sc_is_signature.nd rfl (Or.inl rfl))) (fun pins code C fp s0 H0 A1 hrg => pts_nil) (fun pins code C fp s0 H0 A1 hrg => (dcall D_is_entry (hrg.mono (by omega)) (by rfl) (pa_cons (pv 1) pa_nil))) (fun _ => rfl))))))) (pss_one (ps_ret pe_bl)) pss_nil) (pss_one (ps_ret (pe_allG (k := k - 4) (vs := [2, 3]) (g := _) (hr.mono (by omega)) rfl (by rfl) m_all (by decide +kernel) TB rfl (gscope_by (N := ["thing", "entry", "one", "other"]) (sc := defScope s_is_signature) (by decide +kernel)) (ZS.pi_zipS (by rfl) m_zip (pa_cons (pe_slice sl_tupP (pv 0) po_none (po_some (pe_un un_neg pe_int))) (pa_cons (pe_slice sl_tupP (pv 0) (po_some pe_int) po_none) pa_nil)) (pk_cons pe_bl pk_nil)) (fun pins code C fp s0 H0 A1 hrg => (pg_tup rfl (pgs_cons (pg_name (i := 2) sc_is_signature.nd rfl (Or.inl rfl)) (pgs_cons (pg_name (i := 3) sc_is_signature.nd rfl (Or.inl rfl)) pgs_nil)))) (fun pins code C fp s0 H0 A1 hrg => pts_nil) (fun pins code C fp s0 H0 A1 hrg => (pe_cmpR op_lt_str (pe_ix ix_tup (pv 2) pe_int (fun _ _ => rfl)) (pe_ix ix_tup (pv 3) pe_int (fun _ _ => rfl)) (nomark _))) (fun _ => rfl))))),
    (rs_seq (rs_if (rt_or (rt_not (rt_val (re_isi (n := "tuple") (re_var (i := 0))))) (rt_not (rt_val (re_allG (vs := [1]) hPt (ri_tup (re_var (i := 0))) (rgv_name (i := 1) (by decide)) (gw_name (i := 1) (by decide)) rt_yes (re_call (rx_cons (re_var (i := 1)) rx_nil)))))) (rs_ret re_bl) rs_next) (rs_ret (re_allG (vs := [2, 3]) hPt (ri_zipS (re_slU (re_var (i := 0)) rp_no (rp_of (re_neg re_int))) (re_slU (re_var (i := 0)) (rp_of re_int) rp_no)) (rgv_tup (rgvs_cons (rgv_name (i := 2) (by decide)) (rgvs_cons (rgv_name (i := 3) (by decide)) rgvs_nil))) (gw_tup (gws_cons (gw_name (i := 2) (by decide)) (gws_cons (gw_name (i := 3) (by decide)) gws_nil))) rt_yes (re_op ro_S (re_op ro_ixU (re_var (i := 2)) re_int) (re_op ro_ixU (re_var (i := 3)) re_int)))))⟩
end K01


set_option Elab.async false
set_option linter.all false
set_option maxRecDepth 100000
set_option maxHeartbeats 4000000
namespace K01
open PySem PySem.Spec PyProof.Rows L2 GG DD PT DL GXR
/-! ### _law_pick -/
abbrev s_pick : Stmt := topS 12
theorem sc_pick : FnScope ["_law_deck_here", "_law_items"] ["_law_deck_here", "_law_items"] (defScope s_pick) := ⟨rfl, rfl, rfl, by decide +kernel, rfl, by decide +kernel, by decide +kernel⟩
def dB_pick (F_draw : FD) : DS := (dRet (dOp oIxQ (dVar 1) (dCall 2 F_draw (xDeck 0 (xCons (dLenD (dVar 1)) xNil)))))
theorem ok_pick {P : Program} {w : World} {K : PySem.W.Frag} {mg : Str → Option Value} {base : Heap} {f : Addr} {fd : FuncData} {k : Nat} {F_draw : FD} (F : L2.Fun K "_law_pick" "_law_pick" s_pick f fd)
    {k0 : Nat} (D_draw : Df P w K mg base k0 "_law_draw" ["_law_deck_here", "_law_limit"] (spOf K 2 F_draw)) (m_len : mg "len" = none) (h_k0 : k0 ≤ k) :
    Fg P w K mg base (k + 1) f fd ["_law_deck_here", "_law_items"] (spOf K 2 (bodyD (dB_pick F_draw) 0)) :=
  okd (m := 2) rfl F sc_pick fun cdv A outer s H hr W B H0 G0 Z0 => ⟨_, (pss_one (ps_ret (pe_ix ix_seq (pv 1) (dcall D_draw (hr.mono (h_k0)) (by rfl) (pa_cons (pv 0) (pa_cons (pe_callB call_len_seq (by rfl) m_len (by decide +kernel) (pa_cons (pv 1) pa_nil)) pa_nil))) (fun _ _ => rfl)))),
    (rs_ret (re_op ro_ixQ (re_var (i := 1)) (re_call (rx_deck (i := 0) (rx_cons (re_lenD (re_var (i := 1))) rx_nil)))))⟩
/-! ### _law_names -/
abbrev s_names : Stmt := topS 13
theorem sc_names : FnScope ["_law_deck_here", "_law_many", "_law_letters", "_law_way", "_law_first", "_law_words", "_law_found", "_law_k", "_law_letter"] ["_law_deck_here", "_law_many"] (defScope s_names) := ⟨rfl, rfl, rfl, by decide +kernel, rfl, by decide +kernel, by decide +kernel⟩
def dB_names (F_draw : FD) : DS := (dSeq (dPar3 2 3 4 (dCons (dC (.str "abcdefghijklmnopqrstuvwxyz")) (dCons (dCall 2 F_draw (xDeck 0 (xCons (dC (.int 4)) xNil))) (dCons (dCall 2 F_draw (xDeck 0 (xCons (dC (.int 26)) xNil))) dNil)))) (dSeq (dSet (dNewL (dSplit (dC (.str "case part tag call ask same is not both either yes no and or none one root union take")) (dC (.str " ")))) 5) (dSeq (dSet (dNewL (dCat (dVar 5) (dNewL (dSplit (dC (.str "never number plus least most make test gather else rank tags voids")) (dC (.str " ")))))) 5) (dSeq (dSetO (dLst dNil) 6) (dSeq (dFor (dRng1 (dVar 1)) (gdN 7) (dSeq (dSet (dOp oIxS (dVar 2) (dOp (oI (fun _ j => 0 < j) fun i j => i % j) (dOp (oI0 fun i j => i + j) (dVar 4) (dOp (oI CMul fun i j => i * j) (dC (.int 5)) (dVar 7))) (dC (.int 26)))) 8) (dApp 6 (dOp oIxL (dNewL (dLst (dCons (dVar 8) (dCons (dIxVar 5 (dOp (oI (fun _ j => 0 < j) fun i j => i % j) (dOp (oI0 fun i j => i + j) (dVar 4) (dOp (oI CMul fun i j => i * j) (dC (.int 3)) (dVar 7))) (dC (.int 31)))) (dCons (dIfE (dB (dOp (oB0 fun i j => decide (i < j)) (dVar 7) (dC (.int 8)))) (dSlS (dC (.str "zyxwvuts")) dNoP (dPart (dOp (oI0 fun i j => i + j) (dC (.int 1)) (dOp (oI (fun _ j => 0 < j) fun i j => i % j) (dVar 7) (dC (.int 8)))))) (dOp oCatS (dVar 8) (dSlS (dC (.str "void")) dNoP (dPart (dC (.int 3)))))) (dCons (dOp oCatS (dC (.str "abcdefg")) (dVar 8)) dNil)))))) (dVar 3))))) (dRet (dNewL (dSortS (dListVar 6)))))))))
theorem ok_names {P : Program} {w : World} {K : PySem.W.Frag} {mg : Str → Option Value} {base : Heap} {f : Addr} {fd : FuncData} {k : Nat} {F_draw : FD} (F : L2.Fun K "_law_names" "_law_names" s_names f fd)
    {k0 : Nat} (D_draw : Df P w K mg base k0 "_law_draw" ["_law_deck_here", "_law_limit"] (spOf K 2 F_draw)) (m_range : mg "range" = none) (m_sorted : mg "sorted" = none) (h_k0 : k0 ≤ k) :
    Fg P w K mg base (k + 1) f fd ["_law_deck_here", "_law_many"] (spOf K 2 (bodyD (dB_names F_draw) 7)) :=
  okd (m := 2) rfl F sc_names fun cdv A outer s H hr W B H0 G0 Z0 => ⟨_, (pss_cons (ps_par3 (i := 2) (j := 3) (l := 4) (by rfl) sc_names.nd rfl rfl rfl (by decide) (by decide) (by decide) rfl rfl rfl (pa_cons pe_str (pa_cons (dcall D_draw (hr.mono (h_k0)) (by rfl) (pa_cons (pv 0) (pa_cons pe_int pa_nil))) (pa_cons (dcall D_draw (hr.mono (h_k0)) (by rfl) (pa_cons (pv 0) (pa_cons pe_int pa_nil))) pa_nil))) (by rfl)) (pss_cons (ps_set (i := 5) sc_names.nd rfl (Or.inl rfl) (pe_split pe_str pe_str)) (pss_cons (ps_set (i := 5) sc_names.nd rfl (Or.inl rfl) (pe_op op_cat (pv 5) (pe_split pe_str pe_str))) (pss_cons (ps_set (i := 6) sc_names.nd rfl (Or.inl rfl) (pe_lst pa_nil)) (pss_cons (ps_for PassesOwn.never rfl (pi_range1 (by rfl) m_range (pa_cons (pv 1) pa_nil)) (pg_name (i := 7) sc_names.nd rfl (Or.inl rfl)) (pss_cons (ps_set (i := 8) sc_names.nd rfl (Or.inl rfl) (pe_ix ix_str (pv 2) (pe_op op_mod (pe_op op_add (pv 4) (pe_op op_mul pe_int (pv 7))) pe_int) (fun _ _ => rfl))) (pss_one (ps_expr (pe_bm PySem.F.plainAttrs_list PySem.F.slot_list_append PySem.F.type_list_append mt_append (pv 6) (pa_cons (pe_ix ix_list (pe_lst (pa_cons (pv 8) (pa_cons (pe_ix ix_list (pv 5) (pe_op op_mod (pe_op op_add (pv 4) (pe_op op_mul pe_int (pv 7))) pe_int) (fun _ _ => rfl)) (pa_cons (pe_ifExp (pt_cmpR op_lt (pv 7) pe_int (nomark _)) (pe_slice sl_str pe_str po_none (po_some (pe_op op_add pe_int (pe_op op_mod (pv 7) pe_int)))) (pe_op op_add_str (pv 8) (pe_slice sl_str pe_str po_none (po_some pe_int)))) (pa_cons (pe_op op_add_str pe_str (pv 8)) pa_nil))))) (pv 3) (fun _ _ => rfl)) pa_nil)))))) (pss_one (ps_ret (pe_callB cr_sortedS (by rfl) m_sorted (by decide +kernel) (pa_cons (pv 6) pa_nil))))))))),
    (rs_seq (rs_par3 (i := 2) (j := 3) (l := 4) (ra_cons re_str (ra_cons (re_call (rx_deck (i := 0) (rx_cons re_int rx_nil))) (ra_cons (re_call (rx_deck (i := 0) (rx_cons re_int rx_nil))) ra_nil)))) (rs_seq (rs_set (i := 5) (re_new (rf_split re_str re_str))) (rs_seq (rs_set (i := 5) (re_new (rf_cat (re_var (i := 5)) (re_new (rf_split re_str re_str))))) (rs_seq (rs_setO (i := 6) (rf_lst ra_nil)) (rs_seq (rs_for (ri_rng1 (re_var (i := 1))) (rg_name (i := 7)) (rs_seq (rs_set (i := 8) (re_op ro_ixS (re_var (i := 2)) (re_op ro_I (re_op ro_I0 (re_var (i := 4)) (re_op ro_I re_int (re_var (i := 7)))) re_int))) (rs_app (i := 6) (re_op ro_ixL (re_new (rf_lst (ra_cons (re_var (i := 8)) (ra_cons (re_ixVar (i := 5) (re_op ro_I (re_op ro_I0 (re_var (i := 4)) (re_op ro_I re_int (re_var (i := 7)))) re_int)) (ra_cons (re_if (rt_test (re_op ro_B0 (re_var (i := 7)) re_int)) (re_slS re_str rp_no (rp_of (re_op ro_I0 re_int (re_op ro_I (re_var (i := 7)) re_int)))) (re_op ro_catS (re_var (i := 8)) (re_slS re_str rp_no (rp_of re_int)))) (ra_cons (re_op ro_catS re_str (re_var (i := 8))) ra_nil)))))) (re_var (i := 3)))))) (rs_ret (re_new (rf_sortS (rl_var (i := 6))))))))))⟩
/-! ### _law_tags -/
abbrev s_tags : Stmt := topS 14
theorem sc_tags : FnScope ["_law_deck_here", "_law_names_here", "_law_name"] ["_law_deck_here"] (defScope s_tags) := ⟨rfl, rfl, rfl, by decide +kernel, rfl, by decide +kernel, by decide +kernel⟩
def dB_tags (F_names : FD) (F_draw : FD) (F_pick : FD) : DS := (dSeq (dSet (dCall 2 F_names (xDeck 0 (xCons (dOp (oI0 fun i j => i + j) (dC (.int 1)) (dCall 2 F_draw (xDeck 0 (xCons (dC (.int 6)) xNil)))) xNil))) 1) (dRet (dTupOf (dComp (dAsL (dVar 1)) (gdN 2) dYes (dTup (dCons (dVar 2) (dCons (dCall 2 F_pick (xDeck 0 (xCons (dNewL (dLst (dCons (dC (.int 0)) (dCons (dC (.int 0)) (dCons (dC (.int 1)) (dCons (dC (.int 2)) (dCons (dC (.int 2)) (dCons (dC (.int 3)) dNil)))))))) xNil))) dNil))) [2]))))
theorem ok_tags {P : Program} {w : World} {K : PySem.W.Frag} {mg : Str → Option Value} {base : Heap} {f : Addr} {fd : FuncData} {k : Nat} {F_names : FD} {F_draw : FD} {F_pick : FD} (F : L2.Fun K "_law_tags" "_law_tags" s_tags f fd)
    {k0 : Nat} {k1 : Nat} {k2 : Nat} (D_names : Df P w K mg base k0 "_law_names" ["_law_deck_here", "_law_many"] (spOf K 2 F_names)) (D_draw : Df P w K mg base k1 "_law_draw" ["_law_deck_here", "_law_limit"] (spOf K 2 F_draw)) (D_pick : Df P w K mg base k2 "_law_pick" ["_law_deck_here", "_law_items"] (spOf K 2 F_pick)) (m_tuple : mg "tuple" = none) (h_k0 : k0 ≤ k) (h_k1 : k1 ≤ k) (h_k2 : k2 ≤ k) :
    Fg P w K mg base (k + 1) f fd ["_law_deck_here"] (spOf K 1 (bodyD (dB_tags F_names F_draw F_pick) 2)) :=
  okd (m := 1) rfl F sc_tags fun cdv A outer s H hr W B H0 G0 Z0 => ⟨_, (pss_cons (ps_set (i := 1) sc_tags.nd rfl (Or.inl rfl) (dcall D_names (hr.mono (h_k0)) (by rfl) (pa_cons (pv 0) (pa_cons (pe_op op_add pe_int (dcall D_draw (hr.mono (h_k1)) (by rfl) (pa_cons (pv 0) (pa_cons pe_int pa_nil)))) pa_nil)))) (pss_one (ps_ret (pe_callTy call_tuple_ofP (by rfl) m_tuple (by decide +kernel) (pa_cons (pe_lc (own := [("_law_name", 2)]) (g := (gName 2)) rfl sc_tags.nd (pi_list (pv 1)) (blkOk_by (own := [("_law_name", 2)]) (N := ["_law_deck_here", "_law_names_here", "_law_name"]) (sc := defScope s_tags) (by decide +kernel)) (fun _ _ _ _ _ => (pg_name (i := 2) sc_tags.nd rfl (Or.inl rfl))) (fun _ _ _ _ _ => pts_nil) (fun _ _ _ _ _ => (pe_tupP (pa_cons (pv 2) (pa_cons (dcall D_pick (hr.mono (h_k2)) (by rfl) (pa_cons (pv 0) (pa_cons (pe_lst (pa_cons pe_int (pa_cons pe_int (pa_cons pe_int (pa_cons pe_int (pa_cons pe_int (pa_cons pe_int pa_nil))))))) pa_nil))) pa_nil))))) pa_nil))))),
    (rs_seq (rs_set (i := 1) (re_call (rx_deck (i := 0) (rx_cons (re_op ro_I0 re_int (re_call (rx_deck (i := 0) (rx_cons re_int rx_nil)))) rx_nil)))) (rs_ret (re_tupL (rl_new (rf_comp (vs := [2]) (ri_list (re_var (i := 1))) (rgv_name (i := 2) (by decide)) (gw_name (i := 2) (by decide)) rt_yes (re_tup (ra_cons (re_var (i := 2)) (ra_cons (re_call (rx_deck (i := 0) (rx_cons (re_new (rf_lst (ra_cons re_int (ra_cons re_int (ra_cons re_int (ra_cons re_int (ra_cons re_int (ra_cons re_int ra_nil)))))))) rx_nil))) ra_nil))))))))⟩
end K01


set_option Elab.async false
set_option linter.all false
set_option maxRecDepth 100000
set_option maxHeartbeats 4000000
namespace K01
open PySem PySem.Spec PyProof.Rows L2 GG DD PT DL GXR
/-! ### _law_is_name -/
abbrev s_l_is_name : Stmt := topS 15
theorem sc_l_is_name : FnScope ["_law_it", "_law_sign"] ["_law_it"] (defScope s_l_is_name) := ⟨rfl, rfl, rfl, by decide +kernel, rfl, by decide +kernel, by decide +kernel⟩
def dB_l_is_name  : DS := (dSeq (dIf (dOr (dNot (dB (dIsi "str" (dVar 0)))) (dNot (dB (dChain (oB0 fun i j => decide (i < j)) (oB0 fun i j => decide (i < j)) (dC (.int 0)) (dLenS (dVar 0)) (dC (.int 9)))))) (dRet (dC (.bool false))) dNext) (dRet (dOp oEqMtL (dNewL (dComp (dStrIt (dVar 0)) (gdN 1) (dB (dOp (oB0 fun i j => decide (i < j)) (dFind (dC (.str "abcdefghijklmnopqrstuvwxyz")) (dVar 1)) (dC (.int 0)))) (dVar 1) [1])) (dNewL (dLst dNil)))))
theorem ok_l_is_name {P : Program} {w : World} {K : PySem.W.Frag} {mg : Str → Option Value} {base : Heap} {f : Addr} {fd : FuncData} {k : Nat}  (F : L2.Fun K "_law_is_name" "_law_is_name" s_l_is_name f fd)
    (m_isinstance : mg "isinstance" = none) (m_len : mg "len" = none) (m_str : mg "str" = none)  :
    Fg P w K mg base (k + 1) f fd ["_law_it"] (spOf K 1 (bodyD (dB_l_is_name ) 1)) :=
  okd (m := 1) rfl F sc_l_is_name fun cdv A outer s H hr W B H0 G0 Z0 => ⟨_, (pss_cons (ps_if (PW.pt (pw_or (pt_not (pt_val (pe_callB call_isi (by rfl) m_isinstance (by decide +kernel) (pa_cons (pv 0) (pa_cons (pe_bltn (v := .ty "str") (by rfl) m_str (by decide +kernel) rfl) pa_nil))))) (pw_or1 (pt_not (pt_chain op_lt op_lt pe_int (pe_callB call_len_str (by rfl) m_len (by decide +kernel) (pa_cons (pv 0) pa_nil)) pe_int))))) (pss_one (ps_ret pe_bl)) pss_nil) (pss_one (ps_ret (pe_cmpR (EMT.op_eqMtL hr.room.units) (pe_lc (own := [("_law_sign", 1)]) (g := (gName 1)) rfl sc_l_is_name.nd (pi_str (pv 0)) (blkOk_by (own := [("_law_sign", 1)]) (N := ["_law_it", "_law_sign"]) (sc := defScope s_l_is_name) (by decide +kernel)) (fun _ _ _ _ _ => (pg_name (i := 1) sc_l_is_name.nd rfl (Or.inl rfl))) (fun _ _ _ _ _ => (pts_one (pt_cmpR op_lt (pe_m1 PySem.F.slot_str_find PySem.F.type_str_find mt_find pe_str (pv 1)) pe_int (nomark _)))) (fun _ _ _ _ _ => (pv 1))) (pe_lst pa_nil) (nomark _))))),
    (rs_seq (rs_if (rt_or (rt_not (rt_val (re_isi (n := "str") (re_var (i := 0))))) (rt_not (rt_test (re_chain ro_B0 ro_B0 re_int (re_lenS (re_var (i := 0))) re_int)))) (rs_ret re_bl) rs_next) (rs_ret (re_op ro_eqMtL (re_new (rf_comp (vs := [1]) (ri_str (re_var (i := 0))) (rgv_name (i := 1) (by decide)) (gw_name (i := 1) (by decide)) (rt_test (re_op ro_B0 (re_find re_str (re_var (i := 1))) re_int)) (re_var (i := 1)))) (re_new (rf_lst ra_nil)))))⟩
/-! ### _law_is_entry -/
abbrev s_l_is_entry : Stmt := topS 16
theorem sc_l_is_entry : FnScope ["_law_it"] ["_law_it"] (defScope s_l_is_entry) := ⟨rfl, rfl, rfl, by decide +kernel, rfl, by decide +kernel, by decide +kernel⟩
def dB_l_is_entry (F_l_is_name : FD) : DS := (dSeq (dIf (dOr (dNot (dB (dIsi "tuple" (dVar 0)))) (dOr (dB (dOp (oEq true) (dLenL (dAsU (dVar 0))) (dC (.int 2)))) (dOr (dNot (dB (dCall 1 F_l_is_name (xCons (dOp oIxU (dVar 0) (dC (.int 0))) xNil)))) (dB (dOp (oEq false) (dOp oIxU (dVar 0) (dC (.int 0))) (dC (.str "void"))))))) (dRet (dC (.bool false))) dNext) (dRet (dAndV (dIsi "int" (dOp oIxU (dVar 0) (dC (.int 1)))) (dAndV (dNotV (dIsi "bool" (dOp oIxU (dVar 0) (dC (.int 1))))) (dChain (oB0 fun i j => decide (i ≤ j)) (oB0 fun i j => decide (i ≤ j)) (dC (.int 0)) (dOp oIxU (dVar 0) (dC (.int 1))) (dC (.int 3)))))))
theorem ok_l_is_entry {P : Program} {w : World} {K : PySem.W.Frag} {mg : Str → Option Value} {base : Heap} {f : Addr} {fd : FuncData} {k : Nat} {F_l_is_name : FD} (F : L2.Fun K "_law_is_entry" "_law_is_entry" s_l_is_entry f fd)
    {k0 : Nat} (D_l_is_name : Df P w K mg base k0 "_law_is_name" ["_law_it"] (spOf K 1 F_l_is_name)) (m_bool : mg "bool" = none) (m_int : mg "int" = none) (m_isinstance : mg "isinstance" = none) (m_len : mg "len" = none) (m_tuple : mg "tuple" = none) (h_k0 : k0 ≤ k) :
    Fg P w K mg base (k + 1) f fd ["_law_it"] (spOf K 1 (bodyD (dB_l_is_entry F_l_is_name) 0)) :=
  okd (m := 1) rfl F sc_l_is_entry fun cdv A outer s H hr W B H0 G0 Z0 => ⟨_, (pss_cons (ps_if (PW.pt (pw_or (pt_not (pt_val (pe_callB call_isi (by rfl) m_isinstance (by decide +kernel) (pa_cons (pv 0) (pa_cons (pe_bltn (v := .ty "tuple") (by rfl) m_tuple (by decide +kernel) rfl) pa_nil))))) (pw_or (pt_cmpR op_ne (pe_callB call_len_seq (by rfl) m_len (by decide +kernel) (pa_cons (pv 0) pa_nil)) pe_int (nomark _)) (pw_or (pt_not (pt_val (dcall D_l_is_name (hr.mono (h_k0)) (by rfl) (pa_cons (pe_ix ix_tup (pv 0) pe_int (fun _ _ => rfl)) pa_nil)))) (pw_or1 (pt_cmpR op_eq (pe_ix ix_tup (pv 0) pe_int (fun _ _ => rfl)) pe_str (nomark _))))))) (pss_one (ps_ret pe_bl)) pss_nil) (pss_one (ps_ret (pe_and (pe_callB call_isi (by rfl) m_isinstance (by decide +kernel) (pa_cons (pe_ix ix_tup (pv 0) pe_int (fun _ _ => rfl)) (pa_cons (pe_bltn (v := .ty "int") (by rfl) m_int (by decide +kernel) rfl) pa_nil))) (pe_and (pe_not (pe_callB call_isi (by rfl) m_isinstance (by decide +kernel) (pa_cons (pe_ix ix_tup (pv 0) pe_int (fun _ _ => rfl)) (pa_cons (pe_bltn (v := .ty "bool") (by rfl) m_bool (by decide +kernel) rfl) pa_nil)))) (pe_one (pe_chain op_le op_le pe_int (pe_ix ix_tup (pv 0) pe_int (fun _ _ => rfl)) pe_int))))))),
    (rs_seq (rs_if (rt_or (rt_not (rt_val (re_isi (n := "tuple") (re_var (i := 0))))) (rt_or (rt_test (re_op ro_ne (re_lenU (ru_of (re_var (i := 0)))) re_int)) (rt_or (rt_not (rt_val (re_call (rx_cons (re_op ro_ixU (re_var (i := 0)) re_int) rx_nil)))) (rt_test (re_op ro_eq (re_op ro_ixU (re_var (i := 0)) re_int) re_str))))) (rs_ret re_bl) rs_next) (rs_ret (re_and (re_isi (n := "int") (re_op ro_ixU (re_var (i := 0)) re_int)) (re_and (re_not (re_isi (n := "bool") (re_op ro_ixU (re_var (i := 0)) re_int))) (re_chain ro_B0 ro_B0 re_int (re_op ro_ixU (re_var (i := 0)) re_int) re_int)))))⟩
/-! ### _law_is_signature -/
abbrev s_l_is_signature : Stmt := topS 17
theorem sc_l_is_signature : FnScope ["_law_it", "_law_names_here", "_law_one", "_law_k"] ["_law_it"] (defScope s_l_is_signature) := ⟨rfl, rfl, rfl, by decide +kernel, rfl, by decide +kernel, by decide +kernel⟩
def dB_l_is_signature (F_l_is_entry : FD) : DS := (dSeq (dIf (dOr (dNot (dB (dIsi "tuple" (dVar 0)))) (dB (dOp oNeMtL (dNewL (dComp (dAsU (dVar 0)) (gdN 2) (dNot (dB (dCall 1 F_l_is_entry (xCons (dVar 2) xNil)))) (dVar 2) [2])) (dNewL (dLst dNil))))) (dRet (dC (.bool false))) dNext) (dSeq (dSet (dNewL (dComp (dAsU (dVar 0)) (gdN 2) dYes (dOp oIxU (dVar 2) (dC (.int 0))) [2])) 1) (dRet (dOp oEqMtL (dNewL (dComp (dRng2 (dC (.int 1)) (dLenL (dListVar 1))) (gdN 3) (dNot (dB (dOp (oS fun i j => decide (i.cps.toList < j.cps.toList)) (dIxVar 1 (dOp (oI0 fun i j => i - j) (dVar 3) (dC (.int 1)))) (dIxVar 1 (dVar 3))))) (dC (.int 1)) [3])) (dNewL (dLst dNil))))))
theorem ok_l_is_signature {P : Program} {w : World} {K : PySem.W.Frag} {mg : Str → Option Value} {base : Heap} {f : Addr} {fd : FuncData} {k : Nat} {F_l_is_entry : FD} (F : L2.Fun K "_law_is_signature" "_law_is_signature" s_l_is_signature f fd)
    {k0 : Nat} (D_l_is_entry : Df P w K mg base k0 "_law_is_entry" ["_law_it"] (spOf K 1 F_l_is_entry)) (m_isinstance : mg "isinstance" = none) (m_len : mg "len" = none) (m_range : mg "range" = none) (m_tuple : mg "tuple" = none) (h_k0 : k0 ≤ k) :
    Fg P w K mg base (k + 1) f fd ["_law_it"] (spOf K 1 (bodyD (dB_l_is_signature F_l_is_entry) 3)) :=
  okd (m := 1) rfl F sc_l_is_signature fun cdv A outer s H hr W B H0 G0 Z0 => ⟨_, (pss_cons (ps_if (PW.pt (pw_or (pt_not (pt_val (pe_callB call_isi (by rfl) m_isinstance (by decide +kernel) (pa_cons (pv 0) (pa_cons (pe_bltn (v := .ty "tuple") (by rfl) m_tuple (by decide +kernel) rfl) pa_nil))))) (pw_or1 (pt_cmpR (EMT.op_neMtL hr.room.units) (pe_lc (own := [("_law_one", 2)]) (g := (gName 2)) rfl sc_l_is_signature.nd (pi_tup (pv 0)) (blkOk_by (own := [("_law_one", 2)]) (N := ["_law_it", "_law_names_here", "_law_one", "_law_k"]) (sc := defScope s_l_is_signature) (by decide +kernel)) (fun _ _ _ _ _ => (pg_name (i := 2) sc_l_is_signature.nd rfl (Or.inl rfl))) (fun _ _ _ _ _ => (pts_one (pt_not (pt_val (dcall D_l_is_entry (hr.mono (h_k0)) (by rfl) (pa_cons (pv 2) pa_nil)))))) (fun _ _ _ _ _ => (pv 2))) (pe_lst pa_nil) (nomark _))))) (pss_one (ps_ret pe_bl)) pss_nil) (pss_cons (ps_set (i := 1) sc_l_is_signature.nd rfl (Or.inr rfl) (pe_lc (own := [("_law_one", 2)]) (g := (gName 2)) rfl sc_l_is_signature.nd (pi_tup (pv 0)) (blkOk_by (own := [("_law_one", 2)]) (N := ["_law_it", "_law_names_here", "_law_one", "_law_k"]) (sc := defScope s_l_is_signature) (by decide +kernel)) (fun _ _ _ _ _ => (pg_name (i := 2) sc_l_is_signature.nd rfl (Or.inl rfl))) (fun _ _ _ _ _ => pts_nil) (fun _ _ _ _ _ => (pe_ix ix_tup (pv 2) pe_int (fun _ _ => rfl))))) (pss_one (ps_ret (pe_cmpR (EMT.op_eqMtL hr.room.units) (pe_lc (own := [("_law_k", 3)]) (g := (gName 3)) rfl sc_l_is_signature.nd (pi_range2 (by rfl) m_range (pa_cons pe_int (pa_cons (pe_callB call_len_seq (by rfl) m_len (by decide +kernel) (pa_cons (pv 1) pa_nil)) pa_nil))) (blkOk_by (own := [("_law_k", 3)]) (N := ["_law_it", "_law_names_here", "_law_one", "_law_k"]) (sc := defScope s_l_is_signature) (by decide +kernel)) (fun _ _ _ _ _ => (pg_name (i := 3) sc_l_is_signature.nd rfl (Or.inl rfl))) (fun _ _ _ _ _ => (pts_one (pt_not (pt_cmpR op_lt_str (pe_ix ix_list (pv 1) (pe_op op_sub (pv 3) pe_int) (fun _ _ => rfl)) (pe_ix ix_list (pv 1) (pv 3) (fun _ _ => rfl)) (nomark _))))) (fun _ _ _ _ _ => pe_int)) (pe_lst pa_nil) (nomark _)))))),
    (rs_seq (rs_if (rt_or (rt_not (rt_val (re_isi (n := "tuple") (re_var (i := 0))))) (rt_test (re_op ro_neMtL (re_new (rf_comp (vs := [2]) (ri_tup (re_var (i := 0))) (rgv_name (i := 2) (by decide)) (gw_name (i := 2) (by decide)) (rt_not (rt_val (re_call (rx_cons (re_var (i := 2)) rx_nil)))) (re_var (i := 2)))) (re_new (rf_lst ra_nil))))) (rs_ret re_bl) rs_next) (rs_seq (rs_set (i := 1) (re_new (rf_comp (vs := [2]) (ri_tup (re_var (i := 0))) (rgv_name (i := 2) (by decide)) (gw_name (i := 2) (by decide)) rt_yes (re_op ro_ixU (re_var (i := 2)) re_int)))) (rs_ret (re_op ro_eqMtL (re_new (rf_comp (vs := [3]) (ri_rng2 re_int (re_lenL (rl_var (i := 1)))) (rgv_name (i := 3) (by decide)) (gw_name (i := 3) (by decide)) (rt_not (rt_test (re_op ro_S (re_ixVar (i := 1) (re_op ro_I0 (re_var (i := 3)) re_int)) (re_ixVar (i := 1) (re_var (i := 3)))))) re_int)) (re_new (rf_lst ra_nil))))))⟩
/-! ### _law_bent -/
abbrev s_bent : Stmt := topS 18
theorem sc_bent : FnScope ["_law_deck_here", "_law_it", "_law_way", "_law_at", "_law_name", "_law_many", "_law_odd", "_law_some"] ["_law_deck_here", "_law_it"] (defScope s_bent) := ⟨rfl, rfl, rfl, by decide +kernel, rfl, by decide +kernel, by decide +kernel⟩
def dB_bent (F_draw : FD) (F_pick : FD) : DS := (dSeq (dPar 2 3 (dCons (dCall 2 F_draw (xDeck 0 (xCons (dC (.int 14)) xNil))) (dCons (dCall 2 F_draw (xDeck 0 (xCons (dOp (oI0 fun i j => i + j) (dLenL (dAsU (dVar 1))) (dC (.int 1))) xNil))) dNil))) (dSeq (dAsg (dIfE (dB (dOp (oB0 fun i j => decide (i < j)) (dVar 3) (dLenL (dAsU (dVar 1))))) (dOp oIxU (dVar 1) (dVar 3)) (dTup (dCons (dC (.str "void")) (dCons (dC (.int 0)) dNil)))) (gdTup 2 (gdCons (gdN 4) (gdCons (gdN 5) gdNil)))) (dSeq (dSet (dNewL (dLst (dCons (dVar 4) (dCons (dTup (dCons (dVar 4) dNil)) (dCons (dTup (dCons (dVar 4) (dCons (dVar 5) (dCons (dVar 5) dNil)))) (dCons (dNewL (dLst (dCons (dVar 4) (dCons (dVar 5) dNil)))) (dCons (dTup (dCons (dVar 5) (dCons (dVar 4) dNil))) (dCons (dTup (dCons (dVar 4) (dCons (dStrI (dVar 5)) dNil))) (dCons (dTup (dCons (dVar 4) (dCons (dC .none) dNil))) (dCons (dTup (dCons (dVar 4) (dCons (dC (.int 4)) dNil))) dNil)))))))))) 6) (dSeq (dSet (dNewL (dCat (dVar 6) (dNewL (dLst (dCons (dTup (dCons (dVar 4) (dCons (dOp (oI0 fun i j => i - j) (dC (.int 0)) (dC (.int 1))) dNil))) (dCons (dTup (dCons (dVar 4) (dCons (dOp (oEq false) (dVar 5) (dC (.int 1))) dNil))) (dCons (dTup (dCons (dUpper (dVar 4)) (dCons (dVar 5) dNil))) (dCons (dTup (dCons (dC (.str "void")) (dCons (dC (.int 0)) dNil))) (dCons (dTup (dCons (dOp oCatS (dVar 4) (dC (.str "abcdefgh"))) (dCons (dVar 5) dNil))) dNil))))))))) 6) (dSeq (dSet (dNewL (dCat (dVar 6) (dNewL (dLst (dCons (dTup (dCons (dC (.str "")) (dCons (dC (.int 0)) dNil))) (dCons (dTup (dCons (dVar 4) (dCons (dOp (oI CPow fun i j => i ^ j.toNat) (dC (.int 10)) (dC (.int 39))) dNil))) (dCons (dTup (dCons (dC .none) (dCons (dVar 5) dNil))) (dCons (dTup (dCons (dTup (dCons (dVar 4) (dCons (dVar 5) dNil))) (dCons (dVar 5) dNil))) dNil)))))))) 6) (dSeq (dSet (dNewL (dRep (dNewL (dLst (dCons (dOp oCatU (dOp oCatU (dSlU (dVar 1) dNoP (dPart (dVar 3))) (dTup (dCons (dCall 2 F_pick (xDeck 0 (xCons (dVar 6) xNil))) dNil))) (dSlU (dVar 1) (dPart (dOp (oI0 fun i j => i + j) (dVar 3) (dC (.int 1)))) dNoP)) dNil))) (dC (.int 6)))) 7) (dSeq (dSet (dNewL (dCat (dVar 7) (dNewL (dLst (dCons (dOp oCatU (dSlU (dVar 1) dNoP (dPart (dVar 3))) (dSlU (dVar 1) (dPart (dOp (oI0 fun i j => i + j) (dVar 3) (dC (.int 1)))) dNoP)) (dCons (dOp oCatU (dSlU (dVar 1) dNoP (dPart (dOp (oI0 fun i j => i + j) (dVar 3) (dC (.int 1))))) (dSlU (dVar 1) (dPart (dVar 3)) dNoP)) (dCons (dRevU (dVar 1)) (dCons (dNewL (dAsU (dVar 1))) (dCons (dOp oCatU (dVar 1) (dVar 1)) (dCons (dNewD (dDictL (dAsU (dVar 1)))) dNil)))))))))) 7) (dRet (dOp oIxL (dNewL (dCat (dVar 7) (dNewL (dLst (dCons (dOp oCatU (dOp oCatU (dSlU (dVar 1) dNoP (dPart (dVar 3))) (dRevU (dSlU (dVar 1) (dPart (dVar 3)) (dPart (dOp (oI0 fun i j => i + j) (dVar 3) (dC (.int 2))))))) (dSlU (dVar 1) (dPart (dOp (oI0 fun i j => i + j) (dVar 3) (dC (.int 2)))) dNoP)) (dCons (dOp oCatU (dOp oCatU (dSlU (dVar 1) dNoP (dPart (dVar 3))) (dTup (dCons (dTup (dCons (dC (.str "void")) (dCons (dC (.int 0)) dNil))) dNil))) (dSlU (dVar 1) (dPart (dVar 3)) dNoP)) dNil)))))) (dVar 2))))))))))
theorem ok_bent {P : Program} {w : World} {K : PySem.W.Frag} {mg : Str → Option Value} {base : Heap} {f : Addr} {fd : FuncData} {k : Nat} {F_draw : FD} {F_pick : FD} (F : L2.Fun K "_law_bent" "_law_bent" s_bent f fd)
    {k0 : Nat} {k1 : Nat} (D_draw : Df P w K mg base k0 "_law_draw" ["_law_deck_here", "_law_limit"] (spOf K 2 F_draw)) (D_pick : Df P w K mg base k1 "_law_pick" ["_law_deck_here", "_law_items"] (spOf K 2 F_pick)) (m_dict : mg "dict" = none) (m_len : mg "len" = none) (m_list : mg "list" = none) (m_str : mg "str" = none) (h_k0 : k0 ≤ k) (h_k1 : k1 ≤ k) :
    Fg P w K mg base (k + 1) f fd ["_law_deck_here", "_law_it"] (spOf K 2 (bodyD (dB_bent F_draw F_pick) 6)) :=
  okd (m := 2) rfl F sc_bent fun cdv A outer s H hr W B H0 G0 Z0 => ⟨_, (pss_cons (ps_par (i := 2) (j := 3) (by rfl) sc_bent.nd rfl rfl (by decide) rfl rfl (pa_cons (dcall D_draw (hr.mono (h_k0)) (by rfl) (pa_cons (pv 0) (pa_cons pe_int pa_nil))) (pa_cons (dcall D_draw (hr.mono (h_k0)) (by rfl) (pa_cons (pv 0) (pa_cons (pe_op op_add (pe_callB call_len_seq (by rfl) m_len (by decide +kernel) (pa_cons (pv 1) pa_nil)) pe_int) pa_nil))) pa_nil)) (by rfl)) (pss_cons (ps_asg (pe_ifExp (pt_cmpR op_lt (pv 3) (pe_callB call_len_seq (by rfl) m_len (by decide +kernel) (pa_cons (pv 1) pa_nil)) (nomark _)) (pe_ix ix_tup (pv 1) (pv 3) (fun _ _ => rfl)) (pe_tupP (pa_cons pe_str (pa_cons pe_int pa_nil)))) (pg_tup rfl (pgs_cons (pg_name (i := 4) sc_bent.nd rfl (Or.inl rfl)) (pgs_cons (pg_name (i := 5) sc_bent.nd rfl (Or.inl rfl)) pgs_nil)))) (pss_cons (ps_set (i := 6) sc_bent.nd rfl (Or.inl rfl) (pe_lst (pa_cons (pv 4) (pa_cons (pe_tupP (pa_cons (pv 4) pa_nil)) (pa_cons (pe_tupP (pa_cons (pv 4) (pa_cons (pv 5) (pa_cons (pv 5) pa_nil)))) (pa_cons (pe_lst (pa_cons (pv 4) (pa_cons (pv 5) pa_nil))) (pa_cons (pe_tupP (pa_cons (pv 5) (pa_cons (pv 4) pa_nil))) (pa_cons (pe_tupP (pa_cons (pv 4) (pa_cons (pe_callTy call_str_int (by rfl) m_str (by decide +kernel) (pa_cons (pv 5) pa_nil)) pa_nil))) (pa_cons (pe_tupP (pa_cons (pv 4) (pa_cons pe_non pa_nil))) (pa_cons (pe_tupP (pa_cons (pv 4) (pa_cons pe_int pa_nil))) pa_nil)))))))))) (pss_cons (ps_set (i := 6) sc_bent.nd rfl (Or.inl rfl) (pe_op op_cat (pv 6) (pe_lst (pa_cons (pe_tupP (pa_cons (pv 4) (pa_cons (pe_op op_sub pe_int pe_int) pa_nil))) (pa_cons (pe_tupP (pa_cons (pv 4) (pa_cons (pe_cmpR op_eq (pv 5) pe_int (nomark _)) pa_nil))) (pa_cons (pe_tupP (pa_cons (pe_upper (pv 4)) (pa_cons (pv 5) pa_nil))) (pa_cons (pe_tupP (pa_cons pe_str (pa_cons pe_int pa_nil))) (pa_cons (pe_tupP (pa_cons (pe_op op_add_str (pv 4) pe_str) (pa_cons (pv 5) pa_nil))) pa_nil)))))))) (pss_cons (ps_set (i := 6) sc_bent.nd rfl (Or.inl rfl) (pe_op op_cat (pv 6) (pe_lst (pa_cons (pe_tupP (pa_cons pe_str (pa_cons pe_int pa_nil))) (pa_cons (pe_tupP (pa_cons (pv 4) (pa_cons (pe_op op_pow pe_int pe_int) pa_nil))) (pa_cons (pe_tupP (pa_cons pe_non (pa_cons (pv 5) pa_nil))) (pa_cons (pe_tupP (pa_cons (pe_tupP (pa_cons (pv 4) (pa_cons (pv 5) pa_nil))) (pa_cons (pv 5) pa_nil))) pa_nil))))))) (pss_cons (ps_set (i := 7) sc_bent.nd rfl (Or.inl rfl) (pe_op op_rep (pe_lst (pa_cons (pe_op op_catP (pe_op op_catP (pe_slice sl_tupP (pv 1) po_none (po_some (pv 3))) (pe_tupP (pa_cons (dcall D_pick (hr.mono (h_k1)) (by rfl) (pa_cons (pv 0) (pa_cons (pv 6) pa_nil))) pa_nil))) (pe_slice sl_tupP (pv 1) (po_some (pe_op op_add (pv 3) pe_int)) po_none)) pa_nil)) pe_int)) (pss_cons (ps_set (i := 7) sc_bent.nd rfl (Or.inl rfl) (pe_op op_cat (pv 7) (pe_lst (pa_cons (pe_op op_catP (pe_slice sl_tupP (pv 1) po_none (po_some (pv 3))) (pe_slice sl_tupP (pv 1) (po_some (pe_op op_add (pv 3) pe_int)) po_none)) (pa_cons (pe_op op_catP (pe_slice sl_tupP (pv 1) po_none (po_some (pe_op op_add (pv 3) pe_int))) (pe_slice sl_tupP (pv 1) (po_some (pv 3)) po_none)) (pa_cons (RVT.pe_revT (pv 1)) (pa_cons (pe_callTy call_list_of (by rfl) m_list (by decide +kernel) (pa_cons (pv 1) pa_nil)) (pa_cons (pe_op op_catP (pv 1) (pv 1)) (pa_cons (pe_callTy (call_dictP rfl) (by rfl) m_dict (by decide +kernel) (pa_cons (pe_callTy call_list_of (by rfl) m_list (by decide +kernel) (pa_cons (pv 1) pa_nil)) pa_nil)) pa_nil))))))))) (pss_one (ps_ret (pe_ix ix_list (pe_op op_cat (pv 7) (pe_lst (pa_cons (pe_op op_catP (pe_op op_catP (pe_slice sl_tupP (pv 1) po_none (po_some (pv 3))) (RVT.pe_revT (pe_slice sl_tupP (pv 1) (po_some (pv 3)) (po_some (pe_op op_add (pv 3) pe_int))))) (pe_slice sl_tupP (pv 1) (po_some (pe_op op_add (pv 3) pe_int)) po_none)) (pa_cons (pe_op op_catP (pe_op op_catP (pe_slice sl_tupP (pv 1) po_none (po_some (pv 3))) (pe_tupP (pa_cons (pe_tupP (pa_cons pe_str (pa_cons pe_int pa_nil))) pa_nil))) (pe_slice sl_tupP (pv 1) (po_some (pv 3)) po_none)) pa_nil)))) (pv 2) (fun _ _ => rfl))))))))))),
    (rs_seq (rs_par (i := 2) (j := 3) (ra_cons (re_call (rx_deck (i := 0) (rx_cons re_int rx_nil))) (ra_cons (re_call (rx_deck (i := 0) (rx_cons (re_op ro_I0 (re_lenU (ru_of (re_var (i := 1)))) re_int) rx_nil))) ra_nil))) (rs_seq (rs_asg (re_if (rt_test (re_op ro_B0 (re_var (i := 3)) (re_lenU (ru_of (re_var (i := 1)))))) (re_op ro_ixU (re_var (i := 1)) (re_var (i := 3))) (re_tup (ra_cons re_str (ra_cons re_int ra_nil)))) (rg_tup (rgs_cons (rg_name (i := 4)) (rgs_cons (rg_name (i := 5)) rgs_nil)))) (rs_seq (rs_set (i := 6) (re_new (rf_lst (ra_cons (re_var (i := 4)) (ra_cons (re_tup (ra_cons (re_var (i := 4)) ra_nil)) (ra_cons (re_tup (ra_cons (re_var (i := 4)) (ra_cons (re_var (i := 5)) (ra_cons (re_var (i := 5)) ra_nil)))) (ra_cons (re_new (rf_lst (ra_cons (re_var (i := 4)) (ra_cons (re_var (i := 5)) ra_nil)))) (ra_cons (re_tup (ra_cons (re_var (i := 5)) (ra_cons (re_var (i := 4)) ra_nil))) (ra_cons (re_tup (ra_cons (re_var (i := 4)) (ra_cons (re_strI (re_var (i := 5))) ra_nil))) (ra_cons (re_tup (ra_cons (re_var (i := 4)) (ra_cons re_non ra_nil))) (ra_cons (re_tup (ra_cons (re_var (i := 4)) (ra_cons re_int ra_nil))) ra_nil))))))))))) (rs_seq (rs_set (i := 6) (re_new (rf_cat (re_var (i := 6)) (re_new (rf_lst (ra_cons (re_tup (ra_cons (re_var (i := 4)) (ra_cons (re_op ro_I0 re_int re_int) ra_nil))) (ra_cons (re_tup (ra_cons (re_var (i := 4)) (ra_cons (re_op ro_eq (re_var (i := 5)) re_int) ra_nil))) (ra_cons (re_tup (ra_cons (re_upper (re_var (i := 4))) (ra_cons (re_var (i := 5)) ra_nil))) (ra_cons (re_tup (ra_cons re_str (ra_cons re_int ra_nil))) (ra_cons (re_tup (ra_cons (re_op ro_catS (re_var (i := 4)) re_str) (ra_cons (re_var (i := 5)) ra_nil))) ra_nil)))))))))) (rs_seq (rs_set (i := 6) (re_new (rf_cat (re_var (i := 6)) (re_new (rf_lst (ra_cons (re_tup (ra_cons re_str (ra_cons re_int ra_nil))) (ra_cons (re_tup (ra_cons (re_var (i := 4)) (ra_cons (re_op ro_I re_int re_int) ra_nil))) (ra_cons (re_tup (ra_cons re_non (ra_cons (re_var (i := 5)) ra_nil))) (ra_cons (re_tup (ra_cons (re_tup (ra_cons (re_var (i := 4)) (ra_cons (re_var (i := 5)) ra_nil))) (ra_cons (re_var (i := 5)) ra_nil))) ra_nil))))))))) (rs_seq (rs_set (i := 7) (re_new (rf_rep (re_new (rf_lst (ra_cons (re_op ro_catU (re_op ro_catU (re_slU (re_var (i := 1)) rp_no (rp_of (re_var (i := 3)))) (re_tup (ra_cons (re_call (rx_deck (i := 0) (rx_cons (re_var (i := 6)) rx_nil))) ra_nil))) (re_slU (re_var (i := 1)) (rp_of (re_op ro_I0 (re_var (i := 3)) re_int)) rp_no)) ra_nil))) re_int))) (rs_seq (rs_set (i := 7) (re_new (rf_cat (re_var (i := 7)) (re_new (rf_lst (ra_cons (re_op ro_catU (re_slU (re_var (i := 1)) rp_no (rp_of (re_var (i := 3)))) (re_slU (re_var (i := 1)) (rp_of (re_op ro_I0 (re_var (i := 3)) re_int)) rp_no)) (ra_cons (re_op ro_catU (re_slU (re_var (i := 1)) rp_no (rp_of (re_op ro_I0 (re_var (i := 3)) re_int))) (re_slU (re_var (i := 1)) (rp_of (re_var (i := 3))) rp_no)) (ra_cons (re_revU (re_var (i := 1))) (ra_cons (re_new (rf_listU (ru_of (re_var (i := 1))))) (ra_cons (re_op ro_catU (re_var (i := 1)) (re_var (i := 1))) (ra_cons (re_newD (rd_dictL (rl_new (rf_listU (ru_of (re_var (i := 1))))))) ra_nil))))))))))) (rs_ret (re_op ro_ixL (re_new (rf_cat (re_var (i := 7)) (re_new (rf_lst (ra_cons (re_op ro_catU (re_op ro_catU (re_slU (re_var (i := 1)) rp_no (rp_of (re_var (i := 3)))) (re_revU (re_slU (re_var (i := 1)) (rp_of (re_var (i := 3))) (rp_of (re_op ro_I0 (re_var (i := 3)) re_int))))) (re_slU (re_var (i := 1)) (rp_of (re_op ro_I0 (re_var (i := 3)) re_int)) rp_no)) (ra_cons (re_op ro_catU (re_op ro_catU (re_slU (re_var (i := 1)) rp_no (rp_of (re_var (i := 3)))) (re_tup (ra_cons (re_tup (ra_cons re_str (ra_cons re_int ra_nil))) ra_nil))) (re_slU (re_var (i := 1)) (rp_of (re_var (i := 3))) rp_no)) ra_nil)))))) (re_var (i := 2)))))))))))⟩
/-! ### _law_signature_right -/
abbrev s_signature_right : Stmt := topS 19
theorem sc_signature_right : FnScope ["_law_it", "_law_kept", "_law_due"] ["_law_it"] (defScope s_signature_right) := ⟨rfl, rfl, rfl, by decide +kernel, rfl, by decide +kernel, by decide +kernel⟩
def dB_signature_right (F_l_is_signature : FD) (F_is_signature : FD) : DS := (dSeq (dPar 1 2 (dCons (dReprA (dVar 0)) (dCons (dReprA (dCall 1 F_l_is_signature (xCons (dVar 0) xNil))) dNil))) (dRet (dOp oEqSs (dNewL (dLst (dCons (dReprA (dCall 1 F_is_signature (xCons (dVar 0) xNil))) (dCons (dReprA (dCallP 1 F_is_signature [0] 1 (xCons (dVar 0) xNil))) (dCons (dReprA (dVar 0)) dNil))))) (dNewL (dLst (dCons (dVar 2) (dCons (dVar 2) (dCons (dVar 1) dNil))))))))
theorem ok_signature_right {P : Program} {w : World} {K : PySem.W.Frag} {mg : Str → Option Value} {base : Heap} {f : Addr} {fd : FuncData} {k : Nat} {F_l_is_signature : FD} {F_is_signature : FD} (F : L2.Fun K "_law_signature_right" "_law_signature_right" s_signature_right f fd)
    {k0 : Nat} {k1 : Nat} (D_l_is_signature : Df P w K mg base k0 "_law_is_signature" ["_law_it"] (spOf K 1 F_l_is_signature)) (D_is_signature : Df P w K mg base k1 "is_signature" ["thing"] (spOf K 1 F_is_signature)) (DK_is_signature_thing : DfK P w K mg base k1 "is_signature" ["thing"] ["thing"] [0] (spOf K 1 F_is_signature)) (m_repr : mg "repr" = none) (sys : SysK K) (h_k0 : k0 ≤ k) (h_k1 : k1 ≤ k) :
    Fg P w K mg base (k + 1) f fd ["_law_it"] (spOf K 1 (bodyD (dB_signature_right F_l_is_signature F_is_signature) 2)) :=
  okd (m := 1) rfl F sc_signature_right fun cdv A outer s H hr W B H0 G0 Z0 => ⟨_, (pss_cons (ps_par (i := 1) (j := 2) (by rfl) sc_signature_right.nd rfl rfl (by decide) rfl rfl (pa_cons (pe_callB (call_reprA hr sys) (by rfl) m_repr (by decide +kernel) (pa_cons (pv 0) pa_nil)) (pa_cons (pe_callB (call_reprA hr sys) (by rfl) m_repr (by decide +kernel) (pa_cons (dcall D_l_is_signature (hr.mono (h_k0)) (by rfl) (pa_cons (pv 0) pa_nil)) pa_nil)) pa_nil)) (by rfl)) (pss_one (ps_ret (pe_cmpR (EQS.op_eqSs hr.room.units) (pe_lst (pa_cons (pe_callB (call_reprA hr sys) (by rfl) m_repr (by decide +kernel) (pa_cons (dcall D_is_signature (hr.mono (h_k1)) (by rfl) (pa_cons (pv 0) pa_nil)) pa_nil)) (pa_cons (pe_callB (call_reprA hr sys) (by rfl) m_repr (by decide +kernel) (pa_cons (kcall DK_is_signature_thing (hr.mono (h_k1)) (by rfl) (pk_cons (pv 0) pk_nil)) pa_nil)) (pa_cons (pe_callB (call_reprA hr sys) (by rfl) m_repr (by decide +kernel) (pa_cons (pv 0) pa_nil)) pa_nil)))) (pe_lst (pa_cons (pv 2) (pa_cons (pv 2) (pa_cons (pv 1) pa_nil)))) (nomark _))))),
    (rs_seq (rs_par (i := 1) (j := 2) (ra_cons (re_reprA (re_var (i := 0))) (ra_cons (re_reprA (re_call (rx_cons (re_var (i := 0)) rx_nil))) ra_nil))) (rs_ret (re_op ro_eqSs (re_new (rf_lst (ra_cons (re_reprA (re_call (rx_cons (re_var (i := 0)) rx_nil))) (ra_cons (re_reprA (re_callP (π := [0]) (n := 1) (rx_cons (re_var (i := 0)) rx_nil))) (ra_cons (re_reprA (re_var (i := 0))) ra_nil))))) (re_new (rf_lst (ra_cons (re_var (i := 2)) (ra_cons (re_var (i := 2)) (ra_cons (re_var (i := 1)) ra_nil))))))))⟩
/-! ### _law_name_right -/
abbrev s_name_right : Stmt := topS 20
theorem sc_name_right : FnScope ["_law_it", "_law_kept", "_law_due"] ["_law_it"] (defScope s_name_right) := ⟨rfl, rfl, rfl, by decide +kernel, rfl, by decide +kernel, by decide +kernel⟩
def dB_name_right (F_l_is_name : FD) (F_is_name : FD) : DS := (dSeq (dPar 1 2 (dCons (dReprA (dVar 0)) (dCons (dReprA (dCall 1 F_l_is_name (xCons (dVar 0) xNil))) dNil))) (dRet (dOp oEqSs (dNewL (dLst (dCons (dReprA (dCall 1 F_is_name (xCons (dVar 0) xNil))) (dCons (dReprA (dCallP 1 F_is_name [0] 1 (xCons (dVar 0) xNil))) (dCons (dReprA (dVar 0)) dNil))))) (dNewL (dLst (dCons (dVar 2) (dCons (dVar 2) (dCons (dVar 1) dNil))))))))
theorem ok_name_right {P : Program} {w : World} {K : PySem.W.Frag} {mg : Str → Option Value} {base : Heap} {f : Addr} {fd : FuncData} {k : Nat} {F_l_is_name : FD} {F_is_name : FD} (F : L2.Fun K "_law_name_right" "_law_name_right" s_name_right f fd)
    {k0 : Nat} {k1 : Nat} (D_l_is_name : Df P w K mg base k0 "_law_is_name" ["_law_it"] (spOf K 1 F_l_is_name)) (D_is_name : Df P w K mg base k1 "is_name" ["thing"] (spOf K 1 F_is_name)) (DK_is_name_thing : DfK P w K mg base k1 "is_name" ["thing"] ["thing"] [0] (spOf K 1 F_is_name)) (m_repr : mg "repr" = none) (sys : SysK K) (h_k0 : k0 ≤ k) (h_k1 : k1 ≤ k) :
    Fg P w K mg base (k + 1) f fd ["_law_it"] (spOf K 1 (bodyD (dB_name_right F_l_is_name F_is_name) 2)) :=
  okd (m := 1) rfl F sc_name_right fun cdv A outer s H hr W B H0 G0 Z0 => ⟨_, (pss_cons (ps_par (i := 1) (j := 2) (by rfl) sc_name_right.nd rfl rfl (by decide) rfl rfl (pa_cons (pe_callB (call_reprA hr sys) (by rfl) m_repr (by decide +kernel) (pa_cons (pv 0) pa_nil)) (pa_cons (pe_callB (call_reprA hr sys) (by rfl) m_repr (by decide +kernel) (pa_cons (dcall D_l_is_name (hr.mono (h_k0)) (by rfl) (pa_cons (pv 0) pa_nil)) pa_nil)) pa_nil)) (by rfl)) (pss_one (ps_ret (pe_cmpR (EQS.op_eqSs hr.room.units) (pe_lst (pa_cons (pe_callB (call_reprA hr sys) (by rfl) m_repr (by decide +kernel) (pa_cons (dcall D_is_name (hr.mono (h_k1)) (by rfl) (pa_cons (pv 0) pa_nil)) pa_nil)) (pa_cons (pe_callB (call_reprA hr sys) (by rfl) m_repr (by decide +kernel) (pa_cons (kcall DK_is_name_thing (hr.mono (h_k1)) (by rfl) (pk_cons (pv 0) pk_nil)) pa_nil)) (pa_cons (pe_callB (call_reprA hr sys) (by rfl) m_repr (by decide +kernel) (pa_cons (pv 0) pa_nil)) pa_nil)))) (pe_lst (pa_cons (pv 2) (pa_cons (pv 2) (pa_cons (pv 1) pa_nil)))) (nomark _))))),
    (rs_seq (rs_par (i := 1) (j := 2) (ra_cons (re_reprA (re_var (i := 0))) (ra_cons (re_reprA (re_call (rx_cons (re_var (i := 0)) rx_nil))) ra_nil))) (rs_ret (re_op ro_eqSs (re_new (rf_lst (ra_cons (re_reprA (re_call (rx_cons (re_var (i := 0)) rx_nil))) (ra_cons (re_reprA (re_callP (π := [0]) (n := 1) (rx_cons (re_var (i := 0)) rx_nil))) (ra_cons (re_reprA (re_var (i := 0))) ra_nil))))) (re_new (rf_lst (ra_cons (re_var (i := 2)) (ra_cons (re_var (i := 2)) (ra_cons (re_var (i := 1)) ra_nil))))))))⟩
end K01


set_option Elab.async false
set_option linter.all false
set_option maxRecDepth 100000
set_option maxHeartbeats 4000000
namespace K01
open PySem PySem.Spec PyProof.Rows L2 GG DD PT DL GXR
/-! ### law -/
abbrev s_law : Stmt := topS 21
theorem sc_law : FnScope ["_law_script", "_law_deck_here", "_law_some", "_law_wide", "_law_turn", "_law_tags_here", "_law_again", "_law_name", "_law_many", "_law_it", "_law_sign"] ["_law_script"] (defScope s_law) := ⟨rfl, rfl, rfl, by decide +kernel, rfl, by decide +kernel, by decide +kernel⟩
def dB_law (F_tags : FD) (F_bent : FD) (F_name_right : FD) (F_signature_right : FD) (F_pick : FD) : DS := (dSeq (dSetO (dLst (dCons (dC .none) (dCons (dC (.bool true)) (dCons (dC (.int 0)) (dCons (dC (.str "")) (dCons (dC (.str "a")) (dCons (dC (.str "z")) (dCons (dC (.str "abcdefgh")) (dCons (dC (.str "abcdefghi")) (dCons (dC (.str "A")) (dCons (dC (.str "aB")) (dCons (dC (.str "a b")) (dCons (dC (.str "a1")) (dCons (dC (.str "a_")) (dCons (dC (.str "a
")) (dCons (dC (.str "~")) (dCons (dC (.str "void")) dNil))))))))))))))))) 2) (dSeq (dSetO (dCatVar 2 (dNewL (dLst (dCons (dTup (dCons (dC (.str "a")) dNil)) (dCons (dNewL (dLst (dCons (dC (.str "a")) dNil))) (dCons (dNewD dDict0) (dCons (dTup dNil) (dCons (dC (.str "{")) (dCons (dC (.str "`")) (dCons (dOp oRepS (dC (.str "cons")) (dC (.int 500))) (dCons (dOp (oI CPow fun i j => i ^ j.toNat) (dC (.int 10)) (dC (.int 39))) dNil))))))))))) 2) (dSeq (dFreeze 2 (dIf (dB (dOp oNeMtL (dNewL (dComp (dAsL (dVar 2)) (gdN 9) (dNot (dB (dCall 1 F_name_right (xCons (dVar 9) xNil)))) (dVar 9) [9])) (dNewL (dLst dNil)))) (dRet (dC (.bool false))) dNext)) (dSeq (dSet (dTupOf (dComp (dStrIt (dC (.str "abcxyz"))) (gdN 10) dYes (dTup (dCons (dVar 10) (dCons (dOp (oI (fun _ j => 0 < j) fun i j => i % j) (dFind (dC (.str "abcxyz")) (dVar 10)) (dC (.int 4))) dNil))) [10])) 3) (dSeq (dSetO (dLst (dCons (dC .none) (dCons (dC (.bool true)) (dCons (dC (.int 0)) (dCons (dC (.str "")) (dCons (dTup dNil) (dCons (dNewL (dLst dNil)) (dCons (dNewD dDict0) (dCons (dC (.str "a")) (dCons (dTup (dCons (dTup (dCons (dC (.str "a")) (dCons (dC (.int 0)) dNil))) dNil)) (dCons (dTup (dCons (dC (.str "a")) (dCons (dC (.int 0)) dNil))) (dCons (dTup (dCons (dTup (dCons (dTup (dCons (dC (.str "a")) (dCons (dC (.int 0)) dNil))) dNil)) dNil)) (dCons (dTup (dCons (dTup (dCons (dC (.str "a")) (dCons (dC (.int 0)) dNil))) (dCons (dTup (dCons (dC (.str "a")) (dCons (dC (.int 1)) dNil))) dNil))) dNil))))))))))))) 2) (dSeq (dSetO (dCatVar 2 (dNewL (dLst (dCons (dTup (dCons (dTup (dCons (dC (.str "void")) (dCons (dC (.int 0)) dNil))) dNil)) (dCons (dTup (dCons (dTup (dCons (dC (.str "void")) (dCons (dC (.int 1)) dNil))) dNil)) (dCons (dTup (dCons (dTup (dCons (dC (.str "a")) (dCons (dC (.int 0)) dNil))) (dCons (dTup (dCons (dC (.str "void")) (dCons (dC (.int 2)) dNil))) dNil))) (dCons (dTup (dCons (dTup (dCons (dC (.str "a")) (dCons (dC (.int 3)) dNil))) dNil)) (dCons (dTup (dCons (dTup (dCons (dC (.str "a")) (dCons (dC (.int 4)) dNil))) dNil)) dNil)))))))) 2) (dSeq (dSetO (dCatVar 2 (dNewL (dLst (dCons (dTup (dCons (dTup (dCons (dC (.str "b")) (dCons (dC (.int 0)) dNil))) (dCons (dTup (dCons (dC (.str "a")) (dCons (dC (.int 0)) dNil))) dNil))) (dCons (dTup (dCons (dTup (dCons (dC (.str "a")) (dCons (dC (.bool true)) dNil))) dNil)) (dCons (dVar 3) dNil)))))) 2) (dSeq (dSetO (dCatVar 2 (dNewL (dLst (dCons (dTup (dCons (dTup (dCons (dC (.str "ab")) (dCons (dC (.int 0)) dNil))) (dCons (dTup (dCons (dC (.str "b")) (dCons (dC (.int 0)) dNil))) dNil))) (dCons (dTup (dCons (dTup dNil) dNil)) (dCons (dTup (dCons (dTup (dCons (dNewL (dLst (dCons (dC (.str "a")) dNil))) (dCons (dC (.int 0)) dNil))) dNil)) (dCons (dTup (dCons (dTup (dCons (dNewD dDict0) (dCons (dC (.int 0)) dNil))) dNil)) dNil))))))) 2) (dSeq (dApp 2 (dTupOf (dComp (dStrIt (dC (.str "bcdefghijklmnopq"))) (gdN 10) dYes (dTup (dCons (dOp oCatS (dC (.str "a")) (dVar 10)) (dCons (dC (.int 1)) dNil))) [10]))) (dSeq (dFor (dRng1 (dC (.int 6))) (gdN 4) (dSeq (dSet (dCall 1 F_tags (xDeck 1 xNil)) 5) (dSeq (dApp 2 (dVar 5)) (dSeq (dFor (dRng1 (dC (.int 6))) (gdN 6) (dApp 2 (dCall 2 F_bent (xDeck 1 (xCons (dVar 5) xNil))))) (dFor (dAsU (dVar 5)) (gdTup 2 (gdCons (gdN 7) (gdCons (gdN 8) gdNil))) (dIf (dOr (dNot (dB (dCall 1 F_name_right (xCons (dVar 7) xNil)))) (dNot (dB (dCall 1 F_name_right (xCons (dOp oCatS (dVar 7) (dCall 2 F_pick (xDeck 1 (xCons (dNewL (dLst (dCons (dC (.str "")) (dCons (dC (.str "a")) (dCons (dC (.str "A")) (dCons (dC (.str " ")) (dCons (dC (.str "aaaaa")) dNil))))))) xNil)))) xNil))))) (dRet (dC (.bool false))) dNext)))))) (dFreeze 2 (dRet (dOp oEqMtL (dNewL (dComp (dAsL (dVar 2)) (gdN 9) (dNot (dB (dCall 1 F_signature_right (xCons (dVar 9) xNil)))) (dVar 9) [9])) (dNewL (dLst dNil)))))))))))))))
theorem ok_law {P : Program} {w : World} {K : PySem.W.Frag} {mg : Str → Option Value} {base : Heap} {f : Addr} {fd : FuncData} {k : Nat} {F_tags : FD} {F_bent : FD} {F_name_right : FD} {F_signature_right : FD} {F_pick : FD} (F : L2.Fun K "law" "law" s_law f fd)
    {k0 : Nat} {k1 : Nat} {k2 : Nat} {k3 : Nat} {k4 : Nat} {k5 : Nat} (D_deck : Df P w K mg base k0 "_law_deck" ["_law_script"] (spDeckH K)) (D_tags : Df P w K mg base k1 "_law_tags" ["_law_deck_here"] (spOf K 1 F_tags)) (D_bent : Df P w K mg base k2 "_law_bent" ["_law_deck_here", "_law_it"] (spOf K 2 F_bent)) (D_name_right : Df P w K mg base k3 "_law_name_right" ["_law_it"] (spOf K 1 F_name_right)) (D_signature_right : Df P w K mg base k4 "_law_signature_right" ["_law_it"] (spOf K 1 F_signature_right)) (D_pick : Df P w K mg base k5 "_law_pick" ["_law_deck_here", "_law_items"] (spOf K 2 F_pick)) (m_range : mg "range" = none) (m_tuple : mg "tuple" = none) (h_k0 : k0 ≤ k) (h_k1 : k1 ≤ k) (h_k2 : k2 ≤ k) (h_k3 : k3 ≤ k) (h_k4 : k4 ≤ k) (h_k5 : k5 ≤ k)
    (hd : dB_law F_tags F_bent F_name_right F_signature_right F_pick { nx := fun _ => False, rt := fun v _ => v = .bool true } ⟨.un :: .deck :: List.replicate 9 .un, 0⟩) :
    Fg P w K mg base (k + 1) f fd ["_law_script"] (spLaw K) :=
  ok_law_of 9 F sc_law rfl hd fun cdv A outer s H hr => ⟨_, (pss_cons (ps_set (i := 1) sc_law.nd rfl (Or.inl rfl) (dcall D_deck (hr.mono (h_k0)) (by rfl) (pa_cons (pv 0) pa_nil))) (pss_cons (ps_set (i := 2) sc_law.nd rfl (Or.inl rfl) (pe_lst (pa_cons pe_non (pa_cons pe_bl (pa_cons pe_int (pa_cons pe_str (pa_cons pe_str (pa_cons pe_str (pa_cons pe_str (pa_cons pe_str (pa_cons pe_str (pa_cons pe_str (pa_cons pe_str (pa_cons pe_str (pa_cons pe_str (pa_cons pe_str (pa_cons pe_str (pa_cons pe_str pa_nil)))))))))))))))))) (pss_cons (ps_set (i := 2) sc_law.nd rfl (Or.inl rfl) (pe_op op_cat (pv 2) (pe_lst (pa_cons (pe_tupP (pa_cons pe_str pa_nil)) (pa_cons (pe_lst (pa_cons pe_str pa_nil)) (pa_cons pe_dnewK (pa_cons (pe_tupP pa_nil) (pa_cons pe_str (pa_cons pe_str (pa_cons (pe_op MLS.op_mulS pe_str pe_int) (pa_cons (pe_op op_pow pe_int pe_int) pa_nil))))))))))) (pss_cons (ps_if (pt_cmpR (EMT.op_neMtL hr.room.units) (pe_lc (own := [("_law_it", 9)]) (g := (gName 9)) rfl sc_law.nd (pi_list (pv 2)) (blkOk_by (own := [("_law_it", 9)]) (N := ["_law_script", "_law_deck_here", "_law_some", "_law_wide", "_law_turn", "_law_tags_here", "_law_again", "_law_name", "_law_many", "_law_it", "_law_sign"]) (sc := defScope s_law) (by decide +kernel)) (fun _ _ _ _ _ => (pg_name (i := 9) sc_law.nd rfl (Or.inl rfl))) (fun _ _ _ _ _ => (pts_one (pt_not (pt_val (dcall D_name_right (hr.mono (h_k3)) (by rfl) (pa_cons (pv 9) pa_nil)))))) (fun _ _ _ _ _ => (pv 9))) (pe_lst pa_nil) (nomark _)) (pss_one (ps_ret pe_bl)) pss_nil) (pss_cons (ps_set (i := 3) sc_law.nd rfl (Or.inl rfl) (pe_callTy call_tuple_ofP (by rfl) m_tuple (by decide +kernel) (pa_cons (pe_lc (own := [("_law_sign", 10)]) (g := (gName 10)) rfl sc_law.nd (pi_str pe_str) (blkOk_by (own := [("_law_sign", 10)]) (N := ["_law_script", "_law_deck_here", "_law_some", "_law_wide", "_law_turn", "_law_tags_here", "_law_again", "_law_name", "_law_many", "_law_it", "_law_sign"]) (sc := defScope s_law) (by decide +kernel)) (fun _ _ _ _ _ => (pg_name (i := 10) sc_law.nd rfl (Or.inl rfl))) (fun _ _ _ _ _ => pts_nil) (fun _ _ _ _ _ => (pe_tupP (pa_cons (pv 10) (pa_cons (pe_op op_mod (pe_m1 PySem.F.slot_str_find PySem.F.type_str_find mt_find pe_str (pv 10)) pe_int) pa_nil))))) pa_nil))) (pss_cons (ps_set (i := 2) sc_law.nd rfl (Or.inl rfl) (pe_lst (pa_cons pe_non (pa_cons pe_bl (pa_cons pe_int (pa_cons pe_str (pa_cons (pe_tupP pa_nil) (pa_cons (pe_lst pa_nil) (pa_cons pe_dnewK (pa_cons pe_str (pa_cons (pe_tupP (pa_cons (pe_tupP (pa_cons pe_str (pa_cons pe_int pa_nil))) pa_nil)) (pa_cons (pe_tupP (pa_cons pe_str (pa_cons pe_int pa_nil))) (pa_cons (pe_tupP (pa_cons (pe_tupP (pa_cons (pe_tupP (pa_cons pe_str (pa_cons pe_int pa_nil))) pa_nil)) pa_nil)) (pa_cons (pe_tupP (pa_cons (pe_tupP (pa_cons pe_str (pa_cons pe_int pa_nil))) (pa_cons (pe_tupP (pa_cons pe_str (pa_cons pe_int pa_nil))) pa_nil))) pa_nil)))))))))))))) (pss_cons (ps_set (i := 2) sc_law.nd rfl (Or.inl rfl) (pe_op op_cat (pv 2) (pe_lst (pa_cons (pe_tupP (pa_cons (pe_tupP (pa_cons pe_str (pa_cons pe_int pa_nil))) pa_nil)) (pa_cons (pe_tupP (pa_cons (pe_tupP (pa_cons pe_str (pa_cons pe_int pa_nil))) pa_nil)) (pa_cons (pe_tupP (pa_cons (pe_tupP (pa_cons pe_str (pa_cons pe_int pa_nil))) (pa_cons (pe_tupP (pa_cons pe_str (pa_cons pe_int pa_nil))) pa_nil))) (pa_cons (pe_tupP (pa_cons (pe_tupP (pa_cons pe_str (pa_cons pe_int pa_nil))) pa_nil)) (pa_cons (pe_tupP (pa_cons (pe_tupP (pa_cons pe_str (pa_cons pe_int pa_nil))) pa_nil)) pa_nil)))))))) (pss_cons (ps_set (i := 2) sc_law.nd rfl (Or.inl rfl) (pe_op op_cat (pv 2) (pe_lst (pa_cons (pe_tupP (pa_cons (pe_tupP (pa_cons pe_str (pa_cons pe_int pa_nil))) (pa_cons (pe_tupP (pa_cons pe_str (pa_cons pe_int pa_nil))) pa_nil))) (pa_cons (pe_tupP (pa_cons (pe_tupP (pa_cons pe_str (pa_cons pe_bl pa_nil))) pa_nil)) (pa_cons (pv 3) pa_nil)))))) (pss_cons (ps_set (i := 2) sc_law.nd rfl (Or.inl rfl) (pe_op op_cat (pv 2) (pe_lst (pa_cons (pe_tupP (pa_cons (pe_tupP (pa_cons pe_str (pa_cons pe_int pa_nil))) (pa_cons (pe_tupP (pa_cons pe_str (pa_cons pe_int pa_nil))) pa_nil))) (pa_cons (pe_tupP (pa_cons (pe_tupP pa_nil) pa_nil)) (pa_cons (pe_tupP (pa_cons (pe_tupP (pa_cons (pe_lst (pa_cons pe_str pa_nil)) (pa_cons pe_int pa_nil))) pa_nil)) (pa_cons (pe_tupP (pa_cons (pe_tupP (pa_cons pe_dnewK (pa_cons pe_int pa_nil))) pa_nil)) pa_nil))))))) (pss_cons (ps_expr (pe_bm PySem.F.plainAttrs_list PySem.F.slot_list_append PySem.F.type_list_append mt_append (pv 2) (pa_cons (pe_callTy call_tuple_ofP (by rfl) m_tuple (by decide +kernel) (pa_cons (pe_lc (own := [("_law_sign", 10)]) (g := (gName 10)) rfl sc_law.nd (pi_str pe_str) (blkOk_by (own := [("_law_sign", 10)]) (N := ["_law_script", "_law_deck_here", "_law_some", "_law_wide", "_law_turn", "_law_tags_here", "_law_again", "_law_name", "_law_many", "_law_it", "_law_sign"]) (sc := defScope s_law) (by decide +kernel)) (fun _ _ _ _ _ => (pg_name (i := 10) sc_law.nd rfl (Or.inl rfl))) (fun _ _ _ _ _ => pts_nil) (fun _ _ _ _ _ => (pe_tupP (pa_cons (pe_op op_add_str pe_str (pv 10)) (pa_cons pe_int pa_nil))))) pa_nil)) pa_nil))) (pss_cons (ps_for PassesOwn.never rfl (pi_range1 (by rfl) m_range (pa_cons pe_int pa_nil)) (pg_name (i := 4) sc_law.nd rfl (Or.inl rfl)) (pss_cons (ps_set (i := 5) sc_law.nd rfl (Or.inl rfl) (dcall D_tags (hr.mono (h_k1)) (by rfl) (pa_cons (pv 1) pa_nil))) (pss_cons (ps_expr (pe_bm PySem.F.plainAttrs_list PySem.F.slot_list_append PySem.F.type_list_append mt_append (pv 2) (pa_cons (pv 5) pa_nil))) (pss_cons (ps_for PassesOwn.never rfl (pi_range1 (by rfl) m_range (pa_cons pe_int pa_nil)) (pg_name (i := 6) sc_law.nd rfl (Or.inl rfl)) (pss_one (ps_expr (pe_bm PySem.F.plainAttrs_list PySem.F.slot_list_append PySem.F.type_list_append mt_append (pv 2) (pa_cons (dcall D_bent (hr.mono (h_k2)) (by rfl) (pa_cons (pv 1) (pa_cons (pv 5) pa_nil))) pa_nil))))) (pss_one (ps_for PassesOwn.never rfl (pi_tup (pv 5)) (pg_tup rfl (pgs_cons (pg_name (i := 7) sc_law.nd rfl (Or.inl rfl)) (pgs_cons (pg_name (i := 8) sc_law.nd rfl (Or.inl rfl)) pgs_nil))) (pss_one (ps_if (PW.pt (pw_or (pt_not (pt_val (dcall D_name_right (hr.mono (h_k3)) (by rfl) (pa_cons (pv 7) pa_nil)))) (pw_or1 (pt_not (pt_val (dcall D_name_right (hr.mono (h_k3)) (by rfl) (pa_cons (pe_op op_add_str (pv 7) (dcall D_pick (hr.mono (h_k5)) (by rfl) (pa_cons (pv 1) (pa_cons (pe_lst (pa_cons pe_str (pa_cons pe_str (pa_cons pe_str (pa_cons pe_str (pa_cons pe_str pa_nil)))))) pa_nil)))) pa_nil))))))) (pss_one (ps_ret pe_bl)) pss_nil)))))))) (pss_one (ps_ret (pe_cmpR (EMT.op_eqMtL hr.room.units) (pe_lc (own := [("_law_it", 9)]) (g := (gName 9)) rfl sc_law.nd (pi_list (pv 2)) (blkOk_by (own := [("_law_it", 9)]) (N := ["_law_script", "_law_deck_here", "_law_some", "_law_wide", "_law_turn", "_law_tags_here", "_law_again", "_law_name", "_law_many", "_law_it", "_law_sign"]) (sc := defScope s_law) (by decide +kernel)) (fun _ _ _ _ _ => (pg_name (i := 9) sc_law.nd rfl (Or.inl rfl))) (fun _ _ _ _ _ => (pts_one (pt_not (pt_val (dcall D_signature_right (hr.mono (h_k4)) (by rfl) (pa_cons (pv 9) pa_nil)))))) (fun _ _ _ _ _ => (pv 9))) (pe_lst pa_nil) (nomark _))))))))))))))),
    fun W B H0 G0 Z0 => (rs_seq (rs_setO (i := 2) (rf_lst (ra_cons re_non (ra_cons re_bl (ra_cons re_int (ra_cons re_str (ra_cons re_str (ra_cons re_str (ra_cons re_str (ra_cons re_str (ra_cons re_str (ra_cons re_str (ra_cons re_str (ra_cons re_str (ra_cons re_str (ra_cons re_str (ra_cons re_str (ra_cons re_str ra_nil)))))))))))))))))) (rs_seq (rs_setO (i := 2) (rf_catVar (i := 2) (re_new (rf_lst (ra_cons (re_tup (ra_cons re_str ra_nil)) (ra_cons (re_new (rf_lst (ra_cons re_str ra_nil))) (ra_cons (re_newD rd_dict0) (ra_cons (re_tup ra_nil) (ra_cons re_str (ra_cons re_str (ra_cons (re_op ro_repS re_str re_int) (ra_cons (re_op ro_I re_int re_int) ra_nil)))))))))))) (rs_seq (rs_freeze (i := 2) (rs_if (rt_test (re_op ro_neMtL (re_new (rf_comp (vs := [9]) (ri_list (re_var (i := 2))) (rgv_name (i := 9) (by decide)) (gw_name (i := 9) (by decide)) (rt_not (rt_val (re_call (rx_cons (re_var (i := 9)) rx_nil)))) (re_var (i := 9)))) (re_new (rf_lst ra_nil)))) (rs_ret re_bl) rs_next)) (rs_seq (rs_set (i := 3) (re_tupL (rl_new (rf_comp (vs := [10]) (ri_str re_str) (rgv_name (i := 10) (by decide)) (gw_name (i := 10) (by decide)) rt_yes (re_tup (ra_cons (re_var (i := 10)) (ra_cons (re_op ro_I (re_find re_str (re_var (i := 10))) re_int) ra_nil))))))) (rs_seq (rs_setO (i := 2) (rf_lst (ra_cons re_non (ra_cons re_bl (ra_cons re_int (ra_cons re_str (ra_cons (re_tup ra_nil) (ra_cons (re_new (rf_lst ra_nil)) (ra_cons (re_newD rd_dict0) (ra_cons re_str (ra_cons (re_tup (ra_cons (re_tup (ra_cons re_str (ra_cons re_int ra_nil))) ra_nil)) (ra_cons (re_tup (ra_cons re_str (ra_cons re_int ra_nil))) (ra_cons (re_tup (ra_cons (re_tup (ra_cons (re_tup (ra_cons re_str (ra_cons re_int ra_nil))) ra_nil)) ra_nil)) (ra_cons (re_tup (ra_cons (re_tup (ra_cons re_str (ra_cons re_int ra_nil))) (ra_cons (re_tup (ra_cons re_str (ra_cons re_int ra_nil))) ra_nil))) ra_nil)))))))))))))) (rs_seq (rs_setO (i := 2) (rf_catVar (i := 2) (re_new (rf_lst (ra_cons (re_tup (ra_cons (re_tup (ra_cons re_str (ra_cons re_int ra_nil))) ra_nil)) (ra_cons (re_tup (ra_cons (re_tup (ra_cons re_str (ra_cons re_int ra_nil))) ra_nil)) (ra_cons (re_tup (ra_cons (re_tup (ra_cons re_str (ra_cons re_int ra_nil))) (ra_cons (re_tup (ra_cons re_str (ra_cons re_int ra_nil))) ra_nil))) (ra_cons (re_tup (ra_cons (re_tup (ra_cons re_str (ra_cons re_int ra_nil))) ra_nil)) (ra_cons (re_tup (ra_cons (re_tup (ra_cons re_str (ra_cons re_int ra_nil))) ra_nil)) ra_nil))))))))) (rs_seq (rs_setO (i := 2) (rf_catVar (i := 2) (re_new (rf_lst (ra_cons (re_tup (ra_cons (re_tup (ra_cons re_str (ra_cons re_int ra_nil))) (ra_cons (re_tup (ra_cons re_str (ra_cons re_int ra_nil))) ra_nil))) (ra_cons (re_tup (ra_cons (re_tup (ra_cons re_str (ra_cons re_bl ra_nil))) ra_nil)) (ra_cons (re_var (i := 3)) ra_nil))))))) (rs_seq (rs_setO (i := 2) (rf_catVar (i := 2) (re_new (rf_lst (ra_cons (re_tup (ra_cons (re_tup (ra_cons re_str (ra_cons re_int ra_nil))) (ra_cons (re_tup (ra_cons re_str (ra_cons re_int ra_nil))) ra_nil))) (ra_cons (re_tup (ra_cons (re_tup ra_nil) ra_nil)) (ra_cons (re_tup (ra_cons (re_tup (ra_cons (re_new (rf_lst (ra_cons re_str ra_nil))) (ra_cons re_int ra_nil))) ra_nil)) (ra_cons (re_tup (ra_cons (re_tup (ra_cons (re_newD rd_dict0) (ra_cons re_int ra_nil))) ra_nil)) ra_nil)))))))) (rs_seq (rs_app (i := 2) (re_tupL (rl_new (rf_comp (vs := [10]) (ri_str re_str) (rgv_name (i := 10) (by decide)) (gw_name (i := 10) (by decide)) rt_yes (re_tup (ra_cons (re_op ro_catS re_str (re_var (i := 10))) (ra_cons re_int ra_nil))))))) (rs_seq (rs_for (ri_rng1 re_int) (rg_name (i := 4)) (rs_seq (rs_set (i := 5) (re_call (rx_deck (i := 1) rx_nil))) (rs_seq (rs_app (i := 2) (re_var (i := 5))) (rs_seq (rs_for (ri_rng1 re_int) (rg_name (i := 6)) (rs_app (i := 2) (re_call (rx_deck (i := 1) (rx_cons (re_var (i := 5)) rx_nil))))) (rs_for (ri_tup (re_var (i := 5))) (rg_tup (rgs_cons (rg_name (i := 7)) (rgs_cons (rg_name (i := 8)) rgs_nil))) (rs_if (rt_or (rt_not (rt_val (re_call (rx_cons (re_var (i := 7)) rx_nil)))) (rt_not (rt_val (re_call (rx_cons (re_op ro_catS (re_var (i := 7)) (re_call (rx_deck (i := 1) (rx_cons (re_new (rf_lst (ra_cons re_str (ra_cons re_str (ra_cons re_str (ra_cons re_str (ra_cons re_str ra_nil))))))) rx_nil)))) rx_nil))))) (rs_ret re_bl) rs_next)))))) (rs_freeze (i := 2) (rs_ret (re_op ro_eqMtL (re_new (rf_comp (vs := [9]) (ri_list (re_var (i := 2))) (rgv_name (i := 9) (by decide)) (gw_name (i := 9) (by decide)) (rt_not (rt_val (re_call (rx_cons (re_var (i := 9)) rx_nil)))) (re_var (i := 9)))) (re_new (rf_lst ra_nil)))))))))))))))⟩
end K01


set_option Elab.async false
set_option linter.all false
set_option maxRecDepth 100000
set_option maxHeartbeats 4000000
/-! U01a: small things of the data. -/
namespace K01
open PySem PySem.Spec PyProof.Rows L2 GG DD PT DL LS
set_option simprocs false
local macro_rules | `(tactic| walk_at "w1") => `(tactic| with_reducible first
  | refine DL.w_seq ?_ | refine DL.w_next ?_ | refine DL.w_set ?_ | refine DL.w_setO ?_ | refine DL.w_if ?_ | refine DL.w_ret ?_ | refine DL.w_drop ?_
  | refine DL.w_par ?_ | refine DL.w_parL ?_ | refine DL.w_parR ?_ | refine DL.w_parLL ?_ | refine DL.w_asg ?_ | refine DL.w_for ?_ | refine DL.w_vsNil ?_ | refine DL.w_dIn ?_ | refine DL.w_dPut ?_
  | refine DL.w_gdN ?_ | refine DL.w_gdNil ?_ | refine DL.w_gdCons ?_
  | refine DL.w_c ?_ | refine DL.w_asL ?_ | refine DL.w_asU ?_ | refine DL.w_newL ?_ | refine DL.w_nil ?_ | refine DL.w_cons ?_ | refine DL.w_tup ?_ | refine DL.w_lst ?_ | refine DL.w_op ?_
  | refine DL.w_lenL ?_ | refine DL.w_lenD ?_ | refine DL.w_tupOf ?_ | refine DL.w_ifE ?_ | refine DL.w_cat ?_ | refine DL.w_rep ?_ | refine DL.w_call ?_ | refine DL.w_callP ?_
  | refine DL.w_xNil ?_ | refine DL.w_xCons ?_ | refine DL.w_all ?_ | refine DL.w_reprA ?_ | refine DL.w_isi ?_ | refine DL.w_andV ?_ | refine DL.w_newD ?_ | refine DL.w_dict0 ?_
  | refine DL.w_slD ?_ | refine DL.w_slU ?_ | refine DL.w_noP ?_ | refine DL.w_part ?_ | refine DL.w_listZip ?_ | refine DL.w_sortSI ?_ | refine DL.w_listRng ?_ | refine DL.w_setD ?_ | refine DL.w_dictL ?_ | refine DL.w_dictU ?_ | refine DL.w_disp ?_ | refine DL.w_psNil ?_ | refine DL.w_psCons ?_
  | refine DL.w_rng1 ?_ | refine DL.w_comp ?_ | refine DL.w_enum ?_ | refine DL.w_B ?_ | refine DL.w_and ?_ | refine DL.w_or ?_ | refine DL.w_not ?_ | refine DL.w_yes ?_
  | refine DL.w_par3 ?_ | refine DL.w_par3R ?_ | refine DL.w_par0L ?_ | refine DL.w_revL ?_ | refine DL.w_listQ ?_ | refine DL.w_star ?_ | refine DL.w_split ?_ | refine DL.w_intB ?_ | refine DL.w_dPutN ?_ | refine DL.w_dPutO ?_ | refine DL.w_listZipT ?_ | refine DL.w_callM ?_ | refine DL.w_inVar ?_ | refine DL.w_slS ?_ | refine DL.w_sortS ?_ | refine DL.w_dcomp ?_)
local macro_rules | `(tactic| walk_at "w2") => `(tactic| first
  | walk_at "w1"
  | ((with_reducible apply DL.w_var); (· rfl))
  | ((with_reducible apply DL.w_xDeck); (· rfl))
  | ((with_reducible apply DL.w_listO); (· rfl))
  | ((with_reducible apply DL.w_listD); (· rfl))
  | ((with_reducible apply DL.w_app); (· exact trivial))
  | ((with_reducible apply DL.w_popAt); (· exact trivial))
  | ((with_reducible apply DL.w_dGet); (· exact trivial))
  | ((with_reducible apply DL.w_listA); (· rfl))
  | ((with_reducible apply DL.w_ext); (· exact trivial))
  | ((with_reducible apply DL.w_dGetT); (· exact trivial))
  | ((with_reducible apply DL.w_xLast); (· exact trivial))
  | ((with_reducible apply DL.w_appA); (· rfl))
  | ((with_reducible apply DL.w_listDictO); (· rfl))
  | ((with_reducible apply DL.w_lenDictO); (· rfl))
  | ((with_reducible apply DL.w_catVarO); (· rfl))
  | ((with_reducible apply DL.w_catVarD); (· rfl))
  | ((with_reducible apply DL.w_tupLL); (· decide))
  | ((with_reducible apply DL.w_fzO); (· rfl))
  | ((with_reducible apply DL.w_fzD); (· rfl))
  | ((with_reducible apply DL.w_fz); (· rfl))
  | ((with_reducible apply DL.w_gdTup); (· rfl))
  | ((with_reducible refine And.intro ?_ ?_); (· first | rfl | exact True.intro | decide | (dsimp only [List.length_cons, List.length_nil]; decide)))
  | with_reducible refine DL.w_I0 ?_ | with_reducible refine DL.w_eqI ?_ | with_reducible refine DL.w_neI ?_ | with_reducible refine DL.w_isN ?_ | with_reducible refine DL.w_notN ?_)
local macro_rules | `(tactic| walk_at "w") => `(tactic| (repeat walk_at "w2"; try dsimp only [List.set_cons_zero, List.set_cons_succ, List.cons_append, List.nil_append, List.replicate_succ, List.replicate_zero]))
abbrev rowD (r : LS.Row) : PyData := .tuple [.str r.1, .tuple (natsD r.2)]
abbrev shD (r : Sheet) : PyData := .tuple (r.map rowD)
theorem nats_empty (l : List Nat) : (natsD l).isEmpty = l.isEmpty := by
  cases l <;> rfl
structure ShOk (r : Sheet) : Prop where
  cl : Cl r
  ne : 0 < r.length
  ln : r.length ≤ 1000
  fl : ∀ k, k < r.length → (rowAt r k).2.length ≤ 10
theorem row_get {r : Sheet} {k : Nat} (h : k < r.length) : (r.map rowD)[k]? = some (rowD (rowAt r k)) := by
  rw [List.getElem?_map, row_some h]
  rfl
theorem last_none {k : L2.Key} : ∀ {l : List (L2.Key × PyData)} {o : Option PyData}, (∀ p, p ∈ l → p.1 ≠ k) → lastD k l o = o
  | [], _, _ => rfl
  | p :: r, o, h => by
    show lastD k r (if p.1 = k then some p.2 else o) = o
    rw [if_neg (h p List.mem_cons_self)]
    exact last_none fun q hq => h q (List.mem_cons_of_mem _ hq)
theorem last_some {k : L2.Key} : ∀ {l : List (L2.Key × PyData)} {o : Option PyData}, (∃ p, p ∈ l ∧ p.1 = k) → ∃ p, p ∈ l ∧ p.1 = k ∧ lastD k l o = some p.2
  | [], _, ⟨p, h, _⟩ => absurd h List.not_mem_nil
  | p :: r, o, h => by
    by_cases e : ∃ q, q ∈ r ∧ q.1 = k
    · obtain ⟨q, h1, h2, h3⟩ := last_some (o := if p.1 = k then some p.2 else o) e
      exact ⟨q, List.mem_cons_of_mem _ h1, h2, h3⟩
    · obtain ⟨q, h1, h2⟩ := h
      rcases List.mem_cons.mp h1 with rfl | h1
      · refine ⟨q, List.mem_cons_self, h2, ?_⟩
        show lastD k r (if q.1 = k then some q.2 else o) = _
        rw [if_pos h2]
        exact last_none fun x hx z => e ⟨x, hx, z⟩
      · exact absurd ⟨q, h1, h2⟩ e
theorem keys_put {kvs : List (PyData × PyData)} {k : L2.Key} {d : PyData} (h : ∀ p, p ∈ kvs → ∃ q : L2.Key, p.1 = keyD q) : ∀ p, p ∈ dputD kvs k d → ∃ q : L2.Key, p.1 = keyD q := by
  unfold dputD
  split
  · intro p hp
    obtain ⟨q, hq, rfl⟩ := List.mem_map.mp hp
    split
    · exact h q hq
    · exact h q hq
  · intro p hp
    rcases List.mem_append.mp hp with hp | hp
    · exact h p hp
    · rw [List.mem_singleton] at hp
      subst hp
      exact ⟨k, rfl⟩
theorem keys_merge : ∀ (l : List (L2.Key × PyData)) (kvs : List (PyData × PyData)), (∀ p, p ∈ kvs → ∃ q : L2.Key, p.1 = keyD q) → ∀ p, p ∈ mergeD kvs l → ∃ q : L2.Key, p.1 = keyD q
  | [], _, h => h
  | p :: r, kvs, h => keys_merge r (dputD kvs p.1 p.2) (keys_put h)
theorem head_keys {kvs : List (PyData × PyData)} (h : ∀ p, p ∈ kvs → ∃ q : L2.Key, p.1 = keyD q) : headK kvs = true := by
  match kvs, h with
  | [], _ => rfl
  | (k, d) :: r, h =>
    obtain ⟨q, hq⟩ := h (k, d) List.mem_cons_self
    have hq : k = keyD q := hq
    subst hq
    cases q <;> rfl
theorem head_merge (l : List (L2.Key × PyData)) : headK (mergeD [] l) = true := head_keys (keys_merge l [] fun p h => absurd h List.not_mem_nil)
theorem loop_done {g : DG} {b : DS} {E : DEnds} {L : List PyData} (J : List PyData → DSt → Prop)
    (step : ∀ done d rest s, done ++ d :: rest = L → J done s → ∀ N : DSt → Prop, (∀ s2, J (done ++ [d]) s2 → N s2) → g d (fun s1 => b { nx := N, rt := E.rt, ct := N, bk := E.nx } s1) s)
    (fin : ∀ s, J L s → E.nx s) {s : DSt} (h : J [] s) : dLoop g b E L s := by
  refine loop_rem (fun ds s => ∃ done, done ++ ds = L ∧ J done s) (fun d ds s ⟨done, e, h⟩ N hN => step done d ds s e h N fun s2 h2 => hN s2 ⟨done ++ [d], by rw [List.append_assoc]; exact e, h2⟩) (fun s ⟨done, e, h⟩ => fin s (by rw [List.append_nil] at e; rw [← e]; exact h)) L s ⟨[], rfl, h⟩
theorem rngD_nats (n : Nat) : rngD 0 n = natsD (List.range n) := by
  unfold rngD natsD
  refine List.map_congr_left fun k _ => ?_
  rw [Int.zero_add]
theorem nats_done {l : List Nat} {done : List PyData} {d : PyData} {rest : List PyData} (e : done ++ d :: rest = natsD l) : ∃ (a : List Nat) (k : Nat) (c : List Nat), done = natsD a ∧ d = .int (k : Nat) ∧ l = a ++ k :: c := by
  unfold natsD at e ⊢
  obtain ⟨a, b, rfl, h1, h2⟩ := List.append_eq_map_iff.mp e
  obtain ⟨k, c, rfl, h3, h4⟩ := List.map_eq_cons_iff.mp h2
  exact ⟨a, k, c, h1.symm, h3.symm, rfl⟩
theorem natsD_inj {a b : List Nat} (h : natsD a = natsD b) : a = b := by
  have z := F2.of_map_eq (R := fun x y : Nat => x = y) (fun x y q => by
    have q : ((x : Nat) : Int) = ((y : Nat) : Int) := PyData.int.inj q
    omega) h
  have w := F2.map_eq (f := id) (g := id) (fun _ _ q => q) z
  rwa [List.map_id, List.map_id] at w
theorem natsD_snoc (a : List Nat) (k : Nat) : natsD a ++ [PyData.int (k : Nat)] = natsD (a ++ [k]) := by
  unfold natsD
  rw [List.map_append]
  rfl
theorem range_mid {n k : Nat} {a c : List Nat} (h : List.range n = a ++ k :: c) : k < n ∧ ¬ k ∈ a ∧ a.length ≤ n := by
  have hk : k ∈ List.range n := by rw [h]; simp
  have hn := List.nodup_range (n := n)
  rw [h, List.nodup_append] at hn
  refine ⟨List.mem_range.mp hk, fun z => hn.2.2 k z k List.mem_cons_self rfl, ?_⟩
  have hl : (List.range n).length = (a ++ k :: c).length := by rw [h]
  rw [List.length_range, List.length_append] at hl
  omega
theorem noLk_nil : noLkB [] = true := rfl
theorem noLk_cons {x : DV} {xs : List DV} (h : isLk x = false) (t : noLkB xs = true) : noLkB (x :: xs) = true := by
  unfold noLkB at t ⊢
  rw [List.all_cons, h, t]
  rfl
theorem filt_nats {q : Nat → Bool} {p : PyData → Bool} (hp : ∀ k : Nat, p (.int (k : Nat)) = q k) : ∀ l : List Nat, (natsD l).filter p = natsD (l.filter q)
  | [] => rfl
  | k :: l => by
    have ih := filt_nats hp l
    unfold natsD at ih ⊢
    rw [List.map_cons, List.filter_cons, List.filter_cons, hp, ih]
    cases q k <;> rfl
theorem filt_first {q : Nat → Bool} {n i : Nat} (hi : i < n) (h1 : q i = true) (h2 : ∀ j, j < i → q j = false) : ((List.range n).filter q)[0]? = some i := by
  rw [← List.head?_eq_getElem?, List.head?_filter, List.find?_range_eq_some]
  exact ⟨h1, List.mem_range.mpr hi, fun j hj => by rw [h2 j hj]; rfl⟩
theorem first_nats {q : Nat → Bool} {p : PyData → Bool} (hp : ∀ k : Nat, p (.int (k : Nat)) = q k) {n i : Nat} (hi : i < n) (h1 : q i = true) (h2 : ∀ j, j < i → q j = false) : ((natsD (List.range n)).filter p)[0]? = some (.int (i : Nat)) := by
  rw [filt_nats hp]
  unfold natsD
  rw [List.getElem?_map, filt_first hi h1 h2]
  rfl
end K01

set_option Elab.async false
set_option linter.all false
set_option maxRecDepth 100000
set_option maxHeartbeats 4000000
/-! U01b: names and tags, by data. -/
namespace K01
open PySem PySem.Spec PyProof.Rows L2 GG DD PT DL LS
set_option simprocs false
local macro_rules | `(tactic| walk_at "w1") => `(tactic| with_reducible first
  | refine DL.w_seq ?_ | refine DL.w_next ?_ | refine DL.w_set ?_ | refine DL.w_setO ?_ | refine DL.w_if ?_ | refine DL.w_ret ?_ | refine DL.w_drop ?_
  | refine DL.w_par ?_ | refine DL.w_parL ?_ | refine DL.w_parR ?_ | refine DL.w_parLL ?_ | refine DL.w_asg ?_ | refine DL.w_for ?_ | refine DL.w_vsNil ?_ | refine DL.w_dIn ?_ | refine DL.w_dPut ?_
  | refine DL.w_gdN ?_ | refine DL.w_gdNil ?_ | refine DL.w_gdCons ?_
  | refine DL.w_c ?_ | refine DL.w_asL ?_ | refine DL.w_asU ?_ | refine DL.w_newL ?_ | refine DL.w_nil ?_ | refine DL.w_cons ?_ | refine DL.w_tup ?_ | refine DL.w_lst ?_ | refine DL.w_op ?_
  | refine DL.w_lenL ?_ | refine DL.w_lenD ?_ | refine DL.w_tupOf ?_ | refine DL.w_ifE ?_ | refine DL.w_cat ?_ | refine DL.w_rep ?_ | refine DL.w_call ?_ | refine DL.w_callP ?_
  | refine DL.w_xNil ?_ | refine DL.w_xCons ?_ | refine DL.w_all ?_ | refine DL.w_reprA ?_ | refine DL.w_isi ?_ | refine DL.w_andV ?_ | refine DL.w_newD ?_ | refine DL.w_dict0 ?_
  | refine DL.w_slD ?_ | refine DL.w_slU ?_ | refine DL.w_noP ?_ | refine DL.w_part ?_ | refine DL.w_listZip ?_ | refine DL.w_sortSI ?_ | refine DL.w_listRng ?_ | refine DL.w_setD ?_ | refine DL.w_dictL ?_ | refine DL.w_dictU ?_ | refine DL.w_disp ?_ | refine DL.w_psNil ?_ | refine DL.w_psCons ?_
  | refine DL.w_rng1 ?_ | refine DL.w_comp ?_ | refine DL.w_enum ?_ | refine DL.w_B ?_ | refine DL.w_and ?_ | refine DL.w_or ?_ | refine DL.w_not ?_ | refine DL.w_yes ?_
  | refine DL.w_par3 ?_ | refine DL.w_par3R ?_ | refine DL.w_par0L ?_ | refine DL.w_revL ?_ | refine DL.w_listQ ?_ | refine DL.w_star ?_ | refine DL.w_split ?_ | refine DL.w_intB ?_ | refine DL.w_dPutN ?_ | refine DL.w_dPutO ?_ | refine DL.w_listZipT ?_ | refine DL.w_callM ?_ | refine DL.w_inVar ?_ | refine DL.w_slS ?_ | refine DL.w_sortS ?_ | refine DL.w_dcomp ?_)
local macro_rules | `(tactic| walk_at "w2") => `(tactic| first
  | walk_at "w1"
  | ((with_reducible apply DL.w_var); (· rfl))
  | ((with_reducible apply DL.w_xDeck); (· rfl))
  | ((with_reducible apply DL.w_listO); (· rfl))
  | ((with_reducible apply DL.w_listD); (· rfl))
  | ((with_reducible apply DL.w_app); (· exact trivial))
  | ((with_reducible apply DL.w_popAt); (· exact trivial))
  | ((with_reducible apply DL.w_dGet); (· exact trivial))
  | ((with_reducible apply DL.w_listA); (· rfl))
  | ((with_reducible apply DL.w_ext); (· exact trivial))
  | ((with_reducible apply DL.w_dGetT); (· exact trivial))
  | ((with_reducible apply DL.w_xLast); (· exact trivial))
  | ((with_reducible apply DL.w_appA); (· rfl))
  | ((with_reducible apply DL.w_listDictO); (· rfl))
  | ((with_reducible apply DL.w_lenDictO); (· rfl))
  | ((with_reducible apply DL.w_catVarO); (· rfl))
  | ((with_reducible apply DL.w_catVarD); (· rfl))
  | ((with_reducible apply DL.w_tupLL); (· decide))
  | ((with_reducible apply DL.w_fzO); (· rfl))
  | ((with_reducible apply DL.w_fzD); (· rfl))
  | ((with_reducible apply DL.w_fz); (· rfl))
  | ((with_reducible apply DL.w_gdTup); (· rfl))
  | ((with_reducible refine And.intro ?_ ?_); (· first | rfl | exact True.intro | decide | (dsimp only [List.length_cons, List.length_nil]; decide)))
  | with_reducible refine DL.w_I0 ?_ | with_reducible refine DL.w_eqI ?_ | with_reducible refine DL.w_neI ?_ | with_reducible refine DL.w_isN ?_ | with_reducible refine DL.w_notN ?_)
local macro_rules | `(tactic| walk_at "w") => `(tactic| (repeat walk_at "w2"; try dsimp only [List.set_cons_zero, List.set_cons_succ, List.cons_append, List.nil_append, List.replicate_succ, List.replicate_zero]))
/-! ### pick -/
def F_pick : FD := bodyD (dB_pick F_draw) 0
theorem pick_list {ds : List PyData} {n : Nat} {P : PyData → Nat → Prop} (hn : n < 1000000) (h1 : 1 ≤ ds.length) (h2 : ds.length < 1000000) (h : ∀ d, d ∈ ds → P d (n + 1)) : F_pick [.deck, .dat (.list ds)] n P := by
  unfold F_pick bodyD dB_pick
  walk_at "w"
  refine w_draw hn h1 h2 fun v hv => ?_
  exact ⟨ds[v], atI_nat (List.getElem?_eq_getElem hv), h _ (List.getElem_mem hv)⟩
theorem pick_tup {ds : List PyData} {n : Nat} {P : PyData → Nat → Prop} (hn : n < 1000000) (h1 : 1 ≤ ds.length) (h2 : ds.length < 1000000) (h : ∀ d, d ∈ ds → P d (n + 1)) : F_pick [.deck, .dat (.tuple ds)] n P := by
  unfold F_pick bodyD dB_pick
  walk_at "w"
  refine w_draw hn h1 h2 fun v hv => ?_
  exact ⟨ds[v], atI_nat (List.getElem?_eq_getElem hv), h _ (List.getElem_mem hv)⟩
theorem cmul_l {i j : Int} (h : -(2 ^ 64) < i ∧ i < 2 ^ 64) : CMul i j := .inl h
/-! ### names -/
def lettersL : List Nat := ("abcdefghijklmnopqrstuvwxyz" : Str).cps.toList
def letterS (i : Nat) : Str := ⟨#[lettersL.getD i 0]⟩
theorem letters_at : ∀ i, i < 26 → lettersL[i]? = some (lettersL.getD i 0) := by decide +kernel
def wordsL : List Str := ["case", "part", "tag", "call", "ask", "same", "is", "not", "both", "either", "yes", "no", "and", "or", "none", "one", "root", "union", "take", "never", "number", "plus", "least", "most", "make", "test", "gather", "else", "rank", "tags", "voids"]
theorem words_eq : Txt.split "case part tag call ask same is not both either yes no and or none one root union take" " " ++ Txt.split "never number plus least most make test gather else rank tags voids" " " = wordsL := by decide +kernel
theorem words_at : ∀ i, i < 31 → wordsL[i]? = some (wordsL.getD i "") := by decide +kernel
def nm (w f k : Nat) : Str := [letterS ((f + 5 * k) % 26), wordsL.getD ((f + 3 * k) % 31) "", cutS "zyxwvuts" none (some ((1 + k % 8 : Nat) : Int)), "abcdefg" ++ letterS ((f + 5 * k) % 26)].getD w ""
structure NameOk (x : Str) : Prop where
  vo : x ≠ "void"
  lv : (PyData.str x).leavesShort 40 = true
  sz : x.cps.size ≤ 8
  so : PyData.strOk x = true
  up : (PyData.str (Txt.upper x)).leavesShort 40 = true ∧ (Txt.upper x).cps.size ≤ 8
theorem nm_up : ∀ w, w < 4 → ∀ f, f < 26 → ∀ k, k < 6 → (PyData.str (Txt.upper (nm w f k))).leavesShort 40 = true ∧ (Txt.upper (nm w f k)).cps.size ≤ 8 := by decide +kernel
theorem nm_ok : ∀ w, w < 4 → ∀ f, f < 26 → ∀ k, k < 6 → nm w f k ≠ "void" ∧ (PyData.str (nm w f k)).leavesShort 40 = true ∧ (nm w f k).cps.size ≤ 8 ∧ PyData.strOk (nm w f k) = true := by decide +kernel
theorem nm_ne : ∀ w, w < 4 → ∀ f, f < 26 → ∀ k, k < 6 → ∀ j, j < 6 → j = k ∨ nm w f j ≠ nm w f k := by decide +kernel
theorem pick4 {a b c d : Str} : ∀ w, w < 4 → ([.str a, .str b, .str c, .str d] : List PyData)[w]? = some (.str ([a, b, c, d].getD w ""))
  | 0, _ => rfl
  | 1, _ => rfl
  | 2, _ => rfl
  | 3, _ => rfl
  | _ + 4, h => by omega
theorem strs_map : ∀ l : List Str, strsD (l.map PyData.str) = some l
  | [] => rfl
  | x :: l => by
    have ih := strs_map l
    rw [List.map_cons, strsD, ih]
    rfl
structure NmOk (l : List Str) (many : Nat) : Prop where
  nd : l.Nodup
  ok : ∀ x, x ∈ l → NameOk x
  ln : l.length = many
def F_names : FD := bodyD (dB_names F_draw) 7
theorem names_spec {n many : Nat} {P : PyData → Nat → Prop} (hn : n + 10 ≤ 1000000) (hm : many ≤ 6) (h : ∀ l, NmOk l many → P (.list (l.map PyData.str)) (n + 2)) : F_names [.deck, .dat (.int (many : Nat))] n P := by
  unfold F_names bodyD dB_names
  walk_at "w"
  refine w_draw (L := 4) (by omega) (by omega) (by omega) fun w hw => ?_
  walk_at "w"
  refine w_draw (L := 26) (by omega) (by omega) (by omega) fun f hf => ?_
  walk_at "w"
  refine ⟨by rw [List.length_map, List.length_map]; decide +kernel, ?_⟩
  walk_at "w"
  rw [← List.map_append, words_eq]
  refine ⟨by omega, by omega, ?_⟩
  rw [Int.toNat_natCast, rngD_nats]
  refine loop_done (fun done s => ∃ a c7 c8, done = natsD a ∧ s = ⟨[.deck, .dat (.int (many : Nat)), .dat (.str "abcdefghijklmnopqrstuvwxyz"), .dat (.int (w : Nat)), .dat (.int (f : Nat)), .dat (.list (wordsL.map PyData.str)), .own ((a.map (nm w f)).map PyData.str), c7, c8], n + 1 + 1⟩) ?_ ?_ ⟨[], .un, .un, rfl, rfl⟩
  · rintro done d rest s e ⟨a, c7, c8, rfl, rfl⟩ N hN
    obtain ⟨a', k, c, e1, rfl, e2⟩ := nats_done e
    cases natsD_inj e1
    obtain ⟨hk, hka, hal⟩ := range_mid e2
    have q1 : ((f : Int) + 5 * (k : Int)) % 26 = (((f + 5 * k) % 26 : Nat) : Int) := by omega
    have q2 : ((f : Int) + 3 * (k : Int)) % 31 = (((f + 3 * k) % 31 : Nat) : Int) := by omega
    have q3 : (1 : Int) + (k : Int) % 8 = ((1 + k % 8 : Nat) : Int) := by omega
    have l1 : (f + 5 * k) % 26 < 26 := Nat.mod_lt _ (by omega)
    have l2 : (f + 3 * k) % 31 < 31 := Nat.mod_lt _ (by omega)
    walk_at "w"
    refine w_oI ?_ ?_
    · exact cmul_l (by decide)
    walk_at "w"
    refine w_oI ?_ ?_
    · decide
    rw [q1]
    refine w_ixS (by decide) (atI_nat (letters_at _ l1)) ?_
    walk_at "w"
    refine w_ixVarD rfl ?_
    walk_at "w"
    refine w_oI ?_ ?_
    · exact cmul_l (by decide)
    walk_at "w"
    refine w_oI ?_ ?_
    · decide
    walk_at "w"
    rw [q2]
    refine ⟨_, atI_nat (by rw [List.getElem?_map, words_at _ l2]; rfl), ?_⟩
    walk_at "w"
    refine w_B0 ?_
    walk_at "w"
    refine w_T (by rw [decide_eq_true_eq]; omega) ?_
    walk_at "w"
    refine w_oI ?_ ?_
    · decide
    walk_at "w"
    rw [q3]
    refine w_catS (Nat.le_trans (Nat.add_le_add (show (Str.ofString "abcdefg").length ≤ 10 by decide) (Nat.le_refl 1)) (by omega)) ?_
    walk_at "w"
    refine w_ixL (atI_nat (pick4 w hw)) ?_
    refine w_appK rfl (by rw [List.length_map, List.length_map]; omega) ?_
    refine hN _ ⟨a ++ [k], .dat (.int (k : Nat)), .dat (.str (letterS ((f + 5 * k) % 26))), natsD_snoc _ _, ?_⟩
    rw [List.map_append, List.map_append]
    rfl
  · rintro s ⟨a, c7, c8, e1, rfl⟩
    cases natsD_inj e1
    walk_at "w"
    refine ⟨_, strs_map _, by rw [List.length_map, List.length_range]; omega, fun ys hp hs => ?_⟩
    walk_at "w"
    refine h ys ⟨?_, fun x hx => ?_, by rw [hp.length_eq, List.length_map, List.length_range]⟩
    · refine hp.nodup_iff.mpr ?_
      unfold List.Nodup
      rw [List.pairwise_map]
      refine List.nodup_range.imp_of_mem fun {i j} hi hj hne => ?_
      exact (nm_ne w hw f hf j (Nat.lt_of_lt_of_le (List.mem_range.mp hj) hm) i (Nat.lt_of_lt_of_le (List.mem_range.mp hi) hm)).resolve_left hne
    · obtain ⟨k, hk, rfl⟩ := List.mem_map.mp (hp.subset hx)
      obtain ⟨a1, a2, a3, a4⟩ := nm_ok w hw f hf k (Nat.lt_of_lt_of_le (List.mem_range.mp hk) hm)
      exact ⟨a1, a2, a3, a4, nm_up w hw f hf k (Nat.lt_of_lt_of_le (List.mem_range.mp hk) hm)⟩
/-! ### tags -/
/-- each item gives something of its own, with at most k draws each -/
theorem lc_two {g : DG} {t : DT} {e : DE} {base : List DV} {P : List PyData → Nat → Prop} {n : Nat} {items : List PyData} (R : PyData → PyData → Prop) (k : Nat)
    (step : ∀ d, d ∈ items → ∀ m, m + k ≤ n + k * items.length → ∀ (Y : PyData → Nat → Prop) (Z : Nat → Prop), (∀ y m', R d y → m' ≤ m + k → Y y m') →
      g d (fun s1 => t s1 fun b s2 => if b = true then e s2 fun y s3 => s3.sl = s1.sl ∧ Y y s3.n else s2.sl = s1.sl ∧ Z s2.n) ⟨base, m⟩)
    (fin : ∀ ys m, F2 R items ys → m ≤ n + k * items.length → P ys m) : dLc g t e base items [] n P := by
  refine lc_rem (fun ds acc m => ∃ done, done ++ ds = items ∧ F2 R done acc ∧ m + k * ds.length ≤ n + k * items.length) (fun d ds acc m h Y Z hY hZ => ?_) (fun acc m h => ?_) items [] n ⟨[], rfl, .nil, Nat.le_refl _⟩
  · obtain ⟨done, h1, h3, h5⟩ := h
    rw [List.length_cons, Nat.mul_add, Nat.mul_one] at h5
    refine step d (by rw [← h1]; simp) m (by omega) Y Z fun y m' hR a2 => hY _ _ ⟨done ++ [d], by rw [List.append_assoc]; exact h1, h3.append (.cons hR .nil), by omega⟩
  · obtain ⟨done, h1, h3, h5⟩ := h
    rw [List.append_nil] at h1
    subst h1
    exact fin acc m h3 (by simpa using h5)
abbrev Tag := Str × Nat
abbrev tagD (t : Tag) : PyData := .tuple [.str t.1, .int (t.2 : Nat)]
abbrev tagsD (ts : List Tag) : PyData := .tuple (ts.map tagD)
structure TgOk (ts : List Tag) : Prop where
  nd : (ts.map (·.1)).Nodup
  ok : ∀ t, t ∈ ts → NameOk t.1 ∧ t.2 ≤ 3
  p : 0 < ts.length
  ln : ts.length ≤ 6
theorem tags_of {R : PyData → PyData → Prop} (hR : ∀ x y, R (.str x) y → ∃ c : Nat, c ≤ 3 ∧ y = tagD (x, c)) : ∀ {l : List Str} {ys : List PyData}, F2 R (l.map PyData.str) ys → ∃ ts : List Tag, ys = ts.map tagD ∧ ts.map (·.1) = l ∧ ∀ t, t ∈ ts → t.2 ≤ 3
  | [], _, h => by
    cases h
    exact ⟨[], rfl, rfl, fun t h => absurd h List.not_mem_nil⟩
  | x :: l, _, h => by
    rw [List.map_cons] at h
    cases h with
    | cons h t =>
      obtain ⟨c, hc, rfl⟩ := hR _ _ h
      obtain ⟨ts, rfl, e, h3⟩ := tags_of hR t
      refine ⟨(x, c) :: ts, rfl, by rw [List.map_cons, e], fun t ht => ?_⟩
      rcases List.mem_cons.mp ht with rfl | ht
      · exact hc
      · exact h3 t ht
def F_tags : FD := bodyD (dB_tags F_names F_draw F_pick) 2
theorem tags_spec {n : Nat} {P : PyData → Nat → Prop} (hn : n + 20 ≤ 1000000) (h : ∀ ts n', TgOk ts → n' ≤ n + 10 → P (tagsD ts) n') : F_tags [.deck] n P := by
  unfold F_tags bodyD dB_tags
  walk_at "w"
  refine w_draw (L := 6) (by omega) (by omega) (by omega) fun v hv => ?_
  have e1 : (1 : Int) + (v : Int) = ((1 + v : Nat) : Int) := by omega
  walk_at "w"
  rw [e1]
  refine names_spec (by omega) (by omega) fun l hl => ?_
  walk_at "w"
  have hll := hl.ln
  refine ⟨by rw [List.length_map]; omega, rfl, lc_two (fun d y => ∃ c : Nat, c ≤ 3 ∧ ∃ x, d = .str x ∧ y = tagD (x, c)) 1 (fun d hd m hm Y Z hY => ?_) fun ys m hys hm => ?_⟩
  · obtain ⟨x, hx, rfl⟩ := List.mem_map.mp hd
    rw [List.length_map] at hm
    walk_at "w"
    refine w_T rfl ?_
    walk_at "w"
    refine pick_list (by omega) (by decide) (by decide) fun d hd => ?_
    have hd' : d ∈ ([0, 0, 1, 2, 2, 3] : List Nat).map fun c => PyData.int (c : Nat) := hd
    obtain ⟨c, hc, rfl⟩ := List.mem_map.mp hd'
    have hc3 : ∀ c, c ∈ ([0, 0, 1, 2, 2, 3] : List Nat) → c ≤ 3 := by decide
    walk_at "w"
    exact hY _ _ ⟨c, hc3 c hc, x, rfl, rfl⟩ (Nat.le_refl _)
  · rw [List.length_map] at hm
    obtain ⟨ts, rfl, e2, e3⟩ := tags_of (fun x y ⟨c, hc, x', ex, hy⟩ => by
      cases ex
      exact ⟨c, hc, hy⟩) hys
    walk_at "w"
    have hl2 : ts.length = 1 + v := by rw [← hll, ← e2, List.length_map]
    refine h ts m ⟨by rw [e2]; exact hl.nd, fun t ht => ⟨hl.ok _ (by rw [← e2]; exact List.mem_map.mpr ⟨t, ht, rfl⟩), e3 t ht⟩, by omega, by omega⟩ (by omega)
end K01

set_option Elab.async false
set_option linter.all false
set_option maxRecDepth 100000
set_option maxHeartbeats 4000000
/-! U01c: names, entries, signatures, by data. -/
namespace K01
open PySem PySem.Spec PyProof.Rows L2 GG DD PT DL LS
set_option simprocs false
local macro_rules | `(tactic| walk_at "w1") => `(tactic| with_reducible first
  | refine DL.w_seq ?_ | refine DL.w_next ?_ | refine DL.w_set ?_ | refine DL.w_setO ?_ | refine DL.w_if ?_ | refine DL.w_ret ?_ | refine DL.w_drop ?_
  | refine DL.w_par ?_ | refine DL.w_parL ?_ | refine DL.w_parR ?_ | refine DL.w_parLL ?_ | refine DL.w_asg ?_ | refine DL.w_for ?_ | refine DL.w_vsNil ?_ | refine DL.w_dIn ?_ | refine DL.w_dPut ?_
  | refine DL.w_gdN ?_ | refine DL.w_gdNil ?_ | refine DL.w_gdCons ?_
  | refine DL.w_c ?_ | refine DL.w_asL ?_ | refine DL.w_asU ?_ | refine DL.w_newL ?_ | refine DL.w_nil ?_ | refine DL.w_cons ?_ | refine DL.w_tup ?_ | refine DL.w_lst ?_ | refine DL.w_op ?_
  | refine DL.w_lenL ?_ | refine DL.w_lenD ?_ | refine DL.w_tupOf ?_ | refine DL.w_ifE ?_ | refine DL.w_cat ?_ | refine DL.w_rep ?_ | refine DL.w_call ?_ | refine DL.w_callP ?_
  | refine DL.w_xNil ?_ | refine DL.w_xCons ?_ | refine DL.w_all ?_ | refine DL.w_reprA ?_ | refine DL.w_isi ?_ | refine DL.w_andV ?_ | refine DL.w_newD ?_ | refine DL.w_dict0 ?_
  | refine DL.w_slD ?_ | refine DL.w_slU ?_ | refine DL.w_noP ?_ | refine DL.w_part ?_ | refine DL.w_listZip ?_ | refine DL.w_sortSI ?_ | refine DL.w_listRng ?_ | refine DL.w_setD ?_ | refine DL.w_dictL ?_ | refine DL.w_dictU ?_ | refine DL.w_disp ?_ | refine DL.w_psNil ?_ | refine DL.w_psCons ?_
  | refine DL.w_rng1 ?_ | refine DL.w_comp ?_ | refine DL.w_enum ?_ | refine DL.w_B ?_ | refine DL.w_and ?_ | refine DL.w_or ?_ | refine DL.w_not ?_ | refine DL.w_yes ?_
  | refine DL.w_par3 ?_ | refine DL.w_par3R ?_ | refine DL.w_par0L ?_ | refine DL.w_revL ?_ | refine DL.w_listQ ?_ | refine DL.w_star ?_ | refine DL.w_split ?_ | refine DL.w_intB ?_ | refine DL.w_dPutN ?_ | refine DL.w_dPutO ?_ | refine DL.w_listZipT ?_ | refine DL.w_callM ?_ | refine DL.w_inVar ?_ | refine DL.w_slS ?_ | refine DL.w_sortS ?_ | refine DL.w_dcomp ?_
  | refine DL.w_notV ?_ | refine DL.w_neg ?_ | refine DL.w_chain ?_ | refine DL.w_B0 ?_ | refine DL.w_allG ?_ | refine DL.w_splat ?_ | refine DL.w_isB ?_ | refine DL.w_notB ?_ | refine DL.w_find ?_ | refine DL.w_upper ?_ | refine DL.w_strIt ?_ | refine DL.w_zipS ?_ | refine DL.w_revU ?_ | refine DL.w_strI ?_ | refine DL.w_rng2 ?_)
local macro_rules | `(tactic| walk_at "w2") => `(tactic| first
  | walk_at "w1"
  | ((with_reducible apply DL.w_var); (· rfl))
  | ((with_reducible apply DL.w_xDeck); (· rfl))
  | ((with_reducible apply DL.w_listO); (· rfl))
  | ((with_reducible apply DL.w_listD); (· rfl))
  | ((with_reducible apply DL.w_app); (· exact trivial))
  | ((with_reducible apply DL.w_popAt); (· exact trivial))
  | ((with_reducible apply DL.w_dGet); (· exact trivial))
  | ((with_reducible apply DL.w_listA); (· rfl))
  | ((with_reducible apply DL.w_ext); (· exact trivial))
  | ((with_reducible apply DL.w_dGetT); (· exact trivial))
  | ((with_reducible apply DL.w_xLast); (· exact trivial))
  | ((with_reducible apply DL.w_appA); (· rfl))
  | ((with_reducible apply DL.w_listDictO); (· rfl))
  | ((with_reducible apply DL.w_lenDictO); (· rfl))
  | ((with_reducible apply DL.w_catVarO); (· rfl))
  | ((with_reducible apply DL.w_catVarD); (· rfl))
  | ((with_reducible apply DL.w_tupLL); (· decide))
  | ((with_reducible apply DL.w_fzO); (· rfl))
  | ((with_reducible apply DL.w_fzD); (· rfl))
  | ((with_reducible apply DL.w_fz); (· rfl))
  | ((with_reducible apply DL.w_gdTup); (· rfl))
  | ((with_reducible refine And.intro ?_ ?_); (· first | rfl | exact True.intro | decide | (dsimp only [List.length_cons, List.length_nil]; decide)))
  | with_reducible refine DL.w_I0 ?_ | with_reducible refine DL.w_eqI ?_ | with_reducible refine DL.w_neI ?_ | with_reducible refine DL.w_isN ?_ | with_reducible refine DL.w_notN ?_)
local macro_rules | `(tactic| walk_at "w") => `(tactic| (repeat walk_at "w2"; try dsimp only [List.set_cons_zero, List.set_cons_succ, List.cons_append, List.nil_append, List.replicate_succ, List.replicate_zero]))
set_option pp.maxSteps 1500
def isT : PyData → Bool
  | .tuple _ => true
  | _ => false
def isS : PyData → Bool
  | .str _ => true
  | _ => false
def isI : PyData → Bool
  | .int _ => true
  | .bool _ => true
  | _ => false
def isBo : PyData → Bool
  | .bool _ => true
  | _ => false
theorem isi_T (d : PyData) : isaB (tyD d) "tuple" = some (isT d) := by cases d <;> rfl
theorem isi_S (d : PyData) : isaB (tyD d) "str" = some (isS d) := by cases d <;> rfl
theorem isi_I (d : PyData) : isaB (tyD d) "int" = some (isI d) := by cases d <;> rfl
theorem isi_B (d : PyData) : isaB (tyD d) "bool" = some (isBo d) := by cases d <;> rfl
def isIdx (L : Int) : PyData → Bool
  | .int i => decide (0 ≤ i) && decide (i < L)
  | _ => false
/-! ### is_integer, is_index -/
def F_is_integer : FD := bodyD dB_is_integer 0
theorem is_integer_spec {d : PyData} {n : Nat} {P : PyData → Nat → Prop} (h : P (.bool (isI d && !isBo d)) n) : F_is_integer [.dat d] n P := by
  unfold F_is_integer bodyD dB_is_integer
  walk_at "w"
  refine ⟨_, isi_I d, ?_⟩
  walk_at "w"
  refine w_ite (fun e => ?_) fun e => ?_
  · walk_at "w"
    refine ⟨_, isi_B d, ?_⟩
    rw [e, Bool.true_and] at h
    exact h
  · rw [e, Bool.false_and] at h
    exact h
def F_is_index : FD := bodyD (dB_is_index F_is_integer) 0
theorem is_index_spec {d : PyData} {c : Int} {n : Nat} {P : PyData → Nat → Prop} (h : P (.bool (isIdx c d)) n) : F_is_index [.dat d, .dat (.int c)] n P := by
  unfold F_is_index bodyD dB_is_index
  walk_at "w"
  refine is_integer_spec ?_
  walk_at "w"
  cases d with
  | int i =>
    refine w_T rfl ?_
    walk_at "w"
    have h : P (.bool (decide (0 ≤ i) && decide (i < c))) n := h
    refine w_ite (fun e => ?_) fun e => ?_
    · rw [e, Bool.true_and] at h
      walk_at "w"
      exact h
    · rw [e, Bool.false_and] at h
      exact h
  | _ => exact w_F rfl h
/-! ### names -/
def lowB (c : Nat) : Bool := decide (97 ≤ c) && decide (c ≤ 122)
/-- all signs are letters -/
def sgB : PyData → Bool
  | .str x => x.cps.toList.all lowB
  | _ => false
def nameB : PyData → Bool
  | .str x => decide (1 ≤ (x.length : Int)) && decide ((x.length : Int) ≤ 8) && sgB (.str x)
  | _ => false
theorem sg_all (x : Str) : (signsD x).all sgB = sgB (.str x) := by
  show (signsD x).all sgB = x.cps.toList.all lowB
  unfold signsD
  rw [List.all_map]
  refine congrArg (fun f => x.cps.toList.all f) (funext fun c => ?_)
  show ([c] : List Nat).all lowB = lowB c
  rw [List.all_cons, List.all_nil, Bool.and_true]
theorem lt_one (a b : Nat) : decide (([a] : List Nat) < [b]) = decide (a < b) := by
  refine decide_eq_decide.mpr ?_
  rw [List.cons_lt_cons_iff]
  constructor
  · rintro (h | ⟨_, h⟩)
    · exact h
    · exact absurd h (List.not_lt_nil _)
  · exact Or.inl
theorem between (c : Nat) : (!decide ((⟨#[c]⟩ : Str).cps.toList < ("a" : Str).cps.toList) && !decide (("z" : Str).cps.toList < (⟨#[c]⟩ : Str).cps.toList)) = lowB c := by
  show (!decide (([c] : List Nat) < [97]) && !decide (([122] : List Nat) < [c])) = lowB c
  rw [lt_one, lt_one]
  unfold lowB
  have h1 : (!decide (c < 97)) = decide (97 ≤ c) := by
    by_cases h : c < 97
    · rw [decide_eq_true h, decide_eq_false (by omega)]
      rfl
    · rw [decide_eq_false h, decide_eq_true (by omega)]
      rfl
  have h2 : (!decide (122 < c)) = decide (c ≤ 122) := by
    by_cases h : 122 < c
    · rw [decide_eq_true h, decide_eq_false (by omega)]
      rfl
    · rw [decide_eq_false h, decide_eq_true (by omega)]
      rfl
  rw [h1, h2]
theorem letters_eq : ("abcdefghijklmnopqrstuvwxyz" : Str).cps.toList = (List.range 26).map (· + 97) := by decide +kernel
theorem low_mem (c : Nat) : decide (c ∈ ("abcdefghijklmnopqrstuvwxyz" : Str).cps.toList) = lowB c := by
  rw [letters_eq]
  unfold lowB
  by_cases h : 97 ≤ c ∧ c ≤ 122
  · rw [decide_eq_true (List.mem_map.mpr ⟨c - 97, List.mem_range.mpr (by omega), by omega⟩), decide_eq_true h.1, decide_eq_true h.2]
    rfl
  · rw [decide_eq_false (fun z => ?_)]
    · by_cases h1 : 97 ≤ c
      · rw [decide_eq_true h1, decide_eq_false (fun h2 => h ⟨h1, h2⟩)]
        rfl
      · rw [decide_eq_false h1]
        rfl
    · obtain ⟨k, hk, e⟩ := List.mem_map.mp z
      have := List.mem_range.mp hk
      exact h ⟨by omega, by omega⟩
theorem find_neg (z : Str) (c : Nat) : decide (Txt.find z ⟨#[c]⟩ < 0) = !decide (c ∈ z.cps.toList) := by
  rw [← PySem.StrLaws.found_one z c]
  unfold Txt.find
  cases e : Builtin.Str.occurrences z ⟨#[c]⟩ 0 z.length 1 with
  | nil => rfl
  | cons i r =>
    have h : ¬ ((i : Int) < 0) := by omega
    rw [decide_eq_false h]
    rfl
abbrev Len6 (d : PyData) : Prop := ∀ x, d = .str x → x.length ≤ 1000000
def F_is_name : FD := bodyD dB_is_name 1
theorem is_name_spec {d : PyData} (hl : Len6 d) {n : Nat} {P : PyData → Nat → Prop} (h : P (.bool (nameB d)) n) : F_is_name [.dat d] n P := by
  unfold F_is_name bodyD dB_is_name
  walk_at "w"
  refine ⟨_, isi_S d, ?_⟩
  walk_at "w"
  cases d with
  | str x =>
    have hx := hl x rfl
    refine w_F rfl ?_
    walk_at "w"
    refine ⟨hx, ?_⟩
    walk_at "w"
    have h : P (.bool (decide (1 ≤ (x.length : Int)) && decide ((x.length : Int) ≤ 8) && sgB (.str x))) n := h
    refine w_ite (fun e => ?_) fun e => ?_
    · walk_at "w"
      rw [e, Bool.true_and] at h
      refine w_ite (fun e2 => ?_) fun e2 => ?_
      · rw [not_t e2, Bool.false_and] at h
        walk_at "w"
        exact h
      · rw [not_f e2, Bool.true_and] at h
        walk_at "w"
        refine ag_all sgB (fun d hd Y Z hY => ?_) ?_
        · obtain ⟨c, hc, rfl⟩ := List.mem_map.mp hd
          have hY : Y (.bool (lowB c)) n := by
            have e : sgB (.str ⟨#[c]⟩) = lowB c := by
              show ([c] : List Nat).all lowB = lowB c
              rw [List.all_cons, List.all_nil, Bool.and_true]
            rw [← e]
            exact hY
          walk_at "w"
          refine w_T rfl ?_
          walk_at "w"
          refine w_S ?_
          rw [← between] at hY
          refine w_ite (fun e => ?_) fun e => ?_
          · rw [e, Bool.true_and] at hY
            walk_at "w"
            refine w_S ?_
            exact ⟨rfl, hY⟩
          · rw [e, Bool.false_and] at hY
            exact ⟨rfl, hY⟩
        · rw [sg_all]
          exact h
    · rw [e, Bool.false_and, Bool.false_and] at h
      walk_at "w"
      refine w_T rfl ?_
      walk_at "w"
      exact h
  | _ =>
    refine w_T rfl ?_
    walk_at "w"
    refine w_T rfl ?_
    walk_at "w"
    exact h
def F_l_is_name : FD := bodyD dB_l_is_name 1
theorem filt_all {α : Type} (f : α → Bool) : ∀ l : List α, (l.filter fun x => !f x).isEmpty = l.all f
  | [] => rfl
  | a :: l => by
    rw [List.filter_cons, List.all_cons, ← filt_all f l]
    cases f a <;> rfl
theorem l_is_name_spec {d : PyData} (hl : Len6 d) {n : Nat} {P : PyData → Nat → Prop} (h : P (.bool (nameB d)) n) : F_l_is_name [.dat d] n P := by
  unfold F_l_is_name bodyD dB_l_is_name
  walk_at "w"
  refine ⟨_, isi_S d, ?_⟩
  walk_at "w"
  cases d with
  | str x =>
    have hx := hl x rfl
    refine w_F rfl ?_
    walk_at "w"
    refine ⟨hx, ?_⟩
    walk_at "w"
    have h : P (.bool (decide (1 ≤ (x.length : Int)) && decide ((x.length : Int) ≤ 8) && sgB (.str x))) n := h
    have e1 : decide ((0 : Int) < (x.length : Nat)) = decide (1 ≤ (x.length : Int)) := decide_eq_decide.mpr (by omega)
    have e9 : decide (((x.length : Nat) : Int) < 9) = decide ((x.length : Int) ≤ 8) := decide_eq_decide.mpr (by omega)
    rw [e1]
    refine w_ite (fun e => ?_) fun e => ?_
    · walk_at "w"
      rw [e9]
      rw [e, Bool.true_and] at h
      refine w_ite (fun e2 => ?_) fun e2 => ?_
      · rw [not_t e2, Bool.false_and] at h
        walk_at "w"
        exact h
      · have e2 := not_f e2
        rw [e2, Bool.true_and] at h
        have h8 := of_decide_eq_true e2
        walk_at "w"
        refine ⟨by unfold signsD; rw [List.length_map, Array.length_toList]; show x.length ≤ 1000; omega, rfl, lc_filter (fun d => !sgB d) (fun d hd Y Z hY hZ => ?_) ?_⟩
        · obtain ⟨c, hc, rfl⟩ := List.mem_map.mp hd
          have e : sgB (.str ⟨#[c]⟩) = lowB c := by
            show ([c] : List Nat).all lowB = lowB c
            rw [List.all_cons, List.all_nil, Bool.and_true]
          rw [e] at hY hZ
          walk_at "w"
          rw [find_neg, low_mem]
          refine w_ite (fun e => ?_) fun e => ?_
          · walk_at "w"
            exact hY e
          · exact ⟨rfl, hZ e⟩
        · walk_at "w"
          refine w_eqMtL ?_
          rw [filt_all, sg_all]
          exact h
    · rw [e, Bool.false_and, Bool.false_and] at h
      walk_at "w"
      refine w_T rfl ?_
      walk_at "w"
      exact h
  | _ =>
    refine w_T rfl ?_
    walk_at "w"
    refine w_T rfl ?_
    walk_at "w"
    exact h
end K01

set_option Elab.async false
set_option linter.all false
set_option maxRecDepth 100000
set_option maxHeartbeats 4000000
/-! U01d: entries, signatures, by data. -/
namespace K01
open PySem PySem.Spec PyProof.Rows L2 GG DD PT DL LS
set_option simprocs false
local macro_rules | `(tactic| walk_at "w1") => `(tactic| with_reducible first
  | refine DL.w_seq ?_ | refine DL.w_next ?_ | refine DL.w_set ?_ | refine DL.w_setO ?_ | refine DL.w_if ?_ | refine DL.w_ret ?_ | refine DL.w_drop ?_
  | refine DL.w_par ?_ | refine DL.w_parL ?_ | refine DL.w_parR ?_ | refine DL.w_parLL ?_ | refine DL.w_asg ?_ | refine DL.w_for ?_ | refine DL.w_vsNil ?_ | refine DL.w_dIn ?_ | refine DL.w_dPut ?_
  | refine DL.w_gdN ?_ | refine DL.w_gdNil ?_ | refine DL.w_gdCons ?_
  | refine DL.w_c ?_ | refine DL.w_asL ?_ | refine DL.w_asU ?_ | refine DL.w_newL ?_ | refine DL.w_nil ?_ | refine DL.w_cons ?_ | refine DL.w_tup ?_ | refine DL.w_lst ?_ | refine DL.w_op ?_
  | refine DL.w_lenL ?_ | refine DL.w_lenD ?_ | refine DL.w_tupOf ?_ | refine DL.w_ifE ?_ | refine DL.w_cat ?_ | refine DL.w_rep ?_ | refine DL.w_call ?_ | refine DL.w_callP ?_
  | refine DL.w_xNil ?_ | refine DL.w_xCons ?_ | refine DL.w_all ?_ | refine DL.w_reprA ?_ | refine DL.w_isi ?_ | refine DL.w_andV ?_ | refine DL.w_newD ?_ | refine DL.w_dict0 ?_
  | refine DL.w_slD ?_ | refine DL.w_slU ?_ | refine DL.w_noP ?_ | refine DL.w_part ?_ | refine DL.w_listZip ?_ | refine DL.w_sortSI ?_ | refine DL.w_listRng ?_ | refine DL.w_setD ?_ | refine DL.w_dictL ?_ | refine DL.w_dictU ?_ | refine DL.w_disp ?_ | refine DL.w_psNil ?_ | refine DL.w_psCons ?_
  | refine DL.w_rng1 ?_ | refine DL.w_comp ?_ | refine DL.w_enum ?_ | refine DL.w_B ?_ | refine DL.w_and ?_ | refine DL.w_or ?_ | refine DL.w_not ?_ | refine DL.w_yes ?_
  | refine DL.w_par3 ?_ | refine DL.w_par3R ?_ | refine DL.w_par0L ?_ | refine DL.w_revL ?_ | refine DL.w_listQ ?_ | refine DL.w_star ?_ | refine DL.w_split ?_ | refine DL.w_intB ?_ | refine DL.w_dPutN ?_ | refine DL.w_dPutO ?_ | refine DL.w_listZipT ?_ | refine DL.w_callM ?_ | refine DL.w_inVar ?_ | refine DL.w_slS ?_ | refine DL.w_sortS ?_ | refine DL.w_dcomp ?_
  | refine DL.w_notV ?_ | refine DL.w_neg ?_ | refine DL.w_chain ?_ | refine DL.w_B0 ?_ | refine DL.w_allG ?_ | refine DL.w_splat ?_ | refine DL.w_isB ?_ | refine DL.w_notB ?_ | refine DL.w_find ?_ | refine DL.w_upper ?_ | refine DL.w_strIt ?_ | refine DL.w_zipS ?_ | refine DL.w_revU ?_ | refine DL.w_strI ?_ | refine DL.w_rng2 ?_)
local macro_rules | `(tactic| walk_at "w2") => `(tactic| first
  | walk_at "w1"
  | ((with_reducible apply DL.w_var); (· rfl))
  | ((with_reducible apply DL.w_xDeck); (· rfl))
  | ((with_reducible apply DL.w_listO); (· rfl))
  | ((with_reducible apply DL.w_listD); (· rfl))
  | ((with_reducible apply DL.w_app); (· exact trivial))
  | ((with_reducible apply DL.w_popAt); (· exact trivial))
  | ((with_reducible apply DL.w_dGet); (· exact trivial))
  | ((with_reducible apply DL.w_listA); (· rfl))
  | ((with_reducible apply DL.w_ext); (· exact trivial))
  | ((with_reducible apply DL.w_dGetT); (· exact trivial))
  | ((with_reducible apply DL.w_xLast); (· exact trivial))
  | ((with_reducible apply DL.w_appA); (· rfl))
  | ((with_reducible apply DL.w_listDictO); (· rfl))
  | ((with_reducible apply DL.w_lenDictO); (· rfl))
  | ((with_reducible apply DL.w_catVarO); (· rfl))
  | ((with_reducible apply DL.w_catVarD); (· rfl))
  | ((with_reducible apply DL.w_tupLL); (· decide))
  | ((with_reducible apply DL.w_fzO); (· rfl))
  | ((with_reducible apply DL.w_fzD); (· rfl))
  | ((with_reducible apply DL.w_fz); (· rfl))
  | ((with_reducible apply DL.w_gdTup); (· rfl))
  | ((with_reducible refine And.intro ?_ ?_); (· first | rfl | exact True.intro | decide | (dsimp only [List.length_cons, List.length_nil]; decide)))
  | with_reducible refine DL.w_I0 ?_ | with_reducible refine DL.w_eqI ?_ | with_reducible refine DL.w_neI ?_ | with_reducible refine DL.w_isN ?_ | with_reducible refine DL.w_notN ?_)
local macro_rules | `(tactic| walk_at "w") => `(tactic| (repeat walk_at "w2"; try dsimp only [List.set_cons_zero, List.set_cons_succ, List.cons_append, List.nil_append, List.replicate_succ, List.replicate_zero]))
set_option pp.maxSteps 1500
def isV : PyData → Bool
  | .str x => decide (x = "void")
  | _ => false
/-- an entry: a pair of a tag and a number -/
def entB : PyData → Bool
  | .tuple [t, c] => nameB t && !isV t && isIdx 4 c
  | _ => false
theorem ent_notT {d : PyData} (h : isT d = false) : entB d = false := by
  cases d <;> first | rfl | cases h
theorem ent_len {ds : List PyData} (h : ds.length ≠ 2) : entB (.tuple ds) = false := by
  rcases ds with _ | ⟨a, _ | ⟨b, _ | ⟨c, r⟩⟩⟩
  · rfl
  · rfl
  · exact absurd rfl h
  · rfl
theorem len_two {ds : List PyData} (h : ds.length = 2) : ∃ a b, ds = [a, b] := by
  rcases ds with _ | ⟨a, _ | ⟨b, _ | ⟨c, r⟩⟩⟩
  · cases h
  · cases h
  · exact ⟨a, b, rfl⟩
  · simp only [List.length_cons] at h
    omega
theorem name_str {d : PyData} (h : nameB d = true) : ∃ x, d = .str x := by
  cases d <;> first | exact ⟨_, rfl⟩ | cases h
/-- texts of pairs are not too long -/
def Len6E (d : PyData) : Prop := ∀ ds, d = .tuple ds → ∀ e, e ∈ ds → Len6 e
def F_is_entry : FD := bodyD (dB_is_entry F_is_name F_is_index) 2
theorem is_entry_spec {d : PyData} (hl : Len6E d) {n : Nat} {P : PyData → Nat → Prop} (h : P (.bool (entB d)) n) : F_is_entry [.dat d] n P := by
  unfold F_is_entry bodyD dB_is_entry
  walk_at "w"
  refine ⟨_, isi_T d, ?_⟩
  walk_at "w"
  cases eT : isT d with
  | false =>
    refine w_T rfl ?_
    walk_at "w"
    refine w_T rfl ?_
    walk_at "w"
    rw [ent_notT eT] at h
    exact h
  | true =>
    cases d with
    | tuple ds =>
      refine w_F rfl ?_
      walk_at "w"
      by_cases e2 : ds.length = 2
      · obtain ⟨a, b, rfl⟩ := len_two e2
        refine w_F rfl ?_
        walk_at "w"
        refine is_name_spec (hl _ rfl a List.mem_cons_self) ?_
        walk_at "w"
        have h : P (.bool (nameB a && !isV a && isIdx 4 b)) n := h
        refine w_ite (fun e => ?_) fun e => ?_
        · obtain ⟨x, rfl⟩ := name_str e
          rw [e, Bool.true_and] at h
          have h : P (.bool (!decide (x = "void") && isIdx 4 b)) n := h
          walk_at "w"
          refine w_neS ?_
          walk_at "w"
          refine w_ite (fun e3 => ?_) fun e3 => ?_
          · rw [e3, Bool.true_and] at h
            walk_at "w"
            exact is_index_spec h
          · rw [e3, Bool.false_and] at h
            walk_at "w"
            exact h
        · rw [e, Bool.false_and, Bool.false_and] at h
          walk_at "w"
          exact h
      · have e3 : ¬ ((ds.length : Nat) : Int) = 2 := by omega
        rw [decide_eq_false e3]
        refine w_T rfl ?_
        walk_at "w"
        rw [ent_len e2] at h
        exact h
    | _ => cases eT
def F_l_is_entry : FD := bodyD (dB_l_is_entry F_l_is_name) 0
theorem l_is_entry_spec {d : PyData} (hl : Len6E d) {n : Nat} {P : PyData → Nat → Prop} (h : P (.bool (entB d)) n) : F_l_is_entry [.dat d] n P := by
  unfold F_l_is_entry bodyD dB_l_is_entry
  walk_at "w"
  refine ⟨_, isi_T d, ?_⟩
  walk_at "w"
  cases eT : isT d with
  | false =>
    refine w_T rfl ?_
    walk_at "w"
    refine w_T rfl ?_
    walk_at "w"
    rw [ent_notT eT] at h
    exact h
  | true =>
    cases d with
    | tuple ds =>
      refine w_F rfl ?_
      walk_at "w"
      by_cases e2 : ds.length = 2
      · obtain ⟨a, b, rfl⟩ := len_two e2
        refine w_F rfl ?_
        walk_at "w"
        refine w_ixU rfl ?_
        walk_at "w"
        refine l_is_name_spec (hl _ rfl a List.mem_cons_self) ?_
        walk_at "w"
        have h : P (.bool (nameB a && !isV a && isIdx 4 b)) n := h
        refine w_ite (fun e => ?_) fun e => ?_
        · rw [not_t e, Bool.false_and, Bool.false_and] at h
          walk_at "w"
          refine w_T rfl ?_
          walk_at "w"
          exact h
        · have e := not_f e
          obtain ⟨x, rfl⟩ := name_str e
          rw [e, Bool.true_and] at h
          have h : P (.bool (!decide (x = "void") && isIdx 4 b)) n := h
          walk_at "w"
          refine w_ixU rfl ?_
          walk_at "w"
          refine w_eqS ?_
          walk_at "w"
          refine w_ite (fun e3 => ?_) fun e3 => ?_
          · rw [e3] at h
            walk_at "w"
            exact h
          · rw [e3, Bool.not_false, Bool.true_and] at h
            walk_at "w"
            refine w_ixU rfl ?_
            walk_at "w"
            refine ⟨_, isi_I b, ?_⟩
            walk_at "w"
            cases b with
            | int i =>
              refine w_T rfl ?_
              walk_at "w"
              refine w_ixU rfl ?_
              walk_at "w"
              refine ⟨_, isi_B _, ?_⟩
              walk_at "w"
              refine w_T rfl ?_
              walk_at "w"
              refine w_ixU rfl ?_
              walk_at "w"
              have h : P (.bool (decide (0 ≤ i) && decide (i < 4))) n := h
              refine w_ite (fun e => ?_) fun e => ?_
              · walk_at "w"
                rw [e, Bool.true_and] at h
                have e4 : decide (i ≤ 3) = decide (i < 4) := decide_eq_decide.mpr (by omega)
                rw [e4]
                exact h
              · rw [e, Bool.false_and] at h
                exact h
            | bool k =>
              refine w_T rfl ?_
              walk_at "w"
              refine w_ixU rfl ?_
              walk_at "w"
              refine ⟨_, isi_B _, ?_⟩
              walk_at "w"
              refine w_F rfl ?_
              exact h
            | _ =>
              refine w_F rfl ?_
              exact h
      · have e3 : ¬ ((ds.length : Nat) : Int) = 2 := by omega
        rw [decide_eq_false e3]
        refine w_T rfl ?_
        walk_at "w"
        rw [ent_len e2] at h
        refine w_T rfl ?_
        walk_at "w"
        exact h
    | _ => cases eT
end K01

set_option Elab.async false
set_option linter.all false
set_option maxRecDepth 100000
set_option maxHeartbeats 4000000
/-! U01e: signatures, by data. -/
namespace K01
open PySem PySem.Spec PyProof.Rows L2 GG DD PT DL LS
set_option simprocs false
local macro_rules | `(tactic| walk_at "w1") => `(tactic| with_reducible first
  | refine DL.w_seq ?_ | refine DL.w_next ?_ | refine DL.w_set ?_ | refine DL.w_setO ?_ | refine DL.w_if ?_ | refine DL.w_ret ?_ | refine DL.w_drop ?_
  | refine DL.w_par ?_ | refine DL.w_parL ?_ | refine DL.w_parR ?_ | refine DL.w_parLL ?_ | refine DL.w_asg ?_ | refine DL.w_for ?_ | refine DL.w_vsNil ?_ | refine DL.w_dIn ?_ | refine DL.w_dPut ?_
  | refine DL.w_gdN ?_ | refine DL.w_gdNil ?_ | refine DL.w_gdCons ?_
  | refine DL.w_c ?_ | refine DL.w_asL ?_ | refine DL.w_asU ?_ | refine DL.w_newL ?_ | refine DL.w_nil ?_ | refine DL.w_cons ?_ | refine DL.w_tup ?_ | refine DL.w_lst ?_ | refine DL.w_op ?_
  | refine DL.w_lenL ?_ | refine DL.w_lenD ?_ | refine DL.w_tupOf ?_ | refine DL.w_ifE ?_ | refine DL.w_cat ?_ | refine DL.w_rep ?_ | refine DL.w_call ?_ | refine DL.w_callP ?_
  | refine DL.w_xNil ?_ | refine DL.w_xCons ?_ | refine DL.w_all ?_ | refine DL.w_reprA ?_ | refine DL.w_isi ?_ | refine DL.w_andV ?_ | refine DL.w_newD ?_ | refine DL.w_dict0 ?_
  | refine DL.w_slD ?_ | refine DL.w_slU ?_ | refine DL.w_noP ?_ | refine DL.w_part ?_ | refine DL.w_listZip ?_ | refine DL.w_sortSI ?_ | refine DL.w_listRng ?_ | refine DL.w_setD ?_ | refine DL.w_dictL ?_ | refine DL.w_dictU ?_ | refine DL.w_disp ?_ | refine DL.w_psNil ?_ | refine DL.w_psCons ?_
  | refine DL.w_rng1 ?_ | refine DL.w_comp ?_ | refine DL.w_enum ?_ | refine DL.w_B ?_ | refine DL.w_and ?_ | refine DL.w_or ?_ | refine DL.w_not ?_ | refine DL.w_yes ?_
  | refine DL.w_par3 ?_ | refine DL.w_par3R ?_ | refine DL.w_par0L ?_ | refine DL.w_revL ?_ | refine DL.w_listQ ?_ | refine DL.w_star ?_ | refine DL.w_split ?_ | refine DL.w_intB ?_ | refine DL.w_dPutN ?_ | refine DL.w_dPutO ?_ | refine DL.w_listZipT ?_ | refine DL.w_callM ?_ | refine DL.w_inVar ?_ | refine DL.w_slS ?_ | refine DL.w_sortS ?_ | refine DL.w_dcomp ?_
  | refine DL.w_notV ?_ | refine DL.w_neg ?_ | refine DL.w_chain ?_ | refine DL.w_B0 ?_ | refine DL.w_allG ?_ | refine DL.w_splat ?_ | refine DL.w_isB ?_ | refine DL.w_notB ?_ | refine DL.w_find ?_ | refine DL.w_upper ?_ | refine DL.w_strIt ?_ | refine DL.w_zipS ?_ | refine DL.w_revU ?_ | refine DL.w_strI ?_ | refine DL.w_rng2 ?_)
local macro_rules | `(tactic| walk_at "w2") => `(tactic| first
  | walk_at "w1"
  | ((with_reducible apply DL.w_var); (· rfl))
  | ((with_reducible apply DL.w_xDeck); (· rfl))
  | ((with_reducible apply DL.w_listO); (· rfl))
  | ((with_reducible apply DL.w_listD); (· rfl))
  | ((with_reducible apply DL.w_app); (· exact trivial))
  | ((with_reducible apply DL.w_popAt); (· exact trivial))
  | ((with_reducible apply DL.w_dGet); (· exact trivial))
  | ((with_reducible apply DL.w_listA); (· rfl))
  | ((with_reducible apply DL.w_ext); (· exact trivial))
  | ((with_reducible apply DL.w_dGetT); (· exact trivial))
  | ((with_reducible apply DL.w_xLast); (· exact trivial))
  | ((with_reducible apply DL.w_appA); (· rfl))
  | ((with_reducible apply DL.w_listDictO); (· rfl))
  | ((with_reducible apply DL.w_lenDictO); (· rfl))
  | ((with_reducible apply DL.w_catVarO); (· rfl))
  | ((with_reducible apply DL.w_catVarD); (· rfl))
  | ((with_reducible apply DL.w_tupLL); (· decide))
  | ((with_reducible apply DL.w_fzO); (· rfl))
  | ((with_reducible apply DL.w_fzD); (· rfl))
  | ((with_reducible apply DL.w_fz); (· rfl))
  | ((with_reducible apply DL.w_gdTup); (· rfl))
  | ((with_reducible refine And.intro ?_ ?_); (· first | rfl | exact True.intro | decide | (dsimp only [List.length_cons, List.length_nil]; decide)))
  | with_reducible refine DL.w_I0 ?_ | with_reducible refine DL.w_eqI ?_ | with_reducible refine DL.w_neI ?_ | with_reducible refine DL.w_isN ?_ | with_reducible refine DL.w_notN ?_)
local macro_rules | `(tactic| walk_at "w") => `(tactic| (repeat walk_at "w2"; try dsimp only [List.set_cons_zero, List.set_cons_succ, List.cons_append, List.nil_append, List.replicate_succ, List.replicate_zero]))
set_option pp.maxSteps 1500
def nmOf : PyData → List Nat
  | .tuple (.str x :: _) => x.cps.toList
  | _ => []
def fstD : PyData → PyData
  | .tuple (a :: _) => a
  | _ => .none
/-- each tag is behind the one ahead of it -/
def ascB (ds : List PyData) : Bool := (List.range (ds.length - 1)).all fun k => decide (nmOf (ds.getD k .none) < nmOf (ds.getD (k + 1) .none))
def sigB : PyData → Bool
  | .tuple ds => ds.all entB && ascB ds
  | _ => false
theorem ent_form {d : PyData} (h : entB d = true) : ∃ x c, d = .tuple [.str x, c] := by
  cases d with
  | tuple ds =>
    by_cases e2 : ds.length = 2
    · obtain ⟨a, b, rfl⟩ := len_two e2
      have h : (nameB a && !isV a && isIdx 4 b) = true := h
      rw [Bool.and_eq_true, Bool.and_eq_true] at h
      obtain ⟨x, rfl⟩ := name_str h.1.1
      exact ⟨x, b, rfl⟩
    · rw [ent_len e2] at h
      cases h
  | _ => cases h
theorem cut_init (xs : List PyData) : DL.cutD xs none (some (-1)) = xs.dropLast := by
  unfold DL.cutD
  rw [HT.sIx_none, List.drop_zero, Nat.sub_zero, List.dropLast_eq_take]
  have e : HT.sIx xs.length xs.length (some (-1)) = xs.length - 1 := by
    show (if (-1 : Int) < 0 then ((-1 : Int) + (xs.length : Int)).toNat else min (-1 : Int).toNat xs.length) = _
    rw [if_pos (by omega)]
    omega
  rw [e]
theorem cut_tail (xs : List PyData) : DL.cutD xs (some 1) none = xs.drop 1 := by
  rw [show (1 : Int) = ((1 : Nat) : Int) from rfl, cut_from]
theorem getD_some {α : Type} {l : List α} {k : Nat} {x : α} (h : k < l.length) : l[k]? = some (l.getD k x) := by
  rw [List.getD_eq_getElem?_getD, List.getElem?_eq_getElem h]
  rfl
theorem zip_next (ds : List PyData) : zipD ds.dropLast (ds.drop 1) = (List.range (ds.length - 1)).map fun k => .tuple [ds.getD k .none, ds.getD (k + 1) .none] := by
  unfold zipD
  refine List.ext_getElem? fun i => ?_
  rw [List.getElem?_map, List.getElem?_map]
  by_cases h : i < ds.length - 1
  · have e1 : ds.dropLast[i]? = some (ds.getD i .none) := by
      rw [List.getElem?_dropLast, if_pos h]
      exact getD_some (by omega)
    have e2 : (ds.drop 1)[i]? = some (ds.getD (i + 1) .none) := by
      rw [List.getElem?_drop, Nat.add_comm]
      exact getD_some (by omega)
    rw [List.getElem?_zip_eq_some (z := (ds.getD i .none, ds.getD (i + 1) .none)) |>.mpr ⟨e1, e2⟩, List.getElem?_range h]
    rfl
  · rw [List.getElem?_eq_none (by rw [List.length_zip, List.length_dropLast, List.length_drop]; omega), List.getElem?_eq_none (by rw [List.length_range]; omega)]
    rfl
def ltP : PyData → Bool
  | .tuple [a, b] => decide (nmOf a < nmOf b)
  | _ => false
theorem asc_all (ds : List PyData) : (zipD ds.dropLast (ds.drop 1)).all ltP = ascB ds := by
  rw [zip_next, List.all_map]
  rfl
structure SigIn (d : PyData) : Prop where
  ln : ∀ ds, d = .tuple ds → ds.length ≤ 1000
  en : ∀ ds, d = .tuple ds → ∀ e, e ∈ ds → Len6E e
def F_is_signature : FD := bodyD (dB_is_signature F_is_entry) 3
theorem is_signature_spec {d : PyData} (hl : SigIn d) {n : Nat} {P : PyData → Nat → Prop} (h : P (.bool (sigB d)) n) : F_is_signature [.dat d] n P := by
  unfold F_is_signature bodyD dB_is_signature
  walk_at "w"
  refine ⟨_, isi_T d, ?_⟩
  walk_at "w"
  cases d with
  | tuple ds =>
    refine w_F rfl ?_
    walk_at "w"
    have h : P (.bool (ds.all entB && ascB ds)) n := h
    refine ag_all entB (fun y hy Y Z hY => ?_) ?_
    · walk_at "w"
      refine w_T rfl ?_
      walk_at "w"
      exact is_entry_spec (hl.en ds rfl y hy) ⟨rfl, hY⟩
    · walk_at "w"
      refine w_ite (fun e => ?_) fun e => ?_
      · rw [not_t e, Bool.false_and] at h
        walk_at "w"
        exact h
      · have e := not_f e
        rw [e, Bool.true_and] at h
        walk_at "w"
        rw [cut_init, cut_tail]
        show ds.dropLast.length = (ds.drop 1).length ∧ _
        refine ⟨by rw [List.length_dropLast, List.length_drop], ?_⟩
        walk_at "w"
        refine ag_all ltP (fun y hy Y Z hY => ?_) ?_
        · rw [zip_next] at hy
          obtain ⟨k, hk, rfl⟩ := List.mem_map.mp hy
          have hk := List.mem_range.mp hk
          have hall := List.all_eq_true.mp e
          have m1 : ds.getD k .none ∈ ds := List.mem_of_getElem? (getD_some (by omega))
          have m2 : ds.getD (k + 1) .none ∈ ds := List.mem_of_getElem? (getD_some (by omega))
          obtain ⟨x1, c1, e1⟩ := ent_form (hall _ m1)
          obtain ⟨x2, c2, e2⟩ := ent_form (hall _ m2)
          rw [e1, e2] at hY ⊢
          walk_at "w"
          refine w_T rfl ?_
          walk_at "w"
          refine w_ixU rfl ?_
          walk_at "w"
          refine w_ixU rfl ?_
          refine w_S ?_
          exact ⟨rfl, hY⟩
        · rw [asc_all]
          exact h
  | _ =>
    refine w_T rfl ?_
    walk_at "w"
    refine w_T rfl ?_
    walk_at "w"
    exact h
def F_l_is_signature : FD := bodyD (dB_l_is_signature F_l_is_entry) 3
theorem fst_get {ds : List PyData} {k : Nat} (h : k < ds.length) : (ds.map fstD)[k]? = some (fstD (ds.getD k .none)) := by
  rw [List.getElem?_map, getD_some (x := PyData.none) h]
  rfl
theorem rng1 (n : Nat) : rngD 1 ((n : Int) - 1).toNat = (List.range (n - 1)).map fun k : Nat => PyData.int (1 + (k : Nat)) := by
  unfold rngD
  have e : ((n : Int) - 1).toNat = n - 1 := by omega
  rw [e]
def keepB (ds : List PyData) : PyData → Bool
  | .int i => !decide (nmOf (ds.getD (i.toNat - 1) .none) < nmOf (ds.getD i.toNat .none))
  | _ => false
theorem asc_filt (ds : List PyData) : ((rngD 1 ((ds.length : Int) - 1).toNat).filter (keepB ds)).isEmpty = ascB ds := by
  rw [rng1]
  unfold ascB
  rw [← filt_all]
  generalize List.range (ds.length - 1) = l
  induction l with
  | nil => rfl
  | cons k l ih =>
    rw [List.map_cons, List.filter_cons, List.filter_cons]
    have e : keepB ds (.int (1 + (k : Nat))) = !decide (nmOf (ds.getD k .none) < nmOf (ds.getD (k + 1) .none)) := by
      show (!decide (nmOf (ds.getD ((1 + (k : Int)).toNat - 1) .none) < nmOf (ds.getD (1 + (k : Int)).toNat .none))) = _
      have e1 : (1 + (k : Int)).toNat = k + 1 := by omega
      rw [e1, Nat.add_sub_cancel]
    rw [e]
    cases decide (nmOf (ds.getD k .none) < nmOf (ds.getD (k + 1) .none)) with
    | true => exact ih
    | false => rfl
theorem lc_fconst {g : DG} {t : DT} {e : DE} {base : List DV} {P : List PyData → Nat → Prop} {n : Nat} {items : List PyData} (p : PyData → Bool) (c : PyData)
    (step : ∀ d, d ∈ items → ∀ (Y : PyData → Nat → Prop) (Z : Nat → Prop), (p d = true → Y c n) → (p d = false → Z n) →
      g d (fun s1 => t s1 fun b s2 => if b = true then e s2 fun y s3 => s3.sl = s1.sl ∧ Y y s3.n else s2.sl = s1.sl ∧ Z s2.n) ⟨base, n⟩)
    (fin : P ((items.filter p).map fun _ => c) n) : dLc g t e base items [] n P := by
  refine lc_rem (fun ds acc m => (∀ d, d ∈ ds → d ∈ items) ∧ acc ++ ((ds.filter p).map fun _ => c) = ((items.filter p).map fun _ => c) ∧ m = n) (fun d ds acc m h Y Z hY hZ => ?_) (fun acc m h => ?_) items [] n ⟨fun _ h => h, rfl, rfl⟩
  · obtain ⟨h1, h2, rfl⟩ := h
    refine step d (h1 d List.mem_cons_self) Y Z (fun hp => hY _ _ ⟨fun x hx => h1 x (List.mem_cons_of_mem _ hx), ?_, rfl⟩) (fun hp => hZ _ ⟨fun x hx => h1 x (List.mem_cons_of_mem _ hx), ?_, rfl⟩)
    · rw [← h2, List.filter_cons_of_pos hp, List.append_assoc]
      rfl
    · rw [← h2, List.filter_cons_of_neg (by rw [hp]; decide)]
  · obtain ⟨_, h2, rfl⟩ := h
    rw [List.filter_nil, List.map_nil, List.append_nil] at h2
    rw [h2]
    exact fin
theorem l_is_signature_spec {d : PyData} (hl : SigIn d) {n : Nat} {P : PyData → Nat → Prop} (h : P (.bool (sigB d)) n) : F_l_is_signature [.dat d] n P := by
  unfold F_l_is_signature bodyD dB_l_is_signature
  walk_at "w"
  refine ⟨_, isi_T d, ?_⟩
  walk_at "w"
  cases d with
  | tuple ds =>
    have hln := hl.ln ds rfl
    refine w_F rfl ?_
    walk_at "w"
    have h : P (.bool (ds.all entB && ascB ds)) n := h
    refine ⟨hln, rfl, lc_filter (fun d => !entB d) (fun y hy Y Z hY hZ => ?_) ?_⟩
    · walk_at "w"
      refine l_is_entry_spec (hl.en ds rfl y hy) ?_
      refine w_ite (fun e => ?_) fun e => ?_
      · walk_at "w"
        exact hY e
      · exact ⟨rfl, hZ e⟩
    · walk_at "w"
      refine w_neMtL ?_
      rw [filt_all]
      walk_at "w"
      refine w_ite (fun e => ?_) fun e => ?_
      · rw [not_t e, Bool.false_and] at h
        walk_at "w"
        exact h
      · have e := not_f e
        rw [e, Bool.true_and] at h
        have hall := List.all_eq_true.mp e
        walk_at "w"
        refine ⟨hln, rfl, lc_map fstD (fun y hy Y Z hY => ?_) ?_⟩
        · obtain ⟨x1, c1, rfl⟩ := ent_form (hall _ hy)
          walk_at "w"
          refine w_T rfl ?_
          walk_at "w"
          refine w_ixU rfl ?_
          exact ⟨rfl, hY⟩
        · walk_at "w"
          rw [List.length_map]
          refine ⟨⟨by omega, by omega, by omega, by omega⟩, ?_⟩
          walk_at "w"
          refine ⟨by rw [rng1, List.length_map, List.length_range]; omega, rfl, lc_fconst (keepB ds) (.int 1) (fun y hy Y Z hY hZ => ?_) ?_⟩
          · rw [rng1] at hy
            obtain ⟨k, hk, rfl⟩ := List.mem_map.mp hy
            have hk := List.mem_range.mp hk
            have e0 : keepB ds (.int (1 + (k : Nat))) = !decide (nmOf (ds.getD k .none) < nmOf (ds.getD (k + 1) .none)) := by
              show (!decide (nmOf (ds.getD ((1 + (k : Int)).toNat - 1) .none) < nmOf (ds.getD (1 + (k : Int)).toNat .none))) = _
              have e1 : (1 + (k : Int)).toNat = k + 1 := by omega
              rw [e1, Nat.add_sub_cancel]
            rw [e0] at hY hZ
            have m1 : ds.getD k .none ∈ ds := List.mem_of_getElem? (getD_some (by omega))
            have m2 : ds.getD (k + 1) .none ∈ ds := List.mem_of_getElem? (getD_some (by omega))
            obtain ⟨x1, c1, e1⟩ := ent_form (hall _ m1)
            obtain ⟨x2, c2, e2⟩ := ent_form (hall _ m2)
            have g1 := fst_get (ds := ds) (k := k) (by omega)
            have g2 := fst_get (ds := ds) (k := k + 1) (by omega)
            rw [e1] at g1
            rw [e2] at g2
            rw [e1, e2] at hY hZ
            walk_at "w"
            refine w_ixVarD rfl ?_
            walk_at "w"
            have q1 : (1 + (k : Int)) - 1 = ((k : Nat) : Int) := by omega
            have q2 : (1 + (k : Int)) = ((k + 1 : Nat) : Int) := by omega
            rw [q1]
            refine ⟨.str x1, atI_nat g1, ?_⟩
            walk_at "w"
            refine w_ixVarD rfl ?_
            walk_at "w"
            rw [q2]
            refine ⟨.str x2, atI_nat g2, ?_⟩
            refine w_S ?_
            walk_at "w"
            refine w_ite (fun e => ?_) fun e => ?_
            · walk_at "w"
              exact hY e
            · exact ⟨rfl, hZ e⟩
          · walk_at "w"
            refine w_eqMtL ?_
            have e9 : (((rngD 1 ((ds.length : Int) - 1).toNat).filter (keepB ds)).map fun _ => PyData.int 1).isEmpty = ascB ds := by
              rw [← asc_filt]
              cases (rngD 1 ((ds.length : Int) - 1).toNat).filter (keepB ds) <;> rfl
            rw [e9]
            exact h
  | _ =>
    refine w_T rfl ?_
    walk_at "w"
    refine w_T rfl ?_
    walk_at "w"
    exact h
end K01

set_option Elab.async false
set_option linter.all false
set_option maxRecDepth 100000
set_option maxHeartbeats 4000000
/-! U01f: what is looked at, by data. -/
namespace K01
open PySem PySem.Spec PyProof.Rows L2 GG DD PT DL LS
set_option simprocs false
local macro_rules | `(tactic| walk_at "w1") => `(tactic| with_reducible first
  | refine DL.w_seq ?_ | refine DL.w_next ?_ | refine DL.w_set ?_ | refine DL.w_setO ?_ | refine DL.w_if ?_ | refine DL.w_ret ?_ | refine DL.w_drop ?_
  | refine DL.w_par ?_ | refine DL.w_parL ?_ | refine DL.w_parR ?_ | refine DL.w_parLL ?_ | refine DL.w_asg ?_ | refine DL.w_for ?_ | refine DL.w_vsNil ?_ | refine DL.w_dIn ?_ | refine DL.w_dPut ?_
  | refine DL.w_gdN ?_ | refine DL.w_gdNil ?_ | refine DL.w_gdCons ?_
  | refine DL.w_c ?_ | refine DL.w_asL ?_ | refine DL.w_asU ?_ | refine DL.w_newL ?_ | refine DL.w_nil ?_ | refine DL.w_cons ?_ | refine DL.w_tup ?_ | refine DL.w_lst ?_ | refine DL.w_op ?_
  | refine DL.w_lenL ?_ | refine DL.w_lenD ?_ | refine DL.w_tupOf ?_ | refine DL.w_ifE ?_ | refine DL.w_cat ?_ | refine DL.w_rep ?_ | refine DL.w_call ?_ | refine DL.w_callP ?_
  | refine DL.w_xNil ?_ | refine DL.w_xCons ?_ | refine DL.w_all ?_ | refine DL.w_reprA ?_ | refine DL.w_isi ?_ | refine DL.w_andV ?_ | refine DL.w_newD ?_ | refine DL.w_dict0 ?_
  | refine DL.w_slD ?_ | refine DL.w_slU ?_ | refine DL.w_noP ?_ | refine DL.w_part ?_ | refine DL.w_listZip ?_ | refine DL.w_sortSI ?_ | refine DL.w_listRng ?_ | refine DL.w_setD ?_ | refine DL.w_dictL ?_ | refine DL.w_dictU ?_ | refine DL.w_disp ?_ | refine DL.w_psNil ?_ | refine DL.w_psCons ?_
  | refine DL.w_rng1 ?_ | refine DL.w_comp ?_ | refine DL.w_enum ?_ | refine DL.w_B ?_ | refine DL.w_and ?_ | refine DL.w_or ?_ | refine DL.w_not ?_ | refine DL.w_yes ?_
  | refine DL.w_par3 ?_ | refine DL.w_par3R ?_ | refine DL.w_par0L ?_ | refine DL.w_revL ?_ | refine DL.w_listQ ?_ | refine DL.w_star ?_ | refine DL.w_split ?_ | refine DL.w_intB ?_ | refine DL.w_dPutN ?_ | refine DL.w_dPutO ?_ | refine DL.w_listZipT ?_ | refine DL.w_callM ?_ | refine DL.w_inVar ?_ | refine DL.w_slS ?_ | refine DL.w_sortS ?_ | refine DL.w_dcomp ?_
  | refine DL.w_notV ?_ | refine DL.w_neg ?_ | refine DL.w_chain ?_ | refine DL.w_B0 ?_ | refine DL.w_allG ?_ | refine DL.w_splat ?_ | refine DL.w_isB ?_ | refine DL.w_notB ?_ | refine DL.w_find ?_ | refine DL.w_upper ?_ | refine DL.w_strIt ?_ | refine DL.w_zipS ?_ | refine DL.w_revU ?_ | refine DL.w_strI ?_ | refine DL.w_rng2 ?_)
local macro_rules | `(tactic| walk_at "w2") => `(tactic| first
  | walk_at "w1"
  | ((with_reducible apply DL.w_var); (· rfl))
  | ((with_reducible apply DL.w_xDeck); (· rfl))
  | ((with_reducible apply DL.w_listO); (· rfl))
  | ((with_reducible apply DL.w_listD); (· rfl))
  | ((with_reducible apply DL.w_app); (· exact trivial))
  | ((with_reducible apply DL.w_popAt); (· exact trivial))
  | ((with_reducible apply DL.w_dGet); (· exact trivial))
  | ((with_reducible apply DL.w_listA); (· rfl))
  | ((with_reducible apply DL.w_ext); (· exact trivial))
  | ((with_reducible apply DL.w_dGetT); (· exact trivial))
  | ((with_reducible apply DL.w_xLast); (· exact trivial))
  | ((with_reducible apply DL.w_appA); (· rfl))
  | ((with_reducible apply DL.w_listDictO); (· rfl))
  | ((with_reducible apply DL.w_lenDictO); (· rfl))
  | ((with_reducible apply DL.w_catVarO); (· rfl))
  | ((with_reducible apply DL.w_catVarD); (· rfl))
  | ((with_reducible apply DL.w_tupLL); (· decide))
  | ((with_reducible apply DL.w_fzO); (· rfl))
  | ((with_reducible apply DL.w_fzD); (· rfl))
  | ((with_reducible apply DL.w_fz); (· rfl))
  | ((with_reducible apply DL.w_gdTup); (· rfl))
  | ((with_reducible refine And.intro ?_ ?_); (· first | rfl | exact True.intro | decide | (dsimp only [List.length_cons, List.length_nil]; decide)))
  | with_reducible refine DL.w_I0 ?_ | with_reducible refine DL.w_eqI ?_ | with_reducible refine DL.w_neI ?_ | with_reducible refine DL.w_isN ?_ | with_reducible refine DL.w_notN ?_)
local macro_rules | `(tactic| walk_at "w") => `(tactic| (repeat walk_at "w2"; try dsimp only [List.set_cons_zero, List.set_cons_succ, List.cons_append, List.nil_append, List.replicate_succ, List.replicate_zero]))
local macro_rules | `(tactic| walk_at "v1") => `(tactic| with_reducible first
  | refine DL.w_seq ?_ | refine DL.w_next ?_ | refine DL.w_set ?_ | refine DL.w_setO ?_ | refine DL.w_if ?_ | refine DL.w_ret ?_ | refine DL.w_drop ?_
  | refine DL.w_par ?_ | refine DL.w_parL ?_ | refine DL.w_parR ?_ | refine DL.w_parLL ?_ | refine DL.w_asg ?_ | refine DL.w_for ?_ | refine DL.w_vsNil ?_ | refine DL.w_dIn ?_ | refine DL.w_dPut ?_
  | refine DL.w_gdN ?_ | refine DL.w_gdNil ?_ | refine DL.w_gdCons ?_
  | refine DL.w_c ?_ | refine DL.w_asL ?_ | refine DL.w_asU ?_ | refine DL.w_newL ?_ | refine DL.w_nil ?_ | refine DL.w_cons ?_ | refine DL.w_tup ?_ | refine DL.w_lst ?_ | refine DL.w_op ?_
  | refine DL.w_lenL ?_ | refine DL.w_lenD ?_ | refine DL.w_tupOf ?_ | refine DL.w_cat ?_ | refine DL.w_rep ?_ | refine DL.w_call ?_ | refine DL.w_callP ?_
  | refine DL.w_xNil ?_ | refine DL.w_xCons ?_ | refine DL.w_all ?_ | refine DL.w_reprA ?_ | refine DL.w_isi ?_ | refine DL.w_andV ?_ | refine DL.w_newD ?_ | refine DL.w_dict0 ?_
  | refine DL.w_slD ?_ | refine DL.w_slU ?_ | refine DL.w_noP ?_ | refine DL.w_part ?_ | refine DL.w_listZip ?_ | refine DL.w_sortSI ?_ | refine DL.w_listRng ?_ | refine DL.w_setD ?_ | refine DL.w_dictL ?_ | refine DL.w_dictU ?_ | refine DL.w_disp ?_ | refine DL.w_psNil ?_ | refine DL.w_psCons ?_
  | refine DL.w_rng1 ?_ | refine DL.w_comp ?_ | refine DL.w_enum ?_ | refine DL.w_B ?_ | refine DL.w_and ?_ | refine DL.w_or ?_ | refine DL.w_not ?_ | refine DL.w_yes ?_
  | refine DL.w_par3 ?_ | refine DL.w_par3R ?_ | refine DL.w_par0L ?_ | refine DL.w_revL ?_ | refine DL.w_listQ ?_ | refine DL.w_star ?_ | refine DL.w_split ?_ | refine DL.w_intB ?_ | refine DL.w_dPutN ?_ | refine DL.w_dPutO ?_ | refine DL.w_listZipT ?_ | refine DL.w_callM ?_ | refine DL.w_inVar ?_ | refine DL.w_slS ?_ | refine DL.w_sortS ?_ | refine DL.w_dcomp ?_
  | refine DL.w_notV ?_ | refine DL.w_neg ?_ | refine DL.w_chain ?_ | refine DL.w_B0 ?_ | refine DL.w_allG ?_ | refine DL.w_splat ?_ | refine DL.w_isB ?_ | refine DL.w_notB ?_ | refine DL.w_find ?_ | refine DL.w_upper ?_ | refine DL.w_strIt ?_ | refine DL.w_zipS ?_ | refine DL.w_revU ?_ | refine DL.w_strI ?_ | refine DL.w_rng2 ?_)
local macro_rules | `(tactic| walk_at "v2") => `(tactic| first
  | walk_at "v1"
  | ((with_reducible apply DL.w_var); (· rfl))
  | ((with_reducible apply DL.w_xDeck); (· rfl))
  | ((with_reducible apply DL.w_listO); (· rfl))
  | ((with_reducible apply DL.w_listD); (· rfl))
  | ((with_reducible apply DL.w_app); (· exact trivial))
  | ((with_reducible apply DL.w_popAt); (· exact trivial))
  | ((with_reducible apply DL.w_dGet); (· exact trivial))
  | ((with_reducible apply DL.w_listA); (· rfl))
  | ((with_reducible apply DL.w_ext); (· exact trivial))
  | ((with_reducible apply DL.w_dGetT); (· exact trivial))
  | ((with_reducible apply DL.w_xLast); (· exact trivial))
  | ((with_reducible apply DL.w_appA); (· rfl))
  | ((with_reducible apply DL.w_listDictO); (· rfl))
  | ((with_reducible apply DL.w_lenDictO); (· rfl))
  | ((with_reducible apply DL.w_catVarO); (· rfl))
  | ((with_reducible apply DL.w_catVarD); (· rfl))
  | ((with_reducible apply DL.w_tupLL); (· decide))
  | ((with_reducible apply DL.w_fzO); (· rfl))
  | ((with_reducible apply DL.w_fzD); (· rfl))
  | ((with_reducible apply DL.w_fz); (· rfl))
  | ((with_reducible apply DL.w_gdTup); (· rfl))
  | ((with_reducible refine And.intro ?_ ?_); (· first | rfl | exact True.intro | decide | (dsimp only [List.length_cons, List.length_nil]; decide)))
  | with_reducible refine DL.w_I0 ?_ | with_reducible refine DL.w_eqI ?_ | with_reducible refine DL.w_neI ?_ | with_reducible refine DL.w_isN ?_ | with_reducible refine DL.w_notN ?_)
local macro_rules | `(tactic| walk_at "v") => `(tactic| (repeat walk_at "v2"; try dsimp only [List.set_cons_zero, List.set_cons_succ, List.cons_append, List.nil_append, List.replicate_succ, List.replicate_zero]))
set_option pp.maxSteps 1500
theorem shows_b (b : Bool) : Shows (.bool b) := (vB b).shows (by omega) (by omega)
def F_name_right : FD := bodyD (dB_name_right F_l_is_name F_is_name) 2
theorem eqSs_same {xs : List Str} {P : PyData → Prop} (h : P (.bool true)) : oEqSs (.list (xs.map PyData.str)) (.list (xs.map PyData.str)) P := by
  refine ⟨xs, xs, strs_map xs, strs_map xs, ?_⟩
  rw [decide_eq_true rfl]
  exact h
theorem name_right_spec {d : PyData} (sh : Shows d) (hl : Len6 d) {n : Nat} {P : PyData → Nat → Prop} (h : P (.bool true) n) : F_name_right [.dat d] n P := by
  unfold F_name_right bodyD dB_name_right
  walk_at "w"
  refine ⟨sh, ?_⟩
  walk_at "w"
  refine l_is_name_spec hl ?_
  generalize hb : nameB d = b
  refine ⟨shows_b b, ?_⟩
  walk_at "w"
  refine is_name_spec hl ?_
  rw [hb]
  refine ⟨shows_b b, ?_⟩
  walk_at "w"
  refine is_name_spec hl ?_
  rw [hb]
  refine ⟨shows_b b, ?_⟩
  walk_at "w"
  refine ⟨sh, ?_⟩
  walk_at "w"
  exact eqSs_same (xs := [(PyData.bool b).shown, (PyData.bool b).shown, d.shown]) h
theorem val_len {D W : Nat} {x : Str} (h : Val D W (.str x)) : x.length ≤ W := by
  have := h.wt
  simp only [PyData.weight] at this
  exact this
theorem val_sig {D W : Nat} {d : PyData} (h : Val D W d) (hW : W ≤ 1000) : SigIn d := by
  refine ⟨fun ds e => ?_, fun ds e y hy es ey z hz x ex => ?_⟩
  · subst e
    obtain ⟨D', rfl⟩ := val_depth_pos h
    exact Nat.le_trans (vals_len (vals_of_tup h)) hW
  · subst e
    obtain ⟨D', rfl⟩ := val_depth_pos h
    have h2 := vals_mem (vals_of_tup h) y hy
    subst ey
    obtain ⟨D2, rfl⟩ := val_depth_pos h2
    have h3 := vals_mem (vals_of_tup h2) z hz
    subst ex
    exact Nat.le_trans (val_len h3) (by omega)
def F_signature_right : FD := bodyD (dB_signature_right F_l_is_signature F_is_signature) 2
theorem signature_right_spec {D W : Nat} {d : PyData} (v : Val D W d) (hD : D ≤ 60) (hW : W ≤ 1000) {n : Nat} {P : PyData → Nat → Prop} (h : P (.bool true) n) : F_signature_right [.dat d] n P := by
  have sh := v.shows hD (by omega)
  have hl := val_sig v hW
  unfold F_signature_right bodyD dB_signature_right
  walk_at "w"
  refine ⟨sh, ?_⟩
  walk_at "w"
  refine l_is_signature_spec hl ?_
  generalize hb : sigB d = b
  refine ⟨shows_b b, ?_⟩
  walk_at "w"
  refine is_signature_spec hl ?_
  rw [hb]
  refine ⟨shows_b b, ?_⟩
  walk_at "w"
  refine is_signature_spec hl ?_
  rw [hb]
  refine ⟨shows_b b, ?_⟩
  walk_at "w"
  refine ⟨sh, ?_⟩
  walk_at "w"
  exact eqSs_same (xs := [(PyData.bool b).shown, (PyData.bool b).shown, d.shown]) h
/-! ### bent ones -/
structure NmV (x : Str) : Prop where
  lv : (PyData.str x).leavesShort 40 = true
  sz : x.cps.size ≤ 8
  up : (PyData.str (Txt.upper x)).leavesShort 40 = true ∧ (Txt.upper x).cps.size ≤ 8
theorem NameOk.v {x : Str} (h : NameOk x) : NmV x := ⟨h.lv, h.sz, h.up⟩
theorem nmv_void : NmV "void" := ⟨by decide, by decide, by decide +kernel, by decide +kernel⟩
theorem leaf_app {x y : Str} (h : (PyData.str x).leavesShort 40 = true) (k : (PyData.str y).leavesShort 40 = true) : (PyData.str (x ++ y)).leavesShort 40 = true := by
  have h : x.cps.toList.all (fun c => decide (c < 16 ^ 8)) = true := by simpa only [PyData.leavesShort] using h
  have k : y.cps.toList.all (fun c => decide (c < 16 ^ 8)) = true := by simpa only [PyData.leavesShort] using k
  have z : (x.cps ++ y.cps).toList.all (fun c => decide (c < 16 ^ 8)) = true := by
    rw [Array.toList_append, List.all_append, h, k]
    rfl
  have e : (PyData.str (x ++ y)).leavesShort 40 = (x.cps ++ y.cps).toList.all (fun c => decide (c < 16 ^ 8)) := by simp only [PyData.leavesShort]; rfl
  rw [e]
  exact z
theorem val_app {x y : Str} {a b : Nat} (h : (PyData.str x).leavesShort 40 = true) (hx : x.cps.size ≤ a) (k : (PyData.str y).leavesShort 40 = true) (hy : y.cps.size ≤ b) : Val 0 (a + b) (.str (x ++ y)) := by
  refine val_str (leaf_app h k) ?_
  show (x.cps ++ y.cps).size ≤ a + b
  rw [Array.size_append]
  omega
theorem val_small {D : Nat} : ∀ k : Nat, k < 100 → Val D 10 (.int (k : Nat)) := by
  have h : ∀ k : Nat, k < 100 → (PyData.int (k : Nat)).showable = true ∧ (PyData.int (k : Nat)).leavesShort 40 = true ∧ (PyData.int (k : Nat)).weight ≤ 10 := by decide +kernel
  intro k hk
  exact ⟨(h k hk).1, (h k hk).2.1, by simp only [PyData.depth]; omega, (h k hk).2.2⟩
theorem val_m1 : Val 0 140 (.int (-1)) := ⟨by decide +kernel, by decide +kernel, by simp only [PyData.depth]; omega, by decide +kernel⟩
theorem val_big : Val 0 140 (.int ((10 : Int) ^ (39 : Int).toNat)) := ⟨by decide +kernel, by decide +kernel, by simp only [PyData.depth]; omega, by decide +kernel⟩
theorem dig_val : ∀ c : Nat, c ≤ 3 → Val 0 2 (.str (toString ((c : Nat) : Int))) := by
  intro c hc
  have : c = 0 ∨ c = 1 ∨ c = 2 ∨ c = 3 := by omega
  rcases this with rfl | rfl | rfl | rfl <;> exact val_str (by decide +kernel) (by decide +kernel)
theorem log_small {c : Nat} (h : c ≤ 3) : (((c : Nat) : Int).natAbs).log2 < 1920 := by
  have : c = 0 ∨ c = 1 ∨ c = 2 ∨ c = 3 := by omega
  rcases this with rfl | rfl | rfl | rfl <;> decide
abbrev entD (t : Tag) : PyData × PyData := (.str t.1, .int (t.2 : Nat))
abbrev keyT (t : Tag) : L2.Key × PyData := (.inr t.1, .int (t.2 : Nat))
theorem pairs_tags : ∀ l : List Tag, pairsD (l.map tagD) = some (l.map keyT)
  | [] => rfl
  | t :: l => by
    have ih := pairs_tags l
    rw [List.map_cons, pairsD, ih]
    rfl
theorem merge_new : ∀ (l : List (L2.Key × PyData)) (acc : List (PyData × PyData)), (l.map (·.1)).Nodup → (∀ k, k ∈ l.map (·.1) → dgetD acc k = none) → mergeD acc l = acc ++ l.map fun p => (keyD p.1, p.2)
  | [], acc, _, _ => by rw [List.map_nil, List.append_nil]; rfl
  | p :: r, acc, hn, hk => by
    rw [List.map_cons, List.nodup_cons] at hn
    have h0 : dgetD acc p.1 = none := hk p.1 (by rw [List.map_cons]; exact List.mem_cons_self)
    have e : dputD acc p.1 p.2 = acc ++ [(keyD p.1, p.2)] := by
      unfold dputD
      rw [h0, if_neg (by decide)]
    show mergeD (dputD acc p.1 p.2) r = _
    rw [merge_new r _ hn.2 fun k hk2 => ?_, e, List.append_assoc, List.map_cons]
    · rfl
    · have hne : p.1 ≠ k := fun z => hn.1 (by rw [z]; exact hk2)
      rw [get_put, if_neg hne]
      exact hk k (by rw [List.map_cons]; exact List.mem_cons_of_mem _ hk2)
theorem merge_tags {ts : List Tag} (h : (ts.map (·.1)).Nodup) : mergeD [] (ts.map keyT) = ts.map entD := by
  rw [merge_new _ _ ?_ fun k hk => rfl, List.nil_append, List.map_map]
  · rfl
  · rw [List.map_map]
    rw [show ((fun x : L2.Key × PyData => x.1) ∘ keyT) = (fun x : Str => (Sum.inr x : L2.Key)) ∘ (fun t : Tag => t.1) from rfl, ← List.map_map]
    unfold List.Nodup at h ⊢
    rw [List.pairwise_map]
    exact h.imp fun {a b} hne z => hne (by injection z)
theorem kv_ents : ∀ l : List Tag, (∀ t, t ∈ l → NmV t.1 ∧ t.2 ≤ 3) → PyData.showableKv (l.map entD) = true ∧ PyData.leavesShortKv 40 (l.map entD) = true ∧ PyData.depthKv (l.map entD) ≤ 0 ∧ PyData.weightKv (l.map entD) ≤ 20 * l.length
  | [], _ => by simp only [List.map_nil, PyData.showableKv, PyData.leavesShortKv, PyData.depthKv, PyData.weightKv]; exact ⟨trivial, trivial, Nat.le_refl _, Nat.zero_le _⟩
  | t :: l, h => by
    obtain ⟨h1, h2, h3, h4⟩ := kv_ents l fun x hx => h x (List.mem_cons_of_mem _ hx)
    obtain ⟨nv, h0⟩ := h t List.mem_cons_self
    have v1 : Val 0 8 (.str t.1) := val_str nv.lv nv.sz
    have v2 : Val 0 10 (.int (t.2 : Nat)) := val_small _ (by omega)
    have d1 := v1.dp
    have d2 := v2.dp
    have w1 := v1.wt
    have w2 := v2.wt
    rw [List.map_cons, List.length_cons]
    simp only [PyData.showableKv, PyData.leavesShortKv, PyData.depthKv, PyData.weightKv, v1.sh, v2.sh, v1.lv, v2.lv, h1, h2, Bool.and_self]
    refine ⟨trivial, trivial, by omega, by omega⟩
theorem val_dict {ts : List Tag} (h : ∀ t, t ∈ ts → NmV t.1 ∧ t.2 ≤ 3) : Val 1 (20 * ts.length) (.dict (ts.map entD)) := by
  obtain ⟨h1, h2, h3, h4⟩ := kv_ents ts h
  refine ⟨by simp only [PyData.showable, h1], by simp only [PyData.leavesShort, h2], ?_, ?_⟩
  · simp only [PyData.depth]
    omega
  · simp only [PyData.weight]
    exact h4
end K01

set_option Elab.async false
set_option linter.all false
set_option maxRecDepth 100000
set_option maxHeartbeats 4000000
/-! U01g: bent signatures, by data. -/
namespace K01
open PySem PySem.Spec PyProof.Rows L2 GG DD PT DL LS
set_option simprocs false
local macro_rules | `(tactic| walk_at "w1") => `(tactic| with_reducible first
  | refine DL.w_seq ?_ | refine DL.w_next ?_ | refine DL.w_set ?_ | refine DL.w_setO ?_ | refine DL.w_if ?_ | refine DL.w_ret ?_ | refine DL.w_drop ?_
  | refine DL.w_par ?_ | refine DL.w_parL ?_ | refine DL.w_parR ?_ | refine DL.w_parLL ?_ | refine DL.w_asg ?_ | refine DL.w_for ?_ | refine DL.w_vsNil ?_ | refine DL.w_dIn ?_ | refine DL.w_dPut ?_
  | refine DL.w_gdN ?_ | refine DL.w_gdNil ?_ | refine DL.w_gdCons ?_
  | refine DL.w_c ?_ | refine DL.w_asL ?_ | refine DL.w_asU ?_ | refine DL.w_newL ?_ | refine DL.w_nil ?_ | refine DL.w_cons ?_ | refine DL.w_tup ?_ | refine DL.w_lst ?_ | refine DL.w_op ?_
  | refine DL.w_lenL ?_ | refine DL.w_lenD ?_ | refine DL.w_tupOf ?_ | refine DL.w_ifE ?_ | refine DL.w_cat ?_ | refine DL.w_rep ?_ | refine DL.w_call ?_ | refine DL.w_callP ?_
  | refine DL.w_xNil ?_ | refine DL.w_xCons ?_ | refine DL.w_all ?_ | refine DL.w_reprA ?_ | refine DL.w_isi ?_ | refine DL.w_andV ?_ | refine DL.w_newD ?_ | refine DL.w_dict0 ?_
  | refine DL.w_slD ?_ | refine DL.w_slU ?_ | refine DL.w_noP ?_ | refine DL.w_part ?_ | refine DL.w_listZip ?_ | refine DL.w_sortSI ?_ | refine DL.w_listRng ?_ | refine DL.w_setD ?_ | refine DL.w_dictL ?_ | refine DL.w_dictU ?_ | refine DL.w_disp ?_ | refine DL.w_psNil ?_ | refine DL.w_psCons ?_
  | refine DL.w_rng1 ?_ | refine DL.w_comp ?_ | refine DL.w_enum ?_ | refine DL.w_B ?_ | refine DL.w_and ?_ | refine DL.w_or ?_ | refine DL.w_not ?_ | refine DL.w_yes ?_
  | refine DL.w_par3 ?_ | refine DL.w_par3R ?_ | refine DL.w_par0L ?_ | refine DL.w_revL ?_ | refine DL.w_listQ ?_ | refine DL.w_star ?_ | refine DL.w_split ?_ | refine DL.w_intB ?_ | refine DL.w_dPutN ?_ | refine DL.w_dPutO ?_ | refine DL.w_listZipT ?_ | refine DL.w_callM ?_ | refine DL.w_inVar ?_ | refine DL.w_slS ?_ | refine DL.w_sortS ?_ | refine DL.w_dcomp ?_
  | refine DL.w_notV ?_ | refine DL.w_neg ?_ | refine DL.w_chain ?_ | refine DL.w_B0 ?_ | refine DL.w_allG ?_ | refine DL.w_splat ?_ | refine DL.w_isB ?_ | refine DL.w_notB ?_ | refine DL.w_find ?_ | refine DL.w_upper ?_ | refine DL.w_strIt ?_ | refine DL.w_zipS ?_ | refine DL.w_revU ?_ | refine DL.w_strI ?_ | refine DL.w_rng2 ?_)
local macro_rules | `(tactic| walk_at "w2") => `(tactic| first
  | walk_at "w1"
  | ((with_reducible apply DL.w_var); (· rfl))
  | ((with_reducible apply DL.w_xDeck); (· rfl))
  | ((with_reducible apply DL.w_listO); (· rfl))
  | ((with_reducible apply DL.w_listD); (· rfl))
  | ((with_reducible apply DL.w_app); (· exact trivial))
  | ((with_reducible apply DL.w_popAt); (· exact trivial))
  | ((with_reducible apply DL.w_dGet); (· exact trivial))
  | ((with_reducible apply DL.w_listA); (· rfl))
  | ((with_reducible apply DL.w_ext); (· exact trivial))
  | ((with_reducible apply DL.w_dGetT); (· exact trivial))
  | ((with_reducible apply DL.w_xLast); (· exact trivial))
  | ((with_reducible apply DL.w_appA); (· rfl))
  | ((with_reducible apply DL.w_listDictO); (· rfl))
  | ((with_reducible apply DL.w_lenDictO); (· rfl))
  | ((with_reducible apply DL.w_catVarO); (· rfl))
  | ((with_reducible apply DL.w_catVarD); (· rfl))
  | ((with_reducible apply DL.w_tupLL); (· decide))
  | ((with_reducible apply DL.w_fzO); (· rfl))
  | ((with_reducible apply DL.w_fzD); (· rfl))
  | ((with_reducible apply DL.w_fz); (· rfl))
  | ((with_reducible apply DL.w_gdTup); (· rfl))
  | ((with_reducible refine And.intro ?_ ?_); (· first | rfl | exact True.intro | decide | (dsimp only [List.length_cons, List.length_nil]; decide)))
  | with_reducible refine DL.w_I0 ?_ | with_reducible refine DL.w_eqI ?_ | with_reducible refine DL.w_neI ?_ | with_reducible refine DL.w_isN ?_ | with_reducible refine DL.w_notN ?_)
local macro_rules | `(tactic| walk_at "w") => `(tactic| (repeat walk_at "w2"; try dsimp only [List.set_cons_zero, List.set_cons_succ, List.cons_append, List.nil_append, List.replicate_succ, List.replicate_zero]))
local macro_rules | `(tactic| walk_at "v1") => `(tactic| with_reducible first
  | refine DL.w_seq ?_ | refine DL.w_next ?_ | refine DL.w_set ?_ | refine DL.w_setO ?_ | refine DL.w_if ?_ | refine DL.w_ret ?_ | refine DL.w_drop ?_
  | refine DL.w_par ?_ | refine DL.w_parL ?_ | refine DL.w_parR ?_ | refine DL.w_parLL ?_ | refine DL.w_asg ?_ | refine DL.w_for ?_ | refine DL.w_vsNil ?_ | refine DL.w_dIn ?_ | refine DL.w_dPut ?_
  | refine DL.w_gdN ?_ | refine DL.w_gdNil ?_ | refine DL.w_gdCons ?_
  | refine DL.w_c ?_ | refine DL.w_asL ?_ | refine DL.w_asU ?_ | refine DL.w_newL ?_ | refine DL.w_nil ?_ | refine DL.w_cons ?_ | refine DL.w_tup ?_ | refine DL.w_lst ?_ | refine DL.w_op ?_
  | refine DL.w_lenL ?_ | refine DL.w_lenD ?_ | refine DL.w_tupOf ?_ | refine DL.w_cat ?_ | refine DL.w_rep ?_ | refine DL.w_call ?_ | refine DL.w_callP ?_
  | refine DL.w_xNil ?_ | refine DL.w_xCons ?_ | refine DL.w_all ?_ | refine DL.w_reprA ?_ | refine DL.w_isi ?_ | refine DL.w_andV ?_ | refine DL.w_newD ?_ | refine DL.w_dict0 ?_
  | refine DL.w_slD ?_ | refine DL.w_slU ?_ | refine DL.w_noP ?_ | refine DL.w_part ?_ | refine DL.w_listZip ?_ | refine DL.w_sortSI ?_ | refine DL.w_listRng ?_ | refine DL.w_setD ?_ | refine DL.w_dictL ?_ | refine DL.w_dictU ?_ | refine DL.w_disp ?_ | refine DL.w_psNil ?_ | refine DL.w_psCons ?_
  | refine DL.w_rng1 ?_ | refine DL.w_comp ?_ | refine DL.w_enum ?_ | refine DL.w_B ?_ | refine DL.w_and ?_ | refine DL.w_or ?_ | refine DL.w_not ?_ | refine DL.w_yes ?_
  | refine DL.w_par3 ?_ | refine DL.w_par3R ?_ | refine DL.w_par0L ?_ | refine DL.w_revL ?_ | refine DL.w_listQ ?_ | refine DL.w_star ?_ | refine DL.w_split ?_ | refine DL.w_intB ?_ | refine DL.w_dPutN ?_ | refine DL.w_dPutO ?_ | refine DL.w_listZipT ?_ | refine DL.w_callM ?_ | refine DL.w_inVar ?_ | refine DL.w_slS ?_ | refine DL.w_sortS ?_ | refine DL.w_dcomp ?_
  | refine DL.w_notV ?_ | refine DL.w_neg ?_ | refine DL.w_chain ?_ | refine DL.w_B0 ?_ | refine DL.w_allG ?_ | refine DL.w_splat ?_ | refine DL.w_isB ?_ | refine DL.w_notB ?_ | refine DL.w_find ?_ | refine DL.w_upper ?_ | refine DL.w_strIt ?_ | refine DL.w_zipS ?_ | refine DL.w_revU ?_ | refine DL.w_strI ?_ | refine DL.w_rng2 ?_)
local macro_rules | `(tactic| walk_at "v2") => `(tactic| first
  | walk_at "v1"
  | ((with_reducible apply DL.w_var); (· rfl))
  | ((with_reducible apply DL.w_xDeck); (· rfl))
  | ((with_reducible apply DL.w_listO); (· rfl))
  | ((with_reducible apply DL.w_listD); (· rfl))
  | ((with_reducible apply DL.w_app); (· exact trivial))
  | ((with_reducible apply DL.w_popAt); (· exact trivial))
  | ((with_reducible apply DL.w_dGet); (· exact trivial))
  | ((with_reducible apply DL.w_listA); (· rfl))
  | ((with_reducible apply DL.w_ext); (· exact trivial))
  | ((with_reducible apply DL.w_dGetT); (· exact trivial))
  | ((with_reducible apply DL.w_xLast); (· exact trivial))
  | ((with_reducible apply DL.w_appA); (· rfl))
  | ((with_reducible apply DL.w_listDictO); (· rfl))
  | ((with_reducible apply DL.w_lenDictO); (· rfl))
  | ((with_reducible apply DL.w_catVarO); (· rfl))
  | ((with_reducible apply DL.w_catVarD); (· rfl))
  | ((with_reducible apply DL.w_tupLL); (· decide))
  | ((with_reducible apply DL.w_fzO); (· rfl))
  | ((with_reducible apply DL.w_fzD); (· rfl))
  | ((with_reducible apply DL.w_fz); (· rfl))
  | ((with_reducible apply DL.w_gdTup); (· rfl))
  | ((with_reducible refine And.intro ?_ ?_); (· first | rfl | exact True.intro | decide | (dsimp only [List.length_cons, List.length_nil]; decide)))
  | with_reducible refine DL.w_I0 ?_ | with_reducible refine DL.w_eqI ?_ | with_reducible refine DL.w_neI ?_ | with_reducible refine DL.w_isN ?_ | with_reducible refine DL.w_notN ?_)
local macro_rules | `(tactic| walk_at "v") => `(tactic| (repeat walk_at "v2"; try dsimp only [List.set_cons_zero, List.set_cons_succ, List.cons_append, List.nil_append, List.replicate_succ, List.replicate_zero]))
set_option pp.maxSteps 1500
theorem ife_tag {c : DT} {da db : DE} {s : DSt} {K : PyData → DSt → Prop} (h1 : ∀ K : PyData → DSt → Prop, (∀ t : Tag, NmV t.1 → t.2 ≤ 3 → K (tagD t) s) → dIfE c da db s K) (h2 : ∀ t : Tag, NmV t.1 → t.2 ≤ 3 → K (tagD t) s) : dIfE c da db s K := h1 K h2
theorem val_tag {t : Tag} (h : NmV t.1) (h3 : t.2 ≤ 3) : Val 1 20 (tagD t) := vT2 (val_str (D := 0) h.lv h.sz) (val_small _ (by omega))
theorem vals_tags {ts : List Tag} (tg : TgOk ts) : Vals' 1 126 (ts.map tagD) := by
  have y := vals_all (D := 1) (V := 20) (ds := ts.map tagD) fun d hd => by
    obtain ⟨t, ht, rfl⟩ := List.mem_map.mp hd
    exact val_tag (NameOk.v (tg.ok t ht).1) (tg.ok t ht).2
  rw [List.length_map] at y
  have := tg.ln
  exact vals_mono y (Nat.le_refl _) (by omega)
theorem vals_take {D W : Nat} {xs : List PyData} (k : Nat) (h : Vals' D W xs) : Vals' D W (xs.take k) := by
  rw [← List.take_append_drop k xs] at h
  obtain ⟨a, b, h1, _, h3⟩ := vals_split h
  exact vals_mono h1 (Nat.le_refl _) (by omega)
theorem vals_drop {D W : Nat} {xs : List PyData} (k : Nat) (h : Vals' D W xs) : Vals' D W (xs.drop k) := by
  rw [← List.take_append_drop k xs] at h
  obtain ⟨a, b, _, h2, h3⟩ := vals_split h
  exact vals_mono h2 (Nat.le_refl _) (by omega)
theorem vals_cut {D W : Nat} {xs : List PyData} (lo hi : Option Int) (h : Vals' D W xs) : Vals' D W (DL.cutD xs lo hi) := vals_take _ (vals_drop _ h)
theorem cut_len {xs : List PyData} (lo hi : Option Int) : (DL.cutD xs lo hi).length ≤ xs.length := by
  unfold DL.cutD
  rw [List.length_take, List.length_drop]
  omega
theorem vals_one {D V : Nat} {d : PyData} (h : Val D V d) : Vals' D (V + 1) [d] := vals_cons (W := 0) h vals_nil
theorem vals_rev {D W : Nat} : ∀ {xs : List PyData}, Vals' D W xs → Vals' D W xs.reverse
  | [], h => h
  | x :: xs, h => by
    obtain ⟨h1, h2, h3⟩ := vals_uncons h
    rw [List.reverse_cons]
    exact vals_mono (vals_append (vals_rev h2) (vals_one h1)) (Nat.le_refl _) (by omega)
theorem ix_any {l : List PyData} {w : Nat} (h : w < l.length) {PO : PyData → Prop} (k : ∀ d, d ∈ l → PO d) : oIxL (.list l) (.int (w : Nat)) PO := w_ixL (atI_nat (List.getElem?_eq_getElem h)) (k _ (List.getElem_mem h))
def F_bent : FD := bodyD (dB_bent F_draw F_pick) 6
set_option maxHeartbeats 8000000 in
theorem bent_spec {ts : List Tag} (tg : TgOk ts) {n : Nat} {P : PyData → Nat → Prop} (hn : n + 10 ≤ 1000000) (h : ∀ d, Val 9 900 d → P d (n + 3)) : F_bent [.deck, .dat (tagsD ts)] n P := by
  have hln := tg.ln
  have vts := vals_tags tg
  have hlen : (ts.map tagD).length ≤ 6 := by rw [List.length_map]; exact hln
  have hcl := fun lo hi => cut_len (xs := ts.map tagD) lo hi
  unfold F_bent bodyD dB_bent
  walk_at "v"
  refine w_draw (L := 14) (by omega) (by omega) (by omega) fun w hw => ?_
  walk_at "v"
  have e1 : (((ts.map tagD).length : Nat) : Int) + 1 = (((ts.map tagD).length + 1 : Nat) : Int) := by omega
  rw [e1]
  refine w_draw (by omega) (by omega) (by omega) fun v hv => ?_
  walk_at "v"
  refine ife_tag (fun K hK => ?_) fun t nv h3 => ?_
  · walk_at "w"
    refine w_ite (fun e => ?_) fun e => ?_
    · have e := of_decide_eq_true e
      have hv2 : v < ts.length := by rw [List.length_map] at e; omega
      have m := List.getElem_mem hv2
      walk_at "w"
      refine w_ixU (atI_nat (v := tagD ts[v]) (by rw [List.getElem?_map, List.getElem?_eq_getElem hv2]; rfl)) ?_
      exact hK _ (NameOk.v (tg.ok _ m).1) (tg.ok _ m).2
    · walk_at "w"
      exact hK ("void", 0) nmv_void (by decide)
  walk_at "w"
  have vn : Val 0 8 (.str t.1) := val_str nv.lv nv.sz
  have vc : Val 0 10 (.int (t.2 : Nat)) := val_small _ (by omega)
  have vup : Val 0 8 (.str (Txt.upper t.1)) := val_str nv.up.1 nv.up.2
  have vap : Val 0 16 (.str (t.1 ++ Str.ofString "abcdefgh")) := val_app (a := 8) (b := 8) nv.lv nv.sz (by decide) (by decide)
  have vvo : Val 0 4 (.str "void") := val_str (by decide) (by decide)
  have vm : ∀ {D W : Nat} {d : PyData}, D ≤ 3 → W ≤ 200 → Val D W d → Val 3 200 d := fun h1 h2 z => z.mono h1 h2
  have hx1 : t.1.length ≤ 1000000 := Nat.le_trans (show t.1.cps.size ≤ 8 from nv.sz) (by omega)
  refine ⟨log_small h3, ?_⟩
  walk_at "w"
  refine ⟨hx1, ?_⟩
  walk_at "w"
  refine w_catS (Nat.le_trans (Nat.add_le_add (show t.1.length ≤ 8 from nv.sz) (show (Str.ofString "abcdefgh").length ≤ 8 by decide)) (by omega)) ?_
  walk_at "w"
  refine w_oI ⟨by omega, by omega, by decide⟩ ?_
  walk_at "w"
  refine pick_list (by omega) (show 1 ≤ 17 by omega) (show 17 < 1000000 by omega) fun odd hodd => ?_
  have vo : Val 3 200 odd := by
    refine (?_ : AllV 3 200 _) odd hodd
    exact av_cons (vm (by omega) (by omega) vn) (av_cons (vm (by omega) (by omega) (vT1 vn)) (av_cons (vm (D := 1) (W := 60) (by omega) (by omega) (val_tup (vals_mono (vals_cons vn (vals_cons vc (vals_one vc))) (Nat.le_refl _) (by omega))))
      (av_cons (vm (by omega) (by omega) (vL2 vn vc)) (av_cons (vm (by omega) (by omega) (vT2 vc vn)) (av_cons (vm (by omega) (by omega) (vT2 vn (dig_val _ h3))) (av_cons (vm (by omega) (by omega) (vT2 vn vN))
      (av_cons (vm (by omega) (by omega) (vT2 vn (val_small (D := 0) 4 (by omega)))) (av_cons (vm (by omega) (by omega) (vT2 vn val_m1)) (av_cons (vm (by omega) (by omega) (vT2 vn (vB _))) (av_cons (vm (by omega) (by omega) (vT2 vup vc))
      (av_cons (vm (by omega) (by omega) (vT2 vvo vI0)) (av_cons (vm (by omega) (by omega) (vT2 vap vc)) (av_cons (vm (by omega) (by omega) (vT2 (val_str (D := 0) (W := 0) (by decide) (by decide)) vI0)) (av_cons (vm (by omega) (by omega) (vT2 vn val_big))
      (av_cons (vm (by omega) (by omega) (vT2 vN vc)) (av_cons (vm (by omega) (by omega) (vT2 (vT2 vn vc) vc)) av_nil))))))))))))))))
  clear hodd
  have c1 := hcl none (some (v : Int))
  have c2 := hcl (some ((v : Int) + 1)) none
  have c3 := hcl none (some ((v : Int) + 1))
  have c4 := hcl (some (v : Int)) none
  have c5 := hcl (some (v : Int)) (some ((v : Int) + 2))
  have c6 := hcl (some ((v : Int) + 2)) none
  have z1 := vals_cut none (some (v : Int)) vts
  have z2 := vals_cut (some ((v : Int) + 1)) none vts
  have z3 := vals_cut none (some ((v : Int) + 1)) vts
  have z4 := vals_cut (some (v : Int)) none vts
  have z5 := vals_cut (some (v : Int)) (some ((v : Int) + 2)) vts
  have z6 := vals_cut (some ((v : Int) + 2)) none vts
  walk_at "w"
  refine w_catU (by show _ + 1 ≤ _; omega) ?_
  walk_at "w"
  refine w_catU (by rw [List.length_append, List.length_singleton]; omega) ?_
  walk_at "w"
  have va : Val 4 460 (.tuple (DL.cutD (ts.map tagD) none (some (v : Int)) ++ [odd] ++ DL.cutD (ts.map tagD) (some ((v : Int) + 1)) none)) :=
    val_tup (vals_mono (vals_append (vals_append (vals_mono z1 (D' := 3) (by omega) (Nat.le_refl _)) (vals_one vo)) (vals_mono z2 (by omega) (Nat.le_refl _))) (Nat.le_refl _) (by omega))
  generalize hX : PyData.tuple (DL.cutD (ts.map tagD) none (some (v : Int)) ++ [odd] ++ DL.cutD (ts.map tagD) (some ((v : Int) + 1)) none) = X at va ⊢
  rw [show (List.replicate (Int.toNat 6) [X]).flatten = List.replicate 6 X from rep_one X 6]
  refine w_catU (by omega) ?_
  walk_at "w"
  refine w_catU (by omega) ?_
  walk_at "w"
  refine w_catU (by omega) ?_
  walk_at "w"
  refine ⟨_, pairs_tags _, ?_⟩
  rw [merge_tags tg.nd]
  walk_at "w"
  refine w_catU (by rw [List.length_reverse]; omega) ?_
  walk_at "w"
  refine w_catU (by rw [List.length_append, List.length_reverse]; omega) ?_
  walk_at "w"
  refine w_catU (by show _ + 1 ≤ _; omega) ?_
  walk_at "w"
  refine w_catU (by rw [List.length_append]; show _ + 1 + _ ≤ _; omega) ?_
  walk_at "w"
  have vn2 : ∀ {D W : Nat} {d : PyData}, D ≤ 9 → W ≤ 900 → Val D W d → Val 9 900 d := fun h1 h2 z => z.mono h1 h2
  have vdi : Val 1 120 (.dict (ts.map entD)) := (val_dict fun t ht => ⟨NameOk.v (tg.ok t ht).1, (tg.ok t ht).2⟩).mono (Nat.le_refl _) (by omega)
  have vV := vn2 (by omega) (by omega) va
  have w1 := vn2 (by omega) (by omega) (val_tup (vals_append z1 z2))
  have w2 := vn2 (by omega) (by omega) (val_tup (vals_append z3 z4))
  have w3 := vn2 (by omega) (by omega) (val_tup (vals_rev vts))
  have w4 := vn2 (by omega) (by omega) (val_lst vts)
  have w5 := vn2 (by omega) (by omega) (val_tup (vals_append vts vts))
  have w6 := vn2 (by omega) (by omega) vdi
  have w7 := vn2 (by omega) (by omega) (val_tup (vals_append (vals_append z1 (vals_rev z5)) z6))
  have w8 := vn2 (by omega) (by omega) (val_tup (vals_append (vals_append z1 (vals_one (vT2 vvo vI0))) z4))
  have hall : AllV 9 900 _ := av_cons vV (av_cons vV (av_cons vV (av_cons vV (av_cons vV (av_cons vV (av_cons w1 (av_cons w2 (av_cons w3 (av_cons w4 (av_cons w5 (av_cons w6 (av_cons w7 (av_cons w8 av_nil)))))))))))))
  exact ix_any (show w < 14 from hw) fun d hd => h d (hall d hd)
end K01

set_option Elab.async false
set_option linter.all false
set_option maxRecDepth 100000
set_option maxHeartbeats 4000000
/-! U01h: the law, by data. -/
namespace K01
open PySem PySem.Spec PyProof.Rows L2 GG DD PT DL LS
set_option simprocs false
local macro_rules | `(tactic| walk_at "w1") => `(tactic| with_reducible first
  | refine DL.w_seq ?_ | refine DL.w_next ?_ | refine DL.w_set ?_ | refine DL.w_setO ?_ | refine DL.w_if ?_ | refine DL.w_ret ?_ | refine DL.w_drop ?_
  | refine DL.w_par ?_ | refine DL.w_parL ?_ | refine DL.w_parR ?_ | refine DL.w_parLL ?_ | refine DL.w_asg ?_ | refine DL.w_for ?_ | refine DL.w_vsNil ?_ | refine DL.w_dIn ?_ | refine DL.w_dPut ?_
  | refine DL.w_gdN ?_ | refine DL.w_gdNil ?_ | refine DL.w_gdCons ?_
  | refine DL.w_c ?_ | refine DL.w_asL ?_ | refine DL.w_asU ?_ | refine DL.w_newL ?_ | refine DL.w_nil ?_ | refine DL.w_cons ?_ | refine DL.w_tup ?_ | refine DL.w_lst ?_ | refine DL.w_op ?_
  | refine DL.w_lenL ?_ | refine DL.w_lenD ?_ | refine DL.w_tupOf ?_ | refine DL.w_ifE ?_ | refine DL.w_cat ?_ | refine DL.w_rep ?_ | refine DL.w_call ?_ | refine DL.w_callP ?_
  | refine DL.w_xNil ?_ | refine DL.w_xCons ?_ | refine DL.w_all ?_ | refine DL.w_reprA ?_ | refine DL.w_isi ?_ | refine DL.w_andV ?_ | refine DL.w_newD ?_ | refine DL.w_dict0 ?_
  | refine DL.w_slD ?_ | refine DL.w_slU ?_ | refine DL.w_noP ?_ | refine DL.w_part ?_ | refine DL.w_listZip ?_ | refine DL.w_sortSI ?_ | refine DL.w_listRng ?_ | refine DL.w_setD ?_ | refine DL.w_dictL ?_ | refine DL.w_dictU ?_ | refine DL.w_disp ?_ | refine DL.w_psNil ?_ | refine DL.w_psCons ?_
  | refine DL.w_rng1 ?_ | refine DL.w_comp ?_ | refine DL.w_enum ?_ | refine DL.w_B ?_ | refine DL.w_and ?_ | refine DL.w_or ?_ | refine DL.w_not ?_ | refine DL.w_yes ?_
  | refine DL.w_par3 ?_ | refine DL.w_par3R ?_ | refine DL.w_par0L ?_ | refine DL.w_revL ?_ | refine DL.w_listQ ?_ | refine DL.w_star ?_ | refine DL.w_split ?_ | refine DL.w_intB ?_ | refine DL.w_dPutN ?_ | refine DL.w_dPutO ?_ | refine DL.w_listZipT ?_ | refine DL.w_callM ?_ | refine DL.w_inVar ?_ | refine DL.w_slS ?_ | refine DL.w_sortS ?_ | refine DL.w_dcomp ?_
  | refine DL.w_notV ?_ | refine DL.w_neg ?_ | refine DL.w_chain ?_ | refine DL.w_B0 ?_ | refine DL.w_allG ?_ | refine DL.w_splat ?_ | refine DL.w_isB ?_ | refine DL.w_notB ?_ | refine DL.w_find ?_ | refine DL.w_upper ?_ | refine DL.w_strIt ?_ | refine DL.w_zipS ?_ | refine DL.w_revU ?_ | refine DL.w_strI ?_ | refine DL.w_rng2 ?_)
local macro_rules | `(tactic| walk_at "w2") => `(tactic| first
  | walk_at "w1"
  | ((with_reducible apply DL.w_var); (· rfl))
  | ((with_reducible apply DL.w_xDeck); (· rfl))
  | ((with_reducible apply DL.w_listO); (· rfl))
  | ((with_reducible apply DL.w_listD); (· rfl))
  | ((with_reducible apply DL.w_app); (· exact trivial))
  | ((with_reducible apply DL.w_popAt); (· exact trivial))
  | ((with_reducible apply DL.w_dGet); (· exact trivial))
  | ((with_reducible apply DL.w_listA); (· rfl))
  | ((with_reducible apply DL.w_ext); (· exact trivial))
  | ((with_reducible apply DL.w_dGetT); (· exact trivial))
  | ((with_reducible apply DL.w_xLast); (· exact trivial))
  | ((with_reducible apply DL.w_appA); (· rfl))
  | ((with_reducible apply DL.w_listDictO); (· rfl))
  | ((with_reducible apply DL.w_lenDictO); (· rfl))
  | ((with_reducible apply DL.w_catVarO); (· rfl))
  | ((with_reducible apply DL.w_catVarD); (· rfl))
  | ((with_reducible apply DL.w_tupLL); (· decide))
  | ((with_reducible apply DL.w_fzO); (· rfl))
  | ((with_reducible apply DL.w_fzD); (· rfl))
  | ((with_reducible apply DL.w_fz); (· rfl))
  | ((with_reducible apply DL.w_gdTup); (· rfl))
  | ((with_reducible refine And.intro ?_ ?_); (· first | rfl | exact True.intro | decide | (dsimp only [List.length_cons, List.length_nil]; decide)))
  | with_reducible refine DL.w_I0 ?_ | with_reducible refine DL.w_eqI ?_ | with_reducible refine DL.w_neI ?_ | with_reducible refine DL.w_isN ?_ | with_reducible refine DL.w_notN ?_)
local macro_rules | `(tactic| walk_at "w") => `(tactic| (repeat walk_at "w2"; try dsimp only [List.set_cons_zero, List.set_cons_succ, List.cons_append, List.nil_append, List.replicate_succ, List.replicate_zero]))
set_option pp.maxSteps 1500
def plD : DV → Bool
  | .un => true
  | .dat _ => true
  | _ => false
theorem pl_own {sl : List DV} {i : Nat} {c : DV} (e : sl[i]? = some c) (h : plD c = true) : noOwnB sl [i] = true := by
  unfold noOwnB
  rw [List.all_cons, List.all_nil, e]
  cases c <;> first | rfl | cases h
/-- no item fails -/
theorem none_left {base : List DV} {g : DG} {t : DT} {e : DE} {n : Nat} {items : List PyData} {P : List PyData → Nat → Prop} (step : ∀ d, d ∈ items → ∀ (Y : PyData → Nat → Prop) (Z : Nat → Prop), Z n →
      g d (fun s1 => t s1 fun b s2 => if b = true then e s2 fun y s3 => s3.sl = s1.sl ∧ Y y s3.n else s2.sl = s1.sl ∧ Z s2.n) ⟨base, n⟩) (fin : P [] n) : dLc g t e base items [] n P :=
  lc_filter (fun _ => false) (fun d hd Y Z _ hZ => step d hd Y Z (hZ rfl)) (by
    have e : items.filter (fun _ => false) = [] := List.filter_eq_nil_iff.mpr fun a _ z => by cases z
    rw [e]
    exact fin)
def OkN (d : PyData) : Prop := Shows d ∧ Len6 d
theorem okn_val {D W : Nat} {d : PyData} (h : Val D W d) (hD : D ≤ 60) (hW : W ≤ 1000) : OkN d := ⟨h.shows hD (by omega), fun x e => by
  subst e
  exact Nat.le_trans (val_len h) (by omega)⟩
abbrev AllN (ds : List PyData) : Prop := ∀ d, d ∈ ds → OkN d
theorem an_nil : AllN [] := fun d h => absurd h List.not_mem_nil
theorem an_cons {d : PyData} {ds : List PyData} (h : OkN d) (t : AllN ds) : AllN (d :: ds) := fun x hx => by
  rcases List.mem_cons.mp hx with rfl | hx
  · exact h
  · exact t x hx
theorem shows_leaf {x : Str} (hc : ∀ c ∈ x.cps.toList, c < 16 ^ 8) (hl : x.length ≤ 10000) : Shows (.str x) := by
  refine ⟨by simp only [PyData.showable], by simp only [PyData.depth]; omega, ?_⟩
  have hv : (PyData.str x).leavesShort 40 = true := by
    simp only [PyData.leavesShort]
    exact List.all_eq_true.mpr fun c h => decide_eq_true (hc c h)
  exact ((val_str (D := 0) (W := 10000) hv hl).shows (by omega) (by omega)).sz
theorem okn_big : OkN (.str (MLS.timesS "cons" (500 : Int).toNat)) := by
  have hl : (MLS.timesS "cons" (500 : Int).toNat).length = 500 * 4 := by
    rw [MLS.times_len]
    rfl
  refine ⟨shows_leaf (fun c h => ?_) (by rw [hl]; omega), fun x e => ?_⟩
  · have e := MLS.times_list ("cons" : Str).cps (500 : Int).toNat #[]
    have h' : c ∈ ((List.replicate (500 : Int).toNat ("cons" : Str).cps).foldl (· ++ ·) #[]).toList := h
    rw [e] at h'
    simp only [List.nil_append, List.mem_flatten, List.mem_replicate] at h'
    obtain ⟨l, ⟨_, rfl⟩, hm⟩ := h'
    have ec : ("cons" : Str).cps.toList.all (fun c => decide (c < 16 ^ 8)) = true := by decide +kernel
    exact of_decide_eq_true (List.all_eq_true.mp ec c hm)
  · have e2 : MLS.timesS "cons" (500 : Int).toNat = x := PyData.str.inj e
    rw [← e2, hl]
    omega
theorem vs1 {x : Str} (h : (PyData.str x).leavesShort 40 = true) (k : x.cps.size ≤ 20) : Val 0 20 (.str x) := val_str h k
def fWide : PyData → PyData
  | .str x => .tuple [.str x, .int (Txt.find "abcxyz" x % 4)]
  | _ => .none
def fLong : PyData → PyData
  | .str x => .tuple [.str ("a" ++ x), .int 1]
  | _ => .none
theorem val_wide : Val 9 900 (.tuple ((signsD "abcxyz").map fWide)) := ⟨by decide +kernel, by decide +kernel, by decide +kernel, by decide +kernel⟩
theorem val_long : Val 9 900 (.tuple ((signsD "bcdefghijklmnopq").map fLong)) := ⟨by decide +kernel, by decide +kernel, by decide +kernel, by decide +kernel⟩
def valB (d : PyData) : Bool := d.showable && d.leavesShort 40 && decide (d.depth ≤ 9) && decide (d.weight ≤ 900)
theorem v1 {d : PyData} (h : valB d = true) : Val 9 900 d := by
  unfold valB at h
  rw [Bool.and_eq_true, Bool.and_eq_true, Bool.and_eq_true] at h
  exact ⟨h.1.1.1, h.1.1.2, of_decide_eq_true h.1.2, of_decide_eq_true h.2⟩
theorem law_holds : dB_law F_tags F_bent F_name_right F_signature_right F_pick { nx := fun _ => False, rt := fun v _ => v = .bool true } ⟨.un :: .deck :: List.replicate 9 .un, 0⟩ := by
  unfold dB_law
  walk_at "w"
  refine w_repS ⟨by omega, by omega, by decide, by decide⟩ ?_
  generalize hB : PyData.str (MLS.timesS (Str.ofString "cons") (Int.toNat 500)) = B
  have oB : OkN B := by
    rw [← hB]
    exact okn_big
  clear hB
  walk_at "w"
  refine w_oI ⟨by omega, by omega, by decide⟩ ?_
  walk_at "w"
  have on : ∀ {D W : Nat} {d : PyData}, D ≤ 60 → W ≤ 1000 → Val D W d → OkN d := fun h1 h2 h => okn_val h h1 h2
  have os : ∀ x : Str, (PyData.str x).leavesShort 40 = true → x.cps.size ≤ 20 → OkN (.str x) := fun x h k => on (by omega) (by omega) (vs1 h k)
  refine none_left (fun d hd Y Z hZ => ?_) ?_
  · have hall : OkN d := by
      refine (?_ : AllN _) d hd
      have a1 : OkN (.str "a") := os _ (by decide) (by decide)
      have va : Val 0 1 (.str "a") := val_str (by decide) (by decide)
      exact an_cons (on (by omega) (by omega) vN) (an_cons (on (by omega) (by omega) (vB true)) (an_cons (on (by omega) (by omega) vI0) (an_cons (os _ (by decide) (by decide)) (an_cons a1 (an_cons (os _ (by decide) (by decide)) (an_cons (os _ (by decide) (by decide)) (an_cons (os _ (by decide) (by decide))
        (an_cons (os _ (by decide) (by decide)) (an_cons (os _ (by decide) (by decide)) (an_cons (os _ (by decide) (by decide)) (an_cons (os _ (by decide) (by decide)) (an_cons (os _ (by decide) (by decide)) (an_cons (os _ (by decide) (by decide)) (an_cons (os _ (by decide) (by decide)) (an_cons (os _ (by decide) (by decide))
        (an_cons (on (by omega) (by omega) (vT1 va)) (an_cons (on (by omega) (by omega) (vL1 va)) (an_cons (on (by omega) (by omega) vD0) (an_cons (on (by omega) (by omega) vT0) (an_cons (os _ (by decide) (by decide)) (an_cons (os _ (by decide) (by decide)) (an_cons oB (an_cons (on (by omega) (by omega) val_big) an_nil)))))))))))))))))))))))
    walk_at "w"
    refine name_right_spec hall.1 hall.2 ?_
    walk_at "w"
    refine w_F rfl ?_
    exact ⟨rfl, hZ⟩
  walk_at "w"
  refine w_neMtL ?_
  walk_at "w"
  refine w_F rfl ?_
  walk_at "w"
  refine lc_map fWide (fun d hd Y Z hY => ?_) ?_
  · obtain ⟨c, hc, rfl⟩ := List.mem_map.mp hd
    walk_at "w"
    refine w_T rfl ?_
    walk_at "w"
    refine w_oI (by omega) ?_
    walk_at "w"
    exact hY
  have vW := val_wide
  generalize hW : PyData.tuple ((signsD (Str.ofString "abcxyz")).map fWide) = W at vW
  walk_at "w"
  refine lc_map fLong (fun d hd Y Z hY => ?_) ?_
  · obtain ⟨c, hc, rfl⟩ := List.mem_map.mp hd
    walk_at "w"
    refine w_T rfl ?_
    walk_at "w"
    refine w_catS (by show 1 + 1 ≤ _; omega) ?_
    walk_at "w"
    exact hY
  have vL := val_long
  generalize hL : PyData.tuple ((signsD (Str.ofString "bcdefghijklmnopq")).map fLong) = L at vL
  walk_at "w"
  refine w_appK rfl (show 24 < 1000000 by omega) ?_
  walk_at "w"
  refine loop_rem (fun ds s => ∃ (acc : List PyData) (x3 x4 x5 x6 x7 x8 x9 x10 : DV), s.sl = [.un, .deck, .own acc, x3, x4, x5, x6, x7, x8, x9, x10] ∧ plD x9 = true ∧ AllV 9 900 acc ∧ acc.length + 10 * ds.length ≤ 100 ∧ s.n + 100 * ds.length ≤ 1000) (fun d ds s hJ N hN => ?_) (fun s hJ => ?_) _ _ ⟨_, _, _, _, _, _, _, _, _, rfl, rfl, ?_, ?_, by show 0 + 100 * 6 ≤ _; omega⟩
  · obtain ⟨acc, x3, x4, x5, x6, x7, x8, x9, x10, hs, p9, ha, hal, hn⟩ := hJ
    obtain ⟨sl, n⟩ := s
    simp only at hs hn
    subst hs
    rw [List.length_cons] at hal hn
    walk_at "w"
    refine tags_spec (by omega) fun ts n1 tg hn1 => ?_
    walk_at "w"
    refine w_appK rfl (by omega) ?_
    have vt : Val 9 900 (tagsD ts) := (val_tup (vals_tags tg)).mono (by omega) (by omega)
    have ha1 := av_app ha (av_cons vt av_nil)
    have hal1 : (acc ++ [tagsD ts]).length = acc.length + 1 := by rw [List.length_append]; rfl
    generalize acc ++ [tagsD ts] = acc1 at ha1 hal1
    walk_at "w"
    refine loop_rem (fun ds2 s => ∃ (acc : List PyData) (x6 : DV), s.sl = [.un, .deck, .own acc, x3, .dat d, .dat (tagsD ts), x6, x7, x8, x9, x10] ∧ AllV 9 900 acc ∧ acc.length + ds2.length ≤ acc1.length + 6 ∧ s.n + 3 * ds2.length ≤ n1 + 18) (fun d2 ds2 s hJ N2 hN2 => ?_) (fun s hJ => ?_) _ _ ⟨acc1, x6, rfl, ha1, by show _ + 6 ≤ _; omega, by show n1 + 3 * 6 ≤ _; omega⟩
    · obtain ⟨acc2, y6, hs, hb, hbl, hn2⟩ := hJ
      obtain ⟨sl, n2⟩ := s
      simp only at hs hn2
      subst hs
      rw [List.length_cons] at hbl hn2
      walk_at "w"
      refine bent_spec tg (by omega) fun b vb => ?_
      walk_at "w"
      refine w_appK rfl (by omega) ?_
      refine hN2 _ ⟨acc2 ++ [b], _, rfl, av_app hb (av_cons vb av_nil), by rw [List.length_append, List.length_singleton]; omega, by show n2 + 3 + _ ≤ _; omega⟩
    · obtain ⟨acc2, y6, hs, hb, hbl, hn2⟩ := hJ
      obtain ⟨sl, n2⟩ := s
      simp only [List.length_nil, Nat.add_zero, Nat.mul_zero] at hs hn2 hbl
      subst hs
      walk_at "w"
      refine loop_rem (fun ds3 s => ∃ (x7 x8 : DV), s.sl = [.un, .deck, .own acc2, x3, .dat d, .dat (tagsD ts), y6, x7, x8, x9, x10] ∧ (∀ e, e ∈ ds3 → ∃ t : Tag, NameOk t.1 ∧ t.2 ≤ 3 ∧ e = tagD t) ∧ s.n + ds3.length ≤ n2 + 6) (fun d3 ds3 s hJ N3 hN3 => ?_) (fun s hJ => ?_) _ _ ⟨x7, x8, rfl, fun e he => ?_, by rw [List.length_map]; have := tg.ln; show n2 + _ ≤ _; omega⟩
      · obtain ⟨y7, y8, hs, he, hn3⟩ := hJ
        obtain ⟨sl, n3⟩ := s
        simp only at hs hn3
        subst hs
        rw [List.length_cons] at hn3
        obtain ⟨t, no, h3, rfl⟩ := he d3 List.mem_cons_self
        have vn : Val 0 8 (.str t.1) := val_str no.lv no.sz
        have on := okn_val vn (by omega) (by omega)
        walk_at "w"
        refine name_right_spec on.1 on.2 ?_
        walk_at "w"
        refine w_F rfl ?_
        walk_at "w"
        refine pick_list (by omega) (show 1 ≤ 5 by omega) (show 5 < 1000000 by omega) fun e he2 => ?_
        have key : ∃ y : Str, e = .str y ∧ (PyData.str y).leavesShort 40 = true ∧ y.cps.size ≤ 5 := by
          simp only [List.mem_cons, List.not_mem_nil, or_false] at he2
          rcases he2 with rfl | rfl | rfl | rfl | rfl <;> exact ⟨_, rfl, by decide, by decide⟩
        obtain ⟨y, rfl, k1, k2⟩ := key
        walk_at "w"
        refine w_catS (Nat.le_trans (Nat.add_le_add (show t.1.length ≤ 8 from no.sz) (show y.length ≤ 5 from k2)) (by omega)) ?_
        have vy := val_app (a := 8) (b := 5) no.lv no.sz k1 k2
        have oy := okn_val vy (by omega) (by omega)
        walk_at "w"
        refine name_right_spec oy.1 oy.2 ?_
        walk_at "w"
        refine w_F rfl ?_
        walk_at "w"
        exact hN3 _ ⟨_, _, rfl, fun e he4 => he e (List.mem_cons_of_mem _ he4), by show n3 + 1 + _ ≤ _; omega⟩
      · obtain ⟨y7, y8, hs, he, hn3⟩ := hJ
        obtain ⟨sl, n3⟩ := s
        simp only [List.length_nil, Nat.add_zero] at hs hn3
        subst hs
        exact hN _ ⟨acc2, _, _, _, _, _, _, x9, _, rfl, p9, hb, by omega, by show n3 + _ ≤ _; omega⟩
      · obtain ⟨t, ht, rfl⟩ := List.mem_map.mp he
        exact ⟨t, (tg.ok t ht).1, (tg.ok t ht).2, rfl⟩
  · obtain ⟨acc, x3, x4, x5, x6, x7, x8, x9, x10, hs, p9, ha, hal, hn⟩ := hJ
    obtain ⟨sl, n⟩ := s
    simp only at hs hn
    subst hs
    walk_at "w"
    refine ⟨by simp only [List.length_nil] at hal; omega, pl_own rfl p9, none_left (fun x hx Y Z hZ => ?_) ?_⟩
    · walk_at "w"
      refine signature_right_spec (ha x hx) (by omega) (by omega) ?_
      walk_at "w"
      refine w_F rfl ?_
      exact ⟨rfl, hZ⟩
    walk_at "w"
    refine w_eqMtL ?_
    rfl
  · exact av_app (av_cons (v1 (by decide +kernel)) (av_cons (v1 (by decide +kernel)) (av_cons (v1 (by decide +kernel)) (av_cons (v1 (by decide +kernel)) (av_cons (v1 (by decide +kernel)) (av_cons (v1 (by decide +kernel)) (av_cons (v1 (by decide +kernel)) (av_cons (v1 (by decide +kernel)) (av_cons (v1 (by decide +kernel)) (av_cons (v1 (by decide +kernel)) (av_cons (v1 (by decide +kernel)) (av_cons (v1 (by decide +kernel)) (av_cons (v1 (by decide +kernel)) (av_cons (v1 (by decide +kernel)) (av_cons (v1 (by decide +kernel)) (av_cons (v1 (by decide +kernel)) (av_cons (v1 (by decide +kernel)) (av_cons (v1 (by decide +kernel)) (av_cons (v1 (by decide +kernel)) (av_cons vW (av_cons (v1 (by decide +kernel)) (av_cons (v1 (by decide +kernel)) (av_cons (v1 (by decide +kernel)) (av_cons (v1 (by decide +kernel)) av_nil)))))))))))))))))))))))) (av_cons vL av_nil)
  · show 25 + 10 * 6 ≤ 100
    omega
end K01

set_option Elab.async false
set_option linter.all false
set_option maxRecDepth 100000
set_option maxHeartbeats 4000000
/-! FN01: what the head tells, joined. -/
namespace K01
open PySem PySem.Spec PyProof.Rows L2 GG DD PT DL
section
variable {P : Program} {w : World} {K : PySem.W.Frag} {mg : Str → Option Value} {base : Heap}
theorem all_mk {h : Heap} (X : K.In h) (G : h.Ns mainGlobals mg)
    {fa d0 d1 d2 d3 d4 d5 d6 d7 d8 d9 d10 d11 d12 d13 d14 d15 d16 : Addr}
    {oc0 kV0 dc0 pm0 cd0 ct0 oc1 kV1 dc1 pm1 cd1 ct1 oc2 kV2 dc2 pm2 cd2 ct2 oc3 kV3 dc3 pm3 cd3 ct3 oc4 kV4 dc4 pm4 ct4 oc5 kV5 dc5 pm5 cd5 ct5 oc6 kV6 dc6 pm6 ct6 oc7 kV7 dc7 pm7 cd7 ct7 oc8 kV8 dc8 pm8 cd8 ct8 oc9 kV9 dc9 pm9 cd9 ct9 oc10 kV10 dc10 pm10 cd10 ct10 oc11 kV11 dc11 pm11 cd11 ct11 oc12 kV12 dc12 pm12 cd12 ct12 oc13 kV13 dc13 pm13 cd13 ct13 oc14 kV14 dc14 pm14 cd14 ct14 oc15 kV15 dc15 pm15 cd15 ct15 oc16 kV16 dc16 pm16 cd16 ct16 : Value}
    {od0 an0 od1 an1 od2 an2 od3 an3 od4 an4 od5 an5 od6 an6 od7 an7 od8 an8 od9 an9 od10 an10 od11 an11 od12 an12 od13 an13 od14 an14 od15 an15 od16 an16 : Option Addr}
    {sl0 sl1 sl2 sl3 sl4 sl5 sl6 sl7 sl8 sl9 sl10 sl11 sl12 sl13 sl14 sl15 sl16 : Array (Option Value)}
    (ad0 : PySem.W.nsIn K mainGlobals "_law_deck" = some (some (.ref d0)))
    (ld0 : K.lookup d0 = some ⟨oc0, od0, .func (PySem.W.fnOf "_law_deck" "_law_deck" (defArgs s_deck) (defBody s_deck) (defScope s_deck) .none kV0 dc0 pm0 an0 cd0 ct0), sl0⟩)
    (cc0 : PySem.W.codeIn K cd0 "_law_deck" = true)
    (kd0 : PySem.W.keepIn K (.ref d0) = true)
    (ad1 : PySem.W.nsIn K mainGlobals "_law_draw" = some (some (.ref d1)))
    (ld1 : K.lookup d1 = some ⟨oc1, od1, .func (PySem.W.fnOf "_law_draw" "_law_draw" (defArgs s_draw) (defBody s_draw) (defScope s_draw) .none kV1 dc1 pm1 an1 cd1 ct1), sl1⟩)
    (cc1 : PySem.W.codeIn K cd1 "_law_draw" = true)
    (kd1 : PySem.W.keepIn K (.ref d1) = true)
    (ad2 : PySem.W.nsIn K mainGlobals "is_integer" = some (some (.ref d2)))
    (ld2 : K.lookup d2 = some ⟨oc2, od2, .func (PySem.W.fnOf "is_integer" "is_integer" (defArgs s_is_integer) (defBody s_is_integer) (defScope s_is_integer) .none kV2 dc2 pm2 an2 cd2 ct2), sl2⟩)
    (cc2 : PySem.W.codeIn K cd2 "is_integer" = true)
    (kd2 : PySem.W.keepIn K (.ref d2) = true)
    (ad3 : PySem.W.nsIn K mainGlobals "is_index" = some (some (.ref d3)))
    (ld3 : K.lookup d3 = some ⟨oc3, od3, .func (PySem.W.fnOf "is_index" "is_index" (defArgs s_is_index) (defBody s_is_index) (defScope s_is_index) .none kV3 dc3 pm3 an3 cd3 ct3), sl3⟩)
    (cc3 : PySem.W.codeIn K cd3 "is_index" = true)
    (kd3 : PySem.W.keepIn K (.ref d3) = true)
    (ad4 : PySem.W.nsIn K mainGlobals "is_name" = some (some (.ref d4)))
    (ld4 : K.lookup d4 = some ⟨oc4, od4, .func (PySem.W.fnOf "is_name" "is_name" (defArgs s_is_name) (defBody s_is_name) (defScope s_is_name) .none kV4 dc4 pm4 an4 (.ref 34) ct4), sl4⟩)
    (cc4 : PySem.W.codeIn K (.ref 34) "is_name" = true)
    (kd4 : PySem.W.keepIn K (.ref d4) = true)
    (ad5 : PySem.W.nsIn K mainGlobals "is_entry" = some (some (.ref d5)))
    (ld5 : K.lookup d5 = some ⟨oc5, od5, .func (PySem.W.fnOf "is_entry" "is_entry" (defArgs s_is_entry) (defBody s_is_entry) (defScope s_is_entry) .none kV5 dc5 pm5 an5 cd5 ct5), sl5⟩)
    (cc5 : PySem.W.codeIn K cd5 "is_entry" = true)
    (kd5 : PySem.W.keepIn K (.ref d5) = true)
    (ad6 : PySem.W.nsIn K mainGlobals "is_signature" = some (some (.ref d6)))
    (ld6 : K.lookup d6 = some ⟨oc6, od6, .func (PySem.W.fnOf "is_signature" "is_signature" (defArgs s_is_signature) (defBody s_is_signature) (defScope s_is_signature) .none kV6 dc6 pm6 an6 (.ref 48) ct6), sl6⟩)
    (cc6 : PySem.W.codeIn K (.ref 48) "is_signature" = true)
    (kd6 : PySem.W.keepIn K (.ref d6) = true)
    (ad7 : PySem.W.nsIn K mainGlobals "_law_pick" = some (some (.ref d7)))
    (ld7 : K.lookup d7 = some ⟨oc7, od7, .func (PySem.W.fnOf "_law_pick" "_law_pick" (defArgs s_pick) (defBody s_pick) (defScope s_pick) .none kV7 dc7 pm7 an7 cd7 ct7), sl7⟩)
    (cc7 : PySem.W.codeIn K cd7 "_law_pick" = true)
    (kd7 : PySem.W.keepIn K (.ref d7) = true)
    (ad8 : PySem.W.nsIn K mainGlobals "_law_names" = some (some (.ref d8)))
    (ld8 : K.lookup d8 = some ⟨oc8, od8, .func (PySem.W.fnOf "_law_names" "_law_names" (defArgs s_names) (defBody s_names) (defScope s_names) .none kV8 dc8 pm8 an8 cd8 ct8), sl8⟩)
    (cc8 : PySem.W.codeIn K cd8 "_law_names" = true)
    (kd8 : PySem.W.keepIn K (.ref d8) = true)
    (ad9 : PySem.W.nsIn K mainGlobals "_law_tags" = some (some (.ref d9)))
    (ld9 : K.lookup d9 = some ⟨oc9, od9, .func (PySem.W.fnOf "_law_tags" "_law_tags" (defArgs s_tags) (defBody s_tags) (defScope s_tags) .none kV9 dc9 pm9 an9 cd9 ct9), sl9⟩)
    (cc9 : PySem.W.codeIn K cd9 "_law_tags" = true)
    (kd9 : PySem.W.keepIn K (.ref d9) = true)
    (ad10 : PySem.W.nsIn K mainGlobals "_law_is_name" = some (some (.ref d10)))
    (ld10 : K.lookup d10 = some ⟨oc10, od10, .func (PySem.W.fnOf "_law_is_name" "_law_is_name" (defArgs s_l_is_name) (defBody s_l_is_name) (defScope s_l_is_name) .none kV10 dc10 pm10 an10 cd10 ct10), sl10⟩)
    (cc10 : PySem.W.codeIn K cd10 "_law_is_name" = true)
    (kd10 : PySem.W.keepIn K (.ref d10) = true)
    (ad11 : PySem.W.nsIn K mainGlobals "_law_is_entry" = some (some (.ref d11)))
    (ld11 : K.lookup d11 = some ⟨oc11, od11, .func (PySem.W.fnOf "_law_is_entry" "_law_is_entry" (defArgs s_l_is_entry) (defBody s_l_is_entry) (defScope s_l_is_entry) .none kV11 dc11 pm11 an11 cd11 ct11), sl11⟩)
    (cc11 : PySem.W.codeIn K cd11 "_law_is_entry" = true)
    (kd11 : PySem.W.keepIn K (.ref d11) = true)
    (ad12 : PySem.W.nsIn K mainGlobals "_law_is_signature" = some (some (.ref d12)))
    (ld12 : K.lookup d12 = some ⟨oc12, od12, .func (PySem.W.fnOf "_law_is_signature" "_law_is_signature" (defArgs s_l_is_signature) (defBody s_l_is_signature) (defScope s_l_is_signature) .none kV12 dc12 pm12 an12 cd12 ct12), sl12⟩)
    (cc12 : PySem.W.codeIn K cd12 "_law_is_signature" = true)
    (kd12 : PySem.W.keepIn K (.ref d12) = true)
    (ad13 : PySem.W.nsIn K mainGlobals "_law_bent" = some (some (.ref d13)))
    (ld13 : K.lookup d13 = some ⟨oc13, od13, .func (PySem.W.fnOf "_law_bent" "_law_bent" (defArgs s_bent) (defBody s_bent) (defScope s_bent) .none kV13 dc13 pm13 an13 cd13 ct13), sl13⟩)
    (cc13 : PySem.W.codeIn K cd13 "_law_bent" = true)
    (kd13 : PySem.W.keepIn K (.ref d13) = true)
    (ad14 : PySem.W.nsIn K mainGlobals "_law_signature_right" = some (some (.ref d14)))
    (ld14 : K.lookup d14 = some ⟨oc14, od14, .func (PySem.W.fnOf "_law_signature_right" "_law_signature_right" (defArgs s_signature_right) (defBody s_signature_right) (defScope s_signature_right) .none kV14 dc14 pm14 an14 cd14 ct14), sl14⟩)
    (cc14 : PySem.W.codeIn K cd14 "_law_signature_right" = true)
    (kd14 : PySem.W.keepIn K (.ref d14) = true)
    (ad15 : PySem.W.nsIn K mainGlobals "_law_name_right" = some (some (.ref d15)))
    (ld15 : K.lookup d15 = some ⟨oc15, od15, .func (PySem.W.fnOf "_law_name_right" "_law_name_right" (defArgs s_name_right) (defBody s_name_right) (defScope s_name_right) .none kV15 dc15 pm15 an15 cd15 ct15), sl15⟩)
    (cc15 : PySem.W.codeIn K cd15 "_law_name_right" = true)
    (kd15 : PySem.W.keepIn K (.ref d15) = true)
    (ad16 : PySem.W.nsIn K mainGlobals "law" = some (some (.ref d16)))
    (ld16 : K.lookup d16 = some ⟨oc16, od16, .func (PySem.W.fnOf "law" "law" (defArgs s_law) (defBody s_law) (defScope s_law) .none kV16 dc16 pm16 an16 cd16 ct16), sl16⟩)
    (cc16 : PySem.W.codeIn K cd16 "law" = true)
    (kd16 : PySem.W.keepIn K (.ref d16) = true)
    (n_all : PySem.W.nsIn K mainGlobals "all" = some none)
    (n_bool : PySem.W.nsIn K mainGlobals "bool" = some none)
    (n_dict : PySem.W.nsIn K mainGlobals "dict" = some none)
    (n_int : PySem.W.nsIn K mainGlobals "int" = some none)
    (n_isinstance : PySem.W.nsIn K mainGlobals "isinstance" = some none)
    (n_len : PySem.W.nsIn K mainGlobals "len" = some none)
    (n_list : PySem.W.nsIn K mainGlobals "list" = some none)
    (n_range : PySem.W.nsIn K mainGlobals "range" = some none)
    (n_repr : PySem.W.nsIn K mainGlobals "repr" = some none)
    (n_sorted : PySem.W.nsIn K mainGlobals "sorted" = some none)
    (n_str : PySem.W.nsIn K mainGlobals "str" = some none)
    (n_tuple : PySem.W.nsIn K mainGlobals "tuple" = some none)
    (n_zip : PySem.W.nsIn K mainGlobals "zip" = some none)
    {t_MOST_FIELDS : Tok} (g_MOST_FIELDS : PySem.W.nsIn K mainGlobals "MOST_FIELDS" = some (some (.int 3 t_MOST_FIELDS)))
    {t_MOST_LETTERS : Tok} (g_MOST_LETTERS : PySem.W.nsIn K mainGlobals "MOST_LETTERS" = some (some (.int 8 t_MOST_LETTERS)))
    {t_VOID_TAG : Tok} (g_VOID_TAG : PySem.W.nsIn K mainGlobals "VOID_TAG" = some (some (.str "void" t_VOID_TAG)))
    (sys : SysK K)
    (hfa : mg "law" = some (.ref fa)) :
    ∃ fd : FuncData, (∀ (s : Shared) (u : Value), BindsTo s fd ⟨[u], []⟩ [("_law_script", u)]) ∧ ∀ base : Heap, K.In base → base.Ns mainGlobals mg → GxR.TabB base mg 34 30 → GxR.TabB base mg 48 44 → Fg P w K mg base 13 fa fd ["_law_script"] (spLaw K) := by
  have e := hfa.symm.trans (PySem.W.mg_of X G ad16)
  cases e
  have m_all := PySem.W.mg_none_of X G n_all
  have m_bool := PySem.W.mg_none_of X G n_bool
  have m_dict := PySem.W.mg_none_of X G n_dict
  have m_int := PySem.W.mg_none_of X G n_int
  have m_isinstance := PySem.W.mg_none_of X G n_isinstance
  have m_len := PySem.W.mg_none_of X G n_len
  have m_list := PySem.W.mg_none_of X G n_list
  have m_range := PySem.W.mg_none_of X G n_range
  have m_repr := PySem.W.mg_none_of X G n_repr
  have m_sorted := PySem.W.mg_none_of X G n_sorted
  have m_str := PySem.W.mg_none_of X G n_str
  have m_tuple := PySem.W.mg_none_of X G n_tuple
  have m_zip := PySem.W.mg_none_of X G n_zip
  have m_MOST_FIELDS := PySem.W.mg_of X G g_MOST_FIELDS
  have m_MOST_LETTERS := PySem.W.mg_of X G g_MOST_LETTERS
  have m_VOID_TAG := PySem.W.mg_of X G g_VOID_TAG
  have F0 := fun_mk (st := s_deck) ld0 cc0 kd0
  have bd0 := F0.binds (ps := ["_law_script"]) fun _ _ _ _ _ _ us hl => match us, hl with | [_], _ => rfl
  have F1 := fun_mk (st := s_draw) ld1 cc1 kd1
  have bd1 := F1.binds (ps := ["_law_deck_here", "_law_limit"]) fun _ _ _ _ _ _ us hl => match us, hl with | [_, _], _ => rfl
  have F2 := fun_mk (st := s_is_integer) ld2 cc2 kd2
  have bd2 := F2.binds (ps := ["thing"]) fun _ _ _ _ _ _ us hl => match us, hl with | [_], _ => rfl
  have F3 := fun_mk (st := s_is_index) ld3 cc3 kd3
  have bd3 := F3.binds (ps := ["thing", "count"]) fun _ _ _ _ _ _ us hl => match us, hl with | [_, _], _ => rfl
  have F4 := fun_mk (st := s_is_name) ld4 cc4 kd4
  have bd4 := F4.binds (ps := ["thing"]) fun _ _ _ _ _ _ us hl => match us, hl with | [_], _ => rfl
  have F5 := fun_mk (st := s_is_entry) ld5 cc5 kd5
  have bd5 := F5.binds (ps := ["thing"]) fun _ _ _ _ _ _ us hl => match us, hl with | [_], _ => rfl
  have F6 := fun_mk (st := s_is_signature) ld6 cc6 kd6
  have bd6 := F6.binds (ps := ["thing"]) fun _ _ _ _ _ _ us hl => match us, hl with | [_], _ => rfl
  have F7 := fun_mk (st := s_pick) ld7 cc7 kd7
  have bd7 := F7.binds (ps := ["_law_deck_here", "_law_items"]) fun _ _ _ _ _ _ us hl => match us, hl with | [_, _], _ => rfl
  have F8 := fun_mk (st := s_names) ld8 cc8 kd8
  have bd8 := F8.binds (ps := ["_law_deck_here", "_law_many"]) fun _ _ _ _ _ _ us hl => match us, hl with | [_, _], _ => rfl
  have F9 := fun_mk (st := s_tags) ld9 cc9 kd9
  have bd9 := F9.binds (ps := ["_law_deck_here"]) fun _ _ _ _ _ _ us hl => match us, hl with | [_], _ => rfl
  have F10 := fun_mk (st := s_l_is_name) ld10 cc10 kd10
  have bd10 := F10.binds (ps := ["_law_it"]) fun _ _ _ _ _ _ us hl => match us, hl with | [_], _ => rfl
  have F11 := fun_mk (st := s_l_is_entry) ld11 cc11 kd11
  have bd11 := F11.binds (ps := ["_law_it"]) fun _ _ _ _ _ _ us hl => match us, hl with | [_], _ => rfl
  have F12 := fun_mk (st := s_l_is_signature) ld12 cc12 kd12
  have bd12 := F12.binds (ps := ["_law_it"]) fun _ _ _ _ _ _ us hl => match us, hl with | [_], _ => rfl
  have F13 := fun_mk (st := s_bent) ld13 cc13 kd13
  have bd13 := F13.binds (ps := ["_law_deck_here", "_law_it"]) fun _ _ _ _ _ _ us hl => match us, hl with | [_, _], _ => rfl
  have F14 := fun_mk (st := s_signature_right) ld14 cc14 kd14
  have bd14 := F14.binds (ps := ["_law_it"]) fun _ _ _ _ _ _ us hl => match us, hl with | [_], _ => rfl
  have F15 := fun_mk (st := s_name_right) ld15 cc15 kd15
  have bd15 := F15.binds (ps := ["_law_it"]) fun _ _ _ _ _ _ us hl => match us, hl with | [_], _ => rfl
  have F16 := fun_mk (st := s_law) ld16 cc16 kd16
  refine ⟨PySem.W.fnOf "law" "law" (defArgs s_law) (defBody s_law) (defScope s_law) .none kV16 dc16 pm16 an16 cd16 ct16, fun s u => .of_eq rfl, fun base hK hG TB30 TB44 => ?_⟩
  have A0 : Fg P w K mg base 1 _ _ ["_law_script"] (spDeckH K) := ok_deck F0 m_list
  have D0 : Df P w K mg base 1 "_law_deck" ["_law_script"] (spDeckH K) := ⟨⟨_, _, A0, PySem.W.mg_of X G ad0, kd0, bd0⟩⟩
  have A1 : Fg P w K mg base 1 _ _ ["_law_deck_here", "_law_limit"] (spOf K 2 (F_draw)) := ok_draw F1
  have D1 : Df P w K mg base 1 "_law_draw" ["_law_deck_here", "_law_limit"] (spOf K 2 (F_draw)) := ⟨⟨_, _, A1, PySem.W.mg_of X G ad1, kd1, bd1⟩⟩
  have A2 : Fg P w K mg base 1 _ _ ["thing"] (spOf K 1 (F_is_integer)) := ok_is_integer F2 m_bool m_int m_isinstance
  have D2 : Df P w K mg base 1 "is_integer" ["thing"] (spOf K 1 (F_is_integer)) := ⟨⟨_, _, A2, PySem.W.mg_of X G ad2, kd2, bd2⟩⟩
  have A3 : Fg P w K mg base 2 _ _ ["thing", "count"] (spOf K 2 (F_is_index)) := ok_is_index F3 D2 (by omega)
  have D3 : Df P w K mg base 2 "is_index" ["thing", "count"] (spOf K 2 (F_is_index)) := ⟨⟨_, _, A3, PySem.W.mg_of X G ad3, kd3, bd3⟩⟩
  have A4 : Fg P w K mg base 5 _ _ ["thing"] (spOf K 1 (F_is_name)) := ok_is_name m_all m_isinstance m_len m_str m_MOST_LETTERS TB30 (by decide) (by omega) ⟨F4, ⟨_, _, _, _, _, rfl⟩⟩
  have D4 : Df P w K mg base 5 "is_name" ["thing"] (spOf K 1 (F_is_name)) := ⟨⟨_, _, A4, PySem.W.mg_of X G ad4, kd4, bd4⟩⟩
  have DK4_thing : DfK P w K mg base 5 "is_name" ["thing"] ["thing"] [0] (spOf K 1 (F_is_name)) := ⟨⟨_, _, A4, PySem.W.mg_of X G ad4, kd4, kb F4 (ps := ["thing"]) (ks := ["thing"]) (π := [0]) fun _ _ _ _ _ _ us hl => match us, hl with | [_], _ => rfl⟩⟩
  have A5 : Fg P w K mg base 6 _ _ ["thing"] (spOf K 1 (F_is_entry)) := ok_is_entry F5 D4 D3 m_isinstance m_len m_tuple m_MOST_FIELDS m_VOID_TAG (by omega) (by omega)
  have D5 : Df P w K mg base 6 "is_entry" ["thing"] (spOf K 1 (F_is_entry)) := ⟨⟨_, _, A5, PySem.W.mg_of X G ad5, kd5, bd5⟩⟩
  have A6 : Fg P w K mg base 11 _ _ ["thing"] (spOf K 1 (F_is_signature)) := ok_is_signature D5 m_all m_isinstance m_tuple m_zip TB44 (by decide) (by omega) (by omega) ⟨F6, ⟨_, _, _, _, _, rfl⟩⟩
  have D6 : Df P w K mg base 11 "is_signature" ["thing"] (spOf K 1 (F_is_signature)) := ⟨⟨_, _, A6, PySem.W.mg_of X G ad6, kd6, bd6⟩⟩
  have DK6_thing : DfK P w K mg base 11 "is_signature" ["thing"] ["thing"] [0] (spOf K 1 (F_is_signature)) := ⟨⟨_, _, A6, PySem.W.mg_of X G ad6, kd6, kb F6 (ps := ["thing"]) (ks := ["thing"]) (π := [0]) fun _ _ _ _ _ _ us hl => match us, hl with | [_], _ => rfl⟩⟩
  have A7 : Fg P w K mg base 2 _ _ ["_law_deck_here", "_law_items"] (spOf K 2 (F_pick)) := ok_pick F7 D1 m_len (by omega)
  have D7 : Df P w K mg base 2 "_law_pick" ["_law_deck_here", "_law_items"] (spOf K 2 (F_pick)) := ⟨⟨_, _, A7, PySem.W.mg_of X G ad7, kd7, bd7⟩⟩
  have A8 : Fg P w K mg base 2 _ _ ["_law_deck_here", "_law_many"] (spOf K 2 (F_names)) := ok_names F8 D1 m_range m_sorted (by omega)
  have D8 : Df P w K mg base 2 "_law_names" ["_law_deck_here", "_law_many"] (spOf K 2 (F_names)) := ⟨⟨_, _, A8, PySem.W.mg_of X G ad8, kd8, bd8⟩⟩
  have A9 : Fg P w K mg base 3 _ _ ["_law_deck_here"] (spOf K 1 (F_tags)) := ok_tags F9 D8 D1 D7 m_tuple (by omega) (by omega) (by omega)
  have D9 : Df P w K mg base 3 "_law_tags" ["_law_deck_here"] (spOf K 1 (F_tags)) := ⟨⟨_, _, A9, PySem.W.mg_of X G ad9, kd9, bd9⟩⟩
  have A10 : Fg P w K mg base 1 _ _ ["_law_it"] (spOf K 1 (F_l_is_name)) := ok_l_is_name F10 m_isinstance m_len m_str
  have D10 : Df P w K mg base 1 "_law_is_name" ["_law_it"] (spOf K 1 (F_l_is_name)) := ⟨⟨_, _, A10, PySem.W.mg_of X G ad10, kd10, bd10⟩⟩
  have A11 : Fg P w K mg base 2 _ _ ["_law_it"] (spOf K 1 (F_l_is_entry)) := ok_l_is_entry F11 D10 m_bool m_int m_isinstance m_len m_tuple (by omega)
  have D11 : Df P w K mg base 2 "_law_is_entry" ["_law_it"] (spOf K 1 (F_l_is_entry)) := ⟨⟨_, _, A11, PySem.W.mg_of X G ad11, kd11, bd11⟩⟩
  have A12 : Fg P w K mg base 3 _ _ ["_law_it"] (spOf K 1 (F_l_is_signature)) := ok_l_is_signature F12 D11 m_isinstance m_len m_range m_tuple (by omega)
  have D12 : Df P w K mg base 3 "_law_is_signature" ["_law_it"] (spOf K 1 (F_l_is_signature)) := ⟨⟨_, _, A12, PySem.W.mg_of X G ad12, kd12, bd12⟩⟩
  have A13 : Fg P w K mg base 3 _ _ ["_law_deck_here", "_law_it"] (spOf K 2 (F_bent)) := ok_bent F13 D1 D7 m_dict m_len m_list m_str (by omega) (by omega)
  have D13 : Df P w K mg base 3 "_law_bent" ["_law_deck_here", "_law_it"] (spOf K 2 (F_bent)) := ⟨⟨_, _, A13, PySem.W.mg_of X G ad13, kd13, bd13⟩⟩
  have A14 : Fg P w K mg base 12 _ _ ["_law_it"] (spOf K 1 (F_signature_right)) := ok_signature_right F14 D12 D6 DK6_thing m_repr sys (by omega) (by omega)
  have D14 : Df P w K mg base 12 "_law_signature_right" ["_law_it"] (spOf K 1 (F_signature_right)) := ⟨⟨_, _, A14, PySem.W.mg_of X G ad14, kd14, bd14⟩⟩
  have A15 : Fg P w K mg base 6 _ _ ["_law_it"] (spOf K 1 (F_name_right)) := ok_name_right F15 D10 D4 DK4_thing m_repr sys (by omega) (by omega)
  have D15 : Df P w K mg base 6 "_law_name_right" ["_law_it"] (spOf K 1 (F_name_right)) := ⟨⟨_, _, A15, PySem.W.mg_of X G ad15, kd15, bd15⟩⟩
  exact ok_law F16 D0 D9 D13 D15 D14 D7 m_range m_tuple (by omega) (by omega) (by omega) (by omega) (by omega) (by omega) law_holds
end
end K01

open PySem PySem.W PyProof.Rows
set_option Elab.async false
set_option maxRecDepth 100000
set_option maxHeartbeats 0
open_top head for PySem.Challenge.rw_roundcalls_k01_names_and_signatures

set_option Elab.async false
set_option linter.all false
set_option maxRecDepth 100000
set_option pp.maxSteps 60
open PySem PySem.W PyProof.Rows
noncomputable def o1 (p : Params) : Obj := (boot_heap p).objs.getD 1 default
noncomputable def KS (p : Params) : Frag := (fun (K : Frag) (_ : K = (nat_lit 1, o1 p) :: head.heap_39 p) => K) _ (by delta head.heap_39; exact rfl)
def asS : List Addr := 1 :: [2,3,6,15,17,18,20,21,22,24,25,27,28,29,31,32,34,35,36,38,39,41,42,43,45,46,48,49,50,52,53,55,56,57,59,60,62,63,64,66,67,69,70,71,73,74,76,77,78,81,82,83,86,87,88,90,91,93,94,95,98,99,100,102,103,105,106,107,109,110,112,113,114,116,117,119,120,121,124,125]
theorem sysc (p : Params) : (o1 p).cls = .type "dict" := by kernel_rfl
theorem sysK (p : Params) : DL.SysK (KS p) := ⟨o1 p, rfl, sysc p⟩
noncomputable def KT (p : Params) : Frag := (fun (K : Frag) (_ : K = (nat_lit 30, { cls := .none, data := .fields #[] }) :: (nat_lit 44, { cls := .none, data := .fields #[] }) :: (nat_lit 1, o1 p) :: head.heap_39 p) => K) _ (by delta head.heap_39; exact rfl)
def asT : List Addr := 30 :: 44 :: asS
theorem nl30 (p : Params) : (KS p).lookup 30 = none := by kernel_rfl
theorem nl44 (p : Params) : (KS p).lookup 44 = none := by kernel_rfl
theorem ch30 (p : Params) : PySem.W.codeHdIn (KS p) 34 30 = true := by kernel_rfl
theorem ch44 (p : Params) : PySem.W.codeHdIn (KS p) 48 44 = true := by kernel_rfl
theorem gt30 {p : Params} {h : Heap} (X : (KT p).In h) : h.get? 30 = some GG.tabO := X 30 _ (by kernel_rfl)
theorem gt44 {p : Params} {h : Heap} (X : (KT p).In h) : h.get? 44 = some GG.tabO := X 44 _ (by kernel_rfl)
theorem in_tail {q : Addr × Obj} {K : Frag} {h : Heap} (n : K.lookup q.1 = none) (X : PySem.W.Frag.In (q :: K) h) : K.In h := fun a o e => X a o (by
  rw [List.lookup_cons]
  by_cases z : a = q.1
  · rw [z, n] at e
    cases e
  · rw [beq_eq_false_iff_ne.mpr z]
    exact e)
theorem kt_ks {p : Params} {h : Heap} (X : (KT p).In h) : (KS p).In h := by
  have X0 : PySem.W.Frag.In ((30, GG.tabO) :: (44, GG.tabO) :: KS p) h := X
  have X1 : PySem.W.Frag.In ((44, GG.tabO) :: KS p) h := in_tail (by first | exact nl30 p | kernel_rfl) X0
  have X2 : PySem.W.Frag.In ( KS p) h := in_tail (by first | exact nl44 p | kernel_rfl) X1
  exact X2
theorem at_T {w : World} {mg : Str → Option Value} {fa : Addr} {h : Heap} (XT : (KT w.params).In h)
    (mk : ∃ fd : FuncData, (∀ (s : Shared) (u : Value), BindsTo s fd ⟨[u], []⟩ [("_law_script", u)]) ∧ ∀ base : Heap, (KS w.params).In base → base.Ns mainGlobals mg → GxR.TabB base mg 34 30 → GxR.TabB base mg 48 44 → GG.Fg PySem.Challenge.rw_roundcalls_k01_names_and_signatures.prog w (KS w.params) mg base 13 fa fd ["_law_script"] (DL.spLaw (KS w.params))) :
    GG.LawAtT PySem.Challenge.rw_roundcalls_k01_names_and_signatures w (KS w.params) 13 "_law_script" (DL.spLaw (KS w.params)) DL.tabs mg fa h := by
  obtain ⟨fd, hb, hF⟩ := mk
  refine ⟨fd, [(34, 30), (48, 44)], ?_, ?_, ?_, ?_, ?_, hb, fun base hK hG hT => hF base hK hG (hT (34, 30) (by simp)) (hT (48, 44) (by simp))⟩
  · intro t m
    rcases List.mem_cons.mp m with rfl | m
    · exact gt30 XT
    rcases List.mem_cons.mp m with rfl | m
    · exact gt44 XT
    exact absurd m List.not_mem_nil
  · intro t m
    rcases List.mem_cons.mp m with rfl | m
    · exact nl30 _
    rcases List.mem_cons.mp m with rfl | m
    · exact nl44 _
    exact absurd m List.not_mem_nil
  · intro p m
    revert p
    decide
  · intro t m
    rcases List.mem_cons.mp m with rfl | m
    · exact ⟨(34, 30), by simp, rfl⟩
    rcases List.mem_cons.mp m with rfl | m
    · exact ⟨(48, 44), by simp, rfl⟩
    exact absurd m List.not_mem_nil
  · intro p m
    rcases List.mem_cons.mp m with rfl | m
    · exact PySem.W.codeHd_of_K (kt_ks XT) (ch30 _)
    rcases List.mem_cons.mp m with rfl | m
    · exact PySem.W.codeHd_of_K (kt_ks XT) (ch44 _)
    exact absurd m List.not_mem_nil
set_option maxHeartbeats 0 in
theorem PySem.Challenge.cw_roundcalls_k01_names_and_signatures_holds : PySem.Challenge.rw_roundcalls_k01_names_and_signatures.Holds := by
  w_on; o_law
  o_head (kHook KT asT (fun _ => by kernel_rfl))
  case hw => w_witness2
  have kf : (KS, PySem.Challenge.rw_roundcalls_k01_names_and_signatures) = (KS, PySem.Challenge.rw_roundcalls_k01_names_and_signatures) := by
    k_fill
    rfl
  refine GG.walk_goT (l := PySem.Challenge.rw_roundcalls_k01_names_and_signatures) (n := 63) (k := 13) (K := KS) (sp := DL.spLaw) (ts := DL.tabs) (x := "_law_script") rfl (by decide) rfl ⟨⟨rfl, by decide, by decide⟩, rfl⟩ (fun w h Y => kt_ks (PySem.W.kIn_of Y)) ?F (fun K H a ns hl hT hS => ⟨a, ns, rfl, hS, hl, fun t ht => ⟨#[], hT t ht, by first | exact True.intro | simp [TriplesOk]⟩, fun _ => rfl⟩)
  case F =>
    intro w mg fa h Y KX G hmg
    replace hmg : mg "law" = some (.ref fa) := hmg
    refine' at_T (PySem.W.kIn_of Y) (K01.all_mk KX G ?ad0 ?ld0 ?cc0 ?kd0 ?ad1 ?ld1 ?cc1 ?kd1 ?ad2 ?ld2 ?cc2 ?kd2 ?ad3 ?ld3 ?cc3 ?kd3 ?ad4 ?ld4 ?cc4 ?kd4 ?ad5 ?ld5 ?cc5 ?kd5 ?ad6 ?ld6 ?cc6 ?kd6 ?ad7 ?ld7 ?cc7 ?kd7 ?ad8 ?ld8 ?cc8 ?kd8 ?ad9 ?ld9 ?cc9 ?kd9 ?ad10 ?ld10 ?cc10 ?kd10 ?ad11 ?ld11 ?cc11 ?kd11 ?ad12 ?ld12 ?cc12 ?kd12 ?ad13 ?ld13 ?cc13 ?kd13 ?ad14 ?ld14 ?cc14 ?kd14 ?ad15 ?ld15 ?cc15 ?kd15 ?ad16 ?ld16 ?cc16 ?kd16 ?n_all ?n_bool ?n_dict ?n_int ?n_isinstance ?n_len ?n_list ?n_range ?n_repr ?n_sorted ?n_str ?n_tuple ?n_zip ?g_MOST_FIELDS ?g_MOST_LETTERS ?g_VOID_TAG (sysK _) hmg)
    (case ad0 => k_is)
    (case ld0 => k_is)
    (case cc0 => k_is)
    (case kd0 => k_is)
    (case ad1 => k_is)
    (case ld1 => k_is)
    (case cc1 => k_is)
    (case kd1 => k_is)
    (case ad2 => k_is)
    (case ld2 => k_is)
    (case cc2 => k_is)
    (case kd2 => k_is)
    (case ad3 => k_is)
    (case ld3 => k_is)
    (case cc3 => k_is)
    (case kd3 => k_is)
    (case ad4 => k_is)
    (case ld4 => k_is)
    (case cc4 => k_is)
    (case kd4 => k_is)
    (case ad5 => k_is)
    (case ld5 => k_is)
    (case cc5 => k_is)
    (case kd5 => k_is)
    (case ad6 => k_is)
    (case ld6 => k_is)
    (case cc6 => k_is)
    (case kd6 => k_is)
    (case ad7 => k_is)
    (case ld7 => k_is)
    (case cc7 => k_is)
    (case kd7 => k_is)
    (case ad8 => k_is)
    (case ld8 => k_is)
    (case cc8 => k_is)
    (case kd8 => k_is)
    (case ad9 => k_is)
    (case ld9 => k_is)
    (case cc9 => k_is)
    (case kd9 => k_is)
    (case ad10 => k_is)
    (case ld10 => k_is)
    (case cc10 => k_is)
    (case kd10 => k_is)
    (case ad11 => k_is)
    (case ld11 => k_is)
    (case cc11 => k_is)
    (case kd11 => k_is)
    (case ad12 => k_is)
    (case ld12 => k_is)
    (case cc12 => k_is)
    (case kd12 => k_is)
    (case ad13 => k_is)
    (case ld13 => k_is)
    (case cc13 => k_is)
    (case kd13 => k_is)
    (case ad14 => k_is)
    (case ld14 => k_is)
    (case cc14 => k_is)
    (case kd14 => k_is)
    (case ad15 => k_is)
    (case ld15 => k_is)
    (case cc15 => k_is)
    (case kd15 => k_is)
    (case ad16 => k_is)
    (case ld16 => k_is)
    (case cc16 => k_is)
    (case kd16 => k_is)
    (case n_all => k_is)
    (case n_bool => k_is)
    (case n_dict => k_is)
    (case n_int => k_is)
    (case n_isinstance => k_is)
    (case n_len => k_is)
    (case n_list => k_is)
    (case n_range => k_is)
    (case n_repr => k_is)
    (case n_sorted => k_is)
    (case n_str => k_is)
    (case n_tuple => k_is)
    (case n_zip => k_is)
    (case g_MOST_FIELDS => k_is)
    (case g_MOST_LETTERS => k_is)
    (case g_VOID_TAG => k_is)
#print axioms PySem.Challenge.cw_roundcalls_k01_names_and_signatures_holds
