import PyProof.Rows.All
import Wide.All
import OpenK.AllK
import Wide.FinOn
import HandS.ForMost
import HandS.Style
import HandS.TupAny
import HandS.IsInst
import HandS.RaiseMore
import HandS.Evl
import PyProof.ListMulRoad
import PyProof.FactsAll.tuple_2
import HandS.TupMul
import KE.KDictPairs
import KE.KIsAll
import HandS.Dict
import PyProof.EqAt
import PyProof.EqKinds
import PyProof.TupleCall
import PyProof.Rows.SortShell
import PyProof.Rows.SortKeyStr
import KE.KSortTup
import HandS.SortOrd
import HandS.SortRule
import PyProof.ListRange
import HandS.Sort
import PyProof.ZipIter
import PyProof.ListCopy
import KE.KDictZip
import HandS.OwnIter
import HandS.DictTup
import HandS.Conv
import HandS.Words
import PySem.Challenge.RW_roundcalls_k09_tops
set_option Elab.async false
set_option linter.all false
set_option maxRecDepth 100000
set_option maxHeartbeats 4000000
/-! GG: promises of defs that know that no repr is under way (guards), and repr of data by it. -/
namespace GG
open PySem PySem.Spec PyProof.Rows L2

/-- room for k calls, and no repr runs around -/
structure Rm (k : Nat) (A : Around) : Prop where
  room : Room k A
  plain : A.guards = some []
theorem Rm.mono {j k : Nat} {A : Around} (r : Rm k A) (h : j ≤ k) : Rm j A := ⟨r.room.mono h, r.plain⟩
theorem Rm.deep {k : Nat} {A : Around} (r : Rm (k + 1) A) (env : Env) : Rm k (A.deeper env) := ⟨r.room.deeper env, r.plain⟩

/-- a def keeps a promise wherever no repr runs around; it raises nothing -/
structure Fg (P : Program) (w : World) (K : PySem.W.Frag) (mg : Str → Option Value) (base : Heap) (k : Nat) (f : Addr) (fd : FuncData) (ps : List Str) (sp : Sp) : Prop where
  size : ∀ vs H Q, sp vs H Q E0 → vs.length = ps.length
  go : ∀ (A : Around) (outer : List Env) (s : Shared) (H : Hp) (args : Args) (us : List Value) (vs : List V) (Q : VK), Rm k A → Env0 P w K mg base A outer s H → BindsTo s fd args (ps.zip us) → Vals vs us → sp vs H Q E0 →
    codeAny (model P w) A (.call (.ref f) args) (CR CX0 outer P w H s Q E0) s
section
variable {P : Program} {w : World} {K : PySem.W.Frag} {mg : Str → Option Value} {base : Heap} {j k : Nat} {f : Addr} {fd : FuncData} {ps : List Str} {sp : Sp}
theorem Fg.mono (F : Fg P w K mg base j f fd ps sp) (h : j ≤ k) : Fg P w K mg base k f fd ps sp := ⟨F.size, fun A o s H a us vs Q r => F.go A o s H a us vs Q (r.mono h)⟩
theorem Fg.of (F : FnOk P w K mg base CX0 k f fd ps sp) : Fg P w K mg base k f fd ps sp := ⟨fun vs H Q h => F.len vs H Q E0 h, fun A o s H a us vs Q r e b v h => F.run A o s H a us vs Q E0 r.room e b v h⟩

/-- a def of the text keeps its promise: by its body's reading -/
theorem okg {x qual : Str} {st : Stmt} {N : List Str} (F : L2.Fun K x qual st f fd) (S : FnScope N ps (defScope st)) (size : ∀ vs H Q, sp vs H Q E0 → vs.length = ps.length)
    (body : ∀ (cdv : Value) (A : Around) (outer : List Env) (s : Shared) (H : Hp) (vs : List V) (Q : VK), Rm k (A.deeper (envOfC qual (defScope st) s.heap.objs.size f cdv)) → sp vs H Q E0 →
      ∃ t, PSs (cxOf CX0 P w K mg base N qual (defScope st) f cdv A outer s H E0).nox (defBody st) t ∧ t { nx := fun _ H' => Q .non H', rt := Q } (start N vs) H) :
    Fg P w K mg base (k + 1) f fd ps sp := by
  obtain ⟨oc, od, kV, doc, pm, an, cdv, ct, osl, rfl, lk, hcd⟩ := F.ex
  refine ⟨size, fun A outer s H args us vs Q hr e0 hb r hsp => ?_⟩
  have hl := size _ _ _ hsp
  have keep : ∀ b o, base.get? b = some o → s.heap.get? b = some o := fun b o e => (e0.bs b o e).1
  have KX : K.In s.heap := e0.mod.kin.keeps keep
  have lim : s.heap.NoLimit := e0.mod.nolimit.keeps keep
  have hkind : ∀ y ∈ ps.zip us, (defScope st).names.lookup y.1 = some .local ∨ ((defScope st).names.lookup y.1 = some .cell ∧ ((cellsFrom (s.heap.objs.size + 1) (defScope st).names []).lookup y.1).isSome = true) := by
    rintro ⟨n, v⟩ hy
    rcases S.par n (List.of_mem_zip hy).1 with q | q
    · exact .inl q
    · exact .inr ⟨q, PySem.W.cellsFrom_some _ _ _ (.inl q)⟩
  refine codeAny_call_function hr.room.depth (KX _ _ lk) rfl S.co S.gen rfl (PySem.W.codeRec_of KX hcd) (hb _ _ _ _ ?_)
  refine wpAny_newFunctionEnv_cells S.kind hkind fun env he s1 x => ?_
  subst he
  refine ⟨lim.keeps x.toInCall.keep, codeAny_func ?_⟩
  obtain ⟨t, ht, hq⟩ := body cdv A outer s H vs Q (hr.deep _) hsp
  have I := inv_start (CX := CX0) (E := E0) S hr.room.hd e0 hl r x
  refine wpAny_mono (ht.nox.run [] s1 (start N vs) H _ I hq) (fun fl s' hs => ?_) fun e s' hs => hs
  have fin : ∀ {σ' : L2.St} {H' : Hp} {v : V} {u : Value}, Inv (cxOf CX0 P w K mg base N qual (defScope st) f cdv A outer s H E0) [] σ' H' s' → RelV v u → Q v H' → CE outer P w H s Q u s' :=
    fun {σ' H' v u} J rv q => ⟨v, H', J.os, J.bare, J.base, J.hok, rv, q⟩
  cases fl with
  | ret u => obtain ⟨v, σ', H', J, rv, q⟩ := hs; exact fin J rv q
  | next => obtain ⟨σ', H', J, q⟩ := hs; exact fin (v := V.non) (u := Value.none) J rfl q
  | brk => obtain ⟨_, _, _, q⟩ := hs; exact q.elim
  | cont => obtain ⟨_, _, _, q⟩ := hs; exact q.elim
end

/-! ### calls of such defs -/
section
variable {X : Cx} {k : Nat} {f : Addr} {fd : FuncData} {ps ks : List Str} {sp : Sp} {x : Str} {p pos : Pos} {e : Expr} {es : List Expr} {kws : List Keyword} {t tk : TA} {g : List Value → List Value → List Value} {gV : List V → List V → List V}
def RP (X : Cx) (pins : List (Addr × Obj)) (σ : L2.St) (Q : VK) : Result → Shared → Prop := fun r s' => match r with
  | .ok (.ret v) => EP X pins σ Q v s'
  | .ok _ => False
  | .error e => X.xe e s'
theorem ret_of {pins : List (Addr × Obj)} {σ : L2.St} {H : Hp} {s s' : Shared} {Q : VK} {r : Result} (I : Inv X pins σ H s) (h : CR CX0 X.stack X.prog X.w H s Q E0 r s') : RP X pins σ Q r s' := by
  cases r with
  | error e => exact False.elim h
  | ok fl =>
    cases fl with
    | ret u => exact I.after h
    | next => exact False.elim h
    | brk => exact False.elim h
    | cont => exact False.elim h
/-- f(e, ..) -/
theorem pcall (F : Fg X.prog X.w X.K X.mg X.base k f fd ps sp) (hr : Rm k X.A) (hg : Gl X x) (hm : X.mg x = some (.ref f)) (hk : PySem.W.keepIn X.K (.ref f) = true) (hb : Binds X.K fd ps []) (ha : PA X (e :: es) t)
    (hdb : (x == ("__debug__" : Str)) = false := by decide) (he : starEach (e :: es) X.env = (false, eval e X.env) :: starEach es X.env := by rfl) (hpl : (backTo pos (starEach es X.env)).any (·.1) = false := by rfl) :
    PE X (.Call (.Name x p) (e :: es) [] pos) (tCall sp [] E0 t) := by
  refine ⟨fun pins s σ H Q I h => ?_⟩
  refine wpAny_Call_Name_kw (ld_glob I hg hm ?_ hdb)
  refine PySem.W.callWith_K (h₀ := X.base) I.ok.mod.kin hk (thn (ha.run pos pins s σ H _ I h) fun us s1 ⟨vs, H1, I1, r, q⟩ => ⟨I1.kIn, ?_⟩) he hpl
  have q' : sp vs H1 Q E0 := by rw [← List.append_nil vs]; exact q
  have hl : (us ++ []).length = ps.length := by rw [List.append_nil, ← r.length]; exact F.size _ _ _ q'
  have b := hb s1 us I1.kIn hl
  rw [List.append_nil] at b
  refine wpAny_call (codeAny_mono (F.go X.A X.stack s1 H1 ⟨us, []⟩ us vs Q hr I1.env0 b r q') fun r s' hq => ?_)
  exact ret_of I1 hq
/-- f(e, .., k = v) and f(k = v) -/
def tCallN (sp : Sp) (gV : List V → List V → List V) (t tk : TA) : TE := fun σ H Q => t σ H fun vs H1 => tk σ H1 fun zs H2 => sp (gV vs zs) H2 Q E0
theorem pcallK (F : Fg X.prog X.w X.K X.mg X.base k f fd ps sp) (hr : Rm k X.A) (hg : Gl X x) (hm : X.mg x = some (.ref f)) (hk : PySem.W.keepIn X.K (.ref f) = true) (hb : KBinds X.K fd ps ks g gV) (ha : PA X (e :: es) t) (hkw : PK X kws tk)
    (hall : (backToKw pos (keywordEach kws X.env)).all (·.1.isSome) = true := by rfl) (hks : (backToKw pos (keywordEach kws X.env)).filterMap (·.1) = ks := by rfl)
    (hdb : (x == ("__debug__" : Str)) = false := by decide) (he : starEach (e :: es) X.env = (false, eval e X.env) :: starEach es X.env := by rfl)
    (hpl : ((backTo pos (starEach (e :: es) X.env)).any (·.1) || (backToKw pos (keywordEach kws X.env)).any (·.1.isNone)) = false := by rfl) :
    PE X (.Call (.Name x p) (e :: es) kws pos) (tCallN sp gV t tk) := by
  refine ⟨fun pins s σ H Q I h => ?_⟩
  refine wpAny_Call_Name_kw (ld_glob I hg hm ?_ hdb)
  refine PySem.W.callWith_KW (h₀ := X.base) I.ok.mod.kin hk hall (thn (ha.run pos pins s σ H _ I h) fun us s1 ⟨vs, H1, I1, r, q⟩ => ?_) hpl he
  refine thn (hkw.run pos pins s1 σ H1 _ I1 q) fun ws s2 ⟨zs, H2, I2, rz, q2⟩ => ⟨I2.kIn, ?_⟩
  rw [hks]
  have r2 := hb.rel r rz
  have hl : (g us ws).length = ps.length := by rw [← r2.length]; exact F.size _ _ _ q2
  refine wpAny_call (codeAny_mono (F.go X.A X.stack s2 H2 ⟨us, ks.zip ws⟩ (g us ws) (gV vs zs) Q hr I2.env0 (hb.to s2 us ws I2.kIn hl) r2 q2) fun r s' hq => ?_)
  exact ret_of I2 hq
end

/-! ### the end of a law's row -/
theorem law_go {P : Program} {w : World} {K : PySem.W.Frag} {mg mb : Str → Option Value} {k : Nat} {fa a : Addr} {fd : FuncData} {x : Str} {sp : Sp} {s₁ : Shared} {vs : List Value} {ns : List Int}
    (KX : K.In s₁.heap) (hns : s₁.heap.Ns mainGlobals mg) (hb : s₁.heap.Ns builtinsNs mb) (hbb : ∀ x : Str, x ≠ "__name__" → mb x = bootBuiltins x) (hlim : s₁.heap.NoLimit) (hg : s₁.gens = #[])
    (ha : s₁.heap.get? a = some { cls := .type "list", data := .seq vs.toArray }) (hi : IntsAre vs ns) (hl : ns.length ≤ sizeLine) (hr : Rm k callerA)
    (F : ∀ base : Heap, K.In base → base.Ns mainGlobals mg → Fg P w K mg base k fa fd [x] sp) (hbind : ∀ (s : Shared) (u : Value), BindsTo s fd ⟨[u], []⟩ [(x, u)])
    (hsp : ∀ H : Hp, Only H → SqL K H a (ns.map V.int) → sp [.ref a] H (fun v _ => v = .bl true) E0) :
    codeAny (model P w) callerA (.call (.ref fa) ⟨[.ref a], []⟩) (fun r s' => r = .ok (.ret (.bool true)) ∧ OldK s₁.heap s'.heap ∧ s'.os = s₁.os ∧ AllBare s'.gens) s₁ := by
  have rv := vals_ints hi
  have lenV := hi.length
  have main : ∀ H : Hp, Only H → SqL K H a (ns.map V.int) → HOk P w H s₁.heap → (∀ b, H b ≠ none → b = a) → (H a ≠ none → K.lookup a = none) →
      codeAny (model P w) callerA (.call (.ref fa) ⟨[.ref a], []⟩) (fun r s' => r = .ok (.ret (.bool true)) ∧ OldK s₁.heap s'.heap ∧ s'.os = s₁.os ∧ AllBare s'.gens) s₁ := by
    intro H hO hS hok hA hK
    have only_a : ∀ {b : Addr} {u : HO}, H b = some u → b = a := fun {b u} q => hA b (by rw [q]; exact fun z => nomatch z)
    have free_dict : ∀ {b : Addr} {o : Obj} {es : Array DictEntry} {ep : Nat}, s₁.heap.get? b = some o → o.data = .dict es ep → H b = none := fun {b o es ep} e d => by
      cases q : H b with
      | none => rfl
      | some u =>
        rw [only_a q, ha] at e
        cases e
        exact nomatch (show Data.seq vs.toArray _ = Data.dict es ep from d)
    have ns_of : ∀ {b : Addr} {m : Str → Option Value}, s₁.heap.Ns b m → (hidT s₁.heap H).Ns b m := fun {b m} ⟨o, es, ep, e, d, r⟩ => ⟨o, es, ep, hidT_get e (free_dict e d), d, r⟩
    have hKb : K.In (hidT s₁.heap H) := fun b o e => hidT_get (KX b o e) (by
      cases q : H b with
      | none => rfl
      | some u =>
        have e' := only_a q
        rw [e', hK (by rw [← e', q]; exact fun z => nomatch z)] at e
        cases e)
    have hM : Mod K mg (hidT s₁.heap H) := ⟨hKb, ns_of hns, ⟨mb, ns_of hb, hbb⟩, let ⟨mc, h1, h2⟩ := hlim; ⟨mc, ns_of h1, h2⟩⟩
    have e0 : Env0 P w K mg (hidT s₁.heap H) callerA [] s₁ H := ⟨rfl, hM, fun b o e => of_hidT e, Nat.le_of_eq (hidT_size _ _), trivial, fun b hb => absurd (show b ∈ ([] : List Addr) from hb) List.not_mem_nil, hok, .of_eq hg⟩
    refine codeAny_mono ((F _ hKb (ns_of hns)).go callerA [] s₁ H ⟨[.ref a], []⟩ [.ref a] [.ref a] _ hr e0 (hbind s₁ (.ref a)) (.cons rfl .nil) (hsp H hO hS)) fun r s' h => ?_
    cases r with
    | error e => exact False.elim h
    | ok fl =>
      cases fl with
      | next => exact False.elim h
      | brk => exact False.elim h
      | cont => exact False.elim h
      | ret u =>
        obtain ⟨v, H', os, bare, un, hok', r', q⟩ := h
        obtain rfl : v = .bl true := q
        obtain rfl : u = Value.bool true := r'
        refine ⟨rfl, OldK.of_keep fun b o e => ?_, os, bare⟩
        rcases hO b with z | ⟨ob, xs, z⟩
        · exact un.keep b o e z (fun z => absurd (show b ∈ ([] : List Addr) from z) List.not_mem_nil) List.not_mem_nil
        · obtain ⟨e1, _⟩ := hok b _ z
          obtain ⟨e2, _⟩ := hok' b _ (un.frzs b ob _ z)
          rw [e] at e1
          cases e1
          exact e2
  cases hk : K.lookup a with
  | some o =>
    have e := KX a o hk
    rw [ha] at e
    cases e
    refine main (fun _ => none) (fun _ => .inl rfl) (.inr ⟨_, vs.toArray, _, hk, rfl, rfl, rfl, by rw [List.size_toArray, lenV]; exact hl, by simpa using rv⟩) (fun b u z => nomatch (show (none : Option HO) = some u from z)) (fun b z => absurd rfl z) fun z => absurd rfl z
  | none =>
    refine main (fun b => if b = a then some (.frz { cls := .type "list", data := .seq vs.toArray } (.lst (ns.map V.int))) else none) (fun b => ?_) (.inl (.inr ⟨{ cls := .type "list", data := .seq vs.toArray }, if_pos rfl⟩)) (fun b u z => ?_) (fun b z => ?_) fun _ => hk
    · by_cases hb : b = a
      · exact .inr ⟨_, _, if_pos hb⟩
      · exact .inl (if_neg hb)
    · by_cases hb : b = a
      · have z' := (if_pos hb).symm.trans z
        cases z'
        subst hb
        exact ⟨ha, by rw [List.length_map]; exact hl, vs, _, rv, ha⟩
      · have z' := (if_neg hb).symm.trans z
        cases z'
    · by_cases hb : b = a
      · exact hb
      · exact absurd (if_neg hb) z

theorem walk_go {l : PySem.W.OpenLaw} {n k : Nat} {q : Program} {loose : List Str} {XP : (Str → Option Value) → Heap → Prop} {YP : World → Heap → Prop} {d : DefRec} {K : Params → PySem.W.Frag} {sp : PySem.W.Frag → Sp} {x : Str}
    (hn : l.most = some n) (hn2 : n ≤ sizeLine) (hdf : d.params.defaults = []) (hr : Rm k callerA)
    (hY : ∀ (w : World) (h : Heap), YP w h → (K w.params).In h)
    (F : ∀ (w : World) (mg : Str → Option Value) (fa : Addr) (h : Heap), (K w.params).In h → h.Ns mainGlobals mg → mg d.name = some (.ref fa) →
      ∃ fd : FuncData, (∀ (s : Shared) (u : Value), BindsTo s fd ⟨[u], []⟩ [(x, u)]) ∧
        ∀ base : Heap, (K w.params).In base → base.Ns mainGlobals mg → Fg l.prog w (K w.params) mg base k fa fd [x] (sp (K w.params)))
    (hsp : ∀ (K : PySem.W.Frag) (H : Hp) (a : Addr) (ns : List Int), ns.length ≤ n → Only H → SqL K H a (ns.map V.int) → sp K [.ref a] H (fun v _ => v = .bl true) E0) :
    PySem.W.WalkO q loose XP YP l.row.toRowW d [] (fun f vs => PySem.call f vs) := by
  refine Att.attach_call hn hdf fun w s₀ s₁ mg mb fa o pm cd doc a vs ns G Y ho hd hcd hmg hobj hints hlen hg => ?_
  have KX := hY w _ Y
  obtain ⟨fd, hb, hF⟩ := F w mg fa _ KX G.T.g hmg
  exact law_go KX G.T.g G.T.b G.T.builtins G.T.nolimit hg hobj hints (Nat.le_trans hlen hn2) hr hF hb (fun H hO hS => hsp _ H a ns hlen hO hS)

/-! ### repr of data -/
def keyD : L2.Key → PyData
  | .inl i => .int i
  | .inr z => .str z
def flatV0 : V → Option PyData
  | .non => some .none
  | .bl b => some (.bool b)
  | .int i => some (.int i)
  | .str x => some (.str x)
  | _ => none
/-- the data of a dict's entries, all of them flat -/
def entsD : List (L2.Key × V) → Option (List (PyData × PyData))
  | [] => some []
  | (k, v) :: r => match flatV0 v, entsD r with
    | some d, some ds => some ((keyD k, d) :: ds)
    | _, _ => none
/-- what repr reads: data without dicts; dicts of flat things; tuples of both where no list stands beside a dict -/
inductive Dt (K : PySem.W.Frag) (H : Hp) : V → PyData → Prop
  | base {v : V} {d : PyData} : Dp K H v d → Dt K H v d
  | dic {a : Addr} {kvs : List (L2.Key × V)} {ds : List (PyData × PyData)} : H a = some (.dK kvs) → entsD kvs = some ds → Dt K H (.ref a) (.dict ds)
section
variable {X : Cx} {pins : List (Addr × Obj)} {σ : L2.St} {H : Hp} {s : Shared}
mutual
theorem dp_noDict {K : PySem.W.Frag} {H : Hp} : ∀ (d : PyData) (v : V), Dp K H v d → d.hasDict = false
  | .none, _, _ => by simp only [PyData.hasDict]
  | .bool _, _, _ => by simp only [PyData.hasDict]
  | .int _, _, _ => by simp only [PyData.hasDict]
  | .str _, _, _ => by simp only [PyData.hasDict]
  | .list ds, _, h => by
    cases h with
    | lst _ ha =>
      simp only [PyData.hasDict]
      exact dpAll_noDict ds _ ha
  | .tuple ds, _, h => by
    cases h with
    | tup _ ha =>
      simp only [PyData.hasDict]
      exact dpAll_noDict ds _ ha
  | .dict _, _, h => by cases h
theorem dpAll_noDict {K : PySem.W.Frag} {H : Hp} : ∀ (ds : List PyData) (vs : List V), DpAll K H vs ds → PyData.hasDictAll ds = false
  | [], _, _ => by simp only [PyData.hasDictAll]
  | d :: ds, _, h => by
    cases h with
    | cons h1 h2 => simp only [PyData.hasDictAll, dp_noDict d _ h1, dpAll_noDict ds _ h2, Bool.or_self]
end
mutual
theorem dp_mono {K : PySem.W.Frag} {H H' : Hp} (hl : ∀ a xs, SqL K H a xs → SqL K H' a xs) (ht : ∀ a xs, SqT K H a xs → SqT K H' a xs) : ∀ (d : PyData) (v : V), Dp K H v d → Dp K H' v d
  | .none, _, h => by cases h; exact .non
  | .bool b, _, h => by cases h; exact .bl b
  | .int i, _, h => by cases h; exact .int i
  | .str x, _, h => by cases h; exact .str x
  | .list ds, _, h => by
    cases h with
    | lst hs ha => exact .lst (hl _ _ hs) (dpAll_mono hl ht ds _ ha)
  | .tuple ds, _, h => by
    cases h with
    | tup hs ha => exact .tup (ht _ _ hs) (dpAll_mono hl ht ds _ ha)
  | .dict _, _, h => by cases h
theorem dpAll_mono {K : PySem.W.Frag} {H H' : Hp} (hl : ∀ a xs, SqL K H a xs → SqL K H' a xs) (ht : ∀ a xs, SqT K H a xs → SqT K H' a xs) : ∀ (ds : List PyData) (vs : List V), DpAll K H vs ds → DpAll K H' vs ds
  | [], _, h => by cases h; exact .nil
  | d :: ds, _, h => by
    cases h with
    | cons h1 h2 => exact .cons (dp_mono hl ht d _ h1) (dpAll_mono hl ht ds _ h2)
end
theorem same_t {K : PySem.W.Frag} {H H' : Hp} {a : Addr} {xs : List V} (e : Same H H') (h : SqT K H a xs) : SqT K H' a xs := by
  rcases h with (h | ⟨o, h⟩) | h
  · exact .inl (.inl (e _ _ h))
  · exact .inl (.inr ⟨o, e _ _ h⟩)
  · exact .inr h
theorem Dt.same {K : PySem.W.Frag} {H H' : Hp} {v : V} {d : PyData} (h : Dt K H v d) (e : Same H H') : Dt K H' v d := by
  cases h with
  | base h => exact .base (dp_mono (fun _ _ q => e.seq q) (fun _ _ q => same_t e q) _ _ h)
  | dic h1 h2 => exact .dic (e _ _ h1) h2
theorem flat_reads {h : Heap} {v : V} {u : Value} {d : PyData} (e : flatV0 v = some d) (r : RelV v u) : Reads h u d [] := by
  cases v with
  | non => cases e; cases r; exact .none
  | bl b => cases e; cases r; exact .bool b
  | int i => cases e; obtain ⟨t, rfl⟩ := r; exact .int i t
  | str x => cases e; obtain ⟨t, rfl⟩ := r; exact .str x t
  | byt _ => cases e
  | flt _ => cases e
  | ref _ => cases e
  | ty _ => cases e
theorem key_reads {h : Heap} {k : L2.Key} {u : Value} (e : keyIs k u = true) : Reads h u (keyD k) [] := by
  rcases keyIs_shape e with ⟨i, t, rfl, rfl⟩ | ⟨x, t, rfl, rfl⟩
  · exact .int i t
  · exact .str x t
theorem ents_read {P : Program} {w : World} {h : Heap} : ∀ {kvs : List (L2.Key × V)} {us : List (L2.Key × Value)} {es : List DictEntry} {ds : List (PyData × PyData)}, Pairs (mixKind P w) es us → KV kvs us → entsD kvs = some ds →
    ReadsAll h (es.map (·.key)) (ds.map (·.1)) [] ∧ ReadsAll h (es.map (·.val)) (ds.map (·.2)) []
  | [], _, _, _, hp, hk, e => by
    cases hk
    cases hp
    cases e
    exact ⟨.nil, .nil⟩
  | (k, v) :: r, _, _, _, hp, hk, e => by
    cases hk with
    | cons h1 h2 =>
      cases hp with
      | cons p1 p2 p3 =>
        unfold entsD at e
        cases e1 : flatV0 v with
        | none =>
          rw [e1] at e
          cases e
        | some d =>
          cases e2 : entsD r with
          | none =>
            rw [e1, e2] at e
            cases e
          | some ds =>
            rw [e1, e2] at e
            cases e
            obtain ⟨q1, q2⟩ := ents_read p3 h2 e2
            obtain ⟨ek, rv⟩ := h1
            have e1' : flatV0 (k, v).2 = some d := e1
            refine ⟨?_, ?_⟩
            · have z : Reads h _ (keyD k) [] := key_reads (k := k) (by
                have y := p1
                rw [mixKind_is] at y
                rw [← ek] at y
                exact y)
              exact ReadsAll.cons z q1
            · have z : Reads h _ d [] := flat_reads (u := _) e1' (p2.symm ▸ rv)
              exact ReadsAll.cons z q2
theorem Dt.reads {v : V} {u : Value} {d : PyData} (I : Inv X pins σ H s) (h : Dt X.K H v d) (r : RelV v u) : ∃ as, Reads s.heap u d as ∧ (d.hasDict = true → sysModules ∉ as) := by
  cases h with
  | base h =>
    obtain ⟨as, q⟩ := Dp.reads I d v u h r
    exact ⟨as, q, PyData.noDict_hsm (dp_noDict d v h)⟩
  | @dic a kvs ds h1 h2 =>
    obtain rfl : u = Value.ref a := r
    obtain ⟨hz, hs, us, rk, o, es, ep, ho, hx, hd, _, hp, _⟩ : kvs.length ≤ sizeLine ∧ (a == sysModules) = false ∧ ∃ vs, KV kvs vs ∧ s.heap.DictOf (mixKind X.prog X.w) a vs := I.hok a _ h1
    obtain ⟨q1, q2⟩ := ents_read (h := s.heap) hp rk h2
    refine ⟨_, Reads.dict ho hx.1 hd q1 q2, fun _ z => ?_⟩
    have z' : sysModules ∈ [a] := z
    have e := List.mem_singleton.mp z'
    rw [e, beq_self_eq_true] at hs
    cases hs
/-- repr(x) -/
def rRepr (K : PySem.W.Frag) : List V → Hp → VK → Prop := fun xs H Q => ∃ x d, xs = [x] ∧ Dt K H x d ∧ d.showable = true ∧ d.depth ≤ 60 ∧ d.shown.length ≤ sizeLine ∧ Q (.str d.shown) H
theorem call_repr {k : Nat} (hr : Rm k X.A) : CallR X (.builtin "repr") (rRepr X.K) := by
  intro pins s σ H xs us Q I r h
  obtain ⟨x, d, rfl, hx, hs, hd, hz, q⟩ := h
  obtain ⟨u, rfl, ru⟩ := vals1 r
  obtain ⟨as, hreads, hsm⟩ := hx.reads I ru
  have hu := hr.room.un
  cases x with
  | non =>
    cases ru
    cases hreads
    exact PySem.P.repr_of_none ⟨.str _, H, I.tok _, ⟨_, rfl⟩, q⟩
  | bl b =>
    cases ru
    cases hreads
    refine PySem.P.repr_of_bool ⟨.str _, H, I.tok _, ⟨_, rfl⟩, ?_⟩
    simp only [PyData.shown] at q
    exact q
  | int i =>
    obtain ⟨t, rfl⟩ := ru
    cases hreads
    simp only [PyData.shown] at q
    exact PySem.P.repr_of_int (by simpa [PyData.showable] using hs) ⟨.str _, H, I.tok _, ⟨_, rfl⟩, q⟩
  | str y =>
    obtain ⟨t, rfl⟩ := ru
    cases hreads
    simp only [PyData.shown] at q hz
    exact PySem.P.repr_of_str ⟨.str _, H, I.tok _, ⟨_, rfl⟩, q⟩ hz
  | byt y =>
    obtain ⟨t, rfl⟩ := ru
    cases hreads
  | flt y =>
    obtain ⟨t, rfl⟩ := ru
    cases hreads
  | ty y =>
    cases ru
    cases hreads
  | ref a =>
    cases ru
    exact repr_of_reads' hreads hs hsm hr.plain (by omega) (fun _ _ e => e) (fun h' u tk hk => ⟨.str _, H, I.kept hk, ⟨u, rfl⟩, q⟩) hz
end
end GG

set_option Elab.async false
set_option linter.all false
set_option maxRecDepth 100000
set_option maxHeartbeats 4000000
/-! DD: defs by their names (Df, dcall); heaps; data that is made while a deck stands (EvP). -/
namespace DD
open PySem PySem.Spec PyProof.Rows L2 GG
/-- a def of the text by its name, with its promise -/
structure Df (P : Program) (w : World) (K : PySem.W.Frag) (mg : Str → Option Value) (base : Heap) (k : Nat) (nm : Str) (ps : List Str) (sp : Sp) : Prop where
  ex : ∃ f fd, Fg P w K mg base k f fd ps sp ∧ mg nm = some (.ref f) ∧ PySem.W.keepIn K (.ref f) = true ∧ Binds K fd ps []
section
variable {X : Cx} {k : Nat} {nm : Str} {ps : List Str} {sp : Sp} {p pos : Pos} {e : Expr} {es : List Expr} {t : TA}
theorem dcall (D : Df X.prog X.w X.K X.mg X.base k nm ps sp) (hr : Rm k X.A) (hg : Gl X nm) (ha : PA X (e :: es) t)
    (hdb : (nm == ("__debug__" : Str)) = false := by decide) (he : starEach (e :: es) X.env = (false, eval e X.env) :: starEach es X.env := by rfl) (hpl : (backTo pos (starEach es X.env)).any (·.1) = false := by rfl) :
    PE X (.Call (.Name nm p) (e :: es) [] pos) (tCall sp [] E0 t) := by
  obtain ⟨f, fd, F, hm, hk, hb⟩ := D.ex
  exact pcall F hr hg hm hk hb ha hdb he hpl
end

/-! ### heaps -/
theorem same_upd {H : Hp} {p : Addr} {o : HO} (h : H p = none) : Same H (upd H p o) := fun b x e => by
  rw [upd_ne (ne_of_none e h)]
  exact e
theorem ne_new {H : Hp} {a p : Addr} {o : HO} (e : H a = some o) (n : H p = none) : a ≠ p := ne_of_none e n
/-- what stood stands, but at p and l -/
def But (p l : Addr) (H H' : Hp) : Prop := ∀ b o, b ≠ p → b ≠ l → H b = some o → H' b = some o
theorem But.refl (p l : Addr) (H : Hp) : But p l H H := fun _ _ _ _ h => h
theorem But.trans {p l : Addr} {H H1 H2 : Hp} (a : But p l H H1) (b : But p l H1 H2) : But p l H H2 := fun c o h1 h2 h => b c o h1 h2 (a c o h1 h2 h)
theorem But.of {p l : Addr} {H H' : Hp} (s : Same H H') : But p l H H' := fun b o _ _ h => s b o h
theorem But.left {p l : Addr} {H H' : Hp} {o : HO} (s : But p l H H') : But p l H (upd H' p o) := fun b u h1 h2 h => by
  rw [upd_ne h1]
  exact s b u h1 h2 h
theorem But.right {p l : Addr} {H H' : Hp} {o : HO} (s : But p l H H') : But p l H (upd H' l o) := fun b u h1 h2 h => by
  rw [upd_ne h2]
  exact s b u h1 h2 h
theorem sq {K : PySem.W.Frag} {H : Hp} {a : Addr} {xs : List V} (h : H a = some (.lst xs)) : SqL K H a xs := .inl (.inl h)
theorem sqt {K : PySem.W.Frag} {H : Hp} {a : Addr} {xs : List V} (h : H a = some (.tup xs)) : SqT K H a xs := .inl (.inl h)
theorem szl {n : Nat} (h : n ≤ 1000) : n < sizeLine := Nat.lt_of_le_of_lt h (by decide)
theorem szi {n : Nat} (h : n ≤ 1000) : n ≤ sizeLine := Nat.le_of_lt (szl h)
theorem But.seq {K : PySem.W.Frag} {p l a : Addr} {H H' : Hp} {xs : List V} (b : But p l H H') (h1 : a ≠ p) (h2 : a ≠ l) (h : SqL K H a xs) : SqL K H' a xs := by
  rcases h with (h | ⟨o, h⟩) | h
  · exact .inl (.inl (b _ _ h1 h2 h))
  · exact .inl (.inr ⟨o, b _ _ h1 h2 h⟩)
  · exact .inr h

/-! ### data made while other things (S) stand -/
open Classical in
/-- the heap without the things of S -/
noncomputable def Hd (S : Addr → Prop) (H : Hp) : Hp := fun b => if S b then none else H b
theorem hd_ne {S : Addr → Prop} {b : Addr} {H : Hp} (h : ¬ S b) : Hd S H b = H b := if_neg h
theorem hd_some {S : Addr → Prop} {b : Addr} {H : Hp} {o : HO} (h : Hd S H b = some o) : ¬ S b ∧ H b = some o := by
  unfold Hd at h
  by_cases z : S b
  · rw [if_pos z] at h
    cases h
  · rw [if_neg z] at h
    exact ⟨z, h⟩
theorem hd_sub (S : Addr → Prop) (H : Hp) : Same (Hd S H) H := fun b o h => (hd_some h).2
theorem But.hd {S : Addr → Prop} {p l : Addr} {H H' : Hp} (b : But p l H H') (sp : S p) (sl : S l) : Same (Hd S H) (Hd S H') := fun a o h => by
  obtain ⟨h1, h3⟩ := hd_some h
  rw [hd_ne h1]
  exact b a o (fun e => h1 (by rw [e]; exact sp)) (fun e => h1 (by rw [e]; exact sl)) h3
theorem hdS {S : Addr → Prop} {H H' : Hp} (s : Same H H') : Same (Hd S H) (Hd S H') := fun a o h => by
  obtain ⟨h1, h3⟩ := hd_some h
  rw [hd_ne h1]
  exact s a o h3
/-- something of S is changed -/
theorem hd_upd {S : Addr → Prop} {H : Hp} {a : Addr} {o : HO} (s : S a) : Same (Hd S H) (Hd S (upd H a o)) := fun b u h => by
  obtain ⟨h1, h3⟩ := hd_some h
  rw [hd_ne h1, upd_ne (fun e : b = a => h1 (by rw [e]; exact s))]
  exact h3
/-- the things of S stand -/
def Taken (H : Hp) (S : Addr → Prop) : Prop := ∀ b, S b → ∃ o, H b = some o
theorem Taken.same {H H' : Hp} {S : Addr → Prop} (t : Taken H S) (s : Same H H') : Taken H' S := fun b h => (t b h).imp fun o h => s _ _ h
theorem Taken.ne {H : Hp} {S : Addr → Prop} {q : Addr} (t : Taken H S) (n : H q = none) : ¬ S q := fun h => by
  obtain ⟨o, e⟩ := t q h
  rw [n] at e
  cases e
section
variable {K : PySem.W.Frag} {S : Addr → Prop} {σ : L2.St} {H : Hp}
/-- an expression gives data d, apart from S; nothing that stood changes -/
def EvP (K : PySem.W.Frag) (S : Addr → Prop) (te : TE) (σ : L2.St) (d : PyData) : Prop := ∀ H1, Taken H1 S → ∀ Q : VK, (∀ v H2, Same H1 H2 → Dp K (Hd S H2) v d → Q v H2) → te σ H1 Q
def EvPs (K : PySem.W.Frag) (S : Addr → Prop) (ta : TA) (σ : L2.St) (ds : List PyData) : Prop := ∀ H1, Taken H1 S → ∀ Q : List V → Hp → Prop, (∀ vs H2, Same H1 H2 → DpAll K (Hd S H2) vs ds → Q vs H2) → ta σ H1 Q
theorem dp_same {H H' : Hp} {v : V} {d : PyData} (s : Same H H') (h : Dp K H v d) : Dp K H' v d := dp_mono (fun _ _ q => s.seq q) (fun _ _ q => same_t s q) _ _ h
theorem dpAll_same {H H' : Hp} {vs : List V} {ds : List PyData} (s : Same H H') (h : DpAll K H vs ds) : DpAll K H' vs ds := dpAll_mono (fun _ _ q => s.seq q) (fun _ _ q => same_t s q) _ _ h
theorem dpAll_len {H : Hp} : ∀ {vs : List V} {ds : List PyData}, DpAll K H vs ds → vs.length = ds.length
  | _, _, .nil => rfl
  | _, _, .cons _ h => by rw [List.length_cons, List.length_cons, dpAll_len h]
theorem evp_c {v : V} {d : PyData} (h : ∀ H, Dp K H v d) : EvP K S (tC v) σ d := fun H1 _ Q q => q v H1 (Same.refl _) (h _)
theorem evp_int {i : Int} : EvP K S (tC (.int i)) σ (.int i) := evp_c fun _ => .int i
theorem evp_str {x : Str} : EvP K S (tC (.str x)) σ (.str x) := evp_c fun _ => .str x
theorem evp_bl {b : Bool} : EvP K S (tC (.bl b)) σ (.bool b) := evp_c fun _ => .bl b
theorem evp_non : EvP K S (tC .non) σ .none := evp_c fun _ => .non
theorem evps_nil : EvPs K S tNil σ [] := fun H1 _ Q q => q [] H1 (Same.refl _) .nil
theorem evps_cons {te : TE} {ta : TA} {d : PyData} {ds : List PyData} (h : EvP K S te σ d) (hs : EvPs K S ta σ ds) : EvPs K S (tCons te ta) σ (d :: ds) := fun H1 t Q q =>
  h H1 t _ fun v H2 s2 hv => hs H2 (t.same s2) _ fun vs H3 s3 hvs => q (v :: vs) H3 (s2.trans s3) (.cons (dp_same (hdS s3) hv) hvs)
theorem evp_tup {ta : TA} {ds : List PyData} (hs : EvPs K S ta σ ds) (hl : ds.length ≤ 1000) : EvP K S (tTup ta) σ (.tuple ds) := fun H1 t Q q =>
  hs H1 t _ fun vs H2 s2 hvs => ⟨by rw [dpAll_len hvs]; exact szi hl, fun a na => by
    have n1 := (t.same s2).ne na
    have s3 : Same H2 (upd H2 a (.tup vs)) := same_upd na
    exact q _ _ (s2.trans s3) (.tup (sqt (by rw [hd_ne n1]; exact upd_same)) (dpAll_same (hdS s3) hvs))⟩
theorem evp_lst {ta : TA} {ds : List PyData} (hs : EvPs K S ta σ ds) (hl : ds.length ≤ 1000) : EvP K S (tLst ta) σ (.list ds) := fun H1 t Q q =>
  hs H1 t _ fun vs H2 s2 hvs => ⟨by rw [dpAll_len hvs]; exact szi hl, fun a na => by
    have n1 := (t.same s2).ne na
    have s3 : Same H2 (upd H2 a (.lst vs)) := same_upd na
    exact q _ _ (s2.trans s3) (.lst (sq (by rw [hd_ne n1]; exact upd_same)) (dpAll_same (hdS s3) hvs))⟩
/-- the same for what may hold dicts -/
def EvT (K : PySem.W.Frag) (S : Addr → Prop) (te : TE) (σ : L2.St) (d : PyData) : Prop := ∀ H1, Taken H1 S → ∀ Q : VK, (∀ v H2, Same H1 H2 → Dt K (Hd S H2) v d → Q v H2) → te σ H1 Q
theorem EvP.t {te : TE} {d : PyData} (h : EvP K S te σ d) : EvT K S te σ d := fun H1 t Q q => h H1 t Q fun v H2 s hv => q v H2 s (.base hv)
inductive DtAll (K : PySem.W.Frag) (H : Hp) : List V → List PyData → Prop
  | nil : DtAll K H [] []
  | cons {v : V} {vs : List V} {d : PyData} {ds : List PyData} : Dt K H v d → DtAll K H vs ds → DtAll K H (v :: vs) (d :: ds)
theorem DtAll.len {H : Hp} : ∀ {vs : List V} {ds : List PyData}, DtAll K H vs ds → vs.length = ds.length
  | _, _, .nil => rfl
  | _, _, .cons _ h => by rw [List.length_cons, List.length_cons, DtAll.len h]
theorem DtAll.same {H H' : Hp} (s : Same H H') : ∀ {vs : List V} {ds : List PyData}, DtAll K H vs ds → DtAll K H' vs ds
  | _, _, .nil => .nil
  | _, _, .cons h t => .cons (h.same s) (t.same s)
theorem DtAll.append {H : Hp} : ∀ {vs us : List V} {ds es : List PyData}, DtAll K H vs ds → DtAll K H us es → DtAll K H (vs ++ us) (ds ++ es)
  | _, _, _, _, .nil, h => h
  | _, _, _, _, .cons h t, k => .cons h (t.append k)
theorem DtAll.mem {H : Hp} : ∀ {vs : List V} {ds : List PyData} {v : V}, DtAll K H vs ds → v ∈ vs → ∃ d, d ∈ ds ∧ Dt K H v d
  | _, _, _, .nil, h => absurd h List.not_mem_nil
  | _, _, _, .cons (d := d) h t, m => by
    rcases List.mem_cons.mp m with e | m
    · exact ⟨d, List.mem_cons_self, e ▸ h⟩
    · obtain ⟨d', h1, h2⟩ := t.mem m
      exact ⟨d', List.mem_cons_of_mem _ h1, h2⟩
def EvTs (K : PySem.W.Frag) (S : Addr → Prop) (ta : TA) (σ : L2.St) (ds : List PyData) : Prop := ∀ H1, Taken H1 S → ∀ Q : List V → Hp → Prop, (∀ vs H2, Same H1 H2 → DtAll K (Hd S H2) vs ds → Q vs H2) → ta σ H1 Q
theorem evts_nil : EvTs K S tNil σ [] := fun H1 _ Q q => q [] H1 (Same.refl _) .nil
theorem evts_cons {te : TE} {ta : TA} {d : PyData} {ds : List PyData} (h : EvT K S te σ d) (hs : EvTs K S ta σ ds) : EvTs K S (tCons te ta) σ (d :: ds) := fun H1 t Q q =>
  h H1 t _ fun v H2 s2 hv => hs H2 (t.same s2) _ fun vs H3 s3 hvs => q (v :: vs) H3 (s2.trans s3) (.cons (hv.same (hdS s3)) hvs)
/-- a written dict with one text key and an int -/
theorem evt_dict1 {k : Str} {i : Int} : EvT K S (tDisp [(tC (.str k), tC (.int i))]) σ (.dict [(.str k, .int i)]) := fun H1 t Q q => fun a na => by
  have n1 := t.ne na
  refine ⟨upd_same, [(.inr k, .int i)], rfl, (by show 1 ≤ 15; decide), ?_⟩
  rw [upd_upd]
  refine q _ _ (same_upd na) (.dic (kvs := [(.inr k, .int i)]) (by rw [hd_ne n1]; exact upd_same) rfl)
end
/-! ### one layer of a reading -/
theorem rd_lst {ta : TA} {σ : L2.St} {H : Hp} {Q : VK} (h : ta σ H fun xs H1 => xs.length ≤ sizeLine ∧ ∀ a, H1 a = none → Q (.ref a) (upd H1 a (.lst xs))) : tLst ta σ H Q := h
theorem rd_tup {ta : TA} {σ : L2.St} {H : Hp} {Q : VK} (h : ta σ H fun xs H1 => xs.length ≤ sizeLine ∧ ∀ a, H1 a = none → Q (.ref a) (upd H1 a (.tup xs))) : tTup ta σ H Q := h
theorem rd_set {te : TE} {i : Nat} {u : TS} {D : Ends} {σ : L2.St} {H : Hp} (h : te σ H fun v H1 => u D (σ.set i (some v)) H1) : tSeq (tAsg te (gName i)) u D σ H := h
theorem rd_ret {te : TE} {D : Ends} {σ : L2.St} {H : Hp} (h : te σ H D.rt) : tRet te D σ H := h
theorem rd_op {r : R2} {ta tb : TE} {σ : L2.St} {H : Hp} {Q : VK} (h : ta σ H fun x H1 => tb σ H1 fun y H2 => r x y H2 Q) : tOp r ta tb σ H Q := h
theorem rd_cons {te : TE} {ta : TA} {σ : L2.St} {H : Hp} {Q : List V → Hp → Prop} (h : te σ H fun x H1 => ta σ H1 fun xs H2 => Q (x :: xs) H2) : tCons te ta σ H Q := h
theorem rd_nil {σ : L2.St} {H : Hp} {Q : List V → Hp → Prop} (h : Q [] H) : tNil σ H Q := h
theorem rd_call {sp : Sp} {ta : TA} {σ : L2.St} {H : Hp} {Q : VK} (h : ta σ H fun vs H1 => sp (vs ++ []) H1 Q E0) : tCall sp [] E0 ta σ H Q := h
theorem rd_cb {r : List V → Hp → VK → Prop} {ta : TA} {σ : L2.St} {H : Hp} {Q : VK} (h : ta σ H fun vs H1 => r vs H1 Q) : tCB r ta σ H Q := h
theorem rd_var {i : Nat} {v : V} {σ : L2.St} {H : Hp} {Q : VK} (e : σ[i]? = some (some v)) (h : Q v H) : tVar i σ H Q := ⟨v, e, h⟩
theorem rd_c {v : V} {σ : L2.St} {H : Hp} {Q : VK} (h : Q v H) : tC v σ H Q := h
theorem rd_test {te : TE} {σ : L2.St} {H : Hp} {Q : Bool → Hp → Prop} (h : te σ H fun x H' => ∃ k, x = .bl k ∧ Q k H') : tTest te σ H Q := h
theorem rd_if {c : TT} {t u v : TS} {D : Ends} {σ : L2.St} {H : Hp} (h : c σ H fun b H1 => if b = true then t { D with nx := v D } σ H1 else u { D with nx := v D } σ H1) : tSeq (tIfS c t u) v D σ H := h
end DD

set_option Elab.async false
set_option linter.all false
set_option maxRecDepth 100000
set_option maxHeartbeats 4000000
/-! LP: loops and comprehensions of a known number of turns. -/
namespace DD
open PySem PySem.Spec PyProof.Rows L2 GG
theorem pT {c : Prop} [Decidable c] {a b : Prop} (hc : c) (h : a) : ite c a b := (if_pos hc).mpr h
theorem pF {c : Prop} [Decidable c] {a b : Prop} (hc : ¬ c) (h : b) : ite c a b := (if_neg hc).mpr h
theorem rd_next {u : TS} {D : Ends} {σ : L2.St} {H : Hp} (h : u D σ H) : tNext { D with nx := u D } σ H := h
theorem rd_nx {D : Ends} {σ : L2.St} {H : Hp} (h : D.nx σ H) : tNext D σ H := h
theorem rd_ifS {c : TT} {t u : TS} {D : Ends} {σ : L2.St} {H : Hp} (h : c σ H fun b H1 => if b = true then t D σ H1 else u D σ H1) : tIfS c t u D σ H := h
theorem rd_seq {u v : TS} {D : Ends} {σ : L2.St} {H : Hp} (h : u { D with nx := v D } σ H) : tSeq u v D σ H := h
theorem rd_asg {te : TE} {g : TG} {u : TS} {D : Ends} {σ : L2.St} {H : Hp} (h : te σ H fun x H1 => g x σ H1 (u D)) : tSeq (tAsg te g) u D σ H := h
theorem rd_par {i j : Nat} {ta : TA} {u : TS} {D : Ends} {σ : L2.St} {H : Hp} (h : ta σ H fun vs H1 => ∃ v w, vs = [v, w] ∧ u D ((σ.set i (some v)).set j (some w)) H1) : tSeq (tPar i j ta) u D σ H := h
theorem rd_yes {σ : L2.St} {H : Hp} {P R : Hp → Prop} (h : P H) : tYes σ H fun b H4 => if b = true then P H4 else R H4 := (if_pos rfl : (if true = true then P H else R H) = P H).mpr h
section
variable {wi : TI} {J : It} {g : TG} {tt : TT} {tb : TS} {te : TE} {vs : List Nat} {σ : L2.St} {H H1 : Hp} {Q : VK} {D : Ends}
def ForOk (J : It) (g : TG) (tb : TS) (D : Ends) (σ : L2.St) (H1 : Hp) : Prop := ∃ W : Nat → Nat → L2.St → Hp → Prop, (∃ m, W 0 m σ H1) ∧ ∀ i m σ H, W i m σ H →
  (J.stop i H ∧ D.nx σ H) ∨ (J.go i H ∧ ∃ N : L2.St → Hp → Prop, (∀ σ' H', N σ' H' → ∃ m', m' < m ∧ W (i + 1) m' σ' H') ∧ ∀ x H', J.yld i H x H' → g x σ H' fun σ2 H2 => tb { D with nx := N, ct := N, bk := D.nx } σ2 H2)
theorem rd_for (h : wi σ H fun J H1 => ForOk J g tb D σ H1) : tFor wi g tb D σ H := h
/-- for, n turns: I by the turn -/
theorem for_in (n : Nat) (I : Nat → L2.St → Hp → Prop) (h0 : I 0 σ H1)
    (hstop : ∀ σ' H', I n σ' H' → J.stop n H' ∧ D.nx σ' H')
    (hgo : ∀ i σ' H', i < n → I i σ' H' → J.go i H' ∧ ∀ N : L2.St → Hp → Prop, (∀ σ2 H2, I (i + 1) σ2 H2 → N σ2 H2) → ∀ x H2, J.yld i H' x H2 → g x σ' H2 fun σ3 H3 => tb { D with nx := N, ct := N, bk := D.nx } σ3 H3) :
    ForOk J g tb D σ H1 := by
  refine ⟨fun i m σ' H' => i + m = n ∧ I i σ' H', ⟨n, Nat.zero_add n, h0⟩, fun i m σ' H' ⟨e, h⟩ => ?_⟩
  by_cases hm : m = 0
  · subst hm
    have e' : i = n := by omega
    subst e'
    exact .inl (hstop _ _ h)
  · obtain ⟨h1, h2⟩ := hgo i σ' H' (by omega) h
    exact .inr ⟨h1, fun σ2 H2 => I (i + 1) σ2 H2, fun σ2 H2 k => ⟨m - 1, by omega, by omega, k⟩, h2 _ fun _ _ k => k⟩
def LcOk (J : It) (g : TG) (tt : TT) (te : TE) (vs : List Nat) (Q : VK) (σ : L2.St) (H1 : Hp) : Prop := ∀ D, H1 D = none → ∃ W : Nat → Nat → Hp → Prop, (∃ m, W 0 m (upd H1 D (.lst []))) ∧ ∀ i m H, W i m H →
  (J.stop i H ∧ Q (.ref D) H) ∨ (J.go i H ∧ ∃ Nx : Hp → Prop, (∀ H', Nx H' → ∃ m', m' < m ∧ W (i + 1) m' H') ∧ ∀ x H', J.yld i H x H' → g x (wipe σ vs) H' fun σ2 H2 => wipe σ2 vs = wipe σ vs ∧ tt σ2 H2 fun b H3 =>
    if b = true then te σ2 H3 fun y H4 => ∃ acc, H4 D = some (.lst acc) ∧ acc.length < sizeLine ∧ Nx (upd H4 D (.lst (acc ++ [y]))) else Nx H3)
theorem rd_lc (h : wi σ H fun J H1 => LcOk J g tt te vs Q σ H1) : tLc wi g tt te vs σ H Q := h
/-- a comprehension, n turns: I by the new list, the turn, what is there -/
theorem lc_in (n : Nat) (hn : n ≤ 1000) (I : Addr → Nat → List V → Hp → Prop)
    (h0 : ∀ L, H1 L = none → I L 0 [] (upd H1 L (.lst [])))
    (hstop : ∀ L acc H', H' L = some (.lst acc) → I L n acc H' → J.stop n H' ∧ Q (.ref L) H')
    (hgo : ∀ L i acc H', i < n → H' L = some (.lst acc) → I L i acc H' → J.go i H' ∧ ∀ (P : VK) (R : Hp → Prop), (∀ y H2, H2 L = some (.lst acc) → I L (i + 1) (acc ++ [y]) (upd H2 L (.lst (acc ++ [y]))) → P y H2) → (∀ H2, H2 L = some (.lst acc) → I L (i + 1) acc H2 → R H2) →
      ∀ x H2, J.yld i H' x H2 → g x (wipe σ vs) H2 fun σ2 H3 => wipe σ2 vs = wipe σ vs ∧ tt σ2 H3 fun b H4 => if b = true then te σ2 H4 P else R H4) :
    LcOk J g tt te vs Q σ H1 := by
  refine fun L hL => ⟨fun i m H' => i + m = n ∧ ∃ acc, H' L = some (.lst acc) ∧ acc.length ≤ i ∧ I L i acc H', ⟨n, Nat.zero_add n, [], upd_same, Nat.zero_le _, h0 L hL⟩, fun i m H' ⟨e, acc, h1, h2, h3⟩ => ?_⟩
  by_cases hm : m = 0
  · subst hm
    have e' : i = n := by omega
    subst e'
    exact .inl (hstop L acc H' h1 h3)
  · obtain ⟨k1, k2⟩ := hgo L i acc H' (by omega) h1 h3
    refine .inr ⟨k1, fun H2 => ∃ acc', H2 L = some (.lst acc') ∧ acc'.length ≤ i + 1 ∧ I L (i + 1) acc' H2, fun H2 k => ⟨m - 1, by omega, by omega, k⟩, k2 _ _ (fun y H2 z1 z2 => ⟨acc, z1, szl (by omega), acc ++ [y], upd_same, by rw [List.length_append]; exact Nat.succ_le_succ h2, z2⟩) fun H2 z1 z2 => ⟨acc, z1, by omega, z2⟩⟩
theorem rd_rng1 {ta : TA} {R : It → Hp → Prop} (h : ta σ H fun vs H1 => ∃ j : Int, vs = [.int j] ∧ -(2 ^ 62) ≤ j ∧ j < 2 ^ 62 ∧ R (Itr 0 j.toNat) H1) : iRng1 ta σ H R := h
theorem rng_n {n : Nat} (hn : n ≤ 1000) : -(2 ^ 62) ≤ (n : Int) ∧ (n : Int) < 2 ^ 62 := by
  constructor
  · have a : (0 : Int) ≤ (n : Int) := Int.natCast_nonneg n
    exact Int.le_trans (by decide) a
  · have a : (n : Int) ≤ 1000 := by omega
    exact Int.lt_of_le_of_lt a (by decide)
theorem rd_enum {K : PySem.W.Frag} {ta : TA} {R : It → Hp → Prop} (h : ta σ H fun vs H1 => ∃ a xs, vs = [.ref a] ∧ SqL K H1 a xs ∧ R (Ite K a) H1) : iEnum K ta σ H R := h
theorem rd_zip {K : PySem.W.Frag} {ta : TA} {R : It → Hp → Prop} (h : ta σ H fun vs H1 => ∃ a b xs ys, vs = [.ref a, .ref b] ∧ SqL K H1 a xs ∧ SqL K H1 b ys ∧ R (Itz K a b) H1) : iZip K ta σ H R := h
theorem rd_ilist {K : PySem.W.Frag} {tl : TE} {R : It → Hp → Prop} (h : tl σ H fun x H1 => ∃ a, x = .ref a ∧ (∃ xs, SqL K H1 a xs) ∧ R (Itl K a) H1) : iList K tl σ H R := h
theorem rd_or {t u : TT} {Q : Bool → Hp → Prop} (h : t σ H fun c H1 => if c = true then Q true H1 else u σ H1 Q) : tOr t u σ H Q := h
theorem rd_and {t u : TT} {Q : Bool → Hp → Prop} (h : t σ H fun c H1 => if c = true then u σ H1 Q else Q false H1) : tAnd t u σ H Q := h
theorem rd_not {t : TT} {Q : Bool → Hp → Prop} (h : t σ H fun c H1 => Q (!c) H1) : tNot t σ H Q := h
theorem rd_tb {te : TE} {Q : Bool → Hp → Prop} (h : te σ H fun x H1 => ∃ c, x = .bl c ∧ Q c H1) : tB te σ H Q := h
theorem rd_gnn {K : PySem.W.Frag} {i j : Nat} {a : Addr} {v w : V} {Q : L2.St → Hp → Prop} (h : SqT K H a [v, w]) (q : Q ((σ.set i (some v)).set j (some w)) H) : gTup K 2 (gCons (gName i) (gCons (gName j) gNil)) (.ref a) σ H Q := ⟨a, _, rfl, h, rfl, _, _, rfl, _, _, rfl, rfl, q⟩
theorem rd_gnt {K : PySem.W.Frag} {i j k : Nat} {a b : Addr} {v w z : V} {Q : L2.St → Hp → Prop} (h : SqT K H a [v, .ref b]) (h2 : SqT K H b [w, z]) (q : Q (((σ.set i (some v)).set j (some w)).set k (some z)) H) : gTup K 2 (gCons (gName i) (gCons (gTup K 2 (gCons (gName j) (gCons (gName k) gNil))) gNil)) (.ref a) σ H Q :=
  ⟨a, _, rfl, h, rfl, _, _, rfl, _, _, rfl, b, _, rfl, h2, rfl, _, _, rfl, _, _, rfl, rfl, rfl, q⟩
theorem dp_bools {K : PySem.W.Frag} {a : Addr} (js : List Nat) (f : Nat → Bool) (h : H a = some (.lst (js.map fun j => V.bl (f j)))) : Dp K H (.ref a) (.list (js.map fun j => .bool (f j))) := by
  refine .lst (sq h) ?_
  induction js generalizing a with
  | nil => exact .nil
  | cons j js ih => 
    have key : ∀ js : List Nat, DpAll K H (js.map fun j => V.bl (f j)) (js.map fun j => .bool (f j)) := fun js => by
      induction js with
      | nil => exact .nil
      | cons j js ih => exact .cons (.bl _) ih
    exact key _
/-- [e for j in range(n)], e reads what stands and changes nothing -/
theorem lc_rng {ta : TA} {i9 : Nat} (n : Nat) (hn : n ≤ 1000) (f : Nat → V) (hta : ∀ R : List V → Hp → Prop, R [.int n] H → ta σ H R) (hw : ∀ j : Int, wipe ((wipe σ vs).set i9 (some (.int j))) vs = wipe σ vs)
    (he : ∀ j, j < n → ∀ H', Same H H' → ∀ P : VK, P (f j) H' → te ((wipe σ vs).set i9 (some (.int j))) H' P)
    (q : ∀ L H', Same H H' → H L = none → H' L = some (.lst ((List.range n).map f)) → Q (.ref L) H') : tLc (iRng1 ta) (gName i9) tYes te vs σ H Q := by
  refine rd_lc (rd_rng1 (hta _ ⟨n, rfl, (rng_n hn).1, (rng_n hn).2, ?_⟩))
  rw [Int.toNat_natCast]
  refine lc_in n hn (fun L i acc H' => H L = none ∧ Same H H' ∧ acc = (List.range i).map f) (fun L hL => ⟨hL, same_upd hL, rfl⟩) (fun L acc H' h1 ⟨h2, h3, h4⟩ => ⟨Nat.le_refl n, q L H' h3 h2 (by rw [h1, h4])⟩) fun L i acc H' hi h1 ⟨h2, h3, h4⟩ => ⟨hi, fun P R hP hR x H2 ⟨e1, e2⟩ => ?_⟩
  subst e1
  subst e2
  subst h4
  rw [Int.zero_add]
  refine ⟨hw _, rd_yes (he i hi H2 h3 _ (hP _ _ h1 ⟨h2, ?_, ?_⟩))⟩
  · exact fun b o z => by
      rw [upd_ne (ne_of_none z h2)]
      exact h3 b o z
  · rw [List.range_succ, List.map_append]
    rfl
end
end DD

set_option Elab.async false
set_option linter.all false
set_option maxRecDepth 100000
set_option maxHeartbeats 4000000
/-! RPU: tuple * int, any int that is not too great. -/
namespace RPU
open PySem PySem.Spec PyProof.Rows L2
theorem tuple_mul0 (l : Addr) (items : Array Value) (n : Nat) (dd : Option Addr) (sl : Array (Option Value)) (x : Int) (u : Tok) (c0 : (decide (x < -(2 ^ 63)) || decide (x ≥ 2 ^ 63)) = false) (c1 : (items.isEmpty || x == 1) = false) (c2 : (decide (x ≤ 0) || items.isEmpty) = true) :
    Meets (Builtin.«tuple.__mul__» ⟨[.ref l, .int x u], []⟩) (fun _ R s => s.heap.get? l = some { cls := .type "tuple", dict := dd, data := .seq items n, slots := sl } ∧
      R (.ok (.ret (Value.ref s.heap.objs.size))) { s with heap := s.heap.push { cls := Value.type "tuple", data := Data.seq #[] }, toks := s.toks }) :=
  .of_wp fun prog w A R s h => by
    obtain ⟨hp, g, d, tk, os⟩ := s
    obtain ⟨hl, h⟩ := h
    have f1 := AutoSeq1.idx_int
    wp_walk using wpAny_loadPart' hl
    repeat (first
      | (refine wpAny_ite_false (decide_eq_false (by rw [c0]; exact Bool.false_ne_true)) ?_; wp_walk using wpAny_loadPart' hl)
      | (refine wpAny_ite_false (decide_eq_false (by rw [c1]; exact Bool.false_ne_true)) ?_; wp_walk using wpAny_loadPart' hl)
      | (refine wpAny_ite_true (decide_eq_true c2) ?_; wp_walk using wpAny_loadPart' hl))
    exact ⟨_, rfl, h⟩
theorem tuple_mul1 (l : Addr) (items : Array Value) (n : Nat) (dd : Option Addr) (sl : Array (Option Value)) (x : Int) (u : Tok) (c0 : (decide (x < -(2 ^ 63)) || decide (x ≥ 2 ^ 63)) = false) (c1 : (items.isEmpty || x == 1) = true) :
    Meets (Builtin.«tuple.__mul__» ⟨[.ref l, .int x u], []⟩) (fun _ R s => s.heap.get? l = some { cls := .type "tuple", dict := dd, data := .seq items n, slots := sl } ∧
      R (.ok (.ret (Value.ref l))) s) :=
  .of_wp fun prog w A R s h => by
    obtain ⟨hp, g, d, tk, os⟩ := s
    obtain ⟨hl, h⟩ := h
    have f1 := AutoSeq1.idx_int
    wp_walk using wpAny_loadPart' hl
    repeat (first
      | (refine wpAny_ite_false (decide_eq_false (by rw [c0]; exact Bool.false_ne_true)) ?_; wp_walk using wpAny_loadPart' hl)
      | (refine wpAny_ite_true (decide_eq_true c1) ?_; wp_walk using wpAny_loadPart' hl))
    exact ⟨_, rfl, h⟩
/-- t * k: nothing at k <= 0, t itself at k = 1 or where t is empty -/
def rRepU (K : PySem.W.Frag) : R2 := fun x y H Q => ∃ l k xs, x = .ref l ∧ y = .int k ∧ SqT K H l xs ∧ -(2 ^ 62) ≤ k ∧ k ≤ 1000 ∧ xs.length ≤ 1000 ∧ (xs = [] ∨ k = 1 → Q (.ref l) H) ∧ (xs ≠ [] → k ≠ 1 → ∀ p, H p = none → Q (.ref p) (upd H p (.tup (List.replicate k.toNat xs).flatten)))
theorem op_repU {X : Cx} : OpR X (binaryOp .Mult) (rRepU X.K) := by
  intro pins s σ H x y v u Q I rx ry h
  obtain ⟨l, k, xs, rfl, rfl, hT, h0, h1, hz, q1, q2⟩ := h
  by_cases big : xs ≠ [] ∧ 2 ≤ k
  · exact op_repT pins s σ H (.ref l) (.int k) v u Q I rx ry ⟨l, k, xs, rfl, rfl, hT, big.1, big.2, h1, hz, q2 big.1 (by omega)⟩
  cases rx
  obtain ⟨t, rfl⟩ := ry
  obtain ⟨its, r, ⟨⟨cls, dd, data, sl⟩, ho, hc, n, hd⟩, hs⟩ := I.tuple hT
  simp only at hc hd
  subst hc hd
  have hle : its.length = xs.length := r.length.symm
  have c0 : (decide (k < -(2 ^ 63)) || decide (k ≥ 2 ^ 63)) = false := by
    rw [decide_eq_false (by omega), decide_eq_false (by omega)] <;> rfl
  by_cases same : xs = [] ∨ k = 1
  · have c1 : (its.toArray.isEmpty || k == 1) = true := by
      rcases same with e | e
      · have e2 : its = [] := List.eq_nil_of_length_eq_zero (by rw [hle, e]; rfl)
        rw [e2]
        rfl
      · rw [e]
        simp
    refine wpAny_binaryOp_repeat_ref (T := "tuple") (U := "int") (by decide) ⟨_, ho, rfl⟩ (fun s' => typeIs_int s' k t) noFill_tuple_mul F.fills_int_mul F.slot_int_rmul repeat_tuple F.slot_int_index.lookup
      (call_meets F.slot_int_rmul (typeIs_int s k t) F.entry_int_rmul (F.args_int_rmul_2 _ _) (int_rmul_tuple k t l its.toArray n dd sl)
        ⟨ho, rfl, ⟨_, ho, rfl⟩, call_meets F.slot_tuple_mul ⟨_, ho, rfl⟩ F.entry_tuple_mul (F.args_tuple_mul_2 _ _) (tuple_mul1 l its.toArray n dd sl k t c0 c1) ⟨ho, ?_⟩⟩)
    exact ⟨.ref l, H, I, rfl, q1 same⟩
  · have hne : xs ≠ [] := fun e => same (.inl e)
    have hk1 : k ≠ 1 := fun e => same (.inr e)
    have hk : k ≤ 0 := by
      by_cases z : 2 ≤ k
      · exact absurd ⟨hne, z⟩ big
      · omega
    have hn : its ≠ [] := fun e => hne (by
      rw [e] at hle
      exact List.eq_nil_of_length_eq_zero hle.symm)
    have hi : its.toArray.isEmpty = false := by
      cases its with
      | nil => exact absurd rfl hn
      | cons a b => rfl
    have c1 : (its.toArray.isEmpty || k == 1) = false := by
      rw [hi, Bool.false_or]
      exact beq_eq_false_iff_ne.mpr hk1
    have c2 : (decide (k ≤ 0) || its.toArray.isEmpty) = true := by
      rw [decide_eq_true hk] <;> rfl
    refine wpAny_binaryOp_repeat_ref (T := "tuple") (U := "int") (by decide) ⟨_, ho, rfl⟩ (fun s' => typeIs_int s' k t) noFill_tuple_mul F.fills_int_mul F.slot_int_rmul repeat_tuple F.slot_int_index.lookup
      (call_meets F.slot_int_rmul (typeIs_int s k t) F.entry_int_rmul (F.args_int_rmul_2 _ _) (int_rmul_tuple k t l its.toArray n dd sl)
        ⟨ho, rfl, ⟨_, ho, rfl⟩, call_meets F.slot_tuple_mul ⟨_, ho, rfl⟩ F.entry_tuple_mul (F.args_tuple_mul_2 _ _) (tuple_mul0 l its.toArray n dd sl k t c0 c1 c2) ⟨ho, ?_⟩⟩)
    have e0 : (List.replicate k.toNat xs).flatten = [] := by
      have : k.toNat = 0 := by omega
      rw [this]
      rfl
    have q3 := q2 hne hk1
    rw [e0] at q3
    refine ⟨.ref s.heap.objs.size, _, I.laid (t' := s.toks) (o := .tup []) (fun b ob q => Heap.get?_push_of_some _ q) (Nat.le_refl _) ?_, rfl, q3 _ (I.hok.fresh (Nat.le_refl _))⟩
    exact ⟨Nat.zero_le _, [], .nil, IsTup.new _ _⟩
end RPU

set_option Elab.async false
set_option linter.all false
set_option maxRecDepth 100000
set_option maxHeartbeats 4000000
/-! PT: tuples that are known to have no dict of their own (a new tuple's very object is kept in mind), and dict(t) of such a tuple. -/
namespace PT
open PySem PySem.Spec PyProof.Rows L2 GG
/-- a tuple without a dict of its own -/
def PlT (K : PySem.W.Frag) (H : Hp) (a : Addr) (xs : List V) : Prop := (∃ o, H a = some (.frz o (.tup xs)) ∧ o.dict = none) ∨
  ∃ (o : Obj) (its : Array Value) (n : Nat), K.lookup a = some o ∧ o.cls = .type "tuple" ∧ o.dict = none ∧ o.data = .seq its n ∧ its.size ≤ sizeLine ∧ Vals xs its.toList
theorem PlT.sq {K : PySem.W.Frag} {H : Hp} {a : Addr} {xs : List V} (h : PlT K H a xs) : SqT K H a xs := by
  rcases h with ⟨o, h, _⟩ | ⟨o, its, n, h1, h2, _, h3, h4, h5⟩
  · exact .inl (.inr ⟨o, h⟩)
  · exact .inr ⟨o, its, n, h1, h2, h3, h4, h5⟩
theorem PlT.same {K : PySem.W.Frag} {H H' : Hp} {a : Addr} {xs : List V} (s : Same H H') (h : PlT K H a xs) : PlT K H' a xs := by
  rcases h with ⟨o, h, e⟩ | h
  · exact .inl ⟨o, s _ _ h, e⟩
  · exact .inr h
/-- a new tuple is there -/
abbrev NewT (H : Hp) (xs : List V) (Q : VK) : Prop := ∀ p o, H p = none → o.dict = none → Q (.ref p) (upd H p (.frz o (.tup xs)))
section
variable {X : Cx} {pins : List (Addr × Obj)} {σ : L2.St} {H : Hp} {s : Shared}
/-- laid: the tuple's object as it was pushed -/
theorem laidT (I : Inv X pins σ H s) {xs : List V} {us : List Value} (r : Vals xs us) (hz : xs.length ≤ sizeLine) {Q : VK} (q : NewT H xs Q) :
    EP X pins σ Q (.ref s.heap.objs.size) { s with heap := s.heap.push { cls := .type "tuple", data := .seq us.toArray } } := by
  have hg : (s.heap.push { cls := .type "tuple", data := .seq us.toArray }).get? s.heap.objs.size = some { cls := .type "tuple", data := .seq us.toArray } := Heap.get?_push_size _ rfl
  refine ⟨.ref s.heap.objs.size, _, I.laid (t' := s.toks) (o := .frz { cls := .type "tuple", data := .seq us.toArray } (.tup xs)) (fun b u e => Heap.get?_push_of_some _ e) (Nat.le_refl _) ?_, rfl, q _ _ (I.hok.fresh (Nat.le_refl _)) rfl⟩
  exact ⟨hg, hz, us, r, ⟨_, hg, rfl, _, rfl⟩⟩
end
section
variable {X : Cx} {pos : Pos} {es : List Expr} {t : TA}
def tTupP (t : TA) : TE := fun σ H Q => t σ H fun xs H1 => xs.length ≤ sizeLine ∧ NewT H1 xs Q
theorem pe_tupP {x1} (h : PA X es t) : PE X (.Tuple es x1 pos) (tTupP t) := by
  refine ⟨fun pins s σ H Q I hq => ?_⟩
  refine wpAny_Tuple_spliced (thn (h.run pos pins s σ H _ I hq) fun us s1 ⟨xs, H1, I1, r, z, q⟩ => ⟨by rw [← r.length]; exact z, ?_⟩)
  exact laidT I1 r z q
/-- tuple(xs) of a list, of a tuple -/
def rToP (K : PySem.W.Frag) : List V → Hp → VK → Prop := fun xs H Q => ∃ p ys, xs = [.ref p] ∧ ((SqL K H p ys ∧ NewT H ys Q) ∨ (SqT K H p ys ∧ Q (.ref p) H))
theorem call_tuple_ofP : CallR X (.type "tuple") (rToP X.K) := by
  intro pins s σ H xs us Q I r h
  obtain ⟨p, ys, rfl, h⟩ := h
  obtain ⟨u, rfl, rx⟩ := vals1 r
  cases rx
  rcases h with ⟨hq, q⟩ | ⟨hq, q⟩
  · obtain ⟨its, r', pl, hz⟩ := I.list hq
    have hlen := r'.length
    refine call_tuple_list pl.isList (fun h' kp => ?_) (by simp only [List.size_toArray] <;> omega)
    exact laidT (s := { s with heap := h' }) (I.kept (t' := s.toks) kp) r' hz q
  · exact call_tuple_of pins s σ H [.ref p] [Value.ref p] Q I (.cons rfl .nil) ⟨p, ys, rfl, .inr ⟨hq, q⟩⟩
def rCatP (K : PySem.W.Frag) : R2 := fun x y H Q => ∃ a b xs ys, x = .ref a ∧ y = .ref b ∧ SqT K H a xs ∧ SqT K H b ys ∧ xs.length + ys.length ≤ sizeLine ∧
  (xs = [] → Q (.ref b) H) ∧ (xs ≠ [] → ys = [] → Q (.ref a) H) ∧ (xs ≠ [] → ys ≠ [] → NewT H (xs ++ ys) Q)
theorem op_catP : OpR X (binaryOp .Add) (rCatP X.K) := by
  intro pins s σ H x y v u Q I rx ry h
  obtain ⟨a, b, xs, ys, rfl, rfl, ha, hb, hz, q0, q1, q2⟩ := h
  by_cases hx : xs = []
  · exact op_catA pins s σ H (.ref a) (.ref b) v u Q I rx ry ⟨a, b, xs, ys, rfl, rfl, ha, hb, hz, q0, q1, fun z => absurd hx z⟩
  · cases rx
    cases ry
    obtain ⟨its, r1, p1, _⟩ := I.tuple ha
    obtain ⟨its2, r2, p2, _⟩ := I.tuple hb
    refine HT.cat_tup p1 p2 (fun z => hx (r1.nil_iff.mp z)) (fun z => ⟨.ref a, H, I, rfl, q1 hx (r2.nil_iff.mp z)⟩) (fun z => ?_) (by rw [← r1.length, ← r2.length]; exact hz)
    exact laidT I (r1.append r2) (by rw [List.length_append]; exact hz) (q2 hx fun w => z (r2.nil_iff.mpr w))
def rSlP (K : PySem.W.Frag) : V → Option Int → Option Int → Hp → VK → Prop := fun x lo hi H Q => ∃ a xs, x = .ref a ∧ SqT K H a xs ∧
  (HT.sIx xs.length 0 lo = 0 ∧ HT.sIx xs.length xs.length hi = xs.length → Q (.ref a) H) ∧ (¬ (HT.sIx xs.length 0 lo = 0 ∧ HT.sIx xs.length xs.length hi = xs.length) → NewT H (cutV xs lo hi) Q)
theorem sl_tupP : SlR X (rSlP X.K) := by
  intro pins s σ H x v vl vu lo hi sl Q I rx hs pl pu h
  obtain ⟨a, xs, rfl, hx, q1, q2⟩ := h
  by_cases hw : HT.sIx xs.length 0 lo = 0 ∧ HT.sIx xs.length xs.length hi = xs.length
  · exact sl_tupA pins s σ H (.ref a) v vl vu lo hi sl Q I rx hs pl pu ⟨a, xs, rfl, hx, q1, fun z => absurd hw z⟩
  · cases rx
    obtain ⟨its, r, ht, hz⟩ := I.tuple hx
    have hlen : its.toArray.size = xs.length := by rw [List.size_toArray]; exact r.length.symm
    refine ⟨"tuple", _, PyProof.Rows.slot_tuple_getitem.lookup, ht.typeIs, ?_⟩
    refine HT.getItem_tuple_cut ht hs pl pu (by rw [hlen]; exact hw) ?_ (by rw [hlen]; exact hz)
    rw [hlen]
    exact laidT I ((r.drop (HT.sIx xs.length 0 lo)).take (HT.sIx xs.length xs.length hi - HT.sIx xs.length 0 lo)) (Nat.le_trans (cutV_length xs lo hi) hz) (q2 hw)
/-- t * k -/
def rRepP (K : PySem.W.Frag) : R2 := fun x y H Q => ∃ l k xs, x = .ref l ∧ y = .int k ∧ SqT K H l xs ∧ -(2 ^ 62) ≤ k ∧ k ≤ 1000 ∧ xs.length ≤ 1000 ∧ (xs = [] ∨ k = 1 → Q (.ref l) H) ∧ (xs ≠ [] → k ≠ 1 → NewT H (List.replicate k.toNat xs).flatten Q)
theorem op_repP : OpR X (binaryOp .Mult) (rRepP X.K) := by
  intro pins s σ H x y v u Q I rx ry h
  obtain ⟨l, k, xs, rfl, rfl, hT, h0, h1, hz, q1, q2⟩ := h
  by_cases same : xs = [] ∨ k = 1
  · exact RPU.op_repU pins s σ H (.ref l) (.int k) v u Q I rx ry ⟨l, k, xs, rfl, rfl, hT, h0, h1, hz, q1, fun a b => absurd same (fun z => z.elim a b)⟩
  cases rx
  obtain ⟨t, rfl⟩ := ry
  obtain ⟨its, r, ⟨⟨cls, dd, data, sl⟩, ho, hc, n, hd⟩, hs⟩ := I.tuple hT
  simp only at hc hd
  subst hc hd
  have hle : its.length = xs.length := r.length.symm
  have hne : xs ≠ [] := fun e => same (.inl e)
  have hk1 : k ≠ 1 := fun e => same (.inr e)
  have hn : its ≠ [] := fun e => hne (by
    rw [e] at hle
    exact List.eq_nil_of_length_eq_zero hle.symm)
  have hi : its.toArray.isEmpty = false := by
    cases its with
    | nil => exact absurd rfl hn
    | cons a b => rfl
  have c0 : (decide (k < -(2 ^ 63)) || decide (k ≥ 2 ^ 63)) = false := by
    rw [decide_eq_false (by omega), decide_eq_false (by omega)] <;> rfl
  have c1 : (its.toArray.isEmpty || k == 1) = false := by
    rw [hi, Bool.false_or]
    exact beq_eq_false_iff_ne.mpr hk1
  by_cases hk : k ≤ 0
  · have c2 : (decide (k ≤ 0) || its.toArray.isEmpty) = true := by
      rw [decide_eq_true hk] <;> rfl
    refine wpAny_binaryOp_repeat_ref (T := "tuple") (U := "int") (by decide) ⟨_, ho, rfl⟩ (fun s' => typeIs_int s' k t) noFill_tuple_mul F.fills_int_mul F.slot_int_rmul repeat_tuple F.slot_int_index.lookup
      (call_meets F.slot_int_rmul (typeIs_int s k t) F.entry_int_rmul (F.args_int_rmul_2 _ _) (int_rmul_tuple k t l its.toArray n dd sl)
        ⟨ho, rfl, ⟨_, ho, rfl⟩, call_meets F.slot_tuple_mul ⟨_, ho, rfl⟩ F.entry_tuple_mul (F.args_tuple_mul_2 _ _) (RPU.tuple_mul0 l its.toArray n dd sl k t c0 c1 c2) ⟨ho, ?_⟩⟩)
    have e0 : (List.replicate k.toNat xs).flatten = [] := by
      have : k.toNat = 0 := by omega
      rw [this]
      rfl
    have q3 := q2 hne hk1
    rw [e0] at q3
    exact laidT I (us := []) .nil (Nat.zero_le _) q3
  · have c2 : (decide (k ≤ 0) || its.toArray.isEmpty) = false := by
      rw [hi, Bool.or_false]
      exact decide_eq_false hk
    have hsz0 : its.toArray.size = xs.length := by rw [List.size_toArray, hle]
    have hm : ((its.toArray.size : Nat) : Int) * k ≤ 1000000 := by
      rw [hsz0]
      have a1 : ((xs.length : Nat) : Int) * k ≤ 1000 * k := Int.mul_le_mul_of_nonneg_right (by omega) (by omega)
      omega
    have flen : (List.replicate k.toNat its).flatten.length ≤ sizeLine := by
      rw [PyProof.Rows.lm_len_rep_flat, hle, sizeLine_eq]
      have a1 : k.toNat * xs.length ≤ 1000 * 1000 := Nat.mul_le_mul (by omega) hz
      omega
    have flen2 : (List.replicate k.toNat xs).flatten.length ≤ sizeLine := by
      rw [PyProof.Rows.lm_len_rep_flat, sizeLine_eq]
      have a1 : k.toNat * xs.length ≤ 1000 * 1000 := Nat.mul_le_mul (by omega) hz
      omega
    have c4 : Builtin.Tuple.tupleTooMany (((its.toArray.size : Nat) : Int) * k) = false := by
      unfold Builtin.Tuple.tupleTooMany
      rw [sizeLine_eq]
      exact decide_eq_false (by omega)
    refine wpAny_binaryOp_repeat_ref (T := "tuple") (U := "int") (by decide) ⟨_, ho, rfl⟩ (fun s' => typeIs_int s' k t) noFill_tuple_mul F.fills_int_mul F.slot_int_rmul repeat_tuple F.slot_int_index.lookup
      (call_meets F.slot_int_rmul (typeIs_int s k t) F.entry_int_rmul (F.args_int_rmul_2 _ _) (int_rmul_tuple k t l its.toArray n dd sl)
        ⟨ho, rfl, ⟨_, ho, rfl⟩, call_meets F.slot_tuple_mul ⟨_, ho, rfl⟩ F.entry_tuple_mul (F.args_tuple_mul_2 _ _) (tuple_mulW l its.toArray n dd sl k t c0 c1 c2 (by omega) c4 (by rw [size_rep, List.size_toArray]; exact flen)) ⟨ho, ?_⟩⟩)
    rw [size_rep]
    exact laidT I (r.rep k.toNat) flen2 (q2 hne hk1)
/-- the pairs of a plain tuple -/
theorem pairs_at {pins : List (Addr × Obj)} {σ : L2.St} {H : Hp} {s : Shared} (I : Inv X pins σ H s) : ∀ {ps : List Addr} {kvs : List (L2.Key × V)}, Paired (fun p kv => SqT X.K H p [kV kv.1, kv.2]) ps kvs →
    ∃ qs : List (Value × Value), ∃ prs : List (L2.Key × Value), KV kvs prs ∧ qs.length = ps.length ∧ prs.length = ps.length ∧ (∀ (j : Nat) (k v : Value), qs[j]? = some (k, v) → (∃ b : Addr, ps[j]? = some b ∧ IsTup s.heap b #[k, v]) ∧ ∃ kk, prs[j]? = some (kk, v) ∧ keyIs kk k = true)
  | _, _, .nil => ⟨[], [], .nil, rfl, rfl, fun j k v e => by simp at e⟩
  | _, _, .cons (a := p) (b := kv) h t => by
    obtain ⟨qs, prs, r, h1, h2, h3⟩ := pairs_at I t
    obtain ⟨its, rv, ht, _⟩ := I.tuple h
    obtain ⟨u, y, ei, ru, ry⟩ := vals2 rv
    subst ei
    refine ⟨(u, y) :: qs, (kv.1, y) :: prs, .cons ⟨rfl, ry⟩ r, by rw [List.length_cons, List.length_cons, h1], by rw [List.length_cons, List.length_cons, h2], fun j k v e => ?_⟩
    cases j with
    | zero =>
      have e' : (u, y) = (k, v) := Option.some.inj e
      cases e'
      exact ⟨⟨p, rfl, ht⟩, kv.1, rfl, kV_is (P := X.prog) (w := X.w) ru⟩
    | succ j =>
      obtain ⟨⟨b, e1, e2⟩, kk, e3, e4⟩ := h3 j k v (by simpa using e)
      exact ⟨⟨b, by simpa using e1, e2⟩, kk, by simpa using e3, e4⟩
/-- dict(t) of a tuple of pairs (key, value): later pairs win, the place is the first one's -/
def rDictT (K : PySem.W.Frag) : List V → Hp → VK → Prop := fun xs H Q => ∃ (a : Addr) (ps : List Addr) (kvs : List (L2.Key × V)), xs = [.ref a] ∧ PlT K H a (ps.map V.ref) ∧ Paired (fun p kv => SqT K H p [kV kv.1, kv.2]) ps kvs ∧
    ∀ p, H p = none → Q (.ref p) (upd H p (.dK (mergeK [] kvs)))
theorem call_dictT (hcalm : X.calm = true) : CallR X (.type "dict") (rDictT X.K) := by
  intro pins s σ H xs us Q I r q
  obtain ⟨a, ps, kvs, ex, hq, hp, q⟩ := q
  subst ex
  obtain ⟨u, eu, rx⟩ := vals1 r
  subst eu
  cases rx
  obtain ⟨qs, prs, rel, l1, l2, hpr⟩ := pairs_at I hp
  have plain : ∃ items : Array Value, PySem.PlainSeq "tuple" s.heap a items ∧ items.toList = ps.map Value.ref ∧ ps.length ≤ sizeLine := by
    rcases hq with ⟨o, h, e⟩ | ⟨o, its, n, h1, h2, e, h3, h4, h5⟩
    · obtain ⟨g, hz, its, rv, o', ho', hc', n, hd'⟩ := (show ObjOk X.prog X.w H s.heap a (.frz o (.tup (ps.map V.ref))) from I.hok a _ h)
      rw [g] at ho'
      cases ho'
      have ei := refs_at rv
      subst ei
      exact ⟨_, ⟨o, n, g, hc', e, hd'⟩, rfl, by rw [List.length_map] at hz; exact hz⟩
    · have ei := refs_at h5
      have hl : its.size = ps.length := by
        rw [← Array.length_toList, ei, List.length_map]
      exact ⟨its, ⟨o, n, I.kIn a o h1, h2, e, h3⟩, ei, by omega⟩
  obtain ⟨items, hps, hi, hz⟩ := plain
  have hsz : items.size = ps.length := by rw [← Array.length_toList, hi, List.length_map]
  have hget : ∀ (j : Nat) (b : Addr), ps[j]? = some b → items[j]? = some (.ref b) := fun j b e => by
    rw [← Array.getElem?_toList, hi, List.getElem?_map, e]
    rfl
  have P := PySem.PairArg.tuple (prog := X.prog) (w := X.w) a items (fun j => (ps[j]?).getD 0) qs
  refine PySem.call_dict_pairs (knd := mixKind X.prog X.w) (kvs := prs) P (I.ok.hd hcalm) ⟨hps, by rw [hsz, l1], fun j k v e => ?_⟩ ⟨by rw [l2, l1], fun j k v e => ?_⟩ (by rw [l1]; exact hz) fun h' tk hd' k => ?_
  · obtain ⟨⟨b, e1, e2⟩, _⟩ := hpr j k v e
    have e3 : (ps[j]?).getD 0 = b := by rw [e1]; rfl
    show items[j]? = some (Value.ref ((ps[j]?).getD 0)) ∧ PairAt s.heap ((ps[j]?).getD 0) k v
    rw [e3]
    exact ⟨hget j b e1, .inl e2⟩
  · obtain ⟨_, kk, e3, e4⟩ := hpr j k v e
    exact ⟨kk, e3, e4⟩
  · have hm : (s.heap.objs.size == sysModules) = false := beq_eq_false_iff_ne.mpr (Nat.ne_of_gt I.big)
    have hlen : (mergeK [] kvs).length ≤ sizeLine := by
      refine Nat.le_trans (length_mergeK kvs []) ?_
      rw [List.length_nil, Nat.zero_add, rel.length, l2]
      exact hz
    exact ⟨.ref s.heap.objs.size, upd H s.heap.objs.size (.dK (mergeK [] kvs)), I.laid (t' := tk) (fun b o e => k b o List.not_mem_nil e) (Nat.le_refl _) (show ObjOk X.prog X.w _ _ _ (.dK (mergeK [] kvs)) from ⟨hlen, hm, merged [] prs, KV.merge rel .nil, hd'⟩), rfl, q _ (I.hok.fresh (Nat.le_refl _))⟩
end
end PT

set_option Elab.async false
set_option linter.all false
set_option maxRecDepth 100000
set_option maxHeartbeats 4000000
/-! DLa: data in the heap (Da), the abstract state of a def's slots (DV, DSt), what ties it to the heap (Rl). -/
namespace DL
open PySem PySem.Spec PyProof.Rows L2 GG DD PT
mutual
/-- a value is this data, whatever is inside -/
inductive Da (K : PySem.W.Frag) (H : Hp) : V → PyData → Prop
  | non : Da K H .non .none
  | bl (b : Bool) : Da K H (.bl b) (.bool b)
  | int (i : Int) : Da K H (.int i) (.int i)
  | str (x : Str) : Da K H (.str x) (.str x)
  | lst {a : Addr} {xs : List V} {ds : List PyData} : H a = some (.lst xs) → DaAll K H xs ds → Da K H (.ref a) (.list ds)
  | tup {a : Addr} {xs : List V} {ds : List PyData} : PlT K H a xs → DaAll K H xs ds → Da K H (.ref a) (.tuple ds)
  | dic {a : Addr} {kvs : List (L2.Key × V)} {ds : List (PyData × PyData)} : H a = some (.dK kvs) → DaKv K H kvs ds → Da K H (.ref a) (.dict ds)
inductive DaAll (K : PySem.W.Frag) (H : Hp) : List V → List PyData → Prop
  | nil : DaAll K H [] []
  | cons {v : V} {vs : List V} {d : PyData} {ds : List PyData} : Da K H v d → DaAll K H vs ds → DaAll K H (v :: vs) (d :: ds)
inductive DaKv (K : PySem.W.Frag) (H : Hp) : List (L2.Key × V) → List (PyData × PyData) → Prop
  | nil : DaKv K H [] []
  | cons {k : L2.Key} {v : V} {r : List (L2.Key × V)} {d : PyData} {ds : List (PyData × PyData)} : Da K H v d → DaKv K H r ds → DaKv K H ((k, v) :: r) ((keyD k, d) :: ds)
end
theorem rd_same {H H' : Hp} {a : Addr} {u : HO} (s : Same H H') (h : Rd H a u) : Rd H' a u := by
  rcases h with h | ⟨o, h⟩
  · exact .inl (s _ _ h)
  · exact .inr ⟨o, s _ _ h⟩
section
variable {K : PySem.W.Frag} {H H' : Hp}
mutual
theorem Da.same (s : Same H H') : ∀ (d : PyData) (v : V), Da K H v d → Da K H' v d
  | .none, _, h => by cases h; exact .non
  | .bool b, _, h => by cases h; exact .bl b
  | .int i, _, h => by cases h; exact .int i
  | .str x, _, h => by cases h; exact .str x
  | .list ds, _, h => by
    cases h with
    | lst hs ha => exact .lst (s _ _ hs) (DaAll.same s ds _ ha)
  | .tuple ds, _, h => by
    cases h with
    | tup hs ha => exact .tup (hs.same s) (DaAll.same s ds _ ha)
  | .dict ds, _, h => by
    cases h with
    | dic hs ha => exact .dic (s _ _ hs) (DaKv.same s ds _ ha)
theorem DaAll.same (s : Same H H') : ∀ (ds : List PyData) (vs : List V), DaAll K H vs ds → DaAll K H' vs ds
  | [], _, h => by cases h; exact .nil
  | d :: ds, _, h => by
    cases h with
    | cons h1 h2 => exact .cons (Da.same s d _ h1) (DaAll.same s ds _ h2)
theorem DaKv.same (s : Same H H') : ∀ (ds : List (PyData × PyData)) (vs : List (L2.Key × V)), DaKv K H vs ds → DaKv K H' vs ds
  | [], _, h => by cases h; exact .nil
  | (k, d) :: ds, _, h => by
    cases h with
    | cons h1 h2 => exact .cons (Da.same s d _ h1) (DaKv.same s ds _ h2)
end
theorem Da.of {v : V} {d : PyData} (h : Da K H v d) (s : Same H H') : Da K H' v d := Da.same s d v h
theorem DaAll.of {vs : List V} {ds : List PyData} (h : DaAll K H vs ds) (s : Same H H') : DaAll K H' vs ds := DaAll.same s ds vs h
theorem DaKv.of {vs : List (L2.Key × V)} {ds : List (PyData × PyData)} (h : DaKv K H vs ds) (s : Same H H') : DaKv K H' vs ds := DaKv.same s ds vs h
theorem DaAll.len : ∀ {vs : List V} {ds : List PyData}, DaAll K H vs ds → vs.length = ds.length
  | _, _, .nil => rfl
  | _, _, .cons _ h => by rw [List.length_cons, List.length_cons, DaAll.len h]
theorem DaAll.append : ∀ {vs us : List V} {ds es : List PyData}, DaAll K H vs ds → DaAll K H us es → DaAll K H (vs ++ us) (ds ++ es)
  | _, _, _, _, .nil, h => h
  | _, _, _, _, .cons h t, k => .cons h (t.append k)
theorem DaAll.get : ∀ {vs : List V} {ds : List PyData} {i : Nat} {v : V}, DaAll K H vs ds → vs[i]? = some v → ∃ d, ds[i]? = some d ∧ Da K H v d
  | _, _, _, _, .nil, e => by simp at e
  | _, _, 0, _, .cons h _, e => by
    simp at e
    subst e
    exact ⟨_, rfl, h⟩
  | _, _, i + 1, v, .cons _ t, e => by
    obtain ⟨d, h1, h2⟩ := t.get (i := i) (v := v) (by simpa using e)
    exact ⟨d, by simpa using h1, h2⟩
theorem DaAll.getD : ∀ {vs : List V} {ds : List PyData} {i : Nat} {d : PyData}, DaAll K H vs ds → ds[i]? = some d → ∃ v, vs[i]? = some v ∧ Da K H v d
  | _, _, _, _, .nil, e => by simp at e
  | _, _, 0, _, .cons h _, e => by
    simp at e
    subst e
    exact ⟨_, rfl, h⟩
  | _, _, i + 1, d, .cons _ t, e => by
    obtain ⟨v, h1, h2⟩ := t.getD (i := i) (d := d) (by simpa using e)
    exact ⟨v, by simpa using h1, h2⟩
theorem DaAll.take (n : Nat) : ∀ {vs : List V} {ds : List PyData}, DaAll K H vs ds → DaAll K H (vs.take n) (ds.take n) := by
  induction n with
  | zero => intro vs ds h; exact .nil
  | succ n ih =>
    intro vs ds h
    cases h with
    | nil => exact .nil
    | cons h t => exact .cons h (ih t)
theorem DaAll.drop (n : Nat) : ∀ {vs : List V} {ds : List PyData}, DaAll K H vs ds → DaAll K H (vs.drop n) (ds.drop n) := by
  induction n with
  | zero => intro vs ds h; exact h
  | succ n ih =>
    intro vs ds h
    cases h with
    | nil => exact .nil
    | cons h t => exact ih t
theorem DaAll.rev : ∀ {vs : List V} {ds : List PyData}, DaAll K H vs ds → DaAll K H vs.reverse ds.reverse
  | _, _, .nil => .nil
  | _, _, .cons h t => by
    rw [List.reverse_cons, List.reverse_cons]
    exact t.rev.append (.cons h .nil)
end

/-! ### slots -/
/-- what a slot holds: nothing that is known; data; a list of one's own (it may change); a dict of one's own; the deck -/
inductive DV where
  | un
  | dat (d : PyData)
  | own (ds : List PyData)
  | owd (kvs : List (PyData × PyData))
  | deck
structure DSt where
  sl : List DV
  n : Nat
/-- the deck, if there is one -/
abbrev Wo := Option (Addr × Addr)
def Mu : Wo → Addr → Prop
  | none => fun _ => False
  | some (p, l) => fun b => b = p ∨ b = l
/-- the deck at p, its cells at l, n draws so far -/
structure Deck (H : Hp) (p l : Addr) (n : Nat) : Prop where
  at_ : ∃ (m : Int) (cs : List Int), H p = some (.lst [.ref l, .int m, .int (n : Int)]) ∧ H l = some (.lst (cs.map V.int)) ∧ 0 ≤ m ∧ m < 2147483647 ∧ cs.length ≤ 64
  ne : l ≠ p
def DkOk : Wo → Hp → Nat → Prop
  | none => fun _ _ => True
  | some (p, l) => fun H n => Deck H p l n
def ButW (W : Wo) (H H' : Hp) : Prop := ∀ b o, ¬ Mu W b → H b = some o → H' b = some o
theorem ButW.refl (W : Wo) (H : Hp) : ButW W H H := fun _ _ _ h => h
theorem ButW.trans {W : Wo} {H H1 H2 : Hp} (a : ButW W H H1) (b : ButW W H1 H2) : ButW W H H2 := fun c o h1 h => b c o h1 (a c o h1 h)
theorem ButW.of {W : Wo} {H H' : Hp} (s : Same H H') : ButW W H H' := fun b o _ h => s b o h
theorem Deck.same {H H' : Hp} {p l : Addr} {n : Nat} (d : Deck H p l n) (s : Same H H') : Deck H' p l n := by
  obtain ⟨⟨m, cs, h1, h2, h3⟩, h4⟩ := d
  exact ⟨⟨m, cs, s _ _ h1, s _ _ h2, h3⟩, h4⟩
theorem DkOk.same {W : Wo} {H H' : Hp} {n : Nat} (d : DkOk W H n) (s : Same H H') : DkOk W H' n := by
  cases W with
  | none => trivial
  | some w => exact Deck.same d s
theorem DkOk.taken {W : Wo} {H : Hp} {n : Nat} {b : Addr} (d : DkOk W H n) (h : Mu W b) : ∃ o, H b = some o := by
  cases W with
  | none => exact h.elim
  | some w =>
    obtain ⟨⟨m, cs, h1, h2, _⟩, _⟩ := d
    rcases h with rfl | rfl
    · exact ⟨_, h1⟩
    · exact ⟨_, h2⟩
theorem DkOk.upd {W : Wo} {H : Hp} {n : Nat} {a : Addr} {o : HO} (d : DkOk W H n) (h : ¬ Mu W a) : DkOk W (upd H a o) n := by
  cases W with
  | none => trivial
  | some w =>
    obtain ⟨⟨m, cs, h1, h2, h3⟩, h4⟩ := d
    exact ⟨⟨m, cs, by rw [upd_ne (fun e => h (.inl e.symm))]; exact h1, by rw [upd_ne (fun e => h (.inr e.symm))]; exact h2, h3⟩, h4⟩
/-- what stays fixed in a def's body -/
structure DC where
  K : PySem.W.Frag
  W : Wo
  /-- hidden from all data: the callers' own things -/
  S0 : Addr → Prop
  /-- the heap at the call -/
  H0 : Hp
  /-- data to be kept -/
  G : V → PyData → Prop
  /-- hidden things that are as they are -/
  Z : Addr → HO → Prop
def isOwn : DV → Bool
  | .own _ => true
  | .owd _ => true
  | _ => false
/-- hidden now: the callers' things, the deck, one's own -/
def Sof (C : DC) (σ : L2.St) (δ : List DV) : Addr → Prop := fun b => C.S0 b ∨ Mu C.W b ∨ ∃ (i : Nat) (dv : DV), δ[i]? = some dv ∧ isOwn dv = true ∧ σ[i]? = some (some (V.ref b))
def SlotOk (C : DC) (S : Addr → Prop) (H : Hp) (sl : Option V) : DV → Prop
  | .un => True
  | .dat d => ∃ v, sl = some v ∧ Da C.K (Hd S H) v d
  | .own ds => ∃ a vs, sl = some (.ref a) ∧ H a = some (.lst vs) ∧ DaAll C.K (Hd S H) vs ds
  | .owd kvs => ∃ a es, sl = some (.ref a) ∧ H a = some (.dK es) ∧ DaKv C.K (Hd S H) es kvs
  | .deck => ∃ p l, C.W = some (p, l) ∧ sl = some (.ref p)
structure Rl (C : DC) (σ : L2.St) (H : Hp) (s : DSt) : Prop where
  len : σ.length = s.sl.length
  slots : ∀ (i : Nat) (dv : DV), s.sl[i]? = some dv → ∃ sl : Option V, σ[i]? = some sl ∧ SlotOk C (Sof C σ s.sl) H sl dv
  nd : ∀ (i j : Nat) (a : Addr) (dv ev : DV), s.sl[i]? = some dv → s.sl[j]? = some ev → isOwn dv = true → isOwn ev = true → σ[i]? = some (some (V.ref a)) → σ[j]? = some (some (V.ref a)) → i = j
  fr : ∀ (i : Nat) (a : Addr) (dv : DV), s.sl[i]? = some dv → isOwn dv = true → σ[i]? = some (some (V.ref a)) → C.H0 a = none ∧ ¬ C.S0 a ∧ ¬ Mu C.W a
  dk : DkOk C.W H s.n
  but : ButW C.W C.H0 H
  tk : Taken H C.S0
  gh : ∀ v d, C.G v d → Da C.K (Hd (Sof C σ s.sl) H) v d
  fz : ∀ a o, C.Z a o → C.S0 a ∧ ¬ Mu C.W a ∧ H a = some o
theorem hd_mono {S S' : Addr → Prop} {H : Hp} (h : ∀ b, S' b → S b) : Same (Hd S H) (Hd S' H) := fun a o e => by
  obtain ⟨h1, h3⟩ := hd_some e
  rw [hd_ne fun z => h1 (h _ z)]
  exact h3
theorem hd_step {S : Addr → Prop} {H H' : Hp} (h : ∀ b o, ¬ S b → H b = some o → H' b = some o) : Same (Hd S H) (Hd S H') := fun a o e => by
  obtain ⟨h1, h3⟩ := hd_some e
  rw [hd_ne h1]
  exact h _ _ h1 h3
theorem SlotOk.move {C C' : DC} {S S' : Addr → Prop} {H H' : Hp} {sl : Option V} {dv : DV} (h : SlotOk C S H sl dv) (hK : C'.K = C.K) (hW : C'.W = C.W) (s : Same (Hd S H) (Hd S' H')) (o : ∀ a, isOwn dv = true → sl = some (.ref a) → ∀ u, H a = some u → H' a = some u) : SlotOk C' S' H' sl dv := by
  cases dv with
  | un => trivial
  | dat d =>
    obtain ⟨v, h1, h2⟩ := h
    exact ⟨v, h1, hK ▸ h2.of s⟩
  | own ds =>
    obtain ⟨a, vs, h1, h2, h3⟩ := h
    exact ⟨a, vs, h1, o a rfl h1 _ h2, hK ▸ h3.of s⟩
  | owd kvs =>
    obtain ⟨a, vs, h1, h2, h3⟩ := h
    exact ⟨a, vs, h1, o a rfl h1 _ h2, hK ▸ h3.of s⟩
  | deck =>
    obtain ⟨p, l, h1, h2⟩ := h
    exact ⟨p, l, hW.trans h1, h2⟩
section
variable {C : DC} {σ : L2.St} {H : Hp} {s : DSt}
theorem Rl.own_at (R : Rl C σ H s) {i : Nat} {a : Addr} {dv : DV} (h : s.sl[i]? = some dv) (ho : isOwn dv = true) (e : σ[i]? = some (some (V.ref a))) : ∃ o, H a = some o := by
  obtain ⟨sl, h1, h2⟩ := R.slots i dv h
  rw [e] at h1
  cases h1
  cases dv with
  | own ds =>
    obtain ⟨b, vs, e1, e2, _⟩ := h2
    cases e1
    exact ⟨_, e2⟩
  | owd ds =>
    obtain ⟨b, vs, e1, e2, _⟩ := h2
    cases e1
    exact ⟨_, e2⟩
  | _ => cases ho
theorem Rl.taken (R : Rl C σ H s) : Taken H (Sof C σ s.sl) := fun b hb => by
  rcases hb with hb | hb | ⟨i, dv, h1, h2, h3⟩
  · exact R.tk b hb
  · exact R.dk.taken hb
  · exact R.own_at h1 h2 h3
theorem Rl.new (R : Rl C σ H s) {a : Addr} (na : H a = none) : ¬ Sof C σ s.sl a ∧ C.H0 a = none := by
  have h1 : ¬ Sof C σ s.sl a := R.taken.ne na
  refine ⟨h1, ?_⟩
  cases e : C.H0 a with
  | none => rfl
  | some o =>
    have := R.but a o (fun z => h1 (.inr (.inl z))) e
    rw [na] at this
    cases this
/-- the heap goes on: all but the deck stands -/
theorem Rl.step (R : Rl C σ H s) {H' : Hp} {n' : Nat} (b : ButW C.W H H') (d : DkOk C.W H' n') : Rl C σ H' ⟨s.sl, n'⟩ := by
  have hs : Same (Hd (Sof C σ s.sl) H) (Hd (Sof C σ s.sl) H') := hd_step fun c o h1 h2 => b c o (fun z => h1 (.inr (.inl z))) h2
  refine ⟨R.len, fun i dv h => ?_, R.nd, R.fr, d, R.but.trans b, fun c hc => ?_, fun v x h => (R.gh v x h).of hs, fun a o h => ⟨(R.fz a o h).1, (R.fz a o h).2.1, b a o (R.fz a o h).2.1 (R.fz a o h).2.2⟩⟩
  · obtain ⟨sl, h1, h2⟩ := R.slots i dv h
    exact ⟨sl, h1, h2.move rfl rfl hs fun a ho e u hu => b a u (R.fr i a dv h ho (e ▸ h1)).2.2 hu⟩
  · by_cases z : Mu C.W c
    · exact d.taken z
    · obtain ⟨o, h⟩ := R.tk c hc
      exact ⟨o, b c o z h⟩
theorem Rl.ext (R : Rl C σ H s) {H' : Hp} (e : Same H H') : Rl C σ H' s := R.step (ButW.of e) (R.dk.same e)
/-- what is hidden stays hidden or is told, when one slot gets data -/
theorem sof_set {i : Nat} {v : Option V} {dv : DV} (ho : isOwn dv = false) (b : Addr) (h : Sof C (σ.set i v) (s.sl.set i dv) b) : Sof C σ s.sl b := by
  rcases h with h | h | ⟨j, ev, h1, h2, h3⟩
  · exact .inl h
  · exact .inr (.inl h)
  · by_cases e : i = j
    · subst e
      rw [List.getElem?_set] at h1
      by_cases hl : i < s.sl.length
      · rw [if_pos rfl, if_pos hl] at h1
        cases h1
        rw [ho] at h2
        cases h2
      · rw [if_pos rfl, if_neg hl] at h1
        cases h1
    · rw [List.getElem?_set_ne e] at h1 h3
      exact .inr (.inr ⟨j, ev, h1, h2, h3⟩)
theorem Rl.set (R : Rl C σ H s) {i : Nat} {v : V} {d : PyData} (h : Da C.K (Hd (Sof C σ s.sl) H) v d) : Rl C (σ.set i (some v)) H ⟨s.sl.set i (.dat d), s.n⟩ := by
  have hs : Same (Hd (Sof C σ s.sl) H) (Hd (Sof C (σ.set i (some v)) (s.sl.set i (.dat d))) H) := hd_mono fun b z => sof_set (s := s) rfl b z
  have key : ∀ {j : Nat} {dv : DV}, (s.sl.set i (.dat d))[j]? = some dv → isOwn dv = true → i ≠ j ∧ s.sl[j]? = some dv := fun {j dv} h1 h2 => by
    by_cases e : i = j
    · subst e
      rw [List.getElem?_set] at h1
      by_cases hl : i < s.sl.length
      · rw [if_pos rfl, if_pos hl] at h1
        cases h1
        cases h2
      · rw [if_pos rfl, if_neg hl] at h1
        cases h1
    · rw [List.getElem?_set_ne e] at h1
      exact ⟨e, h1⟩
  refine ⟨by rw [List.length_set, List.length_set]; exact R.len, fun j dv h1 => ?_, fun j k a dv ev h1 h2 h3 h4 h5 h6 => ?_, fun j a dv h1 h2 h3 => ?_, R.dk, R.but, R.tk, fun x y z => (R.gh x y z).of hs, R.fz⟩
  · by_cases e : i = j
    · subst e
      have hl : i < s.sl.length := by
        have := (List.getElem?_eq_some_iff.mp h1).1
        rw [List.length_set] at this
        exact this
      have h1' : some (DV.dat d) = some dv := by rw [← h1, List.getElem?_set, if_pos rfl, if_pos hl]
      cases h1'
      exact ⟨some v, by rw [List.getElem?_set, if_pos rfl, if_pos (by rw [R.len]; exact hl)], v, rfl, h.of hs⟩
    · rw [List.getElem?_set_ne e] at h1 ⊢
      obtain ⟨sl, e1, e2⟩ := R.slots j dv h1
      exact ⟨sl, e1, e2.move rfl rfl hs fun _ _ _ _ u => u⟩
  · obtain ⟨n1, e1⟩ := key h1 h3
    obtain ⟨n2, e2⟩ := key h2 h4
    rw [List.getElem?_set_ne n1] at h5
    rw [List.getElem?_set_ne n2] at h6
    exact R.nd j k a dv ev e1 e2 h3 h4 h5 h6
  · obtain ⟨n1, e1⟩ := key h1 h2
    rw [List.getElem?_set_ne n1] at h3
    exact R.fr j a dv e1 h2 h3
/-- a slot gets a new list -/
theorem Rl.setOwn (R : Rl C σ H s) {i : Nat} {a : Addr} {o : HO} {dv : DV} (na : H a = none) (hi : i < s.sl.length) (ho : isOwn dv = true)
    (hn : ∀ S' : Addr → Prop, Same (Hd (Sof C σ s.sl) H) (Hd S' (upd H a o)) → SlotOk C S' (upd H a o) (some (.ref a)) dv) : Rl C (σ.set i (some (.ref a))) (upd H a o) ⟨s.sl.set i dv, s.n⟩ := by
  obtain ⟨n1, n2⟩ := R.new na
  have sub : ∀ b, Sof C (σ.set i (some (.ref a))) (s.sl.set i dv) b → Sof C σ s.sl b ∨ b = a := fun b h => by
    rcases h with h | h | ⟨j, ev, h1, h2, h3⟩
    · exact .inl (.inl h)
    · exact .inl (.inr (.inl h))
    · by_cases e : i = j
      · subst e
        rw [List.getElem?_set, if_pos rfl, if_pos (by rw [R.len]; exact hi)] at h3
        cases h3
        exact .inr rfl
      · rw [List.getElem?_set_ne e] at h1 h3
        exact .inl (.inr (.inr ⟨j, ev, h1, h2, h3⟩))
  have hs : Same (Hd (Sof C σ s.sl) H) (Hd (Sof C (σ.set i (some (.ref a))) (s.sl.set i dv)) (upd H a o)) := fun b u e => by
    obtain ⟨h1, h3⟩ := hd_some e
    have hb : b ≠ a := ne_of_none h3 na
    rw [hd_ne (fun z => (sub b z).elim h1 hb), upd_ne hb]
    exact h3
  have key : ∀ {j : Nat} {ev : DV} {c : Addr}, (s.sl.set i dv)[j]? = some ev → isOwn ev = true → (σ.set i (some (.ref a)))[j]? = some (some (V.ref c)) → (j = i ∧ c = a) ∨ (j ≠ i ∧ c ≠ a ∧ s.sl[j]? = some ev ∧ σ[j]? = some (some (V.ref c))) := fun {j ev c} h1 h2 h3 => by
    by_cases e : i = j
    · subst e
      rw [List.getElem?_set, if_pos rfl, if_pos (by rw [R.len]; exact hi)] at h3
      cases h3
      exact .inl ⟨rfl, rfl⟩
    · rw [List.getElem?_set_ne e] at h1 h3
      obtain ⟨u, hu⟩ := R.own_at h1 h2 h3
      exact .inr ⟨fun z => e z.symm, ne_of_none hu na, h1, h3⟩
  refine ⟨by rw [List.length_set, List.length_set]; exact R.len, fun j ev h1 => ?_, fun j k c ev fv h1 h2 h3 h4 h5 h6 => ?_, fun j c ev h1 h2 h3 => ?_, R.dk.same (same_upd na), R.but.trans (ButW.of (same_upd na)), R.tk.same (same_upd na), fun x y z => (R.gh x y z).of hs, fun b u h => ⟨(R.fz b u h).1, (R.fz b u h).2.1, by rw [upd_ne (ne_of_none (R.fz b u h).2.2 na)]; exact (R.fz b u h).2.2⟩⟩
  · by_cases e : i = j
    · subst e
      rw [List.getElem?_set, if_pos rfl, if_pos hi] at h1
      cases h1
      exact ⟨some (.ref a), by rw [List.getElem?_set, if_pos rfl, if_pos (by rw [R.len]; exact hi)], hn _ hs⟩
    · rw [List.getElem?_set_ne e] at h1 ⊢
      obtain ⟨sl, e1, e2⟩ := R.slots j ev h1
      exact ⟨sl, e1, e2.move rfl rfl hs fun c hc ec u hu => by rw [upd_ne (ne_of_none hu na)]; exact hu⟩
  · rcases key h1 h3 h5 with ⟨rfl, rfl⟩ | ⟨q1, q2, q3, q4⟩
    · rcases key h2 h4 h6 with ⟨rfl, _⟩ | ⟨_, q2, _, _⟩
      · rfl
      · exact absurd rfl q2
    · rcases key h2 h4 h6 with ⟨_, rfl⟩ | ⟨r1, r2, r3, r4⟩
      · exact absurd rfl q2
      · exact R.nd j k c ev fv q3 r3 h3 h4 q4 r4
  · rcases key h1 h2 h3 with ⟨rfl, rfl⟩ | ⟨q1, q2, q3, q4⟩
    · exact ⟨n2, fun z => n1 (.inl z), fun z => n1 (.inr (.inl z))⟩
    · exact R.fr j c ev q3 h2 q4
/-- one's own thing at slot i changes -/
theorem Rl.mut (R : Rl C σ H s) {i : Nat} {a : Addr} {o : HO} {dv ev : DV} (h0 : s.sl[i]? = some dv) (hd : isOwn dv = true) (ho : isOwn ev = true) (e0 : σ[i]? = some (some (V.ref a)))
    (hn : Same (Hd (Sof C σ s.sl) H) (Hd (Sof C σ (s.sl.set i ev)) (upd H a o)) → SlotOk C (Sof C σ (s.sl.set i ev)) (upd H a o) (some (.ref a)) ev) : Rl C σ (upd H a o) ⟨s.sl.set i ev, s.n⟩ := by
  have hi : i < s.sl.length := (List.getElem?_eq_some_iff.mp h0).1
  obtain ⟨f1, f2, f3⟩ := R.fr i a dv h0 hd e0
  have key : ∀ {j : Nat} {fv : DV}, (s.sl.set i ev)[j]? = some fv → isOwn fv = true → ∃ gv, s.sl[j]? = some gv ∧ isOwn gv = true := fun {j fv} h1 h2 => by
    by_cases e : i = j
    · subst e
      exact ⟨dv, h0, hd⟩
    · rw [List.getElem?_set_ne e] at h1
      exact ⟨fv, h1, h2⟩
  have sub : ∀ b, Sof C σ (s.sl.set i ev) b → Sof C σ s.sl b := fun b h => by
    rcases h with h | h | ⟨j, fv, h1, h2, h3⟩
    · exact .inl h
    · exact .inr (.inl h)
    · obtain ⟨gv, g1, g2⟩ := key h1 h2
      exact .inr (.inr ⟨j, gv, g1, g2, h3⟩)
  have sa : Sof C σ s.sl a := .inr (.inr ⟨i, dv, h0, hd, e0⟩)
  have hs : Same (Hd (Sof C σ s.sl) H) (Hd (Sof C σ (s.sl.set i ev)) (upd H a o)) := fun b u e => by
    obtain ⟨h1, h3⟩ := hd_some e
    have hb : b ≠ a := fun z => h1 (z ▸ sa)
    rw [hd_ne (fun z => h1 (sub b z)), upd_ne hb]
    exact h3
  refine ⟨by rw [List.length_set]; exact R.len, fun j fv h1 => ?_, fun j k c fv gv h1 h2 h3 h4 h5 h6 => ?_, fun j c fv h1 h2 h3 => ?_, R.dk.upd f3, fun b u hb hu => ?_, fun b hb => ?_, fun x y z => (R.gh x y z).of hs, fun b u h => ⟨(R.fz b u h).1, (R.fz b u h).2.1, by rw [upd_ne (fun z : b = a => f2 (z ▸ (R.fz b u h).1))]; exact (R.fz b u h).2.2⟩⟩
  · by_cases e : i = j
    · subst e
      rw [List.getElem?_set, if_pos rfl, if_pos hi] at h1
      cases h1
      exact ⟨some (.ref a), e0, hn hs⟩
    · rw [List.getElem?_set_ne e] at h1
      obtain ⟨sl, e1, e2⟩ := R.slots j fv h1
      refine ⟨sl, e1, e2.move rfl rfl hs fun c hc ec u hu => ?_⟩
      have hca : c ≠ a := fun z => by
        subst z
        rw [ec] at e1
        exact e (R.nd i j c dv fv h0 h1 hd hc e0 e1)
      rw [upd_ne hca]
      exact hu
  · obtain ⟨gv', g1, g2⟩ := key h1 h3
    obtain ⟨gw, k1, k2⟩ := key h2 h4
    exact R.nd j k c _ _ g1 k1 g2 k2 h5 h6
  · obtain ⟨gv, g1, g2⟩ := key h1 h2
    exact R.fr j c _ g1 g2 h3
  · have hba : b ≠ a := fun z => by
      subst z
      rw [f1] at hu
      cases hu
    rw [upd_ne hba]
    exact R.but b u hb hu
  · by_cases e : b = a
    · subst e
      exact absurd hb f2
    · rw [upd_ne e]
      exact R.tk b hb
/-- one's own thing becomes data -/
theorem Rl.freeze (R : Rl C σ H s) {i : Nat} {dv : DV} {d : PyData} (h0 : s.sl[i]? = some dv) (hd : (∃ ds, dv = .own ds ∧ d = .list ds) ∨ ∃ kvs, dv = .owd kvs ∧ d = .dict kvs) : Rl C σ H ⟨s.sl.set i (.dat d), s.n⟩ := by
  obtain ⟨sl, e1, e2⟩ := R.slots i dv h0
  have fin : ∀ a : Addr, isOwn dv = true → sl = some (.ref a) → Da C.K (Hd (Sof C σ (s.sl.set i (.dat d))) H) (.ref a) d → Rl C σ H ⟨s.sl.set i (.dat d), s.n⟩ := fun a hdv es hda => by
    subst es
    have hset : σ.set i (some (.ref a)) = σ := by
      apply List.ext_getElem?
      intro j
      rw [List.getElem?_set]
      by_cases e : i = j
      · subst e
        rw [if_pos rfl, e1]
        rw [if_pos (List.getElem?_eq_some_iff.mp e1).1]
      · rw [if_neg e]
    have hs : Same (Hd (Sof C σ s.sl) H) (Hd (Sof C σ (s.sl.set i (.dat d))) H) := hd_mono fun b z => by
      have := sof_set (C := C) (σ := σ) (s := s) (i := i) (v := some (.ref a)) (dv := .dat d) rfl b
      rw [hset] at this
      exact this z
    have hi : i < s.sl.length := (List.getElem?_eq_some_iff.mp h0).1
    have key : ∀ {j : Nat} {fv : DV}, (s.sl.set i (.dat d))[j]? = some fv → isOwn fv = true → s.sl[j]? = some fv := fun {j fv} h1 h2 => by
      by_cases e : i = j
      · subst e
        rw [List.getElem?_set, if_pos rfl, if_pos hi] at h1
        cases h1
        cases h2
      · rw [List.getElem?_set_ne e] at h1
        exact h1
    refine ⟨by rw [List.length_set]; exact R.len, fun j fv h1 => ?_, fun j k c fv gv h1 h2 h3 h4 h5 h6 => R.nd j k c _ _ (key h1 h3) (key h2 h4) h3 h4 h5 h6, fun j c fv h1 h2 h3 => R.fr j c _ (key h1 h2) h2 h3, R.dk, R.but, R.tk, fun x y z => (R.gh x y z).of hs, R.fz⟩
    by_cases e : i = j
    · subst e
      rw [List.getElem?_set, if_pos rfl, if_pos hi] at h1
      cases h1
      exact ⟨_, e1, _, rfl, hda⟩
    · rw [List.getElem?_set_ne e] at h1
      obtain ⟨sl, q1, q2⟩ := R.slots j fv h1
      exact ⟨sl, q1, q2.move rfl rfl hs fun _ _ _ _ u => u⟩
  have hna : ∀ a : Addr, isOwn dv = true → sl = some (.ref a) → ¬ Sof C σ (s.sl.set i (.dat d)) a := fun a hdv es z => by
    subst es
    have hi : i < s.sl.length := (List.getElem?_eq_some_iff.mp h0).1
    obtain ⟨f1, f2, f3⟩ := R.fr i a dv h0 hdv e1
    rcases z with z | z | ⟨j, ev, z1, z2, z3⟩
    · exact f2 z
    · exact f3 z
    · by_cases e : i = j
      · subst e
        rw [List.getElem?_set, if_pos rfl, if_pos hi] at z1
        cases z1
        cases z2
      · rw [List.getElem?_set_ne e] at z1
        exact e (R.nd i j a dv ev h0 z1 hdv z2 e1 z3)
  have hsub : ∀ a : Addr, sl = some (.ref a) → Same (Hd (Sof C σ s.sl) H) (Hd (Sof C σ (s.sl.set i (.dat d))) H) := fun a es => hd_mono fun b z => by
    subst es
    rcases z with z | z | ⟨j, ev, z1, z2, z3⟩
    · exact .inl z
    · exact .inr (.inl z)
    · by_cases e : i = j
      · subst e
        rw [List.getElem?_set, if_pos rfl, if_pos (List.getElem?_eq_some_iff.mp h0).1] at z1
        cases z1
        cases z2
      · rw [List.getElem?_set_ne e] at z1
        exact .inr (.inr ⟨j, ev, z1, z2, z3⟩)
  rcases hd with ⟨ds, rfl, rfl⟩ | ⟨kvs, rfl, rfl⟩
  · obtain ⟨a, vs, rfl, h2, h3⟩ := e2
    exact fin a rfl rfl (.lst (by rw [hd_ne (hna a rfl rfl)]; exact h2) (h3.of (hsub a rfl)))
  · obtain ⟨a, vs, rfl, h2, h3⟩ := e2
    exact fin a rfl rfl (.dic (by rw [hd_ne (hna a rfl rfl)]; exact h2) (h3.of (hsub a rfl)))
end
end DL

set_option Elab.async false
set_option linter.all false
set_option maxRecDepth 100000
set_option maxHeartbeats 4000000
/-! DLb: readings of expressions, tests, arguments told by data alone. -/
namespace DL
open PySem PySem.Spec PyProof.Rows L2 GG DD PT
abbrev DE := DSt → (PyData → DSt → Prop) → Prop
abbrev DT := DSt → (Bool → DSt → Prop) → Prop
abbrev DA := DSt → (List PyData → DSt → Prop) → Prop
abbrev DX := DSt → (List DV → DSt → Prop) → Prop
def XE (C : DC) (te : TE) (s : DSt) (P : PyData → DSt → Prop) : Prop := ∀ (σ : L2.St) (H : Hp) (Q : VK), Rl C σ H s → (∀ v H' d s', P d s' → Rl C σ H' s' → Da C.K (Hd (Sof C σ s'.sl) H') v d → Q v H') → te σ H Q
def RE (K : PySem.W.Frag) (te : TE) (de : DE) : Prop := ∀ C : DC, C.K = K → ∀ s P, de s P → XE C te s P
def XT (C : DC) (tt : TT) (s : DSt) (P : Bool → DSt → Prop) : Prop := ∀ (σ : L2.St) (H : Hp) (Q : Bool → Hp → Prop), Rl C σ H s → (∀ b H' s', P b s' → Rl C σ H' s' → Q b H') → tt σ H Q
def RT (K : PySem.W.Frag) (tt : TT) (dt : DT) : Prop := ∀ C : DC, C.K = K → ∀ s P, dt s P → XT C tt s P
def XA (C : DC) (ta : TA) (s : DSt) (P : List PyData → DSt → Prop) : Prop := ∀ (σ : L2.St) (H : Hp) (Q : List V → Hp → Prop), Rl C σ H s → (∀ vs H' ds s', P ds s' → Rl C σ H' s' → DaAll C.K (Hd (Sof C σ s'.sl) H') vs ds → Q vs H') → ta σ H Q
def RA (K : PySem.W.Frag) (ta : TA) (da : DA) : Prop := ∀ C : DC, C.K = K → ∀ s P, da s P → XA C ta s P
/-- a list that is read: data, or one's own -/
def XL (C : DC) (te : TE) (s : DSt) (P : List PyData → DSt → Prop) : Prop := ∀ (σ : L2.St) (H : Hp) (Q : VK), Rl C σ H s → (∀ a vs H' ds s', P ds s' → Rl C σ H' s' → H' a = some (.lst vs) → DaAll C.K (Hd (Sof C σ s'.sl) H') vs ds → Q (.ref a) H') → te σ H Q
def RL (K : PySem.W.Frag) (te : TE) (dl : DA) : Prop := ∀ C : DC, C.K = K → ∀ s P, dl s P → XL C te s P
/-- a tuple that is read -/
def XU (C : DC) (te : TE) (s : DSt) (P : List PyData → DSt → Prop) : Prop := ∀ (σ : L2.St) (H : Hp) (Q : VK), Rl C σ H s → (∀ a vs H' ds s', P ds s' → Rl C σ H' s' → SqT C.K H' a vs → DaAll C.K (Hd (Sof C σ s'.sl) H') vs ds → Q (.ref a) H') → te σ H Q
def RU (K : PySem.W.Frag) (te : TE) (dl : DA) : Prop := ∀ C : DC, C.K = K → ∀ s P, dl s P → XU C te s P
/-- a new list -/
def XF (C : DC) (te : TE) (s : DSt) (P : List PyData → DSt → Prop) : Prop := ∀ (σ : L2.St) (H : Hp) (Q : VK), Rl C σ H s → (∀ a vs H' ds s', P ds s' → Rl C σ H' s' → H' a = none → DaAll C.K (Hd (Sof C σ s'.sl) H') vs ds → Q (.ref a) (upd H' a (.lst vs))) → te σ H Q
def RF (K : PySem.W.Frag) (te : TE) (dl : DA) : Prop := ∀ C : DC, C.K = K → ∀ s P, dl s P → XF C te s P
/-! ### data that is kept -/
def DC.keep (C : DC) (v : V) (d : PyData) : DC := { C with G := fun x y => C.G x y ∨ (x = v ∧ y = d) }
section
variable {C : DC} {σ : L2.St} {H : Hp} {s : DSt} {v : V} {d : PyData}
theorem Rl.keep (R : Rl C σ H s) (h : Da C.K (Hd (Sof C σ s.sl) H) v d) : Rl (C.keep v d) σ H s :=
  ⟨R.len, R.slots, R.nd, R.fr, R.dk, R.but, R.tk, fun x y z => z.elim (R.gh x y) fun e => by
    obtain ⟨rfl, rfl⟩ := e
    exact h, R.fz⟩
theorem Rl.kept (R : Rl (C.keep v d) σ H s) : Rl C σ H s ∧ Da C.K (Hd (Sof C σ s.sl) H) v d :=
  ⟨⟨R.len, R.slots, R.nd, R.fr, R.dk, R.but, R.tk, fun x y z => R.gh x y (.inl z), R.fz⟩, R.gh v d (.inr ⟨rfl, rfl⟩)⟩
/-- a new object is seen by data -/
theorem Rl.see (R : Rl C σ H s) {p : Addr} {o : HO} (np : H p = none) : Hd (Sof C σ s.sl) (upd H p o) p = some o := by
  rw [hd_ne (R.new np).1]
  exact upd_same
theorem Rl.kp (R : Rl C σ H s) {p : Addr} {o : HO} (np : H p = none) : Same (Hd (Sof C σ s.sl) H) (Hd (Sof C σ s.sl) (upd H p o)) := hdS (same_upd np)
end
variable {K : PySem.W.Frag}
/-! ### values that are written, slots -/
def dC (d : PyData) : DE := fun s P => P d s
theorem re_int {i : Int} : RE K (tC (.int i)) (dC (.int i)) := fun C _ s P h σ H Q R q => q _ H _ s h R (.int i)
theorem re_str {x : Str} : RE K (tC (.str x)) (dC (.str x)) := fun C _ s P h σ H Q R q => q _ H _ s h R (.str x)
theorem re_bl {b : Bool} : RE K (tC (.bl b)) (dC (.bool b)) := fun C _ s P h σ H Q R q => q _ H _ s h R (.bl b)
theorem re_non : RE K (tC .non) (dC .none) := fun C _ s P h σ H Q R q => q _ H _ s h R .non
def dVar (i : Nat) : DE := fun s P => match s.sl[i]? with
  | some (.dat d) => P d s
  | _ => False
theorem re_var {i : Nat} : RE K (tVar i) (dVar i) := fun C _ s P h σ H Q R q => by
  unfold dVar at h
  split at h
  · rename_i d e
    obtain ⟨sl, h1, v, rfl, h3⟩ := R.slots i _ e
    exact ⟨v, h1, q v H d s h R h3⟩
  · exact h.elim
/-- a list in a slot, data or one's own -/
def dListVar (i : Nat) : DA := fun s P => match s.sl[i]? with
  | some (.dat (.list ds)) => P ds s
  | some (.own ds) => P ds s
  | _ => False
theorem da_list {K : PySem.W.Frag} {S : Addr → Prop} {H : Hp} {v : V} {ds : List PyData} (h : Da K (Hd S H) v (.list ds)) : ∃ a vs, v = .ref a ∧ H a = some (.lst vs) ∧ DaAll K (Hd S H) vs ds := by
  cases h with
  | lst h1 h2 => exact ⟨_, _, rfl, (hd_some h1).2, h2⟩
theorem da_tup {K : PySem.W.Frag} {S : Addr → Prop} {H : Hp} {v : V} {ds : List PyData} (h : Da K (Hd S H) v (.tuple ds)) : ∃ a vs, v = .ref a ∧ SqT K H a vs ∧ DaAll K (Hd S H) vs ds := by
  cases h with
  | tup h1 h2 => exact ⟨_, _, rfl, (h1.same (hd_sub S H)).sq, h2⟩
theorem list_at {C : DC} {σ : L2.St} {H : Hp} {s : DSt} (R : Rl C σ H s) {i : Nat} {P : List PyData → DSt → Prop} (h : dListVar i s P) : ∃ a vs ds, σ[i]? = some (some (V.ref a)) ∧ P ds s ∧ H a = some (.lst vs) ∧ DaAll C.K (Hd (Sof C σ s.sl) H) vs ds := by
  unfold dListVar at h
  split at h
  · rename_i ds e
    obtain ⟨sl, h1, v, rfl, h3⟩ := R.slots i _ e
    obtain ⟨a, vs, rfl, h4, h5⟩ := da_list h3
    exact ⟨a, vs, ds, h1, h, h4, h5⟩
  · rename_i ds e
    obtain ⟨sl, h1, a, vs, rfl, h4, h5⟩ := R.slots i _ e
    exact ⟨a, vs, ds, h1, h, h4, h5⟩
  · exact h.elim
theorem rl_var {i : Nat} : RL K (tVar i) (dListVar i) := fun C _ s P h σ H Q R q => by
  obtain ⟨a, vs, ds, h1, h2, h4, h5⟩ := list_at R h
  exact ⟨_, h1, q a vs H ds s h2 R h4 h5⟩
def dAsL (de : DE) : DA := fun s P => de s fun d s1 => match d with
  | .list ds => P ds s1
  | _ => False
theorem rl_of {te : TE} {de : DE} (h : RE K te de) : RL K te (dAsL de) := fun C hC s P hd σ H Q R q => h C hC s _ hd σ H Q R fun v H' d s' hp R' hv => by
  cases d with
  | list ds =>
    obtain ⟨a, vs, rfl, h4, h5⟩ := da_list hv
    exact q a vs H' ds s' hp R' h4 h5
  | _ => exact hp.elim
def dAsU (de : DE) : DA := fun s P => de s fun d s1 => match d with
  | .tuple ds => P ds s1
  | _ => False
theorem ru_of {te : TE} {de : DE} (h : RE K te de) : RU K te (dAsU de) := fun C hC s P hd σ H Q R q => h C hC s _ hd σ H Q R fun v H' d s' hp R' hv => by
  cases d with
  | tuple ds =>
    obtain ⟨a, vs, rfl, h4, h5⟩ := da_tup hv
    exact q a vs H' ds s' hp R' h4 h5
  | _ => exact hp.elim
/-- a new list as data -/
def dNewL (dl : DA) : DE := fun s P => dl s fun ds s1 => P (.list ds) s1
theorem re_new {te : TE} {dl : DA} (h : RF K te dl) : RE K te (dNewL dl) := fun C hC s P hd σ H Q R q => h C hC s _ hd σ H Q R fun a vs H' ds s' hp R' na hv =>
  q _ _ _ s' hp (R'.ext (same_upd na)) (.lst (R'.see na) (hv.of (R'.kp na)))
theorem rl_new {te : TE} {dl : DA} (h : RF K te dl) : RL K te dl := fun C hC s P hd σ H Q R q => h C hC s _ hd σ H Q R fun a vs H' ds s' hp R' na hv =>
  q a vs _ ds s' hp (R'.ext (same_upd na)) upd_same (hv.of (R'.kp na))
/-! ### argument lists -/
def dNil : DA := fun s P => P [] s
def dCons (de : DE) (da : DA) : DA := fun s P => de s fun d s1 => da s1 fun ds s2 => P (d :: ds) s2
theorem ra_nil : RA K tNil dNil := fun C _ s P h σ H Q R q => q [] H [] s h R .nil
theorem ra_cons {te : TE} {ta : TA} {de : DE} {da : DA} (h1 : RE K te de) (h2 : RA K ta da) : RA K (tCons te ta) (dCons de da) := fun C hC s P hd σ H Q R q =>
  rd_cons (h1 C hC s _ hd σ H _ R fun v H1 d s1 hd1 R1 hv => h2 (C.keep v d) hC s1 _ hd1 σ H1 _ (R1.keep hv) fun vs H2 ds s2 hp R2 hvs => by
    obtain ⟨R3, hv3⟩ := R2.kept
    exact q (v :: vs) H2 (d :: ds) s2 hp R3 (.cons hv3 hvs))
def dTup (da : DA) : DE := fun s P => da s fun ds s1 => ds.length ≤ 1000000 ∧ P (.tuple ds) s1
theorem sz6 : 1000000 ≤ sizeLine := by decide
theorem rd_tupP {ta : TA} {σ : L2.St} {H : Hp} {Q : VK} (h : ta σ H fun xs H1 => xs.length ≤ sizeLine ∧ NewT H1 xs Q) : tTupP ta σ H Q := h
theorem re_tup {ta : TA} {da : DA} (h : RA K ta da) : RE K (tTupP ta) (dTup da) := fun C hC s P hd σ H Q R q =>
  rd_tupP (h C hC s _ hd σ H _ R fun vs H1 ds s1 hp R1 hv => ⟨by rw [hv.len]; exact Nat.le_trans hp.1 sz6, fun a o na e => q _ _ _ s1 hp.2 (R1.ext (same_upd na)) (.tup (.inl ⟨o, R1.see na, e⟩) (hv.of (R1.kp na)))⟩)
def dLst (da : DA) : DA := fun s P => da s fun ds s1 => ds.length ≤ 1000000 ∧ P ds s1
theorem rf_lst {ta : TA} {da : DA} (h : RA K ta da) : RF K (tLst ta) (dLst da) := fun C hC s P hd σ H Q R q =>
  rd_lst (h C hC s _ hd σ H _ R fun vs H1 ds s1 hp R1 hv => ⟨by rw [hv.len]; exact Nat.le_trans hp.1 sz6, fun a na => q a vs H1 ds s1 hp.2 R1 na hv⟩)
/-! ### operations on two values -/
abbrev D2 := PyData → PyData → (PyData → Prop) → Prop
def RO (K : PySem.W.Frag) (r : R2) (ro : D2) : Prop := ∀ (S : Addr → Prop) (H : Hp) (x y : V) (d e : PyData) (P : PyData → Prop) (Q : VK), Taken H S → Da K (Hd S H) x d → Da K (Hd S H) y e → ro d e P → (∀ v H' f, P f → Same H H' → Da K (Hd S H') v f → Q v H') → r x y H Q
def dOp (ro : D2) (da db : DE) : DE := fun s P => da s fun d s1 => db s1 fun e s2 => ro d e fun f => P f s2
theorem re_op {r : R2} {ro : D2} {ta tb : TE} {da db : DE} (ho : RO K r ro) (h1 : RE K ta da) (h2 : RE K tb db) : RE K (tOp r ta tb) (dOp ro da db) := fun C hC s P hd σ H Q R q =>
  rd_op (h1 C hC s _ hd σ H _ R fun v H1 d s1 hd1 R1 hv => h2 (C.keep v d) hC s1 _ hd1 σ H1 _ (R1.keep hv) fun w H2 e s2 hp R2 hw => by
    obtain ⟨R3, hv3⟩ := R2.kept
    subst hC
    exact ho _ H2 v w d e _ Q R3.taken hv3 hw hp fun u H3 f hf s23 hu => q u H3 f s2 hf (R3.ext s23) hu)
/-- ints to an int -/
def oI (c : Int → Int → Prop) (g : Int → Int → Int) : D2 := fun d e P => match d, e with
  | .int i, .int j => c i j ∧ P (.int (g i j))
  | _, _ => False
theorem ro_I {c : Int → Int → Prop} {g : Int → Int → Int} : RO K (rI c fun i j => .int (g i j)) (oI c g) := fun S H x y d e P Q _ hx hy h q => by
  unfold oI at h
  split at h
  · cases hx
    cases hy
    exact ⟨_, _, rfl, rfl, h.1, q _ H _ h.2 (Same.refl _) (.int _)⟩
  · exact h.elim
def oI0 (g : Int → Int → Int) : D2 := fun d e P => match d, e with
  | .int i, .int j => P (.int (g i j))
  | _, _ => False
theorem ro_I0 {g : Int → Int → Int} : RO K (rI0 fun i j => .int (g i j)) (oI0 g) := fun S H x y d e P Q _ hx hy h q => by
  unfold oI0 at h
  split at h
  · cases hx
    cases hy
    exact ⟨_, _, rfl, rfl, q _ H _ h (Same.refl _) (.int _)⟩
  · exact h.elim
/-- ints to a truth -/
def oB0 (g : Int → Int → Bool) : D2 := fun d e P => match d, e with
  | .int i, .int j => P (.bool (g i j))
  | _, _ => False
theorem ro_B0 {g : Int → Int → Bool} : RO K (rI0 fun i j => .bl (g i j)) (oB0 g) := fun S H x y d e P Q _ hx hy h q => by
  unfold oB0 at h
  split at h
  · cases hx
    cases hy
    exact ⟨_, _, rfl, rfl, q _ H _ h (Same.refl _) (.bl _)⟩
  · exact h.elim
/-- texts to a truth -/
def oS (g : Str → Str → Bool) : D2 := fun d e P => match d, e with
  | .str i, .str j => P (.bool (g i j))
  | _, _ => False
theorem ro_S {g : Str → Str → Bool} : RO K (fun x y H Q => ∃ i j, x = .str i ∧ y = .str j ∧ Q (.bl (g i j)) H) (oS g) := fun S H x y d e P Q _ hx hy h q => by
  unfold oS at h
  split at h
  · cases hx
    cases hy
    exact ⟨_, _, rfl, rfl, q _ H _ h (Same.refl _) (.bl _)⟩
  · exact h.elim
def oCatS : D2 := fun d e P => match d, e with
  | .str i, .str j => i.length + j.length ≤ 1000000 ∧ P (.str (i ++ j))
  | _, _ => False
theorem ro_catS : RO K (fun x y H Q => ∃ i j, x = .str i ∧ y = .str j ∧ i.length + j.length ≤ sizeLine ∧ Q (.str (i ++ j)) H) oCatS := fun S H x y d e P Q _ hx hy h q => by
  unfold oCatS at h
  split at h
  · cases hx
    cases hy
    exact ⟨_, _, rfl, rfl, Nat.le_trans h.1 sz6, q _ H _ h.2 (Same.refl _) (.str _)⟩
  · exact h.elim
/-- == of flat things -/
def flatD : PyData → Option V
  | .none => some .non
  | .bool b => some (.bl b)
  | .int i => some (.int i)
  | .str x => some (.str x)
  | _ => none
theorem flat_v {H : Hp} {v x : V} {d : PyData} (h : Da K H v d) (e : flatD d = some x) : v = x := by
  cases d with
  | none => cases h; cases e; rfl
  | bool b => cases h; cases e; rfl
  | int i => cases h; cases e; rfl
  | str z => cases h; cases e; rfl
  | _ => cases e
def oEq (neg : Bool) : D2 := fun d e P => match flatD d, flatD e with
  | some x, some y => scal x y = true ∧ P (.bool (if neg then !decide (x = y) else decide (x = y)))
  | _, _ => False
theorem ro_eq : RO K rEq (oEq false) := fun S H x y d e P Q _ hx hy h q => by
  unfold oEq at h
  split at h
  · rename_i a b e1 e2
    obtain rfl := flat_v hx e1
    obtain rfl := flat_v hy e2
    exact ⟨h.1, q _ H _ h.2 (Same.refl _) (.bl _)⟩
  · exact h.elim
theorem ro_ne : RO K rNe (oEq true) := fun S H x y d e P Q _ hx hy h q => by
  unfold oEq at h
  split at h
  · rename_i a b e1 e2
    obtain rfl := flat_v hx e1
    obtain rfl := flat_v hy e2
    exact ⟨h.1, q _ H _ h.2 (Same.refl _) (.bl _)⟩
  · exact h.elim
mutual
/-- data without a dict, as the library has it -/
theorem Da.dp {H : Hp} : ∀ (d : PyData) (v : V), d.hasDict = false → Da K H v d → Dp K H v d
  | .none, _, _, h => by cases h; exact .non
  | .bool b, _, _, h => by cases h; exact .bl b
  | .int i, _, _, h => by cases h; exact .int i
  | .str x, _, _, h => by cases h; exact .str x
  | .list ds, _, n, h => by
    cases h with
    | lst hs ha => exact .lst (sq hs) (DaAll.dp ds _ (by simpa only [PyData.hasDict] using n) ha)
  | .tuple ds, _, n, h => by
    cases h with
    | tup hs ha => exact .tup hs.sq (DaAll.dp ds _ (by simpa only [PyData.hasDict] using n) ha)
  | .dict ds, _, n, h => by simp only [PyData.hasDict] at n; cases n
theorem DaAll.dp {H : Hp} : ∀ (ds : List PyData) (vs : List V), PyData.hasDictAll ds = false → DaAll K H vs ds → DpAll K H vs ds
  | [], _, _, h => by cases h; exact .nil
  | d :: ds, _, n, h => by
    cases h with
    | cons h1 h2 =>
      simp only [PyData.hasDictAll, Bool.or_eq_false_iff] at n
      exact .cons (Da.dp d _ n.1 h1) (DaAll.dp ds _ n.2 h2)
end
/-- == of data without dicts -/
def oEqD (neg : Bool) : D2 := fun d e P => d.hasDict = false ∧ e.hasDict = false ∧ SeqAt.shaped d = true ∧ SeqAt.shaped e = true ∧ P (.bool (if neg then !PyData.eqv d e else PyData.eqv d e))
theorem dp_hd {S : Addr → Prop} {H : Hp} {v : V} {d : PyData} (n : d.hasDict = false) (h : Da K (Hd S H) v d) : Dp K H v d := (h.of (hd_sub S H)).dp d v n
theorem ro_eqD : RO K (rEqD K) (oEqD false) := fun S H x y d e P Q _ hx hy h q => ⟨d, e, dp_hd h.1 hx, dp_hd h.2.1 hy, h.2.2.1, h.2.2.2.1, q _ H _ h.2.2.2.2 (Same.refl _) (.bl _)⟩
theorem ro_neD : RO K (rNeD K) (oEqD true) := fun S H x y d e P Q _ hx hy h q => ⟨d, e, dp_hd h.1 hx, dp_hd h.2.1 hy, h.2.2.1, h.2.2.2.1, q _ H _ h.2.2.2.2 (Same.refl _) (.bl _)⟩
/-- is None -/
def isNoneD : PyData → Bool
  | .none => true
  | _ => false
def oIsN (neg : Bool) : D2 := fun d e P => match e with
  | .none => P (.bool (if neg then !isNoneD d else isNoneD d))
  | _ => False
theorem da_none {H : Hp} {v : V} {d : PyData} (h : Da K H v d) : decide (v = .non) = isNoneD d := by
  cases h <;> rfl
theorem ro_isN : RO K (fun x y H Q => y = .non ∧ Q (.bl (decide (x = .non))) H) (oIsN false) := fun S H x y d e P Q _ hx hy h q => by
  unfold oIsN at h
  split at h
  · cases hy
    refine ⟨rfl, q _ H _ h (Same.refl _) ?_⟩
    rw [da_none hx]
    exact .bl _
  · exact h.elim
theorem ro_notN : RO K (fun x y H Q => y = .non ∧ Q (.bl (!decide (x = .non))) H) (oIsN true) := fun S H x y d e P Q _ hx hy h q => by
  unfold oIsN at h
  split at h
  · cases hy
    refine ⟨rfl, q _ H _ h (Same.refl _) ?_⟩
    rw [da_none hx]
    exact .bl _
  · exact h.elim
/-- t + u of tuples -/
def oCatU : D2 := fun d e P => match d, e with
  | .tuple a, .tuple b => a.length + b.length ≤ 1000000 ∧ P (.tuple (a ++ b))
  | _, _ => False
theorem see_of {S : Addr → Prop} {H : Hp} {p : Addr} {o : HO} (T : Taken H S) (np : H p = none) : Hd S (upd H p o) p = some o := by
  rw [hd_ne (T.ne np)]
  exact upd_same
theorem ro_catU : RO K (rCatP K) oCatU := fun S H x y d e P Q T hx hy h q => by
  unfold oCatU at h
  split at h
  · rename_i ds es
    obtain ⟨a, vs, rfl, h1, h2⟩ := da_tup hx
    obtain ⟨b, us, rfl, h3, h4⟩ := da_tup hy
    refine ⟨a, b, vs, us, rfl, rfl, h1, h3, by rw [h2.len, h4.len]; exact Nat.le_trans h.1 sz6, fun e => ?_, fun _ e => ?_, fun _ _ p o np eo => ?_⟩
    · subst e
      cases h2
      exact q _ H _ h.2 (Same.refl _) hy
    · subst e
      cases h4
      rw [List.append_nil] at h
      exact q _ H _ h.2 (Same.refl _) hx
    · exact q _ _ _ h.2 (same_upd np) (.tup (.inl ⟨o, see_of T np, eo⟩) ((h2.append h4).of (hdS (same_upd np))))
  · exact h.elim
/-- o[i] -/
def oIxL : D2 := fun d e P => match d, e with
  | .list a, .int i => ∃ x, atI a i = some x ∧ P x
  | _, _ => False
theorem atI_da {H : Hp} {vs : List V} {ds : List PyData} (h : DaAll K H vs ds) {i : Int} {x : PyData} (e : atI ds i = some x) : ∃ v, atI vs i = some v ∧ Da K H v x := by
  unfold atI at e ⊢
  rw [h.len]
  obtain ⟨j, e1, e2⟩ := Option.bind_eq_some_iff.mp e
  obtain ⟨v, h1, h2⟩ := h.getD e2
  exact ⟨v, by rw [e1]; exact h1, h2⟩
theorem ro_ixL : RO K (rIxL K) oIxL := fun S H x y d e P Q T hx hy h q => by
  unfold oIxL at h
  split at h
  · rename_i ds i
    obtain ⟨a, vs, rfl, h1, h2⟩ := da_list hx
    cases hy
    obtain ⟨z, e1, hp⟩ := h
    obtain ⟨v, e2, hv⟩ := atI_da h2 e1
    exact ⟨a, vs, i, v, rfl, rfl, sq h1, e2, q _ H _ hp (Same.refl _) hv⟩
  · exact h.elim
def oIxU : D2 := fun d e P => match d, e with
  | .tuple a, .int i => ∃ x, atI a i = some x ∧ P x
  | _, _ => False
theorem ro_ixU : RO K (rIxT K) oIxU := fun S H x y d e P Q T hx hy h q => by
  unfold oIxU at h
  split at h
  · rename_i ds i
    obtain ⟨a, vs, rfl, h1, h2⟩ := da_tup hx
    cases hy
    obtain ⟨z, e1, hp⟩ := h
    obtain ⟨v, e2, hv⟩ := atI_da h2 e1
    exact ⟨a, vs, i, v, rfl, rfl, h1, e2, q _ H _ hp (Same.refl _) hv⟩
  · exact h.elim
def oIxS : D2 := fun d e P => match d, e with
  | .str z, .int i => z.length ≤ 1000000 ∧ ∃ c, atI z.cps.toList i = some c ∧ P (.str ⟨#[c]⟩)
  | _, _ => False
theorem ro_ixS : RO K rIxS oIxS := fun S H x y d e P Q T hx hy h q => by
  unfold oIxS at h
  split at h
  · cases hx
    cases hy
    obtain ⟨hz, c, e1, hp⟩ := h
    exact ⟨_, _, c, rfl, rfl, Nat.le_trans hz sz6, e1, q _ H _ hp (Same.refl _) (.str _)⟩
  · exact h.elim
/-- the list in slot i by an index that may draw -/
def dIxVar (i : Nat) (db : DE) : DE := fun s P => (match s.sl[i]? with
  | some (.dat _) => True
  | some (.own _) => True
  | _ => False) ∧ db s fun e s1 => match e with
  | .int k => dListVar i s1 fun a s2 => ∃ x, atI a k = some x ∧ P x s2
  | _ => False
theorem re_ixVar {i : Nat} {tb : TE} {db : DE} (h : RE K tb db) : RE K (tOp (rIxL K) (tVar i) tb) (dIxVar i db) := fun C hC s P hd σ H Q R q => by
  have hsl : ∃ v, σ[i]? = some (some v) := by
    have h0 := hd.1
    split at h0
    · rename_i e
      obtain ⟨sl, h1, v, rfl, h3⟩ := R.slots i _ e
      exact ⟨v, h1⟩
    · rename_i e
      obtain ⟨sl, h1, a, vs, rfl, h3⟩ := R.slots i _ e
      exact ⟨_, h1⟩
    · exact h0.elim
  obtain ⟨v, e⟩ := hsl
  exact rd_op (rd_var e (h C hC s _ hd.2 σ H _ R fun w H1 d s1 hp R1 hw => by
    cases d with
    | int k =>
      cases hw
      obtain ⟨a, vs, ds, e1, ⟨x, ex, hp⟩, e3, e4⟩ := list_at R1 hp
      rw [e] at e1
      cases e1
      obtain ⟨u, e5, e6⟩ := atI_da e4 ex
      exact ⟨a, vs, k, u, rfl, rfl, sq e3, e5, q u H1 x s1 hp R1 e6⟩
    | _ => exact hp.elim))
/-! ### slices -/
def DO := DSt → (Option Int → DSt → Prop) → Prop
def RP (K : PySem.W.Frag) (to : TO) (d : DO) : Prop := ∀ C : DC, C.K = K → ∀ s P, d s P → ∀ (σ : L2.St) (H : Hp) (Q : Option Int → Hp → Prop), Rl C σ H s → (∀ o H' s', P o s' → Rl C σ H' s' → Q o H') → to σ H Q
def dNoP : DO := fun s P => P none s
def dPart (de : DE) : DO := fun s P => de s fun d s1 => match d with
  | .int i => P (some i) s1
  | _ => False
theorem rp_no : RP K tNoPart dNoP := fun C _ s P h σ H Q R q => q none H s h R
theorem rp_of {te : TE} {de : DE} (h : RE K te de) : RP K (tPart te) (dPart de) := fun C hC s P hd σ H Q R q => h C hC s _ hd σ H _ R fun v H1 d s1 hp R1 hv => by
  cases d with
  | int i =>
    cases hv
    exact ⟨i, rfl, q _ H1 s1 hp R1⟩
  | _ => exact hp.elim
def cutD (xs : List PyData) (lo hi : Option Int) : List PyData := (xs.drop (HT.sIx xs.length 0 lo)).take (HT.sIx xs.length xs.length hi - HT.sIx xs.length 0 lo)
theorem cut_da {H : Hp} {vs : List V} {ds : List PyData} (h : DaAll K H vs ds) (lo hi : Option Int) : DaAll K H (cutV vs lo hi) (cutD ds lo hi) := by
  unfold cutV cutD
  rw [h.len]
  exact (h.drop _).take _
/-- xs[lo:hi] of a list: the bounds call nothing that changes it -/
def dSlL (dl : DA) (d1 d2 : DO) : DA := fun s P => dl s fun ds s1 => d1 s1 fun lo s2 => d2 s2 fun hi s3 => P (cutD ds lo hi) s3
/-- xs[lo:hi] of a list that is data -/
def dSlD (de : DE) (d1 d2 : DO) : DA := fun s P => de s fun d s1 => d1 s1 fun lo s2 => d2 s2 fun hi s3 => match d with
  | .list ds => P (cutD ds lo hi) s3
  | _ => False
theorem rf_sl {te : TE} {tl th : TO} {de : DE} {d1 d2 : DO} (h : RE K te de) (h1 : RP K tl d1) (h2 : RP K th d2) : RF K (tSl (rSlL K) te tl th) (dSlD de d1 d2) := fun C hC s P hd σ H Q R q =>
  h C hC s _ hd σ H _ R fun v H1 d s1 hd1 R1 hv => h1 (C.keep v d) hC s1 _ hd1 σ H1 _ (R1.keep hv) fun lo H2 s2 hd2 R2 => h2 (C.keep v d) hC s2 _ hd2 σ H2 _ R2 fun hi H3 s3 hp R3 => by
    obtain ⟨R4, hv4⟩ := R3.kept
    cases d with
    | list ds =>
      obtain ⟨a, vs, rfl, k1, k2⟩ := da_list hv4
      exact ⟨a, vs, rfl, sq k1, fun p np => q p _ H3 _ s3 hp R4 np (cut_da k2 lo hi)⟩
    | _ => exact hp.elim
/-- the list in slot i, cut -/
def dSlVar (i : Nat) (d1 d2 : DO) : DA := fun s P => (match s.sl[i]? with
  | some (.dat _) => True
  | some (.own _) => True
  | _ => False) ∧ d1 s fun lo s2 => d2 s2 fun hi s3 => dListVar i s3 fun ds s4 => P (cutD ds lo hi) s4
theorem rf_slVar {i : Nat} {tl th : TO} {d1 d2 : DO} (h1 : RP K tl d1) (h2 : RP K th d2) : RF K (tSl (rSlL K) (tVar i) tl th) (dSlVar i d1 d2) := fun C hC s P hd σ H Q R q => by
  have hsl : ∃ v, σ[i]? = some (some v) := by
    have h0 := hd.1
    split at h0
    · rename_i e
      obtain ⟨sl, h1, v, rfl, h3⟩ := R.slots i _ e
      exact ⟨v, h1⟩
    · rename_i e
      obtain ⟨sl, h1, a, vs, rfl, h3⟩ := R.slots i _ e
      exact ⟨_, h1⟩
    · exact h0.elim
  obtain ⟨v, e⟩ := hsl
  refine rd_var (Q := fun x H1 => tl σ H1 fun l H2 => th σ H2 fun u H3 => rSlL K x l u H3 Q) e ?_
  refine h1 C hC s _ hd.2 σ H _ R fun lo H2 s2 hd2 R2 => h2 C hC s2 _ hd2 σ H2 _ R2 fun hi H3 s3 hp R3 => ?_
  obtain ⟨a, vs, ds, e1, hp, e3, e4⟩ := list_at R3 hp
  rw [e] at e1
  cases e1
  exact ⟨a, vs, rfl, sq e3, fun p np => q p _ H3 _ s3 hp R3 np (cut_da e4 lo hi)⟩
/-- xs[lo:hi] of a tuple -/
def dSlU (de : DE) (d1 d2 : DO) : DE := fun s P => de s fun d s1 => d1 s1 fun lo s2 => d2 s2 fun hi s3 => match d with
  | .tuple ds => P (.tuple (cutD ds lo hi)) s3
  | _ => False
theorem re_slU {te : TE} {tl th : TO} {de : DE} {d1 d2 : DO} (h : RE K te de) (h1 : RP K tl d1) (h2 : RP K th d2) : RE K (tSl (rSlP K) te tl th) (dSlU de d1 d2) := fun C hC s P hd σ H Q R q =>
  h C hC s _ hd σ H _ R fun v H1 d s1 hd1 R1 hv => h1 (C.keep v d) hC s1 _ hd1 σ H1 _ (R1.keep hv) fun lo H2 s2 hd2 R2 => h2 (C.keep v d) hC s2 _ hd2 σ H2 _ R2 fun hi H3 s3 hp R3 => by
    obtain ⟨R4, hv4⟩ := R3.kept
    cases d with
    | tuple ds =>
      obtain ⟨a, vs, rfl, k1, k2⟩ := da_tup hv4
      subst hC
      refine ⟨a, vs, rfl, k1, fun e => ?_, fun _ p o np eo => q _ _ _ s3 hp (R4.ext (same_upd np)) (.tup (.inl ⟨o, R4.see np, eo⟩) ((cut_da k2 lo hi).of (R4.kp np)))⟩
      have e' : cutD ds lo hi = ds := by
        unfold cutD
        rw [← k2.len, e.1, e.2, List.drop_zero, Nat.sub_zero, k2.len, List.take_length]
      have hp' : P (.tuple (cutD ds lo hi)) s3 := hp
      rw [e'] at hp'
      exact q _ H3 _ s3 hp' R4 hv4
    | _ => exact hp.elim
/-- of a text -/
def dSlS (de : DE) (d1 d2 : DO) : DE := fun s P => de s fun d s1 => d1 s1 fun lo s2 => d2 s2 fun hi s3 => match d with
  | .str z => z.length ≤ 1000000 ∧ P (.str (cutS z lo hi)) s3
  | _ => False
theorem re_slS {te : TE} {tl th : TO} {de : DE} {d1 d2 : DO} (h : RE K te de) (h1 : RP K tl d1) (h2 : RP K th d2) : RE K (tSl rSlS te tl th) (dSlS de d1 d2) := fun C hC s P hd σ H Q R q =>
  h C hC s _ hd σ H _ R fun v H1 d s1 hd1 R1 hv => h1 C hC s1 _ hd1 σ H1 _ R1 fun lo H2 s2 hd2 R2 => h2 C hC s2 _ hd2 σ H2 _ R2 fun hi H3 s3 hp R3 => by
    cases d with
    | str z =>
      cases hv
      exact ⟨z, rfl, Nat.le_trans hp.1 sz6, q _ H3 _ s3 hp.2 R3 (.str _)⟩
    | _ => exact hp.elim
/-- xs[::-1] -/
def dRevL (dl : DA) : DA := fun s P => dl s fun ds s1 => P ds.reverse s1
theorem rf_rev {te : TE} {dl : DA} (h : RL K te dl) : RF K (tRevL K te) (dRevL dl) := fun C hC s P hd σ H Q R q =>
  h C hC s _ hd σ H _ R fun a vs H1 ds s1 hp R1 e hv => ⟨a, vs, rfl, sq e, fun p np => q p _ H1 _ s1 hp R1 np hv.rev⟩
/-! ### built-in calls -/
/-- len of a list that is read, of a tuple, of a text -/
def dLenL (dl : DA) : DE := fun s P => dl s fun ds s1 => P (.int ds.length) s1
def rLn (K : PySem.W.Frag) : List V → Hp → VK → Prop := fun xs H Q => ∃ p ys, xs = [.ref p] ∧ (SqL K H p ys ∨ SqT K H p ys) ∧ Q (.int ys.length) H
theorem re_lenL {te : TE} {dl : DA} (h : RL K te dl) : RE K (tCB (rLn K) (tCons te tNil)) (dLenL dl) := fun C hC s P hd σ H Q R q =>
  rd_cb (rd_cons (h C hC s _ hd σ H _ R fun a vs H1 ds s1 hp R1 e hv => rd_nil ⟨a, vs, rfl, .inl (sq e), by rw [hv.len]; exact q _ H1 _ s1 hp R1 (.int _)⟩))
theorem re_lenU {te : TE} {dl : DA} (h : RU K te dl) : RE K (tCB (rLn K) (tCons te tNil)) (dLenL dl) := fun C hC s P hd σ H Q R q =>
  rd_cb (rd_cons (h C hC s _ hd σ H _ R fun a vs H1 ds s1 hp R1 e hv => rd_nil ⟨a, vs, rfl, .inr (hC ▸ e), by rw [hv.len]; exact q _ H1 _ s1 hp R1 (.int _)⟩))
/-- of a list or a tuple, data -/
def dLenD (de : DE) : DE := fun s P => de s fun d s1 => match d with
  | .list ds => P (.int ds.length) s1
  | .tuple ds => P (.int ds.length) s1
  | _ => False
theorem re_lenD {te : TE} {de : DE} (h : RE K te de) : RE K (tCB (rLn K) (tCons te tNil)) (dLenD de) := fun C hC s P hd σ H Q R q =>
  rd_cb (rd_cons (h C hC s _ hd σ H _ R fun v H1 d s1 hp R1 hv => by
    cases d with
    | list ds =>
      obtain ⟨a, vs, rfl, k1, k2⟩ := da_list hv
      exact rd_nil ⟨a, vs, rfl, .inl (sq k1), by rw [k2.len]; exact q _ H1 _ s1 hp R1 (.int _)⟩
    | tuple ds =>
      obtain ⟨a, vs, rfl, k1, k2⟩ := da_tup hv
      exact rd_nil ⟨a, vs, rfl, .inr (hC ▸ k1), by rw [k2.len]; exact q _ H1 _ s1 hp R1 (.int _)⟩
    | _ => exact hp.elim))
def dLenS (de : DE) : DE := fun s P => de s fun d s1 => match d with
  | .str z => z.length ≤ 1000000 ∧ P (.int z.length) s1
  | _ => False
theorem re_lenS {te : TE} {de : DE} (h : RE K te de) : RE K (tCB (fun xs H Q => ∃ z, xs = [.str z] ∧ z.length ≤ sizeLine ∧ Q (.int z.length) H) (tCons te tNil)) (dLenS de) := fun C hC s P hd σ H Q R q =>
  rd_cb (rd_cons (h C hC s _ hd σ H _ R fun v H1 d s1 hp R1 hv => by
    cases d with
    | str z =>
      cases hv
      exact rd_nil ⟨z, rfl, Nat.le_trans hp.1 sz6, q _ H1 _ s1 hp.2 R1 (.int _)⟩
    | _ => exact hp.elim))
/-- list(xs), tuple(xs) of a list or tuple that is read -/
def rLo (K : PySem.W.Frag) : List V → Hp → VK → Prop := fun xs H Q => ∃ p ys, xs = [.ref p] ∧ (SqL K H p ys ∨ SqT K H p ys) ∧ ∀ l, H l = none → Q (.ref l) (upd H l (.lst ys))
theorem rf_listL {te : TE} {dl : DA} (h : RL K te dl) : RF K (tCB (rLo K) (tCons te tNil)) dl := fun C hC s P hd σ H Q R q =>
  rd_cb (rd_cons (h C hC s _ hd σ H _ R fun a vs H1 ds s1 hp R1 e hv => rd_nil ⟨a, vs, rfl, .inl (sq e), fun p np => q p _ H1 _ s1 hp R1 np hv⟩))
theorem rf_listU {te : TE} {dl : DA} (h : RU K te dl) : RF K (tCB (rLo K) (tCons te tNil)) dl := fun C hC s P hd σ H Q R q =>
  rd_cb (rd_cons (h C hC s _ hd σ H _ R fun a vs H1 ds s1 hp R1 e hv => rd_nil ⟨a, vs, rfl, .inr (hC ▸ e), fun p np => q p _ H1 _ s1 hp R1 np hv⟩))
def dTupOf (dl : DA) : DE := fun s P => dl s fun ds s1 => P (.tuple ds) s1
theorem re_tupL {te : TE} {dl : DA} (h : RL K te dl) : RE K (tCB (rToP K) (tCons te tNil)) (dTupOf dl) := fun C hC s P hd σ H Q R q =>
  rd_cb (rd_cons (h C hC s _ hd σ H _ R fun a vs H1 ds s1 hp R1 e hv => rd_nil ⟨a, vs, rfl, .inl ⟨sq e, fun p o np eo => q _ _ _ s1 hp (R1.ext (same_upd np)) (.tup (.inl ⟨o, R1.see np, eo⟩) (hv.of (R1.kp np)))⟩⟩))
/-- t * k of a tuple -/
def oRepU : D2 := fun d e P => match d, e with
  | .tuple a, .int k => -(2 ^ 62) ≤ k ∧ k ≤ 1000 ∧ a.length ≤ 1000 ∧ P (.tuple (List.replicate k.toNat a).flatten)
  | _, _ => False
theorem DaAll.rep {H : Hp} {vs : List V} {ds : List PyData} (h : DaAll K H vs ds) : ∀ n : Nat, DaAll K H (List.replicate n vs).flatten (List.replicate n ds).flatten
  | 0 => .nil
  | n + 1 => by
    rw [List.replicate_succ, List.replicate_succ, List.flatten_cons, List.flatten_cons]
    exact h.append (h.rep n)
theorem flat_nil (n : Nat) : (List.replicate n ([] : List PyData)).flatten = [] := by
  induction n with
  | zero => rfl
  | succ n ih => rw [List.replicate_succ, List.flatten_cons, ih]; rfl
theorem ro_repU : RO K (rRepP K) oRepU := fun S H x y d e P Q T hx hy h q => by
  unfold oRepU at h
  split at h
  · rename_i ds k
    obtain ⟨a, vs, rfl, h1, h2⟩ := da_tup hx
    cases hy
    refine ⟨a, k, vs, rfl, rfl, h1, h.1, h.2.1, by rw [h2.len]; exact h.2.2.1, fun e => ?_, fun _ _ p o np eo => ?_⟩
    · refine q _ H _ h.2.2.2 (Same.refl _) ?_
      rcases e with e | e
      · subst e
        cases h2
        rw [flat_nil]
        exact hx
      · subst e
        have e1 : (List.replicate (1 : Int).toNat ds).flatten = ds := by simp
        rw [e1]
        exact hx
    · exact q _ _ _ h.2.2.2 (same_upd np) (.tup (.inl ⟨o, see_of T np, eo⟩) ((h2.rep _).of (hdS (same_upd np))))
  · exact h.elim
/-! ### truths -/
def dAndV (da db : DE) : DE := fun s P => da s fun d s1 => match d with
  | .bool c => if c = true then db s1 P else P (.bool false) s1
  | _ => False
theorem re_and {ta tb : TE} {da db : DE} (h1 : RE K ta da) (h2 : RE K tb db) : RE K (tAndV ta tb) (dAndV da db) := fun C hC s P hd σ H Q R q =>
  h1 C hC s _ hd σ H _ R fun v H1 d s1 hp R1 hv => by
    cases d with
    | bool c =>
      cases hv
      refine ⟨c, rfl, ?_⟩
      cases c with
      | true => exact pT rfl (h2 C hC s1 _ (by simpa using hp) σ H1 _ R1 q)
      | false => exact pF (by decide) (q _ H1 _ s1 (by simpa using hp) R1 (.bl _))
    | _ => exact hp.elim
def dOrV (da db : DE) : DE := fun s P => da s fun d s1 => match d with
  | .bool c => if c = true then P (.bool true) s1 else db s1 P
  | _ => False
theorem re_or {ta tb : TE} {da db : DE} (h1 : RE K ta da) (h2 : RE K tb db) : RE K (tOrV ta tb) (dOrV da db) := fun C hC s P hd σ H Q R q =>
  h1 C hC s _ hd σ H _ R fun v H1 d s1 hp R1 hv => by
    cases d with
    | bool c =>
      cases hv
      refine ⟨c, rfl, ?_⟩
      cases c with
      | true => exact pT rfl (q _ H1 _ s1 (by simpa using hp) R1 (.bl _))
      | false => exact pF (by decide) (h2 C hC s1 _ (by simpa using hp) σ H1 _ R1 q)
    | _ => exact hp.elim
def dNotV (da : DE) : DE := fun s P => da s fun d s1 => match d with
  | .bool c => P (.bool (!c)) s1
  | _ => False
theorem re_not {ta : TE} {da : DE} (h1 : RE K ta da) : RE K (tNotV ta) (dNotV da) := fun C hC s P hd σ H Q R q =>
  h1 C hC s _ hd σ H _ R fun v H1 d s1 hp R1 hv => by
    cases d with
    | bool c =>
      cases hv
      exact ⟨c, rfl, q _ H1 _ s1 hp R1 (.bl _)⟩
    | _ => exact hp.elim
def dB (de : DE) : DT := fun s P => de s fun d s1 => match d with
  | .bool c => P c s1
  | _ => False
theorem rt_test {te : TE} {de : DE} (h : RE K te de) : RT K (tTest te) (dB de) := fun C hC s P hd σ H Q R q =>
  rd_test (h C hC s _ hd σ H _ R fun v H1 d s1 hp R1 hv => by
    cases d with
    | bool c =>
      cases hv
      exact ⟨c, rfl, q _ H1 s1 hp R1⟩
    | _ => exact hp.elim)
theorem rt_val {te : TE} {de : DE} (h : RE K te de) : RT K (tB te) (dB de) := fun C hC s P hd σ H Q R q =>
  rd_tb (h C hC s _ hd σ H _ R fun v H1 d s1 hp R1 hv => by
    cases d with
    | bool c =>
      cases hv
      exact ⟨c, rfl, q _ H1 s1 hp R1⟩
    | _ => exact hp.elim)
def dAnd (a b : DT) : DT := fun s P => a s fun c s1 => if c = true then b s1 P else P false s1
def dOr (a b : DT) : DT := fun s P => a s fun c s1 => if c = true then P true s1 else b s1 P
def dNot (a : DT) : DT := fun s P => a s fun c s1 => P (!c) s1
theorem rt_and {ta tb : TT} {da db : DT} (h1 : RT K ta da) (h2 : RT K tb db) : RT K (tAnd ta tb) (dAnd da db) := fun C hC s P hd σ H Q R q =>
  rd_and (h1 C hC s _ hd σ H _ R fun c H1 s1 hp R1 => by
    cases c with
    | true => exact pT rfl (h2 C hC s1 _ (by simpa using hp) σ H1 _ R1 q)
    | false => exact pF (by decide) (q _ H1 s1 (by simpa using hp) R1))
theorem rt_or {ta tb : TT} {da db : DT} (h1 : RT K ta da) (h2 : RT K tb db) : RT K (tOr ta tb) (dOr da db) := fun C hC s P hd σ H Q R q =>
  rd_or (h1 C hC s _ hd σ H _ R fun c H1 s1 hp R1 => by
    cases c with
    | true => exact pT rfl (q _ H1 s1 (by simpa using hp) R1)
    | false => exact pF (by decide) (h2 C hC s1 _ (by simpa using hp) σ H1 _ R1 q))
theorem rt_not {ta : TT} {da : DT} (h1 : RT K ta da) : RT K (tNot ta) (dNot da) := fun C hC s P hd σ H Q R q =>
  rd_not (h1 C hC s _ hd σ H _ R fun c H1 s1 hp R1 => q _ H1 s1 hp R1)
def dIfE (c : DT) (da db : DE) : DE := fun s P => c s fun b s1 => if b = true then da s1 P else db s1 P
theorem re_if {tc : TT} {ta tb : TE} {dc : DT} {da db : DE} (hc : RT K tc dc) (h1 : RE K ta da) (h2 : RE K tb db) : RE K (tIf tc ta tb) (dIfE dc da db) := fun C hC s P hd σ H Q R q =>
  hc C hC s _ hd σ H _ R fun c H1 s1 hp R1 => by
    cases c with
    | true => exact pT rfl (h1 C hC s1 _ (by simpa using hp) σ H1 _ R1 q)
    | false => exact pF (by decide) (h2 C hC s1 _ (by simpa using hp) σ H1 _ R1 q)
/-- one's own list against [] -/
def dNeNil (i : Nat) : DT := fun s P => dListVar i s fun ds s1 => P (!ds.isEmpty) s1
end DL

set_option Elab.async false
set_option linter.all false
set_option maxRecDepth 100000
set_option maxHeartbeats 4000000
/-! DLc: statements, calls, defs told by data alone. -/
namespace DL
open PySem PySem.Spec PyProof.Rows L2 GG DD PT
variable {K : PySem.W.Frag}
/-! ### calls -/
def ArgOk (K : PySem.W.Frag) (W : Wo) (S : Addr → Prop) (H : Hp) (v : V) : DV → Prop
  | .dat d => Da K (Hd S H) v d
  | .deck => ∃ p l, W = some (p, l) ∧ v = .ref p
  | _ => False
inductive ArgsOk (K : PySem.W.Frag) (W : Wo) (S : Addr → Prop) (H : Hp) : List V → List DV → Prop
  | nil : ArgsOk K W S H [] []
  | cons {v : V} {vs : List V} {a : DV} {as : List DV} : ArgOk K W S H v a → ArgsOk K W S H vs as → ArgsOk K W S H (v :: vs) (a :: as)
theorem ArgsOk.len {W : Wo} {S : Addr → Prop} {H : Hp} : ∀ {vs : List V} {as : List DV}, ArgsOk K W S H vs as → vs.length = as.length
  | _, _, .nil => rfl
  | _, _, .cons _ h => by rw [List.length_cons, List.length_cons, ArgsOk.len h]
/-- what a def does, by data: its arguments, the draws so far, what is wished -/
abbrev FD := List DV → Nat → (PyData → Nat → Prop) → Prop
/-- the promise of a def that does F and has m parameters -/
def spOf (K : PySem.W.Frag) (m : Nat) (F : FD) : Sp := fun vs H Q _ => vs.length = m ∧ ∃ (W : Wo) (S0 : Addr → Prop) (n : Nat) (as : List DV) (P : PyData → Nat → Prop), Taken H S0 ∧ DkOk W H n ∧ (∀ b, Mu W b → S0 b) ∧ ArgsOk K W S0 H vs as ∧ F as n P ∧
  ∀ v H' d n', P d n' → DkOk W H' n' → ButW W H H' → Da K (Hd S0 H') v d → Q v H'
def XX (C : DC) (ta : TA) (s : DSt) (P : List DV → DSt → Prop) : Prop := ∀ (σ : L2.St) (H : Hp) (Q : List V → Hp → Prop), Rl C σ H s → (∀ vs H' as s', P as s' → Rl C σ H' s' → ArgsOk C.K C.W (Sof C σ s'.sl) H' vs as → Q vs H') → ta σ H Q
def RX (K : PySem.W.Frag) (ta : TA) (dx : DX) : Prop := ∀ C : DC, C.K = K → ∀ s P, dx s P → XX C ta s P
def xNil : DX := fun s P => P [] s
def xCons (de : DE) (da : DX) : DX := fun s P => de s fun d s1 => da s1 fun ds s2 => P (.dat d :: ds) s2
/-- the deck, from slot i -/
def xDeck (i : Nat) (da : DX) : DX := fun s P => match s.sl[i]? with
  | some .deck => da s fun ds s2 => P (.deck :: ds) s2
  | _ => False
theorem rx_nil : RX K tNil xNil := fun C _ s P h σ H Q R q => q [] H [] s h R .nil
theorem rx_cons {te : TE} {ta : TA} {de : DE} {da : DX} (h1 : RE K te de) (h2 : RX K ta da) : RX K (tCons te ta) (xCons de da) := fun C hC s P hd σ H Q R q =>
  rd_cons (h1 C hC s _ hd σ H _ R fun v H1 d s1 hd1 R1 hv => h2 (C.keep v d) hC s1 _ hd1 σ H1 _ (R1.keep hv) fun vs H2 ds s2 hp R2 hvs => by
    obtain ⟨R3, hv3⟩ := R2.kept
    exact q (v :: vs) H2 (.dat d :: ds) s2 hp R3 (.cons hv3 hvs))
theorem rx_deck {i : Nat} {ta : TA} {da : DX} (h2 : RX K ta da) : RX K (tCons (tVar i) ta) (xDeck i da) := fun C hC s P hd σ H Q R q => by
  unfold xDeck at hd
  split at hd
  · rename_i e
    obtain ⟨sl, h1, p, l, hW, rfl⟩ := R.slots i _ e
    exact rd_cons (rd_var h1 (h2 C hC s _ hd σ H _ R fun vs H2 ds s2 hp R2 hvs => q (.ref p :: vs) H2 (.deck :: ds) s2 hp R2 (.cons ⟨p, l, hW, rfl⟩ hvs)))
  · exact hd.elim
def dCall (m : Nat) (F : FD) (da : DX) : DE := fun s P => da s fun as s1 => as.length = m ∧ F as s1.n fun d n' => P d ⟨s1.sl, n'⟩
theorem re_call {m : Nat} {F : FD} {ta : TA} {da : DX} (h : RX K ta da) : RE K (tCall (spOf K m F) [] E0 ta) (dCall m F da) := fun C hC s P hd σ H Q R q =>
  rd_call (h C hC s _ hd σ H _ R fun vs H1 as s1 hp R1 hv => by
    subst hC
    refine ⟨by rw [List.append_nil, hv.len]; exact hp.1, C.W, Sof C σ s1.sl, s1.n, as, _, R1.taken, R1.dk, fun b hb => .inr (.inl hb), by rw [List.append_nil]; exact hv, hp.2, fun v H' d n' hP hD hB hda => ?_⟩
    exact q v H' d ⟨s1.sl, n'⟩ hP (R1.step hB hD) hda)
/-! ### statements -/
structure DEnds where
  nx : DSt → Prop
  rt : PyData → DSt → Prop
  bk : DSt → Prop := fun _ => False
  ct : DSt → Prop := fun _ => False
abbrev DS := DEnds → DSt → Prop
structure EndsOk (C : DC) (E : DEnds) (D : Ends) : Prop where
  nx : ∀ σ H s, E.nx s → Rl C σ H s → D.nx σ H
  rt : ∀ σ v H d s, E.rt d s → Rl C σ H s → Da C.K (Hd (Sof C σ s.sl) H) v d → D.rt v H
  bk : ∀ σ H s, E.bk s → Rl C σ H s → D.bk σ H
  ct : ∀ σ H s, E.ct s → Rl C σ H s → D.ct σ H
def RS (K : PySem.W.Frag) (t : TS) (d : DS) : Prop := ∀ C : DC, C.K = K → ∀ (E : DEnds) (s : DSt), d E s → ∀ (σ : L2.St) (H : Hp) (D : Ends), Rl C σ H s → EndsOk C E D → t D σ H
def dNext : DS := fun E s => E.nx s
theorem rs_next : RS K tNext dNext := fun C _ E s h σ H D R o => o.nx σ H s h R
def dSeq (a b : DS) : DS := fun E s => a { E with nx := b E } s
theorem rs_seq {a b : TS} {da db : DS} (h1 : RS K a da) (h2 : RS K b db) : RS K (tSeq a b) (dSeq da db) := fun C hC E s h σ H D R o =>
  rd_seq (h1 C hC _ s h σ H _ R ⟨fun σ' H' s' h' R' => h2 C hC E s' h' σ' H' D R' o, o.rt, o.bk, o.ct⟩)
def dSet (de : DE) (i : Nat) : DS := fun E s => de s fun d s1 => E.nx ⟨s1.sl.set i (.dat d), s1.n⟩
theorem rs_set {te : TE} {i : Nat} {de : DE} (h : RE K te de) : RS K (tAsg te (gName i)) (dSet de i) := fun C hC E s hd σ H D R o =>
  h C hC s _ hd σ H _ R fun v H1 d s1 hp R1 hv => o.nx _ H1 _ hp (R1.set hv)
/-- a new list as one's own -/
def dSetO (dl : DA) (i : Nat) : DS := fun E s => dl s fun ds s1 => i < s1.sl.length ∧ E.nx ⟨s1.sl.set i (.own ds), s1.n⟩
theorem rs_setO {te : TE} {i : Nat} {dl : DA} (h : RF K te dl) : RS K (tAsg te (gName i)) (dSetO dl i) := fun C hC E s hd σ H D R o =>
  h C hC s _ hd σ H _ R fun a vs H1 ds s1 hp R1 na hv => o.nx _ _ _ hp.2 (R1.setOwn na hp.1 rfl fun S' hs => ⟨a, vs, rfl, upd_same, hv.of hs⟩)
def dIf (c : DT) (a b : DS) : DS := fun E s => c s fun b' s1 => if b' = true then a E s1 else b E s1
theorem rs_if {tc : TT} {a b : TS} {dc : DT} {da db : DS} (hc : RT K tc dc) (h1 : RS K a da) (h2 : RS K b db) : RS K (tIfS tc a b) (dIf dc da db) := fun C hC E s hd σ H D R o =>
  rd_ifS (hc C hC s _ hd σ H _ R fun c H1 s1 hp R1 => by
    cases c with
    | true => exact pT rfl (h1 C hC E s1 (by simpa using hp) σ H1 D R1 o)
    | false => exact pF (by decide) (h2 C hC E s1 (by simpa using hp) σ H1 D R1 o))
def dRet (de : DE) : DS := fun E s => de s E.rt
theorem rs_ret {te : TE} {de : DE} (h : RE K te de) : RS K (tRet te) (dRet de) := fun C hC E s hd σ H D R o =>
  rd_ret (h C hC s _ hd σ H _ R fun v H1 d s1 hp R1 hv => o.rt σ v H1 d s1 hp R1 hv)
def dDrop (de : DE) : DS := fun E s => de s fun _ s1 => E.nx s1
theorem rs_drop {te : TE} {de : DE} (h : RE K te de) : RS K (tDrop te) (dDrop de) := fun C hC E s hd σ H D R o =>
  h C hC s _ hd σ H _ R fun v H1 d s1 hp R1 hv => o.nx σ H1 s1 hp R1
/-- one's own thing is data from here on -/
def dFreeze (i : Nat) (b : DS) : DS := fun E s => match s.sl[i]? with
  | some (.own ds) => b E ⟨s.sl.set i (.dat (.list ds)), s.n⟩
  | some (.owd kvs) => b E ⟨s.sl.set i (.dat (.dict kvs)), s.n⟩
  | some (.dat _) => b E s
  | _ => False
theorem rs_freeze {i : Nat} {t : TS} {b : DS} (h : RS K t b) : RS K t (dFreeze i b) := fun C hC E s hd σ H D R o => by
  unfold dFreeze at hd
  split at hd
  · rename_i ds e
    exact h C hC E _ hd σ H D (R.freeze e (.inl ⟨ds, rfl, rfl⟩)) o
  · rename_i kvs e
    exact h C hC E _ hd σ H D (R.freeze e (.inr ⟨kvs, rfl, rfl⟩)) o
  · exact h C hC E s hd σ H D R o
  · exact hd.elim
/-- a, b = x, y -/
def dPar (i j : Nat) (da : DA) : DS := fun E s => da s fun ds s1 => match ds with
  | [d, e] => E.nx ⟨(s1.sl.set i (.dat d)).set j (.dat e), s1.n⟩
  | _ => False
theorem rs_par {i j : Nat} {ta : TA} {da : DA} (h : RA K ta da) : RS K (tPar i j ta) (dPar i j da) := fun C hC E s hd σ H D R o =>
  h C hC s _ hd σ H _ R fun vs H1 ds s1 hp R1 hv => by
    match ds, hp, hv with
    | [d, e], hp, .cons (v := v) h1 (.cons (v := w) h2 .nil) =>
      have R2 := (R1.keep (v := w) h2).set (i := i) h1
      obtain ⟨R3, h3⟩ := R2.kept
      exact ⟨v, w, rfl, o.nx _ H1 _ hp (R3.set h3)⟩
/-! ### defs -/
theorem rl_start {W : Wo} {S0 : Addr → Prop} {H : Hp} {n : Nat} {vs : List V} {as : List DV} (m : Nat) (T : Taken H S0) (dk : DkOk W H n) (hm : ∀ b, Mu W b → S0 b) (ha : ArgsOk K W S0 H vs as) :
    Rl ⟨K, W, S0, H, fun _ _ => False, fun _ _ => False⟩ (vs.map some ++ List.replicate m none) H ⟨as ++ List.replicate m .un, n⟩ := by
  have no : ∀ {vs : List V} {as : List DV}, ArgsOk K W S0 H vs as → ∀ (i : Nat) (dv : DV), (as ++ List.replicate m .un)[i]? = some dv → isOwn dv = true → False := by
    intro vs as ha
    induction ha with
    | nil =>
      intro i dv h ho
      rw [List.nil_append] at h
      have := List.eq_of_mem_replicate (List.mem_of_getElem? h)
      subst this
      cases ho
    | @cons v vs a as h1 h2 ih =>
      intro i dv h ho
      cases i with
      | zero =>
        simp at h
        subst h
        cases a <;> first | exact h1.elim | cases ho
      | succ i => exact ih i dv (by simpa using h) ho
  have sof : ∀ b, Sof ⟨K, W, S0, H, fun _ _ => False, fun _ _ => False⟩ (vs.map some ++ List.replicate m none) (as ++ List.replicate m .un) b → S0 b := fun b h => by
    rcases h with h | h | ⟨i, dv, h1, h2, h3⟩
    · exact h
    · exact hm b h
    · exact (no ha i dv h1 h2).elim
  refine ⟨?_, ?_, fun i j a dv ev h1 _ h3 => (no ha i dv h1 h3).elim, fun i a dv h1 h2 => (no ha i dv h1 h2).elim, dk, ButW.refl _ _, T, fun _ _ h => h.elim, fun _ _ h => h.elim⟩
  · rw [List.length_append, List.length_append, List.length_map, List.length_replicate, List.length_replicate, ha.len]
  · have hs := hd_mono (S := S0) (S' := Sof ⟨K, W, S0, H, fun _ _ => False, fun _ _ => False⟩ (vs.map some ++ List.replicate m none) (as ++ List.replicate m .un)) (H := H) sof
    generalize Sof ⟨K, W, S0, H, fun _ _ => False, fun _ _ => False⟩ (vs.map some ++ List.replicate m none) (as ++ List.replicate m .un) = S at hs
    clear sof
    induction ha with
    | nil =>
      intro i dv h
      rw [List.nil_append] at h
      have := List.eq_of_mem_replicate (List.mem_of_getElem? h)
      subst this
      have hi : i < m := by
        have := (List.getElem?_eq_some_iff.mp h).1
        rw [List.length_replicate] at this
        exact this
      exact ⟨none, by simp [hi], trivial⟩
    | @cons v vs a as h1 h2 ih =>
      intro i dv h
      cases i with
      | zero =>
        simp at h
        subst h
        refine ⟨some v, by simp, ?_⟩
        cases a with
        | dat d => exact ⟨v, rfl, Da.of h1 hs⟩
        | deck =>
          obtain ⟨p, l, e1, e2⟩ := h1
          exact ⟨p, l, e1, by rw [e2]⟩
        | _ => exact h1.elim
      | succ i =>
        obtain ⟨sl, q1, q2⟩ := ih i dv (by simpa using h)
        exact ⟨sl, by simpa using q1, q2⟩
/-- a def's body, by data -/
def bodyD (d : DS) (m : Nat) : FD := fun as n P => d { nx := fun s => P .none s.n, rt := fun v s => P v s.n } ⟨as ++ List.replicate m .un, n⟩
theorem body_ok {t : TS} {d : DS} {N : List Str} {k : Nat} (h : RS K t d) {vs : List V} {H : Hp} {Q : VK} (hsp : spOf K k (bodyD d (N.length - k)) vs H Q E0) : t { nx := fun _ H' => Q .non H', rt := Q } (L2.start N vs) H := by
  obtain ⟨hl, W, S0, n, as, P, T, dk, hm, ha, hF, q⟩ := hsp
  unfold L2.start
  rw [hl]
  refine h ⟨K, W, S0, H, fun _ _ => False, fun _ _ => False⟩ rfl _ _ hF _ H _ (rl_start _ T dk hm ha) ⟨fun σ H' s hp R => ?_, fun σ v H' d s hp R hv => ?_, fun _ _ _ h => h.elim, fun _ _ _ h => h.elim⟩
  · exact q _ H' _ _ hp R.dk R.but .non
  · exact q v H' d s.n hp R.dk R.but (hv.of (hd_mono fun b hb => .inl hb))
section
variable {P : Program} {w : World} {mg : Str → Option Value} {base : Heap} {k : Nat} {f : Addr} {fd : FuncData} {ps : List Str}
/-- a def does what its body does -/
theorem okd {x qual : Str} {st : Stmt} {N : List Str} {d : DS} {m : Nat} (hm : ps.length = m) (F : L2.Fun K x qual st f fd) (S : FnScope N ps (defScope st))
    (body : ∀ (cdv : Value) (A : Around) (outer : List Env) (s : Shared) (H : Hp), Rm k (A.deeper (envOfC qual (defScope st) s.heap.objs.size f cdv)) →
      ∃ t, PSs (cxOf CX0 P w K mg base N qual (defScope st) f cdv A outer s H E0).nox (defBody st) t ∧ RS K t d) :
    Fg P w K mg base (k + 1) f fd ps (spOf K m (bodyD d (N.length - m))) :=
  okg F S (fun vs H Q h => by rw [h.1]; exact hm.symm) fun cdv A outer s H vs Q hr h => by
    obtain ⟨t, h1, h2⟩ := body cdv A outer s H hr
    exact ⟨t, h1, body_ok h2 h⟩
end
end DL

set_option Elab.async false
set_option linter.all false
set_option maxRecDepth 100000
set_option maxHeartbeats 4000000
/-! DLd: loops and comprehensions told by data alone. -/
namespace DL
open PySem PySem.Spec PyProof.Rows L2 GG DD PT
def DC.more (C : DC) (G' : V → PyData → Prop) : DC := { C with G := fun x y => C.G x y ∨ G' x y }
section
variable {C : DC} {σ : L2.St} {H : Hp} {s : DSt}
theorem Rl.more (R : Rl C σ H s) {G' : V → PyData → Prop} (h : ∀ v d, G' v d → Da C.K (Hd (Sof C σ s.sl) H) v d) : Rl (C.more G') σ H s :=
  ⟨R.len, R.slots, R.nd, R.fr, R.dk, R.but, R.tk, fun x y z => z.elim (R.gh x y) (h x y), R.fz⟩
theorem Rl.less {G' : V → PyData → Prop} (R : Rl (C.more G') σ H s) : Rl C σ H s := ⟨R.len, R.slots, R.nd, R.fr, R.dk, R.but, R.tk, fun x y z => R.gh x y (.inl z), R.fz⟩
end
/-- data, or (w) a tuple of data that was made on the way -/
def DaF (w : Bool) (K : PySem.W.Frag) (S : Addr → Prop) (H : Hp) (v : V) (d : PyData) : Prop := Da K (Hd S H) v d ∨ (w = true ∧ ∃ a vs ds, v = .ref a ∧ d = .tuple ds ∧ SqT K H a vs ∧ DaAll K (Hd S H) vs ds)
theorem DaF.da {K : PySem.W.Frag} {S : Addr → Prop} {H : Hp} {v : V} {d : PyData} (h : DaF false K S H v d) : Da K (Hd S H) v d := h.elim id fun z => by cases z.1
theorem DaF.tup {w : Bool} {K : PySem.W.Frag} {S : Addr → Prop} {H : Hp} {v : V} {ds : List PyData} (h : DaF w K S H v (.tuple ds)) : ∃ a vs, v = .ref a ∧ SqT K H a vs ∧ DaAll K (Hd S H) vs ds := by
  rcases h with h | ⟨_, a, vs, es, e1, e2, h1, h2⟩
  · exact da_tup h
  · cases e2
    exact ⟨a, vs, e1, h1, h2⟩
/-- an iterator yields these items, as long as the data of G' stands -/
def ItOk (w : Bool) (K : PySem.W.Frag) (G' : V → PyData → Prop) (J : It) (items : List PyData) : Prop := ∀ C : DC, C.K = K → (∀ v d, G' v d → C.G v d) → ∀ (σ : L2.St) (H : Hp) (s : DSt), Rl C σ H s → J.stop items.length H ∧
  ∀ (i : Nat) (d : PyData), items[i]? = some d → J.go i H ∧ ∀ x H', J.yld i H x H' → Rl C σ H' s ∧ Same H H' ∧ DaF w C.K (Sof C σ s.sl) H' x d
def XI (w : Bool) (C : DC) (wi : TI) (s : DSt) (P : List PyData → DSt → Prop) : Prop := ∀ (σ : L2.St) (H : Hp) (R0 : It → Hp → Prop), Rl C σ H s → (∀ J H' items s' G', P items s' → Rl (C.more G') σ H' s' → ItOk w C.K G' J items → R0 J H') → wi σ H R0
def RI (w : Bool) (K : PySem.W.Frag) (wi : TI) (di : DA) : Prop := ∀ C : DC, C.K = K → ∀ s P, di s P → XI w C wi s P
variable {K : PySem.W.Frag}
theorem ri_list {te : TE} {de : DE} (h : RE K te de) : RI false K (iList K te) (dAsL de) := fun C hC s P hd σ H R0 R q =>
  rd_ilist (h C hC s _ hd σ H _ R fun v H1 d s1 hp R1 hv => by
    cases d with
    | list ds =>
      obtain ⟨a, vs, rfl, k1, k2⟩ := da_list hv
      refine ⟨a, rfl, ⟨vs, sq k1⟩, q _ H1 ds s1 (fun x y => x = .ref a ∧ y = .list ds) hp (R1.more fun x y z => by
        obtain ⟨rfl, rfl⟩ := z
        exact hv) ?_⟩
      intro C' hK hG σ' H' s' R'
      obtain ⟨b, us, e, k3, k4⟩ := da_list (R'.gh _ _ (hG _ _ ⟨rfl, rfl⟩))
      cases e
      refine ⟨⟨us, sq k3, by rw [k4.len]; exact Nat.le_refl _⟩, fun i d hi => ?_⟩
      obtain ⟨u, hu, hud⟩ := k4.getD hi
      refine ⟨⟨us, u, sq k3, hu⟩, fun x H2 hy => ?_⟩
      obtain ⟨rfl, hy⟩ := hy
      have e := hy us (sq k3)
      rw [hu] at e
      cases e
      exact ⟨R', Same.refl _, .inl hud⟩
    | _ => exact hp.elim)
theorem ri_tup {te : TE} {de : DE} (h : RE K te de) : RI false K (iTup K te) (dAsU de) := fun C hC s P hd σ H R0 R q => by
  refine h C hC s _ hd σ H _ R fun v H1 d s1 hp R1 hv => ?_
  cases d with
  | tuple ds =>
    obtain ⟨a, vs, rfl, k1, k2⟩ := da_tup hv
    subst hC
    refine ⟨a, rfl, ⟨vs, k1⟩, q _ H1 ds s1 (fun x y => x = .ref a ∧ y = .tuple ds) hp (R1.more fun x y z => by
      obtain ⟨rfl, rfl⟩ := z
      exact hv) ?_⟩
    intro C' hK hG σ' H' s' R'
    obtain ⟨b, us, e, k3, k4⟩ := da_tup (R'.gh _ _ (hG _ _ ⟨rfl, rfl⟩))
    cases e
    rw [hK] at k3
    refine ⟨⟨us, k3, by rw [k4.len]; exact Nat.le_refl _⟩, fun i d hi => ?_⟩
    obtain ⟨u, hu, hud⟩ := k4.getD hi
    refine ⟨⟨us, u, k3, hu⟩, fun x H2 hy => ?_⟩
    obtain ⟨rfl, hy⟩ := hy
    have e := hy us k3
    rw [hu] at e
    cases e
    exact ⟨R', Same.refl _, .inl hud⟩
  | _ => exact hp.elim
def rngD (lo : Int) (n : Nat) : List PyData := (List.range n).map fun k => .int (lo + (k : Nat))
theorem it_rng (lo : Int) (n : Nat) : ItOk false K (fun _ _ => False) (Itr lo n) (rngD lo n) := fun C hK hG σ H s R => by
  unfold rngD
  refine ⟨by rw [List.length_map, List.length_range]; exact Nat.le_refl n, fun i d hi => ?_⟩
  rw [List.getElem?_map] at hi
  have hlt : i < n := by
    cases e : (List.range n)[i]? with
    | none => rw [e] at hi; cases hi
    | some k =>
      have := (List.getElem?_eq_some_iff.mp e).1
      rw [List.length_range] at this
      exact this
  rw [List.getElem?_range hlt] at hi
  cases hi
  refine ⟨hlt, fun x H' hy => ?_⟩
  obtain ⟨rfl, rfl⟩ := hy
  exact ⟨R, Same.refl _, .inl (.int _)⟩
def dRng1 (de : DE) : DA := fun s P => de s fun d s1 => match d with
  | .int j => -(2 ^ 62) ≤ j ∧ j < 2 ^ 62 ∧ P (rngD 0 j.toNat) s1
  | _ => False
theorem ri_rng1 {te : TE} {de : DE} (h : RE K te de) : RI false K (iRng1 (tCons te tNil)) (dRng1 de) := fun C hC s P hd σ H R0 R q =>
  rd_rng1 (rd_cons (h C hC s _ hd σ H _ R fun v H1 d s1 hp R1 hv => by
    cases d with
    | int j =>
      cases hv
      exact rd_nil ⟨j, rfl, hp.1, hp.2.1, q _ H1 _ s1 (fun _ _ => False) hp.2.2 (R1.more fun _ _ z => z.elim) (it_rng 0 _)⟩
    | _ => exact hp.elim))
def dRng2 (de df : DE) : DA := fun s P => de s fun d s1 => df s1 fun e s2 => match d, e with
  | .int i, .int j => (-(2 ^ 62) ≤ i ∧ i < 2 ^ 62 ∧ -(2 ^ 62) ≤ j ∧ j < 2 ^ 62) ∧ P (rngD i (j - i).toNat) s2
  | _, _ => False
theorem ri_rng2 {te tf : TE} {de df : DE} (h : RE K te de) (h2 : RE K tf df) : RI false K (iRng2 (tCons te (tCons tf tNil))) (dRng2 de df) := fun C hC s P hd σ H R0 R q => by
  refine rd_cons (Q := fun vs H1 => ∃ i j : Int, vs = [.int i, .int j] ∧ (-(2 ^ 62) ≤ i ∧ i < 2 ^ 62 ∧ -(2 ^ 62) ≤ j ∧ j < 2 ^ 62) ∧ R0 (Itr i (j - i).toNat) H1) (h C hC s _ hd σ H _ R fun v H1 d s1 hd1 R1 hv => rd_cons (h2 C hC s1 _ hd1 σ H1 _ R1 fun w H2 e s2 hp R2 hw => ?_))
  split at hp
  · cases hv
    cases hw
    exact rd_nil ⟨_, _, rfl, hp.1, q _ H2 _ s2 (fun _ _ => False) hp.2 (R2.more fun _ _ z => z.elim) (it_rng _ _)⟩
  · exact hp.elim
/-- enumerate(xs) -/
def enumD (ds : List PyData) : List PyData := ds.zipIdx.map fun p => .tuple [.int (p.2 : Nat), p.1]
theorem enum_get {ds : List PyData} {i : Nat} {d : PyData} (h : (enumD ds)[i]? = some d) : ∃ x, ds[i]? = some x ∧ d = .tuple [.int (i : Nat), x] := by
  unfold enumD at h
  rw [List.getElem?_map, List.getElem?_zipIdx] at h
  cases e : ds[i]? with
  | none => rw [e] at h; cases h
  | some x =>
    rw [e] at h
    exact ⟨x, rfl, by simpa using h.symm⟩
theorem enum_len {ds : List PyData} : (enumD ds).length = ds.length := by unfold enumD; rw [List.length_map, List.length_zipIdx]
def dEnum (de : DE) : DA := fun s P => de s fun d s1 => match d with
  | .list ds => P (enumD ds) s1
  | _ => False
theorem ri_enum {te : TE} {de : DE} (h : RE K te de) : RI true K (iEnum K (tCons te tNil)) (dEnum de) := fun C hC s P hd σ H R0 R q =>
  rd_enum (rd_cons (h C hC s _ hd σ H _ R fun v H1 d s1 hp R1 hv => by
    cases d with
    | list ds =>
      obtain ⟨a, vs, rfl, k1, k2⟩ := da_list hv
      refine rd_nil ⟨a, vs, rfl, sq k1, q _ H1 (enumD ds) s1 (fun x y => x = .ref a ∧ y = .list ds) hp (R1.more fun x y z => by
        obtain ⟨rfl, rfl⟩ := z
        exact hv) ?_⟩
      intro C' hK hG σ' H' s' R'
      obtain ⟨b, us, e, k3, k4⟩ := da_list (R'.gh _ _ (hG _ _ ⟨rfl, rfl⟩))
      cases e
      refine ⟨⟨us, sq k3, by rw [k4.len, enum_len]; exact Nat.le_refl _⟩, fun i d hi => ?_⟩
      obtain ⟨x0, hx0, rfl⟩ := enum_get hi
      obtain ⟨u, hu, hud⟩ := k4.getD hx0
      refine ⟨⟨us, u, sq k3, hu⟩, fun x H2 hy => ?_⟩
      obtain ⟨T, z, rfl, nT, rfl, hy⟩ := hy
      have e := hy us (sq k3)
      rw [hu] at e
      cases e
      exact ⟨R'.ext (same_upd nT), same_upd nT, .inr ⟨rfl, T, _, _, rfl, rfl, sqt upd_same, .cons (.int _) (.cons (hud.of (R'.kp nT)) .nil)⟩⟩
    | _ => exact hp.elim))
/-- zip(xs, ys) -/
def zipD (xs ys : List PyData) : List PyData := (xs.zip ys).map fun p => .tuple [p.1, p.2]
def dZip (de df : DE) : DA := fun s P => de s fun d s1 => df s1 fun e s2 => match d, e with
  | .list xs, .list ys => P (zipD xs ys) s2
  | _, _ => False
theorem ri_zip {te tf : TE} {de df : DE} (h : RE K te de) (h2 : RE K tf df) : RI true K (iZip K (tCons te (tCons tf tNil))) (dZip de df) := fun C hC s P hd σ H R0 R q =>
  rd_zip (rd_cons (h C hC s _ hd σ H _ R fun v H1 d s1 hd1 R1 hv => rd_cons (h2 (C.keep v d) hC s1 _ hd1 σ H1 _ (R1.keep hv) fun w H2 e s2 hp R2 hw => by
    obtain ⟨R3, hv3⟩ := R2.kept
    split at hp
    · rename_i xs ys
      obtain ⟨a, vs, rfl, k1, k2⟩ := da_list hv3
      obtain ⟨b, us, rfl, k3, k4⟩ := da_list hw
      refine rd_nil ⟨a, b, vs, us, rfl, sq k1, sq k3, q _ H2 (zipD xs ys) s2 (fun x y => (x = .ref a ∧ y = .list xs) ∨ (x = .ref b ∧ y = .list ys)) hp (R3.more fun x y z => by
        rcases z with ⟨rfl, rfl⟩ | ⟨rfl, rfl⟩
        · exact hv3
        · exact hw) ?_⟩
      intro C' hK hG σ' H' s' R'
      obtain ⟨a', vs', e1, j1, j2⟩ := da_list (R'.gh _ _ (hG _ _ (.inl ⟨rfl, rfl⟩)))
      cases e1
      obtain ⟨b', us', e2, j3, j4⟩ := da_list (R'.gh _ _ (hG _ _ (.inr ⟨rfl, rfl⟩)))
      cases e2
      refine ⟨⟨vs', us', sq j1, sq j3, ?_⟩, fun i d hi => ?_⟩
      · unfold zipD
        rw [List.length_map, List.length_zip, j2.len, j4.len]
        omega
      · unfold zipD at hi
        rw [List.getElem?_map] at hi
        cases ez : (xs.zip ys)[i]? with
        | none => rw [ez] at hi; cases hi
        | some pr =>
          rw [ez] at hi
          cases hi
          obtain ⟨x0, y0⟩ := pr
          obtain ⟨z1, z2⟩ := List.getElem?_zip_eq_some.mp ez
          obtain ⟨u1, hu1, hd1⟩ := j2.getD z1
          obtain ⟨u2, hu2, hd2⟩ := j4.getD z2
          refine ⟨⟨vs', us', u1, u2, sq j1, sq j3, hu1, hu2⟩, fun x H3 hy => ?_⟩
          obtain ⟨T, p1, p2, rfl, nT, rfl, y1, y2⟩ := hy
          have e1 := y1 vs' (sq j1)
          have e2 := y2 us' (sq j3)
          rw [hu1] at e1
          rw [hu2] at e2
          cases e1
          cases e2
          exact ⟨R'.ext (same_upd nT), same_upd nT, .inr ⟨rfl, T, _, _, rfl, rfl, sqt upd_same, .cons (hd1.of (R'.kp nT)) (.cons (hd2.of (R'.kp nT)) .nil)⟩⟩
    · exact hp.elim)))
/-! ### targets -/
abbrev DG := PyData → (DSt → Prop) → DSt → Prop
def RG (w : Bool) (K : PySem.W.Frag) (g : TG) (dg : DG) : Prop := ∀ C : DC, C.K = K → ∀ (d : PyData) (N : DSt → Prop) (s : DSt), dg d N s → ∀ (σ : L2.St) (H : Hp) (v : V) (N0 : L2.St → Hp → Prop), Rl C σ H s → DaF w C.K (Sof C σ s.sl) H v d → (∀ σ' s', N s' → Rl C σ' H s' → N0 σ' H) → g v σ H N0
def gdN (i : Nat) : DG := fun d N s => N ⟨s.sl.set i (.dat d), s.n⟩
theorem rg_name {i : Nat} : RG false K (gName i) (gdN i) := fun C hC d N s h σ H v N0 R hv q => q _ _ h (R.set hv.da)
abbrev DGs := List PyData → (DSt → Prop) → DSt → Prop
def RGs (K : PySem.W.Frag) (g : TGs) (dg : DGs) : Prop := ∀ C : DC, C.K = K → ∀ (ds : List PyData) (N : DSt → Prop) (s : DSt), dg ds N s → ∀ (σ : L2.St) (H : Hp) (vs : List V) (N0 : L2.St → Hp → Prop), Rl C σ H s → DaAll C.K (Hd (Sof C σ s.sl) H) vs ds → (∀ σ' s', N s' → Rl C σ' H s' → N0 σ' H) → g vs σ H N0
def gdNil : DGs := fun ds N s => ds = [] ∧ N s
def gdCons (a : DG) (b : DGs) : DGs := fun ds N s => match ds with
  | d :: r => a d (fun s1 => b r N s1) s
  | [] => False
theorem rgs_nil : RGs K gNil gdNil := fun C hC ds N s h σ H vs N0 R hv q => by
  obtain ⟨rfl, h⟩ := h
  cases hv
  exact ⟨rfl, q _ _ h R⟩
def pairG (vs : List V) (ds : List PyData) : V → PyData → Prop := fun x y => ∃ i : Nat, vs[i]? = some x ∧ ds[i]? = some y
theorem pair_da {H : Hp} : ∀ {vs : List V} {ds : List PyData}, DaAll K H vs ds → ∀ x y, pairG vs ds x y → Da K H x y := fun h x y ⟨i, h1, h2⟩ => by
  obtain ⟨d, e, hd⟩ := h.get h1
  rw [h2] at e
  cases e
  exact hd
theorem da_pair {H : Hp} : ∀ {vs : List V} {ds : List PyData}, vs.length = ds.length → (∀ x y, pairG vs ds x y → Da K H x y) → DaAll K H vs ds
  | [], [], _, _ => .nil
  | v :: vs, d :: ds, hl, h => .cons (h v d ⟨0, rfl, rfl⟩) (da_pair (by simpa using hl) fun x y ⟨i, h1, h2⟩ => h x y ⟨i + 1, by simpa using h1, by simpa using h2⟩)
  | [], _ :: _, hl, _ => by cases hl
  | _ :: _, [], hl, _ => by cases hl
theorem rgs_cons {t : TG} {u : TGs} {a : DG} {b : DGs} (h1 : RG false K t a) (h2 : RGs K u b) : RGs K (gCons t u) (gdCons a b) := fun C hC ds N s h σ H vs N0 R hv q => by
  cases hv with
  | nil => exact h.elim
  | @cons v r d ds' hv hr =>
    refine ⟨v, r, rfl, ?_⟩
    refine h1 (C.more (pairG r ds')) hC d _ s h σ H v _ (R.more (pair_da hr)) (.inl hv) fun σ' s' hn R' => ?_
    refine h2 C hC ds' N s' hn σ' H r N0 R'.less (da_pair hr.len fun x y z => R'.gh x y (.inr z)) q
def gdTup (n : Nat) (g : DGs) : DG := fun d N s => match d with
  | .tuple ds => ds.length = n ∧ g ds N s
  | _ => False
theorem rg_tup {w : Bool} {n : Nat} {t : TGs} {g : DGs} (h : RGs K t g) : RG w K (gTup K n t) (gdTup n g) := fun C hC d N s hd σ H v N0 R hv q => by
  cases d with
  | tuple ds =>
    obtain ⟨a, vs, rfl, k1, k2⟩ := hv.tup
    exact ⟨a, vs, rfl, hC ▸ k1, by rw [k2.len]; exact hd.1, h C hC ds N s hd.2 σ H vs N0 R k2 q⟩
  | _ => exact hd.elim
/-! ### for -/
def dLoop (g : DG) (b : DS) (E : DEnds) : List PyData → DSt → Prop
  | [], s => E.nx s
  | d :: ds, s => g d (fun s1 => b { nx := fun s2 => dLoop g b E ds s2, rt := E.rt, ct := fun s2 => dLoop g b E ds s2, bk := E.nx } s1) s
def dFor (di : DA) (g : DG) (b : DS) : DS := fun E s => di s fun items s1 => dLoop g b E items s1
theorem rs_for {w : Bool} {wi : TI} {g : TG} {tb : TS} {di : DA} {dg : DG} {db : DS} (hi : RI w K wi di) (hg : RG w K g dg) (hb : RS K tb db) : RS K (tFor wi g tb) (dFor di dg db) := fun C hC E s hd σ H D R o =>
  rd_for (hi C hC s _ hd σ H _ R fun J H1 items s1 G' hp R1 ok => by
    refine for_in items.length (fun i σ' H' => ∃ s', Rl (C.more G') σ' H' s' ∧ dLoop dg db E (items.drop i) s') ⟨s1, R1, hp⟩ (fun σ' H' ⟨s', R', h⟩ => ?_) fun i σ' H' hlt ⟨s', R', h⟩ => ?_
    · rw [List.drop_length] at h
      exact ⟨(ok (C.more G') rfl (fun _ _ z => .inr z) σ' H' s' R').1, o.nx _ _ _ h R'.less⟩
    · obtain ⟨d, hd⟩ : ∃ d, items[i]? = some d := ⟨_, List.getElem?_eq_getElem hlt⟩
      obtain ⟨k1, k2⟩ := (ok (C.more G') rfl (fun _ _ z => .inr z) σ' H' s' R').2 i d hd
      refine ⟨k1, fun N hN x H2 hy => ?_⟩
      obtain ⟨R2, s2, hx⟩ := k2 x H2 hy
      have e : items.drop i = d :: items.drop (i + 1) := by
        rw [List.drop_eq_getElem_cons hlt]
        rw [List.getElem?_eq_getElem hlt] at hd
        rw [Option.some.inj hd]
      rw [e] at h
      refine hg (C.more G') hC d _ s' h σ' H2 x _ R2 hx fun σ3 s3 h3 R3 => ?_
      exact hb (C.more G') hC _ s3 h3 σ3 H2 _ R3 ⟨fun σ4 H4 s4 h4 R4 => hN σ4 H4 ⟨s4, R4, h4⟩, fun σ4 v H4 d4 s4 h4 R4 hv => o.rt σ4 v H4 d4 s4 h4 R4.less hv, fun σ4 H4 s4 h4 R4 => o.nx σ4 H4 s4 h4 R4.less, fun σ4 H4 s4 h4 R4 => hN σ4 H4 ⟨s4, R4, h4⟩⟩)
/-- while: an invariant and a measure are to be given -/
def dWhile (c : DT) (b : DS) : DS := fun E s => ∃ I : Nat → DSt → Prop, (∃ m, I m s) ∧ ∀ m s, I m s → c s fun t s1 => if t = true then b { nx := fun s2 => ∃ m', m' < m ∧ I m' s2, rt := E.rt, ct := fun s2 => ∃ m', m' < m ∧ I m' s2, bk := E.nx } s1 else E.nx s1
theorem rs_while {tc : TT} {tb : TS} {dc : DT} {db : DS} (hc : RT K tc dc) (hb : RS K tb db) : RS K (tWhile tc tb) (dWhile dc db) := fun C hC E s hd σ H D R o => by
  obtain ⟨I, ⟨m, hm⟩, step⟩ := hd
  refine ⟨fun m σ' H' => ∃ s', Rl C σ' H' s' ∧ I m s', ⟨m, s, R, hm⟩, fun m σ' H' ⟨s', R', h'⟩ => ?_⟩
  refine hc C hC s' _ (step m s' h') σ' H' _ R' fun t H2 s2 h2 R2 => ?_
  cases t with
  | false => exact pF (by decide) (o.nx _ _ _ (by simpa using h2) R2)
  | true =>
    refine pT rfl ⟨fun σ3 H3 => ∃ m', m' < m ∧ ∃ s3, Rl C σ3 H3 s3 ∧ I m' s3, fun σ3 H3 ⟨m', l, s3, R3, h3⟩ => ⟨m', l, s3, R3, h3⟩, ?_⟩
    exact hb C hC { nx := fun s2 => ∃ m', m' < m ∧ I m' s2, rt := E.rt, ct := fun s2 => ∃ m', m' < m ∧ I m' s2, bk := E.nx } s2 (by simpa using h2) σ' H2 _ R2 ⟨fun σ4 H4 s4 ⟨m', l, h4⟩ R4 => ⟨m', l, s4, R4, h4⟩, fun σ4 v H4 d4 s4 h4 R4 hv => o.rt σ4 v H4 d4 s4 h4 R4 hv, fun σ4 H4 s4 h4 R4 => o.nx σ4 H4 s4 h4 R4, fun σ4 H4 s4 ⟨m', l, h4⟩ R4 => ⟨m', l, s4, R4, h4⟩⟩
end DL

set_option Elab.async false
set_option linter.all false
set_option maxRecDepth 100000
set_option maxHeartbeats 4000000
/-! DLe: comprehensions, methods of one's own lists. -/
namespace DL
open PySem PySem.Spec PyProof.Rows L2 GG DD PT
variable {K : PySem.W.Frag}
section
variable {C : DC} {σ : L2.St} {H : Hp} {s : DSt}
/-- other slots over the same heap -/
theorem Rl.rewire {σ2 : L2.St} {δ2 : List DV} (R : Rl C σ H s) (hl : σ2.length = δ2.length)
    (h : ∀ (i : Nat) (dv : DV), δ2[i]? = some dv → (s.sl[i]? = some dv ∧ σ[i]? = σ2[i]?) ∨ (isOwn dv = false ∧ ∃ sl : Option V, σ2[i]? = some sl ∧ SlotOk C (Sof C σ s.sl) H sl dv)) : Rl C σ2 H ⟨δ2, s.n⟩ ∧ Same (Hd (Sof C σ s.sl) H) (Hd (Sof C σ2 δ2) H) := by
  have key : ∀ {i : Nat} {dv : DV}, δ2[i]? = some dv → isOwn dv = true → s.sl[i]? = some dv ∧ σ[i]? = σ2[i]? := fun {i dv} h1 h2 => by
    rcases h i dv h1 with q | ⟨q, _⟩
    · exact q
    · rw [h2] at q
      cases q
  have hs : Same (Hd (Sof C σ s.sl) H) (Hd (Sof C σ2 δ2) H) := hd_mono fun b z => by
    rcases z with z | z | ⟨i, dv, z1, z2, z3⟩
    · exact .inl z
    · exact .inr (.inl z)
    · obtain ⟨q1, q2⟩ := key z1 z2
      exact .inr (.inr ⟨i, dv, q1, z2, q2.trans z3⟩)
  refine ⟨⟨hl, fun i dv h1 => ?_, fun i j a dv ev h1 h2 h3 h4 h5 h6 => ?_, fun i a dv h1 h2 h3 => ?_, R.dk, R.but, R.tk, fun x y z => (R.gh x y z).of hs, R.fz⟩, hs⟩
  · rcases h i dv h1 with ⟨q1, q2⟩ | ⟨_, sl, q1, q2⟩
    · obtain ⟨sl, e1, e2⟩ := R.slots i dv q1
      exact ⟨sl, q2 ▸ e1, e2.move rfl rfl hs fun _ _ _ _ u => u⟩
    · exact ⟨sl, q1, q2.move rfl rfl hs fun _ _ _ _ u => u⟩
  · obtain ⟨q1, q2⟩ := key h1 h3
    obtain ⟨q3, q4⟩ := key h2 h4
    exact R.nd i j a dv ev q1 q3 h3 h4 (q2.trans h5) (q4.trans h6)
  · obtain ⟨q1, q2⟩ := key h1 h2
    exact R.fr i a dv q1 h2 (q2.trans h3)
def DC.hide (C : DC) (L : Addr) : DC := { C with S0 := fun b => C.S0 b ∨ b = L }
theorem sof_hide {L b : Addr} {δ : List DV} : Sof (C.hide L) σ δ b ↔ Sof C σ δ b ∨ b = L := by
  constructor
  · rintro ((h | h) | h | h)
    · exact .inl (.inl h)
    · exact .inr h
    · exact .inl (.inr (.inl h))
    · exact .inl (.inr (.inr h))
  · rintro ((h | h | h) | h)
    · exact .inl (.inl h)
    · exact .inr (.inl h)
    · exact .inr (.inr h)
    · exact .inl (.inr h)
/-- a new thing, hidden -/
theorem Rl.hidden (R : Rl C σ H s) {L : Addr} {o : HO} (nL : H L = none) : Rl (C.hide L) σ (upd H L o) s := by
  obtain ⟨n1, n2⟩ := R.new nL
  have hs : Same (Hd (Sof C σ s.sl) H) (Hd (Sof (C.hide L) σ s.sl) (upd H L o)) := fun b u e => by
    obtain ⟨h1, h3⟩ := hd_some e
    have hb : b ≠ L := ne_of_none h3 nL
    rw [hd_ne (fun z => (sof_hide.mp z).elim h1 hb), upd_ne hb]
    exact h3
  refine ⟨R.len, fun i dv h => ?_, R.nd, fun i a dv h1 h2 h3 => ?_, R.dk.same (same_upd nL), R.but.trans (ButW.of (same_upd nL)), fun b hb => ?_, fun x y z => (R.gh x y z).of hs, fun b u h => ⟨.inl (R.fz b u h).1, (R.fz b u h).2.1, by rw [upd_ne (ne_of_none (R.fz b u h).2.2 nL)]; exact (R.fz b u h).2.2⟩⟩
  · obtain ⟨sl, e1, e2⟩ := R.slots i dv h
    exact ⟨sl, e1, e2.move rfl rfl hs fun a ho ea u hu => by rw [upd_ne (ne_of_none hu nL)]; exact hu⟩
  · obtain ⟨f1, f2, f3⟩ := R.fr i a dv h1 h2 h3
    obtain ⟨u, hu⟩ := R.own_at h1 h2 h3
    exact ⟨f1, fun z => z.elim f2 (ne_of_none hu nL), f3⟩
  · rcases hb with hb | rfl
    · obtain ⟨u, hu⟩ := R.tk b hb
      exact ⟨u, by rw [upd_ne (ne_of_none hu nL)]; exact hu⟩
    · exact ⟨o, upd_same⟩
/-- what is hidden changes -/
theorem Rl.hmut {L : Addr} {o : HO} (R : Rl (C.hide L) σ H s) (nM : ¬ Mu C.W L) (n0 : C.H0 L = none) (nZ : ∀ u, ¬ C.Z L u) : Rl (C.hide L) σ (upd H L o) s := by
  have hL : Sof (C.hide L) σ s.sl L := sof_hide.mpr (.inr rfl)
  have hs : Same (Hd (Sof (C.hide L) σ s.sl) H) (Hd (Sof (C.hide L) σ s.sl) (upd H L o)) := hd_upd hL
  refine ⟨R.len, fun i dv h => ?_, R.nd, R.fr, R.dk.upd nM, fun b u h1 h2 => ?_, fun b hb => ?_, fun x y z => (R.gh x y z).of hs, fun b u h => ⟨(R.fz b u h).1, (R.fz b u h).2.1, by rw [upd_ne (fun z : b = L => nZ u (z ▸ h))]; exact (R.fz b u h).2.2⟩⟩
  · obtain ⟨sl, e1, e2⟩ := R.slots i dv h
    exact ⟨sl, e1, e2.move rfl rfl hs fun a ho ea u hu => by
      have f := (R.fr i a dv h ho (ea ▸ e1)).2.1
      rw [upd_ne (fun z => f (.inr z))]
      exact hu⟩
  · have hb : b ≠ L := fun z => by
      subst z
      have h2' : C.H0 b = some u := h2
      rw [n0] at h2'
      cases h2'
    rw [upd_ne hb]
    exact R.but b u h1 h2
  · by_cases e : b = L
    · subst e
      exact ⟨o, upd_same⟩
    · obtain ⟨u, hu⟩ := R.tk b hb
      exact ⟨u, by rw [upd_ne e]; exact hu⟩
def del (H : Hp) (L : Addr) : Hp := fun b => if b = L then none else H b
theorem del_ne {L b : Addr} (h : b ≠ L) : del H L b = H b := if_neg h
theorem del_upd {L : Addr} {o : HO} (h : H L = some o) : upd (del H L) L o = H := by
  funext b
  by_cases e : b = L
  · subst e
    rw [upd_same, h]
  · rw [upd_ne e, del_ne e]
/-- a hidden thing stays as it is -/
def DC.pin (C : DC) (L : Addr) (o : HO) : DC := { C with Z := fun a u => C.Z a u ∨ (a = L ∧ u = o) }
theorem Rl.pin (R : Rl C σ H s) {L : Addr} {o : HO} (hS : C.S0 L) (nM : ¬ Mu C.W L) (e : H L = some o) : Rl (C.pin L o) σ H s :=
  ⟨R.len, R.slots, R.nd, R.fr, R.dk, R.but, R.tk, R.gh, fun a u h => h.elim (R.fz a u) fun z => by
    obtain ⟨rfl, rfl⟩ := z
    exact ⟨hS, nM, e⟩⟩
theorem Rl.unpin {L : Addr} {o : HO} (R : Rl (C.pin L o) σ H s) : Rl C σ H s ∧ H L = some o := ⟨⟨R.len, R.slots, R.nd, R.fr, R.dk, R.but, R.tk, R.gh, fun a u h => R.fz a u (.inl h)⟩, (R.fz L o (.inr ⟨rfl, rfl⟩)).2.2⟩
/-- what was hidden goes out of the way -/
theorem Rl.leave {L : Addr} (R : Rl (C.hide L) σ H s) (nS : ¬ C.S0 L) (nM : ¬ Mu C.W L) (n0 : C.H0 L = none) (hZ : ∀ a u, C.Z a u → C.S0 a) : Rl C σ (del H L) s ∧ Same (Hd (Sof (C.hide L) σ s.sl) H) (Hd (Sof C σ s.sl) (del H L)) := by
  have hs : Same (Hd (Sof (C.hide L) σ s.sl) H) (Hd (Sof C σ s.sl) (del H L)) := fun b u e => by
    obtain ⟨h1, h3⟩ := hd_some e
    have hb : b ≠ L := fun z => h1 (sof_hide.mpr (.inr z))
    rw [hd_ne (fun z => h1 (sof_hide.mpr (.inl z))), del_ne hb]
    exact h3
  refine ⟨⟨R.len, fun i dv h => ?_, R.nd, fun i a dv h1 h2 h3 => ?_, ?_, fun b u h1 h2 => ?_, fun b hb => ?_, fun x y z => (R.gh x y z).of hs, fun b u h => ⟨hZ b u h, (R.fz b u h).2.1, by rw [del_ne (fun z : b = L => nS (z ▸ hZ b u h))]; exact (R.fz b u h).2.2⟩⟩, hs⟩
  · obtain ⟨sl, e1, e2⟩ := R.slots i dv h
    refine ⟨sl, e1, e2.move rfl rfl hs fun a ho ea u hu => ?_⟩
    have f := (R.fr i a dv h ho (ea ▸ e1)).2.1
    rw [del_ne (fun z => f (.inr z))]
    exact hu
  · obtain ⟨f1, f2, f3⟩ := R.fr i a dv h1 h2 h3
    exact ⟨f1, fun z => f2 (.inl z), f3⟩
  · have d := R.dk
    show DkOk C.W (del H L) s.n
    have d' : DkOk C.W H s.n := d
    cases hW : C.W with
    | none => trivial
    | some w =>
      rw [hW] at d' nM
      obtain ⟨⟨m, cs, h1, h2, h3⟩, h4⟩ := d'
      exact ⟨⟨m, cs, by rw [del_ne (fun e => nM (.inl e.symm))]; exact h1, by rw [del_ne (fun e => nM (.inr e.symm))]; exact h2, h3⟩, h4⟩
  · have hb : b ≠ L := fun z => by
      subst z
      rw [n0] at h2
      cases h2
    rw [del_ne hb]
    exact R.but b u h1 h2
  · have e : b ≠ L := fun z => nS (z ▸ hb)
    obtain ⟨u, hu⟩ := R.tk b (.inl hb)
    exact ⟨u, by rw [del_ne e]; exact hu⟩
end
/-! ### slots wiped -/
def wipeD (sl : List DV) : List Nat → List DV
  | [] => sl
  | v :: vs => (wipeD sl vs).set v .un
theorem wipeD_len (sl : List DV) : ∀ vs : List Nat, (wipeD sl vs).length = sl.length
  | [] => rfl
  | v :: vs => by rw [wipeD, List.length_set, wipeD_len sl vs]
theorem wipeD_get (sl : List DV) (i : Nat) : ∀ vs : List Nat, (wipeD sl vs)[i]? = if i ∈ vs then (if i < sl.length then some .un else none) else sl[i]?
  | [] => by simp [wipeD]
  | v :: vs => by
    rw [wipeD, List.getElem?_set, wipeD_len, wipeD_get sl i vs]
    by_cases e : v = i
    · subst e
      simp
    · rw [if_neg e]
      have e' : i ≠ v := fun z => e z.symm
      simp [e']
theorem wipe_get (σ : L2.St) (i : Nat) : ∀ vs : List Nat, (wipe σ vs)[i]? = if i ∈ vs then (if i < σ.length then some none else none) else σ[i]?
  | [] => by simp [wipe]
  | v :: vs => by
    rw [wipe, List.getElem?_set, wipe_length, wipe_get σ i vs]
    by_cases e : v = i
    · subst e
      simp
    · rw [if_neg e]
      have e' : i ≠ v := fun z => e z.symm
      simp [e']
theorem wipe_set {σ : L2.St} {i : Nat} {v : Option V} {vs : List Nat} (h : i ∈ vs) : wipe (σ.set i v) vs = wipe σ vs := by
  apply List.ext_getElem?
  intro j
  rw [wipe_get, wipe_get, List.length_set]
  by_cases e : j ∈ vs
  · rw [if_pos e, if_pos e]
  · rw [if_neg e, if_neg e, List.getElem?_set_ne (fun z : i = j => e (by rw [← z]; exact h))]
section
variable {C : DC} {σ : L2.St} {H : Hp} {s : DSt}
theorem Rl.wiped (R : Rl C σ H s) (vs : List Nat) : Rl C (wipe σ vs) H ⟨wipeD s.sl vs, s.n⟩ ∧ Same (Hd (Sof C σ s.sl) H) (Hd (Sof C (wipe σ vs) (wipeD s.sl vs)) H) := by
  refine R.rewire (by rw [wipe_length, wipeD_len]; exact R.len) fun i dv h => ?_
  rw [wipeD_get] at h
  by_cases e : i ∈ vs
  · rw [if_pos e] at h
    by_cases hl : i < s.sl.length
    · rw [if_pos hl] at h
      cases h
      exact .inr ⟨rfl, none, by rw [wipe_get, if_pos e, if_pos (by rw [R.len]; exact hl)], trivial⟩
    · rw [if_neg hl] at h
      cases h
  · rw [if_neg e] at h
    exact .inl ⟨h, by rw [wipe_get, if_neg e]⟩
/-- the outer slots' data, to be kept -/
def outG (σ : L2.St) (δ : List DV) (vs : List Nat) : V → PyData → Prop := fun v d => ∃ i : Nat, i ∈ vs ∧ δ[i]? = some (.dat d) ∧ σ[i]? = some (some v)
theorem out_da (R : Rl C σ H s) (vs : List Nat) : ∀ v d, outG σ s.sl vs v d → Da C.K (Hd (Sof C σ s.sl) H) v d := fun v d ⟨i, _, h2, h3⟩ => by
  obtain ⟨sl, e1, u, rfl, e2⟩ := R.slots i _ h2
  rw [h3] at e1
  cases e1
  exact e2
/-- no thing of one's own stands in these slots -/
def NoOwn (δ : List DV) (vs : List Nat) : Prop := ∀ i, i ∈ vs → ∀ dv, δ[i]? = some dv → isOwn dv = false
def noOwnB (δ : List DV) (vs : List Nat) : Bool := vs.all fun i => match δ[i]? with
  | some (.own _) => false
  | some (.owd _) => false
  | _ => true
theorem noOwn_of {δ : List DV} {vs : List Nat} (h : noOwnB δ vs = true) : NoOwn δ vs := fun i hi dv e => by
  have z := List.all_eq_true.mp h i hi
  rw [e] at z
  cases dv <;> first | rfl | cases z
theorem Rl.unwiped {δ : List DV} {n : Nat} {vs : List Nat} (R : Rl C (wipe σ vs) H ⟨wipeD δ vs, n⟩) (hl : σ.length = δ.length) (no : NoOwn δ vs) (hg : ∀ v d, outG σ δ vs v d → C.G v d) (hv : ∀ (i : Nat) (dv : DV), δ[i]? = some dv → ∃ sl : Option V, σ[i]? = some sl ∧ (∀ d, dv = .dat d → ∃ v, sl = some v) ∧ (dv = .deck → ∃ p l, C.W = some (p, l) ∧ sl = some (.ref p))) :
    Rl C σ H ⟨δ, n⟩ ∧ Same (Hd (Sof C (wipe σ vs) (wipeD δ vs)) H) (Hd (Sof C σ δ) H) := by
  refine R.rewire hl fun i dv h => ?_
  by_cases e : i ∈ vs
  · refine .inr ⟨no i e dv h, ?_⟩
    obtain ⟨sl, e1, e2, e3⟩ := hv i dv h
    refine ⟨sl, e1, ?_⟩
    cases dv with
    | un => trivial
    | dat d =>
      obtain ⟨v, rfl⟩ := e2 d rfl
      exact ⟨v, rfl, R.gh v d (hg v d ⟨i, e, h, e1⟩)⟩
    | own ds => exact Bool.noConfusion (no i e _ h)
    | owd ds => exact Bool.noConfusion (no i e _ h)
    | deck => exact e3 rfl
  · exact .inl ⟨by rw [wipeD_get, if_neg e]; exact h, by rw [wipe_get, if_neg e]⟩
theorem slots_hv (R : Rl C σ H s) : ∀ (i : Nat) (dv : DV), s.sl[i]? = some dv → ∃ sl : Option V, σ[i]? = some sl ∧ (∀ d, dv = .dat d → ∃ v, sl = some v) ∧ (dv = .deck → ∃ p l, C.W = some (p, l) ∧ sl = some (.ref p)) := fun i dv h => by
  obtain ⟨sl, e1, e2⟩ := R.slots i dv h
  refine ⟨sl, e1, fun d e => ?_, fun e => ?_⟩
  · subst e
    obtain ⟨v, h1, _⟩ := e2
    exact ⟨v, h1⟩
  · subst e
    exact e2
end
/-! ### targets that store in these slots alone -/
def RGv (w : Bool) (K : PySem.W.Frag) (vs : List Nat) (g : TG) (dg : DG) : Prop := ∀ C : DC, C.K = K → ∀ (d : PyData) (N : DSt → Prop) (s : DSt), dg d N s → ∀ (σ : L2.St) (H : Hp) (v : V) (N0 : L2.St → Hp → Prop), Rl C σ H s → DaF w C.K (Sof C σ s.sl) H v d → (∀ σ' s', N s' → Rl C σ' H s' → wipe σ' vs = wipe σ vs → N0 σ' H) → g v σ H N0
theorem rgv_name {vs : List Nat} {i : Nat} (hi : i ∈ vs) : RGv false K vs (gName i) (gdN i) := fun C hC d N s h σ H v N0 R hv q => q _ _ h (R.set hv.da) (wipe_set hi)
def RGvs (K : PySem.W.Frag) (ws : List Nat) (g : TGs) (dg : DGs) : Prop := ∀ C : DC, C.K = K → ∀ (ds : List PyData) (N : DSt → Prop) (s : DSt), dg ds N s → ∀ (σ : L2.St) (H : Hp) (vs : List V) (N0 : L2.St → Hp → Prop), Rl C σ H s → DaAll C.K (Hd (Sof C σ s.sl) H) vs ds → (∀ σ' s', N s' → Rl C σ' H s' → wipe σ' ws = wipe σ ws → N0 σ' H) → g vs σ H N0
theorem rgvs_nil {ws : List Nat} : RGvs K ws gNil gdNil := fun C hC ds N s h σ H vs N0 R hv q => by
  obtain ⟨rfl, h⟩ := h
  cases hv
  exact ⟨rfl, q _ _ h R rfl⟩
theorem rgvs_cons {ws : List Nat} {t : TG} {u : TGs} {a : DG} {b : DGs} (h1 : RGv false K ws t a) (h2 : RGvs K ws u b) : RGvs K ws (gCons t u) (gdCons a b) := fun C hC ds N s h σ H vs N0 R hv q => by
  cases hv with
  | nil => exact h.elim
  | @cons v r d ds' hv hr =>
    refine ⟨v, r, rfl, ?_⟩
    refine h1 (C.more (pairG r ds')) hC d _ s h σ H v _ (R.more (pair_da hr)) (.inl hv) fun σ' s' hn R' hw => ?_
    exact h2 C hC ds' N s' hn σ' H r N0 R'.less (da_pair hr.len fun x y z => R'.gh x y (.inr z)) fun σ2 s2 hn2 R2 hw2 => q σ2 s2 hn2 R2 (hw2.trans hw)
theorem rgv_tup {w : Bool} {ws : List Nat} {n : Nat} {t : TGs} {g : DGs} (h : RGvs K ws t g) : RGv w K ws (gTup K n t) (gdTup n g) := fun C hC d N s hd σ H v N0 R hv q => by
  cases d with
  | tuple ds =>
    obtain ⟨a, vs, rfl, k1, k2⟩ := hv.tup
    exact ⟨a, vs, rfl, hC ▸ k1, by rw [k2.len]; exact hd.1, h C hC ds N s hd.2 σ H vs N0 R k2 q⟩
  | _ => exact hd.elim
/-- such a target's data side: monotone, and it changes these slots alone -/
structure GW (vs : List Nat) (g : DG) : Prop where
  mono : ∀ (d : PyData) (N N' : DSt → Prop) (s : DSt), (∀ s, N s → N' s) → g d N s → g d N' s
  w : ∀ (d : PyData) (N : DSt → Prop) (s : DSt), g d N s → g d (fun s2 => N s2 ∧ wipeD s2.sl vs = wipeD s.sl vs) s
structure GWs (vs : List Nat) (g : DGs) : Prop where
  mono : ∀ (d : List PyData) (N N' : DSt → Prop) (s : DSt), (∀ s, N s → N' s) → g d N s → g d N' s
  w : ∀ (d : List PyData) (N : DSt → Prop) (s : DSt), g d N s → g d (fun s2 => N s2 ∧ wipeD s2.sl vs = wipeD s.sl vs) s
theorem wipeD_set {sl : List DV} {i : Nat} {v : DV} {vs : List Nat} (h : i ∈ vs) : wipeD (sl.set i v) vs = wipeD sl vs := by
  apply List.ext_getElem?
  intro j
  rw [wipeD_get, wipeD_get, List.length_set]
  by_cases e : j ∈ vs
  · rw [if_pos e, if_pos e]
  · rw [if_neg e, if_neg e, List.getElem?_set_ne (fun z : i = j => e (by rw [← z]; exact h))]
theorem gw_name {vs : List Nat} {i : Nat} (h : i ∈ vs) : GW vs (gdN i) := ⟨fun d N N' s hN h' => hN _ h', fun d N s h' => ⟨h', wipeD_set h⟩⟩
theorem gws_nil {vs : List Nat} : GWs vs gdNil := ⟨fun d N N' s hN h' => ⟨h'.1, hN _ h'.2⟩, fun d N s h' => ⟨h'.1, h'.2, rfl⟩⟩
theorem gws_cons {vs : List Nat} {a : DG} {b : DGs} (h1 : GW vs a) (h2 : GWs vs b) : GWs vs (gdCons a b) := ⟨fun d N N' s hN h' => by
    cases d with
    | nil => exact h'.elim
    | cons d r => exact h1.mono d _ _ s (fun s1 h => h2.mono r N N' s1 hN h) h', fun d N s h' => by
    cases d with
    | nil => exact h'.elim
    | cons d r =>
      refine h1.mono d _ _ s (fun s1 h => ?_) (h1.w d _ s h')
      exact h2.mono r _ _ s1 (fun s2 z => ⟨z.1, z.2.trans h.2⟩) (h2.w r N s1 h.1)⟩
theorem gw_tup {vs : List Nat} {n : Nat} {g : DGs} (h : GWs vs g) : GW vs (gdTup n g) := ⟨fun d N N' s hN h' => by
    cases d with
    | tuple ds => exact ⟨h'.1, h.mono ds N N' s hN h'.2⟩
    | _ => exact h'.elim, fun d N s h' => by
    cases d with
    | tuple ds => exact ⟨h'.1, h.w ds N s h'.2⟩
    | _ => exact h'.elim⟩
/-! ### comprehensions -/
def RTs (K : PySem.W.Frag) (tt : TT) (dt : DT) : Prop := RT K tt dt
def dYes : DT := fun s P => P true s
theorem rt_yes : RT K tYes dYes := fun C hC s P h σ H Q R q => q true H s h R
def dLc (g : DG) (t : DT) (e : DE) (base : List DV) : List PyData → List PyData → Nat → (List PyData → Nat → Prop) → Prop
  | [], acc, n, P => P acc n
  | d :: ds, acc, n, P => g d (fun s1 => t s1 fun b s2 => if b = true then e s2 fun y s3 => s3.sl = s1.sl ∧ dLc g t e base ds (acc ++ [y]) s3.n P else s2.sl = s1.sl ∧ dLc g t e base ds acc s2.n P) ⟨base, n⟩
def dComp (di : DA) (g : DG) (t : DT) (e : DE) (vs : List Nat) : DA := fun s P => di s fun items s1 => items.length ≤ 1000 ∧ noOwnB s1.sl vs = true ∧ dLc g t e (wipeD s1.sl vs) items [] s1.n fun acc n => P acc ⟨s1.sl, n⟩
theorem rf_comp {w : Bool} {wi : TI} {g : TG} {tt : TT} {te : TE} {vs : List Nat} {di : DA} {dg : DG} {dt : DT} {de : DE} (hi : RI w K wi di) (hg : RGv w K vs g dg) (hgw : GW vs dg) (ht : RT K tt dt) (he : RE K te de) : RF K (tLc wi g tt te vs) (dComp di dg dt de vs) := fun C hC s P hd σ H Q R q =>
  rd_lc (hi C hC s _ hd σ H _ R fun J H1 items s1 G' hp R1 ok => by
    obtain ⟨hlen, no, hp⟩ := hp
    have no := noOwn_of no
    have hv := slots_hv R1
    generalize hC1 : (C.more G').more (outG σ s1.sl vs) = C1
    have cK : C1.K = C.K := by rw [← hC1]; rfl
    have cG : ∀ v d, G' v d → C1.G v d := fun v d z => by rw [← hC1]; exact .inl (.inr z)
    have cO : ∀ v d, outG σ s1.sl vs v d → C1.G v d := fun v d z => by rw [← hC1]; exact .inr z
    have R1' : Rl C1 σ H1 s1 := by rw [← hC1]; exact R1.more (out_da R1 vs)
    have cB : ∀ {H' : Hp} {s' : DSt}, Rl C1 σ H' s' → Rl C σ H' s' := fun {H' s'} z => by
      rw [← hC1] at z
      exact z.less.less
    have cW : C1.W = C.W := by rw [← hC1]; rfl
    have cS : Sof C1 σ s1.sl = Sof C σ s1.sl := by rw [← hC1]; rfl
    clear hC1
    have idem : wipe (wipe σ vs) vs = wipe σ vs := by
      apply List.ext_getElem?
      intro j
      rw [wipe_get, wipe_get, wipe_length]
      by_cases e : j ∈ vs
      · rw [if_pos e, if_pos e]
      · rw [if_neg e, if_neg e]
    have idemD : wipeD (wipeD s1.sl vs) vs = wipeD s1.sl vs := by
      apply List.ext_getElem?
      intro j
      rw [wipeD_get, wipeD_get, wipeD_len]
      by_cases e : j ∈ vs
      · rw [if_pos e, if_pos e]
      · rw [if_neg e, if_neg e]
    refine lc_in items.length hlen (fun L i acc H' => H1 L = none ∧ ∃ ds n', Rl (C1.hide L) (wipe σ vs) H' ⟨wipeD s1.sl vs, n'⟩ ∧ DaAll C.K (Hd (Sof (C1.hide L) (wipe σ vs) (wipeD s1.sl vs)) H') acc ds ∧ dLc dg dt de (wipeD s1.sl vs) (items.drop i) ds n' fun acc n => P acc ⟨s1.sl, n⟩)
      (fun L nL => ⟨nL, [], s1.n, ((R1'.wiped vs).1).hidden nL, .nil, hp⟩) (fun L acc H' e1 ⟨nL, ds, n', R2, hda, h⟩ => ?_) fun L i acc H' hlt e1 ⟨nL, ds, n', R2, hda, h⟩ => ?_
    · obtain ⟨n1, n2⟩ := R1'.new nL
      rw [List.drop_length] at h
      refine ⟨(ok (C1.hide L) cK (fun v d z => cG v d z) (wipe σ vs) H' ⟨_, n'⟩ R2).1, ?_⟩
      obtain ⟨R3, hs3⟩ := R2.leave (fun z => n1 (.inl z)) (fun z => n1 (.inr (.inl z))) n2 fun a u z => (R1'.fz a u z).1
      obtain ⟨R4, hs4⟩ := R3.unwiped R1.len no cO (cW ▸ hv)
      have hq := q L acc (del H' L) ds ⟨s1.sl, n'⟩ h (cB R4) (if_pos rfl) (by
        have z := (hda.of hs3).of hs4
        rw [cS] at z
        exact z)
      rw [del_upd e1] at hq
      exact hq
    · obtain ⟨n1, n2⟩ := R1'.new nL
      have nZ : ∀ u, ¬ C1.Z L u := fun u z => n1 (.inl (R1'.fz L u z).1)
      obtain ⟨d, hd⟩ : ∃ d, items[i]? = some d := ⟨_, List.getElem?_eq_getElem hlt⟩
      obtain ⟨k1, k2⟩ := (ok (C1.hide L) cK cG (wipe σ vs) H' ⟨_, n'⟩ R2).2 i d hd
      refine ⟨k1, fun Pk Rk hPk hRk x H2 hy => ?_⟩
      obtain ⟨R3, s23, hx⟩ := k2 x H2 hy
      have e : items.drop i = d :: items.drop (i + 1) := by
        rw [List.drop_eq_getElem_cons hlt]
        rw [List.getElem?_eq_getElem hlt] at hd
        rw [Option.some.inj hd]
      rw [e] at h
      have h' := hgw.w d _ _ h
      -- the items so far are kept; the new list stays
      generalize hC2 : ((C1.hide L).pin L (.lst acc)).more (pairG acc ds) = C2
      have cK2 : C2.K = K := by rw [← hC2]; exact cK.trans hC
      have R3k : Rl C2 (wipe σ vs) H2 ⟨wipeD s1.sl vs, n'⟩ := by
        rw [← hC2]
        refine (R3.pin (.inr rfl) (fun z => n1 (.inr (.inl z))) (s23 _ _ e1)).more ?_
        have z := pair_da (hda.of (hdS s23))
        rw [← cK] at z
        exact z
      have down : ∀ {H4 : Hp} {δ : List DV} {m : Nat}, Rl C2 (wipe σ vs) H4 ⟨δ, m⟩ → Rl (C1.hide L) (wipe σ vs) H4 ⟨δ, m⟩ ∧ H4 L = some (.lst acc) ∧ DaAll C.K (Hd (Sof (C1.hide L) (wipe σ vs) δ) H4) acc ds := fun {H4 δ m} z => by
        rw [← hC2] at z
        refine ⟨z.less.unpin.1, z.less.unpin.2, ?_⟩
        have z2 := da_pair hda.len fun x y w => z.gh x y (.inr w)
        have z3 : DaAll C1.K (Hd (Sof (C1.hide L) (wipe σ vs) δ) H4) acc ds := z2
        rw [cK] at z3
        exact z3
      have cS2 : ∀ (τ : L2.St) (δ : List DV), Sof C2 τ δ = Sof (C1.hide L) τ δ := fun τ δ => by rw [← hC2]; rfl
      have cx2 : Sof C2 (wipe σ vs) (wipeD s1.sl vs) = Sof (C1.hide L) (wipe σ vs) (wipeD s1.sl vs) := cS2 _ _
      have cKx : C2.K = C.K := cK2.trans hC.symm
      have hx2 : DaF w C2.K (Sof C2 (wipe σ vs) (wipeD s1.sl vs)) H2 x d := by
        rw [cx2, cKx, ← cK]
        exact hx
      clear hC2
      refine hg C2 cK2 d _ ⟨_, n'⟩ h' (wipe σ vs) H2 x _ R3k hx2 fun σ2 s2 hn R4 hw => ?_
      obtain ⟨hn, hwD⟩ := hn
      have hwD : wipeD s2.sl vs = wipeD s1.sl vs := hwD.trans idemD
      have hww : wipe σ2 vs = wipe σ vs := hw.trans idem
      refine ⟨hww, ?_⟩
      have back : ∀ {H4 : Hp} {s4 : DSt}, Rl C2 σ2 H4 s4 → s4.sl = s2.sl → Rl C2 (wipe σ vs) H4 ⟨wipeD s1.sl vs, s4.n⟩ ∧ Same (Hd (Sof C2 σ2 s4.sl) H4) (Hd (Sof C2 (wipe σ vs) (wipeD s1.sl vs)) H4) := fun {H4 s4} R5 e5 => by
        have w := R5.wiped vs
        rw [hww, e5, hwD] at w
        rw [e5]
        exact w
      refine ht C2 cK2 s2 _ hn σ2 H2 _ R4 fun b H3 s3 hb R5 => ?_
      cases b with
      | false =>
        refine pF (by decide) ?_
        have hb' : s3.sl = s2.sl ∧ dLc dg dt de (wipeD s1.sl vs) (items.drop (i + 1)) ds s3.n fun acc n => P acc ⟨s1.sl, n⟩ := by simpa using hb
        obtain ⟨R6, hs6⟩ := back R5 hb'.1
        obtain ⟨R7, eL, hacc⟩ := down R6
        exact hRk H3 eL ⟨nL, ds, s3.n, R7, hacc, hb'.2⟩
      | true =>
        refine pT rfl ?_
        have hb' := hb
        rw [if_pos rfl] at hb'
        refine he C2 cK2 s3 _ hb' σ2 H3 _ R5 fun y H4 dy s4 hy4 R6 hyd => ?_
        obtain ⟨R7, hs7⟩ := back R6 hy4.1
        obtain ⟨R8, eL, hacc⟩ := down R7
        have hL : Sof (C1.hide L) (wipe σ vs) (wipeD s1.sl vs) L := sof_hide.mpr (.inr rfl)
        have hyd2 := hyd.of hs7
        rw [cx2, cKx] at hyd2
        exact hPk y H4 eL ⟨nL, ds ++ [dy], s4.n, R8.hmut (fun z => n1 (.inr (.inl z))) n2 nZ, (hacc.append (.cons hyd2 .nil)).of (hd_upd hL), hy4.2⟩)
end DL

set_option Elab.async false
set_option linter.all false
set_option maxRecDepth 100000
set_option maxHeartbeats 4000000
/-! DLf: methods of one's own lists, repr, isinstance, dicts, told by data. -/
namespace DL
open PySem PySem.Spec PyProof.Rows L2 GG DD PT
variable {K : PySem.W.Frag}
theorem own_at {C : DC} {σ : L2.St} {H : Hp} {s : DSt} (R : Rl C σ H s) {i : Nat} {ds : List PyData} (e : s.sl[i]? = some (.own ds)) : ∃ a vs, σ[i]? = some (some (V.ref a)) ∧ H a = some (.lst vs) ∧ DaAll C.K (Hd (Sof C σ s.sl) H) vs ds := by
  obtain ⟨sl, h1, a, vs, rfl, h2, h3⟩ := R.slots i _ e
  exact ⟨a, vs, h1, h2, h3⟩
theorem own_mut {C : DC} {σ : L2.St} {H : Hp} {s : DSt} (R : Rl C σ H s) {i : Nat} {a : Addr} {ds es : List PyData} {us : List V} (e : s.sl[i]? = some (.own ds)) (h1 : σ[i]? = some (some (V.ref a))) (h : DaAll C.K (Hd (Sof C σ s.sl) H) us es) :
    Rl C σ (upd H a (.lst us)) ⟨s.sl.set i (.own es), s.n⟩ ∧ Same (Hd (Sof C σ s.sl) H) (Hd (Sof C σ (s.sl.set i (.own es))) (upd H a (.lst us))) := by
  have R2 := R.mut (o := .lst us) (ev := .own es) e rfl rfl h1 fun hs => ⟨a, us, rfl, upd_same, h.of hs⟩
  refine ⟨R2, fun b u z => ?_⟩
  obtain ⟨z1, z2⟩ := hd_some z
  have sa : Sof C σ s.sl a := .inr (.inr ⟨i, _, e, rfl, h1⟩)
  have hb : b ≠ a := fun w => z1 (w ▸ sa)
  have nb : ¬ Sof C σ (s.sl.set i (.own es)) b := fun w => by
    rcases w with w | w | ⟨j, dv, w1, w2, w3⟩
    · exact z1 (.inl w)
    · exact z1 (.inr (.inl w))
    · by_cases ej : i = j
      · subst ej
        rw [h1] at w3
        cases w3
        exact hb rfl
      · rw [List.getElem?_set_ne ej] at w1
        exact z1 (.inr (.inr ⟨j, dv, w1, w2, w3⟩))
  rw [hd_ne nb, upd_ne hb]
  exact z2
def isOwnL : Option DV → Prop
  | some (.own _) => True
  | _ => False
/-- x.append(e) -/
def dApp (i : Nat) (de : DE) : DS := fun E s => isOwnL s.sl[i]? ∧ de s fun d s1 => match s1.sl[i]? with
  | some (.own ds) => ds.length < 1000000 ∧ E.nx ⟨s1.sl.set i (.own (ds ++ [d])), s1.n⟩
  | _ => False
theorem ty_list {H : Hp} {a : Addr} {vs : List V} (e : H a = some (.lst vs)) : tyV K "list" (.ref a) H := .inl ⟨rfl, vs, sq e⟩
theorem own_first {C : DC} {σ : L2.St} {H : Hp} {s : DSt} (R : Rl C σ H s) {i : Nat} (h : isOwnL s.sl[i]?) : ∃ a vs, σ[i]? = some (some (V.ref a)) ∧ H a = some (.lst vs) := by
  cases e : s.sl[i]? with
  | none => rw [e] at h; exact h.elim
  | some dv =>
    cases dv with
    | own ds =>
      obtain ⟨a, vs, h1, h2, _⟩ := own_at R e
      exact ⟨a, vs, h1, h2⟩
    | _ => rw [e] at h; exact h.elim
theorem rs_app {i : Nat} {te : TE} {de : DE} (h : RE K te de) : RS K (tDrop (tBM K "list" rAppend (tVar i) (tCons te tNil))) (dApp i de) := fun C hC E s hd σ H D R o => by
  obtain ⟨a, vs, h1, h2⟩ := own_first R hd.1
  refine ⟨_, h1, ty_list h2, h C hC s _ hd.2 σ H _ R fun v H1 d s1 hp R1 hv => rd_nil ?_⟩
  cases e : s1.sl[i]? with
  | none => rw [e] at hp; exact hp.elim
  | some dv =>
    cases dv with
    | own ds =>
      rw [e] at hp
      obtain ⟨b, us, k1, k2, k3⟩ := own_at R1 e
      rw [h1] at k1
      cases k1
      refine ⟨a, us, v, rfl, rfl, k2, by rw [k3.len]; exact Nat.lt_of_lt_of_le hp.1 sz6, o.nx _ _ _ hp.2 (own_mut R1 e h1 (k3.append (.cons hv .nil))).1⟩
    | _ => rw [e] at hp; exact hp.elim
/-- x.extend(a list) -/
def dExt (i : Nat) (de : DE) : DS := fun E s => isOwnL s.sl[i]? ∧ de s fun d s1 => match s1.sl[i]?, d with
  | some (.own ds), .list es => ds.length + es.length ≤ 1000000 ∧ E.nx ⟨s1.sl.set i (.own (ds ++ es)), s1.n⟩
  | _, _ => False
theorem rs_ext {i : Nat} {te : TE} {de : DE} (h : RE K te de) : RS K (tDrop (tBM K "list" rExtend (tVar i) (tCons te tNil))) (dExt i de) := fun C hC E s hd σ H D R o => by
  obtain ⟨a, vs, h1, h2⟩ := own_first R hd.1
  refine ⟨_, h1, ty_list h2, h C hC s _ hd.2 σ H _ R fun v H1 d s1 hp R1 hv => rd_nil ?_⟩
  cases e : s1.sl[i]? with
  | none => rw [e] at hp; exact hp.elim
  | some dv =>
    cases dv with
    | own ds =>
      rw [e] at hp
      cases d with
      | list es =>
        obtain ⟨b, us, k1, k2, k3⟩ := own_at R1 e
        rw [h1] at k1
        cases k1
        obtain ⟨c, ws, rfl, k4, k5⟩ := da_list hv
        refine ⟨a, c, us, ws, rfl, rfl, k2, k4, by rw [k3.len, k5.len]; exact Nat.le_trans hp.1 sz6, o.nx _ _ _ hp.2 (own_mut R1 e h1 (k3.append k5)).1⟩
      | _ => exact hp.elim
    | _ => rw [e] at hp; exact hp.elim
/-- x.pop() -/
def dPop (i : Nat) : DE := fun s P => match s.sl[i]? with
  | some (.own ds) => ∃ d, ds[ds.length - 1]? = some d ∧ P d ⟨s.sl.set i (.own ds.dropLast), s.n⟩
  | _ => False
theorem DaAll.dropLast {H : Hp} {vs : List V} {ds : List PyData} (h : DaAll K H vs ds) : DaAll K H vs.dropLast ds.dropLast := by
  rw [List.dropLast_eq_take, List.dropLast_eq_take, h.len]
  exact h.take _
theorem re_pop {i : Nat} : RE K (tBM0 K "list" rPop (tVar i)) (dPop i) := fun C hC s P hd σ H Q R q => by
  unfold dPop at hd
  split at hd
  · rename_i ds e
    obtain ⟨d, hx, hp⟩ := hd
    obtain ⟨a, vs, h1, h2, h3⟩ := own_at R e
    obtain ⟨v, hv, hvd⟩ := h3.getD hx
    obtain ⟨R2, hs⟩ := own_mut R e h1 h3.dropLast
    exact ⟨_, h1, ty_list h2, a, vs, v, rfl, rfl, h2, by rw [h3.len]; exact hv, q _ _ _ _ hp R2 (hvd.of hs)⟩
  · exact hd.elim
/-- x.pop(e) -/
def dPopAt (i : Nat) (de : DE) : DE := fun s P => isOwnL s.sl[i]? ∧ de s fun d s1 => match s1.sl[i]?, d with
  | some (.own ds), .int k => -(2 ^ 63) ≤ k ∧ k < 2 ^ 63 ∧ ∃ j x, seqIndex? k ds.length = some j ∧ ds[j]? = some x ∧ P x ⟨s1.sl.set i (.own (ds.eraseIdx j)), s1.n⟩
  | _, _ => False
theorem DaAll.erase {H : Hp} : ∀ {vs : List V} {ds : List PyData} (j : Nat), DaAll K H vs ds → DaAll K H (vs.eraseIdx j) (ds.eraseIdx j)
  | _, _, _, .nil => by
    rw [List.eraseIdx_nil, List.eraseIdx_nil]
    exact .nil
  | _, _, 0, .cons h t => t
  | _, _, j + 1, .cons h t => by
    rw [List.eraseIdx_cons_succ, List.eraseIdx_cons_succ]
    exact .cons h (t.erase j)
theorem re_popAt {i : Nat} {te : TE} {de : DE} (h : RE K te de) : RE K (tBM K "list" rPopAt (tVar i) (tCons te tNil)) (dPopAt i de) := fun C hC s P hd σ H Q R q => by
  obtain ⟨a, vs, h1, h2⟩ := own_first R hd.1
  refine ⟨_, h1, ty_list h2, h C hC s _ hd.2 σ H _ R fun v H1 d s1 hp R1 hv => rd_nil ?_⟩
  cases e : s1.sl[i]? with
  | none => rw [e] at hp; exact hp.elim
  | some dv =>
    cases dv with
    | own ds =>
      rw [e] at hp
      cases d with
      | int k =>
        cases hv
        obtain ⟨b, us, k1, k2, k3⟩ := own_at R1 e
        rw [h1] at k1
        cases k1
        obtain ⟨b1, b2, j, x, e1, e2, hp⟩ := hp
        obtain ⟨v, hv, hvd⟩ := k3.getD e2
        obtain ⟨R2, hs⟩ := own_mut R1 e h1 (k3.erase j)
        exact ⟨a, us, k, j, v, rfl, rfl, k2, b1, b2, by rw [k3.len]; exact e1, hv, q _ _ _ _ hp R2 (hvd.of hs)⟩
      | _ => exact hp.elim
    | _ => rw [e] at hp; exact hp.elim
/-- x != [], x == [] of a list in a slot -/
def dVsNil (neg : Bool) (i : Nat) : DE := fun s P => dListVar i s fun ds s1 => PyData.hasDictAll ds = false ∧ SeqAt.shaped (.list ds) = true ∧ P (.bool (if neg then !ds.isEmpty else ds.isEmpty)) s1
theorem eqv_nil {ds : List PyData} : PyData.eqv (.list ds) (.list []) = ds.isEmpty := by
  cases ds with
  | nil => simp [PyData.eqv, PyData.eqvAll]
  | cons d r => simp [PyData.eqv, PyData.eqvAll]
theorem re_neNil {i : Nat} : RE K (tOp (rNeD K) (tVar i) (tLst tNil)) (dVsNil true i) := fun C hC s P hd σ H Q R q => by
  subst hC
  obtain ⟨a, vs, ds, h1, ⟨hn, hsh, hp⟩, h2, h3⟩ := list_at R hd
  refine rd_op (rd_var h1 (rd_lst (rd_nil ⟨Nat.zero_le _, fun p np => ?_⟩)))
  have s1 := same_upd (o := .lst []) np
  refine ⟨.list ds, .list [], .lst (sq (s1 _ _ h2)) (((h3.of (hd_sub _ H)).of s1).dp ds _ hn), .lst (sq upd_same) .nil, hsh, rfl, ?_⟩
  rw [eqv_nil]
  exact q _ _ _ s hp (R.ext s1) (.bl _)
theorem re_eqNil {i : Nat} : RE K (tOp (rEqD K) (tVar i) (tLst tNil)) (dVsNil false i) := fun C hC s P hd σ H Q R q => by
  subst hC
  obtain ⟨a, vs, ds, h1, ⟨hn, hsh, hp⟩, h2, h3⟩ := list_at R hd
  refine rd_op (rd_var h1 (rd_lst (rd_nil ⟨Nat.zero_le _, fun p np => ?_⟩)))
  have s1 := same_upd (o := .lst []) np
  refine ⟨.list ds, .list [], .lst (sq (s1 _ _ h2)) (((h3.of (hd_sub _ H)).of s1).dp ds _ hn), .lst (sq upd_same) .nil, hsh, rfl, ?_⟩
  rw [eqv_nil]
  exact q _ _ _ s hp (R.ext s1) (.bl _)
/-! ### isinstance -/
def tyD : PyData → String
  | .none => "NoneType"
  | .bool _ => "bool"
  | .int _ => "int"
  | .str _ => "str"
  | .list _ => "list"
  | .tuple _ => "tuple"
  | .dict _ => "dict"
theorem da_ty {H : Hp} {v : V} {d : PyData} (h : Da K H v d) : TyX K H v (.type (tyD d)) := by
  cases h with
  | non => exact .base .non
  | bl b => exact .base (.bl b)
  | int i => exact .base (.int i)
  | str x => exact .base (.str x)
  | lst h1 _ => exact .base (.lst h1)
  | tup h1 _ =>
    rcases h1 with ⟨o, h1, _⟩ | ⟨o, its, n, h1, h2, _⟩
    · exact .fTuple h1
    · exact .kTuple h1 h2
  | dic h1 _ => exact .base (.dK h1)
/-- the answer of isinstance by the two types' names -/
def isaB (t n : String) : Option Bool := PySem.W.kitOne [] (.type t) (.type n)
theorem kit_nil {t n : String} : PySem.W.kitOne K (.type t) (.type n) = isaB t n := by
  unfold isaB PySem.W.kitOne PySem.W.kitCls PySem.W.subIn
  rfl
def dIsi (n : String) (de : DE) : DE := fun s P => de s fun d s1 => ∃ b, isaB (tyD d) n = some b ∧ P (.bool b) s1
theorem re_isi {n : String} {te : TE} {de : DE} (h : RE K te de) : RE K (tCB (rIsi K) (tCons te (tCons (tC (.ty n)) tNil))) (dIsi n de) := fun C hC s P hd σ H Q R q =>
  rd_cb (rd_cons (h C hC s _ hd σ H _ R fun v H1 d s1 hp R1 hv => rd_cons (rd_c (rd_nil (by
    obtain ⟨b, hb, hp⟩ := hp
    have hv' : Da K H1 v d := hC ▸ (hv.of (hd_sub _ H1))
    exact ⟨v, .ty n, _, _, b, rfl, .ty n, da_ty hv', kit_nil.trans hb, q _ H1 _ s1 hp R1 (.bl _)⟩)))))
/-! ### str(int) -/
def dStrI (de : DE) : DE := fun s P => de s fun d s1 => match d with
  | .int i => i.natAbs.log2 < 1920 ∧ P (.str (toString i)) s1
  | _ => False
theorem re_strI {te : TE} {de : DE} (h : RE K te de) : RE K (tCB (fun xs H Q => ∃ i : Int, xs = [.int i] ∧ i.natAbs.log2 < 1920 ∧ Q (.str (toString i)) H) (tCons te tNil)) (dStrI de) := fun C hC s P hd σ H Q R q =>
  rd_cb (rd_cons (h C hC s _ hd σ H _ R fun v H1 d s1 hp R1 hv => by
    cases d with
    | int i =>
      cases hv
      exact rd_nil ⟨i, rfl, hp.1, q _ H1 _ s1 hp.2 R1 (.str _)⟩
    | _ => exact hp.elim))
/-! ### all([..]) of truths -/
def boolsD : List PyData → Option (List Bool)
  | [] => some []
  | .bool b :: r => (boolsD r).map (b :: ·)
  | _ => none
theorem bools_da {H : Hp} : ∀ {vs : List V} {ds : List PyData} {bs : List Bool}, DaAll K H vs ds → boolsD ds = some bs → vs = bs.map V.bl
  | _, _, _, .nil, e => by cases e; rfl
  | _, _, bs, .cons (d := d) h t, e => by
    cases d with
    | bool b =>
      unfold boolsD at e
      obtain ⟨r, e1, e2⟩ := Option.map_eq_some_iff.mp e
      subst e2
      cases h
      rw [bools_da t e1]
      rfl
    | _ => cases e
def dAll (dl : DA) : DE := fun s P => dl s fun ds s1 => ∃ bs, boolsD ds = some bs ∧ P (.bool (bs.all id)) s1
theorem re_all {te : TE} {dl : DA} (h : RL K te dl) : RE K (tCB (rAll K) (tCons te tNil)) (dAll dl) := fun C hC s P hd σ H Q R q =>
  rd_cb (rd_cons (h C hC s _ hd σ H _ R fun a vs H1 ds s1 hp R1 e hv => rd_nil (by
    obtain ⟨bs, hb, hp⟩ := hp
    exact ⟨a, bs, rfl, by rw [← bools_da hv hb]; exact sq e, q _ H1 _ s1 hp R1 (.bl _)⟩)))
end DL

set_option Elab.async false
set_option linter.all false
set_option maxRecDepth 100000
set_option maxHeartbeats 4000000
/-! DLg: more list operations, sorted texts, dicts told by data. -/
namespace DL
open PySem PySem.Spec PyProof.Rows L2 GG DD PT
variable {K : PySem.W.Frag}
/-- xs + ys of lists -/
def dCat (da db : DE) : DA := fun s P => da s fun d s1 => db s1 fun e s2 => match d, e with
  | .list a, .list b => a.length + b.length ≤ 1000000 ∧ P (a ++ b) s2
  | _, _ => False
theorem rf_cat {ta tb : TE} {da db : DE} (h1 : RE K ta da) (h2 : RE K tb db) : RF K (tOp rCat ta tb) (dCat da db) := fun C hC s P hd σ H Q R q =>
  rd_op (h1 C hC s _ hd σ H _ R fun v H1 d s1 hd1 R1 hv => h2 (C.keep v d) hC s1 _ hd1 σ H1 _ (R1.keep hv) fun w H2 e s2 hp R2 hw => by
    obtain ⟨R3, hv3⟩ := R2.kept
    split at hp
    · obtain ⟨a, vs, rfl, k1, k2⟩ := da_list hv3
      obtain ⟨b, us, rfl, k3, k4⟩ := da_list hw
      exact ⟨a, b, vs, us, rfl, rfl, k1, k3, by rw [k2.len, k4.len]; exact Nat.le_trans hp.1 sz6, fun p np => q p _ H2 _ s2 hp.2 R3 np (k2.append k4)⟩
    · exact hp.elim)
/-- xs * k of a list -/
def dRep (da db : DE) : DA := fun s P => da s fun d s1 => db s1 fun e s2 => match d, e with
  | .list a, .int k => -(2 ^ 63) ≤ k ∧ k < 2 ^ 63 ∧ a.length * k.toNat ≤ 1000000 ∧ P (List.replicate k.toNat a).flatten s2
  | _, _ => False
theorem rf_rep {ta tb : TE} {da db : DE} (h1 : RE K ta da) (h2 : RE K tb db) : RF K (tOp rRep ta tb) (dRep da db) := fun C hC s P hd σ H Q R q =>
  rd_op (h1 C hC s _ hd σ H _ R fun v H1 d s1 hd1 R1 hv => h2 (C.keep v d) hC s1 _ hd1 σ H1 _ (R1.keep hv) fun w H2 e s2 hp R2 hw => by
    obtain ⟨R3, hv3⟩ := R2.kept
    split at hp
    · obtain ⟨a, vs, rfl, k1, k2⟩ := da_list hv3
      cases hw
      exact ⟨a, _, vs, rfl, rfl, k1, hp.1, hp.2.1, by rw [k2.len]; exact Nat.le_trans hp.2.2.1 sz6, fun p np => q p _ H2 _ s2 hp.2.2.2 R3 np (k2.rep _)⟩
    · exact hp.elim)
/-! ### sorted texts -/
def strsD : List PyData → Option (List Str)
  | [] => some []
  | .str x :: r => (strsD r).map (x :: ·)
  | _ => none
theorem strs_da {H : Hp} : ∀ {vs : List V} {ds : List PyData} {bs : List Str}, DaAll K H vs ds → strsD ds = some bs → vs = bs.map V.str
  | _, _, _, .nil, e => by cases e; rfl
  | _, _, bs, .cons (d := d) h t, e => by
    cases d with
    | str b =>
      unfold strsD at e
      obtain ⟨r, e1, e2⟩ := Option.map_eq_some_iff.mp e
      subst e2
      cases h
      rw [strs_da t e1]
      rfl
    | _ => cases e
theorem da_strs {H : Hp} : ∀ ys : List Str, DaAll K H (ys.map V.str) (ys.map .str)
  | [] => .nil
  | y :: ys => .cons (.str y) (da_strs ys)
def dSortS (dl : DA) : DA := fun s P => dl s fun ds s1 => ∃ xs, strsD ds = some xs ∧ xs.length < 64 ∧ ∀ ys : List Str, ys.Perm xs → sortedS ys = true → P (ys.map .str) s1
theorem rf_sortS {te : TE} {dl : DA} (h : RL K te dl) : RF K (tCB (rSortedS K) (tCons te tNil)) (dSortS dl) := fun C hC s P hd σ H Q R q =>
  rd_cb (rd_cons (h C hC s _ hd σ H _ R fun a vs H1 ds s1 hp R1 e hv => rd_nil (by
    obtain ⟨xs, hx, hl, hp⟩ := hp
    exact ⟨a, xs, rfl, by rw [← strs_da hv hx]; exact sq e, hl, fun ys p hpm hso np => q p _ H1 _ s1 (hp ys hpm hso) R1 np (da_strs ys)⟩)))
/-! ### repr, data without a dict or a dict of flat things -/
def flatKv : List (PyData × PyData) → Bool
  | [] => true
  | (_, d) :: r => (flatD d).isSome && flatKv r
def reprOk : PyData → Bool
  | .dict kvs => flatKv kvs
  | d => !d.hasDict
theorem ents_of {H : Hp} : ∀ {es : List (L2.Key × V)} {kvs : List (PyData × PyData)}, DaKv K H es kvs → flatKv kvs = true → entsD es = some kvs
  | _, _, .nil, _ => rfl
  | _, _, .cons (d := d) (v := v) h t, e => by
    unfold flatKv at e
    rw [Bool.and_eq_true] at e
    have t' := ents_of t e.2
    unfold entsD
    have hv : flatV0 v = some d := by
      cases d with
      | none => cases h; rfl
      | bool b => cases h; rfl
      | int i => cases h; rfl
      | str z => cases h; rfl
      | _ => cases e.1
    rw [hv, t']
theorem dt_of {S : Addr → Prop} {H : Hp} {v : V} {d : PyData} (h : Da K (Hd S H) v d) (e : reprOk d = true) : Dt K H v d := by
  have h' := h.of (hd_sub S H)
  cases d with
  | dict kvs =>
    cases h' with
    | dic h1 h2 => exact .dic h1 (ents_of h2 e)
  | _ => exact .base (h'.dp _ v (by simpa [reprOk] using e))
def dRepr (de : DE) : DE := fun s P => de s fun d s1 => reprOk d = true ∧ d.showable = true ∧ d.depth ≤ 60 ∧ d.shown.length ≤ sizeLine ∧ P (.str d.shown) s1
theorem re_repr {te : TE} {de : DE} (h : RE K te de) : RE K (tCB (rRepr K) (tCons te tNil)) (dRepr de) := fun C hC s P hd σ H Q R q =>
  rd_cb (rd_cons (h C hC s _ hd σ H _ R fun v H1 d s1 hp R1 hv => rd_nil ⟨v, d, rfl, by
    subst hC
    exact dt_of hv hp.1, hp.2.1, hp.2.2.1, hp.2.2.2.1, q _ H1 _ s1 hp.2.2.2.2 R1 (.str _)⟩))
end DL

set_option Elab.async false
set_option linter.all false
set_option maxRecDepth 100000
set_option maxHeartbeats 4000000
/-! DLh: negatives, chains, membership, targets of an assignment, a, b = [], e. -/
namespace DL
open PySem PySem.Spec PyProof.Rows L2 GG DD PT
variable {K : PySem.W.Frag}
def dNeg (de : DE) : DE := fun s P => de s fun d s1 => match d with
  | .int i => P (.int (-i)) s1
  | _ => False
theorem re_neg {te : TE} {de : DE} (h : RE K te de) : RE K (tUn (rU fun i => .int (-i)) te) (dNeg de) := fun C hC s P hd σ H Q R q =>
  h C hC s _ hd σ H _ R fun v H1 d s1 hp R1 hv => by
    cases d with
    | int i =>
      cases hv
      exact ⟨i, rfl, q _ H1 _ s1 hp R1 (.int _)⟩
    | _ => exact hp.elim
/-- a op b op' c -/
def dChain (r r' : D2) (da db dc : DE) : DE := fun s P => da s fun x s1 => db s1 fun y s2 => r x y fun z => match z with
  | .bool k => if k = true then dc s2 fun w s3 => r' y w fun u => P u s3 else P (.bool false) s2
  | _ => False
theorem re_chain {r r' : R2} {ro ro' : D2} {ta tb tc : TE} {da db dc : DE} (h : RO K r ro) (h' : RO K r' ro') (h1 : RE K ta da) (h2 : RE K tb db) (h3 : RE K tc dc) : RE K (tChain r r' ta tb tc) (dChain ro ro' da db dc) := fun C hC s P hd σ H Q R q =>
  h1 C hC s _ hd σ H _ R fun v H1 d s1 hd1 R1 hv => h2 (C.keep v d) hC s1 _ hd1 σ H1 _ (R1.keep hv) fun w H2 e s2 hp R2 hw => by
    obtain ⟨R3, hv3⟩ := R2.kept
    subst hC
    refine h _ H2 v w d e _ _ R3.taken hv3 hw hp fun z H3 f hf s23 hz => ?_
    have R4 := R3.ext s23
    cases f with
    | bool k =>
      cases hz
      refine ⟨k, rfl, ?_⟩
      cases k with
      | false => exact pF (by decide) (q _ H3 _ s2 (by simpa using hf) R4 (.bl _))
      | true =>
        refine pT rfl (h3 (C.keep w e) rfl s2 _ (by simpa using hf) σ H3 _ (R4.keep (hw.of (hdS s23))) fun w' H4 e' s4 hp4 R5 hw' => ?_)
        obtain ⟨R6, hw6⟩ := R5.kept
        exact h' _ H4 w w' e e' _ _ R6.taken hw6 hw' hp4 fun u H5 g hg s45 hu => q _ H5 _ s4 hg (R6.ext s45) hu
    | _ => exact hf.elim
/-- x in a list or tuple of flat things -/
def flatsD : List PyData → Option (List V)
  | [] => some []
  | d :: r => match flatD d, flatsD r with
    | some v, some vs => some (v :: vs)
    | _, _ => none
theorem flats_da {H : Hp} : ∀ {vs ws : List V} {ds : List PyData}, DaAll K H vs ds → flatsD ds = some ws → vs = ws
  | _, _, _, .nil, e => by cases e; rfl
  | _, _, _, .cons (d := d) (ds := ds) h t, e => by
    unfold flatsD at e
    cases e1 : flatD d with
    | none => rw [e1] at e; cases e
    | some x =>
      cases e2 : flatsD ds with
      | none => rw [e1, e2] at e; cases e
      | some xs =>
        rw [e1, e2] at e
        cases e
        rw [flat_v h e1, flats_da t e2]
def oIn (neg : Bool) : D2 := fun d e P => match flatD d, e with
  | some x, .list ds => ∃ vs, flatsD ds = some vs ∧ flatV x = true ∧ vs.all flatV = true ∧ P (.bool (if neg then !inV x vs else inV x vs))
  | some x, .tuple ds => ∃ vs, flatsD ds = some vs ∧ flatV x = true ∧ vs.all flatV = true ∧ P (.bool (if neg then !inV x vs else inV x vs))
  | _, _ => False
theorem ro_in {neg : Bool} : RO K (rIn K neg) (oIn neg) := fun S H x y d e P Q T hx hy h q => by
  unfold oIn at h
  split at h
  · rename_i z ds e1
    obtain ⟨vs, e2, h1, h2, hp⟩ := h
    obtain ⟨a, us, rfl, k1, k2⟩ := da_list hy
    have e3 := flats_da k2 e2
    subst e3
    have e4 := flat_v hx e1
    subst e4
    exact ⟨a, us, rfl, .inl (sq k1), h1, h2, q _ H _ hp (Same.refl _) (.bl _)⟩
  · rename_i z ds e1
    obtain ⟨vs, e2, h1, h2, hp⟩ := h
    obtain ⟨a, us, rfl, k1, k2⟩ := da_tup hy
    have e3 := flats_da k2 e2
    subst e3
    have e4 := flat_v hx e1
    subst e4
    exact ⟨a, us, rfl, .inr k1, h1, h2, q _ H _ hp (Same.refl _) (.bl _)⟩
  · exact h.elim
/-- (a, b, ..) = e -/
def dAsg (de : DE) (g : DG) : DS := fun E s => de s fun d s1 => g d E.nx s1
theorem rs_asg {te : TE} {g : TG} {de : DE} {dg : DG} (h : RE K te de) (hg : RG false K g dg) : RS K (tAsg te g) (dAsg de dg) := fun C hC E s hd σ H D R o =>
  h C hC s _ hd σ H _ R fun v H1 d s1 hp R1 hv => hg C hC d _ s1 hp σ H1 v _ R1 (.inl hv) fun σ' s' h' R' => o.nx σ' H1 s' h' R'
/-- a new list that was hidden becomes one's own -/
theorem Rl.adopt {C : DC} {σ : L2.St} {H : Hp} {s : DSt} {L : Addr} {vs : List V} {ds : List PyData} {i : Nat} (R : Rl (C.hide L) σ H s) (nS : ¬ C.S0 L) (nM : ¬ Mu C.W L) (n0 : C.H0 L = none) (hZ : ∀ a u, C.Z a u → C.S0 a) (e : H L = some (.lst vs)) (h : DaAll C.K (Hd (Sof (C.hide L) σ s.sl) H) vs ds) (hi : i < s.sl.length) :
    Rl C (σ.set i (some (.ref L))) H ⟨s.sl.set i (.own ds), s.n⟩ := by
  obtain ⟨R2, hs⟩ := R.leave nS nM n0 hZ
  have z := R2.setOwn (i := i) (a := L) (o := .lst vs) (dv := .own ds) (if_pos rfl) hi rfl fun S' hs' => ⟨L, vs, rfl, upd_same, (h.of hs).of hs'⟩
  rw [del_upd e] at z
  exact z
/-- a, b = a new list, e -/
def dParL (i j : Nat) (dl : DA) (de : DE) : DS := fun E s => dl s fun ds s1 => de s1 fun d s2 => i < s2.sl.length ∧ E.nx ⟨(s2.sl.set i (.own ds)).set j (.dat d), s2.n⟩
theorem rs_parL {i j : Nat} {te tf : TE} {dl : DA} {de : DE} (h : RF K te dl) (h2 : RE K tf de) : RS K (tPar i j (tCons te (tCons tf tNil))) (dParL i j dl de) := fun C hC E s hd σ H D R o =>
  h C hC s _ hd σ H _ R fun a vs H1 ds s1 hd1 R1 na hv => by
    obtain ⟨n1, n2⟩ := R1.new na
    have R2 := (R1.hidden (o := .lst vs) na).pin (L := a) (.inr rfl) (fun z => n1 (.inr (.inl z))) upd_same
    have hs : Same (Hd (Sof C σ s1.sl) H1) (Hd (Sof (C.hide a) σ s1.sl) (upd H1 a (.lst vs))) := fun b u e => by
      obtain ⟨z1, z3⟩ := hd_some e
      have hb : b ≠ a := ne_of_none z3 na
      rw [hd_ne (fun z => (sof_hide.mp z).elim z1 hb), upd_ne hb]
      exact z3
    have R2' := R2.more (pair_da (hv.of hs))
    refine h2 (((C.hide a).pin a (.lst vs)).more (pairG vs ds)) hC s1 _ hd1 σ _ _ R2' fun w H2 d s2 hp R3 hw => ⟨_, _, rfl, ?_⟩
    obtain ⟨R4, e4⟩ := R3.less.unpin
    have hds : DaAll C.K (Hd (Sof (C.hide a) σ s2.sl) H2) vs ds := da_pair hv.len fun x y z => R3.gh x y (.inr z)
    have hw' : Da C.K (Hd (Sof (C.hide a) σ s2.sl) H2) w d := hw
    have R5 := (R4.keep (v := w) (d := d) hw')
    have R6 := Rl.adopt (C := C.keep w d) (i := i) R5 (fun z => n1 (.inl z)) (fun z => n1 (.inr (.inl z))) n2 (fun b u z => (R1.fz b u z).1) e4 hds hp.1
    obtain ⟨R7, hw7⟩ := R6.kept
    exact o.nx _ H2 _ hp.2 (R7.set hw7)
/-- a, b = e, a new list -/
def dParR (i j : Nat) (de : DE) (dl : DA) : DS := fun E s => de s fun d s1 => dl s1 fun ds s2 => i ≠ j ∧ j < s2.sl.length ∧ E.nx ⟨(s2.sl.set i (.dat d)).set j (.own ds), s2.n⟩
theorem rs_parR {i j : Nat} {te tf : TE} {dl : DA} {de : DE} (h : RE K te de) (h2 : RF K tf dl) : RS K (tPar i j (tCons te (tCons tf tNil))) (dParR i j de dl) := fun C hC E s hd σ H D R o =>
  h C hC s _ hd σ H _ R fun w H1 d s1 hd1 R1 hw => h2 (C.keep w d) hC s1 _ hd1 σ H1 _ (R1.keep hw) fun a vs H2 ds s2 hp R2 na hv => by
    refine ⟨_, _, rfl, ?_⟩
    obtain ⟨R3, hw3⟩ := R2.kept
    have R4 := (R3.keep (v := w) (d := d) hw3).set (i := i) hw3
    have hs : Same (Hd (Sof C σ s2.sl) H2) (Hd (Sof C (σ.set i (some w)) (s2.sl.set i (.dat d))) H2) := hd_mono fun b z => sof_set (s := s2) rfl b z
    have hv' : DaAll C.K (Hd (Sof C (σ.set i (some w)) (s2.sl.set i (.dat d))) H2) vs ds := (show DaAll C.K (Hd (Sof C σ s2.sl) H2) vs ds from hv).of hs
    obtain ⟨R5, _⟩ := R4.kept
    exact o.nx _ _ _ hp.2.2 (R5.setOwn na (by rw [List.length_set]; exact hp.2.1) rfl fun S' hs' => ⟨a, vs, rfl, upd_same, hv'.of hs'⟩)
/-- a, b = a new list, a new list -/
def dParLL (i j : Nat) (dl dm : DA) : DS := fun E s => dl s fun ds s1 => dm s1 fun es s2 => i < s2.sl.length ∧ j < s2.sl.length ∧ E.nx ⟨(s2.sl.set i (.own ds)).set j (.own es), s2.n⟩
theorem rs_parLL {i j : Nat} {te tf : TE} {dl dm : DA} (h : RF K te dl) (h2 : RF K tf dm) : RS K (tPar i j (tCons te (tCons tf tNil))) (dParLL i j dl dm) := fun C hC E s hd σ H D R o =>
  h C hC s _ hd σ H _ R fun a vs H1 ds s1 hd1 R1 na hv => by
    obtain ⟨n1, n2⟩ := R1.new na
    have R2 := (R1.hidden (o := .lst vs) na).pin (L := a) (.inr rfl) (fun z => n1 (.inr (.inl z))) upd_same
    have hs : Same (Hd (Sof C σ s1.sl) H1) (Hd (Sof (C.hide a) σ s1.sl) (upd H1 a (.lst vs))) := fun b u e => by
      obtain ⟨z1, z3⟩ := hd_some e
      have hb : b ≠ a := ne_of_none z3 na
      rw [hd_ne (fun z => (sof_hide.mp z).elim z1 hb), upd_ne hb]
      exact z3
    have R2' := R2.more (pair_da (hv.of hs))
    refine h2 (((C.hide a).pin a (.lst vs)).more (pairG vs ds)) hC s1 _ hd1 σ _ _ R2' fun b us H2 es s2 hp R3 nb hu => ⟨_, _, rfl, ?_⟩
    obtain ⟨R4, e4⟩ := R3.less.unpin
    have hds : DaAll C.K (Hd (Sof (C.hide a) σ s2.sl) H2) vs ds := da_pair hv.len fun x y z => R3.gh x y (.inr z)
    have hus : DaAll C.K (Hd (Sof (C.hide a) σ s2.sl) H2) us es := hu
    -- the second list's items are kept while the first is adopted
    have R5 := R4.more (pair_da hus)
    have R6 := Rl.adopt (C := C.more (pairG us es)) (i := i) R5 (fun z => n1 (.inl z)) (fun z => n1 (.inr (.inl z))) n2 (fun b u z => (R1.fz b u z).1) e4 hds hp.1
    have hu6 : DaAll C.K (Hd (Sof C (σ.set i (some (V.ref a))) (s2.sl.set i (.own ds))) H2) us es := da_pair hus.len fun x y z => R6.gh x y (.inr z)
    exact o.nx _ _ _ hp.2.2 (R6.less.setOwn nb (by rw [List.length_set]; exact hp.2.1) rfl fun S' hs' => ⟨b, us, rfl, upd_same, hu6.of hs'⟩)
/-! ### (a, b) = (.., ..) by a tuple in between: where a name is a cell -/
theorem rs_tup2 {i j : Nat} {ta : TA} {da : DA} (h : RA K ta da) : RS K (tAsg (tTupP ta) (gTup K 2 (gCons (gName i) (gCons (gName j) gNil)))) (dPar i j da) := fun C hC E s hd σ H D R o =>
  rd_tupP (h C hC s _ hd σ H _ R fun vs H1 ds s1 hp R1 hv => by
    match ds, hp, hv with
    | [d, e], hp, .cons (v := v) h1 (.cons (v := w) h2 .nil) =>
      refine ⟨by show 2 ≤ sizeLine; decide, fun p ob np _ => rd_gnn (.inl (.inr ⟨ob, upd_same⟩)) ?_⟩
      have hk := same_upd (o := .frz ob (.tup [v, w])) np
      have R2 := ((R1.ext hk).keep (v := w) (h2.of (hdS hk))).set (i := i) (h1.of (hdS hk))
      obtain ⟨R3, h3⟩ := R2.kept
      exact o.nx _ _ _ hp (R3.set h3))
theorem rs_tupL {i j : Nat} {te tf : TE} {dl : DA} {de : DE} (h : RF K te dl) (h2 : RE K tf de) : RS K (tAsg (tTupP (tCons te (tCons tf tNil))) (gTup K 2 (gCons (gName i) (gCons (gName j) gNil)))) (dParL i j dl de) := fun C hC E s hd σ H D R o =>
  rd_tupP (rd_cons (h C hC s _ hd σ H _ R fun a vs H1 ds s1 hd1 R1 na hv => by
    obtain ⟨n1, n2⟩ := R1.new na
    have R2 := (R1.hidden (o := .lst vs) na).pin (L := a) (.inr rfl) (fun z => n1 (.inr (.inl z))) upd_same
    have hs : Same (Hd (Sof C σ s1.sl) H1) (Hd (Sof (C.hide a) σ s1.sl) (upd H1 a (.lst vs))) := fun b u e => by
      obtain ⟨z1, z3⟩ := hd_some e
      have hb : b ≠ a := ne_of_none z3 na
      rw [hd_ne (fun z => (sof_hide.mp z).elim z1 hb), upd_ne hb]
      exact z3
    have R2' := R2.more (pair_da (hv.of hs))
    refine rd_cons (h2 (((C.hide a).pin a (.lst vs)).more (pairG vs ds)) hC s1 _ hd1 σ _ _ R2' fun w H2 d s2 hp R3 hw => rd_nil ⟨by show 2 ≤ sizeLine; decide, fun p ob np _ => rd_gnn (.inl (.inr ⟨ob, upd_same⟩)) ?_⟩)
    have hk := same_upd (o := .frz ob (.tup [.ref a, w])) np
    obtain ⟨R4, e4⟩ := R3.less.unpin
    have hds : DaAll C.K (Hd (Sof (C.hide a) σ s2.sl) H2) vs ds := da_pair hv.len fun x y z => R3.gh x y (.inr z)
    have hw' : Da C.K (Hd (Sof (C.hide a) σ s2.sl) H2) w d := hw
    have R5 := ((R4.ext hk).keep (v := w) (d := d) (hw'.of (hdS hk)))
    have R6 := Rl.adopt (C := C.keep w d) (i := i) R5 (fun z => n1 (.inl z)) (fun z => n1 (.inr (.inl z))) n2 (fun b u z => (R1.fz b u z).1) (hk _ _ e4) (hds.of (hdS hk)) hp.1
    obtain ⟨R7, hw7⟩ := R6.kept
    exact o.nx _ _ _ hp.2 (R7.set hw7)))
theorem rs_tupR {i j : Nat} {te tf : TE} {dl : DA} {de : DE} (h : RE K te de) (h2 : RF K tf dl) : RS K (tAsg (tTupP (tCons te (tCons tf tNil))) (gTup K 2 (gCons (gName i) (gCons (gName j) gNil)))) (dParR i j de dl) := fun C hC E s hd σ H D R o =>
  rd_tupP (rd_cons (h C hC s _ hd σ H _ R fun w H1 d s1 hd1 R1 hw => rd_cons (h2 (C.keep w d) hC s1 _ hd1 σ H1 _ (R1.keep hw) fun a vs H2 ds s2 hp R2 na hv => rd_nil ⟨by show 2 ≤ sizeLine; decide, fun p ob np _ => rd_gnn (.inl (.inr ⟨ob, upd_same⟩)) (by
    obtain ⟨R3, hw3⟩ := R2.kept
    obtain ⟨n1, n2⟩ := R3.new na
    have hv' : DaAll C.K (Hd (Sof C σ s2.sl) H2) vs ds := hv
    have hs : Same (Hd (Sof C σ s2.sl) H2) (Hd (Sof (C.hide a) σ s2.sl) (upd H2 a (.lst vs))) := fun b u e => by
      obtain ⟨z1, z3⟩ := hd_some e
      have hb : b ≠ a := ne_of_none z3 na
      rw [hd_ne (fun z => (sof_hide.mp z).elim z1 hb), upd_ne hb]
      exact z3
    have hk := same_upd (o := .frz ob (.tup [w, .ref a])) np
    -- first the plain value, then the list becomes one's own
    have R4 := ((R3.hidden (o := .lst vs) na).ext hk)
    have w4 : Da C.K (Hd (Sof (C.hide a) σ s2.sl) (upd (upd H2 a (.lst vs)) p (.frz ob (.tup [w, .ref a])))) w d := (hw3.of hs).of (hdS hk)
    have v4 := (hv'.of hs).of (hdS hk)
    have R5 := (R4.more (pair_da v4)).set (i := i) w4
    have v5 : DaAll C.K (Hd (Sof (C.hide a) (σ.set i (some w)) (s2.sl.set i (.dat d))) (upd (upd H2 a (.lst vs)) p (.frz ob (.tup [w, .ref a])))) vs ds := da_pair hv.len fun x y z => R5.gh x y (.inr z)
    exact o.nx _ _ _ hp.2.2 (Rl.adopt (C := C) (i := j) R5.less (fun z => n1 (.inl z)) (fun z => n1 (.inr (.inl z))) n2 (fun b u z => (R3.fz b u z).1) (hk _ _ upd_same) v5 (by
      show j < (s2.sl.set i (.dat d)).length
      rw [List.length_set]
      exact hp.2.1)))⟩)))
end DL

set_option Elab.async false
set_option linter.all false
set_option maxRecDepth 100000
set_option maxHeartbeats 4000000
/-! DLr: repr of any data, dicts inside too. -/
namespace DL
open PySem PySem.Spec PyProof.Rows L2 GG DD PT
section
variable {X : Cx} {pins : List (Addr × Obj)} {σ : L2.St} {H : Hp} {s : Shared}
mutual
theorem Da.reads (I : Inv X pins σ H s) : ∀ (d : PyData) (v : V) (u : Value), Da X.K H v d → RelV v u → ∃ as, Reads s.heap u d as ∧ ((∀ zs, H sysModules ≠ some (.lst zs)) → sysModules ∉ as)
  | .none, _, _, h, r => by
    cases h
    cases r
    exact ⟨_, Reads.none, fun _ z => by cases z⟩
  | .bool b, _, _, h, r => by
    cases h
    cases r
    exact ⟨_, Reads.bool b, fun _ z => by cases z⟩
  | .int i, _, _, h, r => by
    cases h
    obtain ⟨t, rfl⟩ := r
    exact ⟨_, Reads.int i t, fun _ z => by cases z⟩
  | .str x, _, _, h, r => by
    cases h
    obtain ⟨t, rfl⟩ := r
    exact ⟨_, Reads.str x t, fun _ z => by cases z⟩
  | .list ds, _, _, h, r => by
    cases h with
    | @lst a xs _ hs ha =>
      cases r
      obtain ⟨its, rv, ⟨o, n, ho, hc, _, hd⟩, _⟩ := I.list (sq hs)
      obtain ⟨as, hr, hm⟩ := DaAll.reads I ds _ its ha rv
      refine ⟨_, Reads.list ho hc hd hr, fun hS z => ?_⟩
      rcases List.mem_cons.mp z with z | z
      · exact hS xs (z ▸ hs)
      · exact hm hS z
  | .tuple ds, _, _, h, r => by
    cases h with
    | tup hs ha =>
      cases r
      obtain ⟨its, rv, ⟨o, ho, hc, n, hd⟩, _⟩ := I.tuple hs.sq
      obtain ⟨as, hr, hm⟩ := DaAll.reads I ds _ its ha rv
      exact ⟨_, Reads.tuple ho hc hd hr, hm⟩
  | .dict ds, _, _, h, r => by
    cases h with
    | @dic a kvs _ h1 h2 =>
      cases r
      obtain ⟨hz, hs, us, rk, o, es, ep, ho, hx, hd, _, hp, _⟩ : kvs.length ≤ sizeLine ∧ (a == sysModules) = false ∧ ∃ vs, KV kvs vs ∧ s.heap.DictOf (mixKind X.prog X.w) a vs := I.hok a _ h1
      obtain ⟨as, q1, q2, hm⟩ := DaKv.reads I ds kvs us es.toList h2 hp rk
      refine ⟨_, Reads.dict ho hx.1 hd q1 q2, fun hS z => ?_⟩
      rcases List.mem_append.mp z with z | z
      · have e := List.mem_singleton.mp z
        rw [e, beq_self_eq_true] at hs
        cases hs
      · exact hm hS z
theorem DaAll.reads (I : Inv X pins σ H s) : ∀ (ds : List PyData) (vs : List V) (us : List Value), DaAll X.K H vs ds → Vals vs us → ∃ as, ReadsAll s.heap us ds as ∧ ((∀ zs, H sysModules ≠ some (.lst zs)) → sysModules ∉ as)
  | [], _, _, h, r => by
    cases h
    cases r
    exact ⟨_, ReadsAll.nil, fun _ z => by cases z⟩
  | d :: ds, _, _, h, r => by
    cases h with
    | cons h1 h2 =>
      cases r with
      | cons r1 r2 =>
        obtain ⟨as, q1, m1⟩ := Da.reads I d _ _ h1 r1
        obtain ⟨bs, q2, m2⟩ := DaAll.reads I ds _ _ h2 r2
        exact ⟨_, ReadsAll.cons q1 q2, fun hS z => (List.mem_append.mp z).elim (m1 hS) (m2 hS)⟩
theorem DaKv.reads (I : Inv X pins σ H s) : ∀ (ds : List (PyData × PyData)) (kvs : List (L2.Key × V)) (us : List (L2.Key × Value)) (es : List DictEntry), DaKv X.K H kvs ds → Pairs (mixKind X.prog X.w) es us → KV kvs us →
    ∃ as, ReadsAll s.heap (es.map (·.key)) (ds.map (·.1)) [] ∧ ReadsAll s.heap (es.map (·.val)) (ds.map (·.2)) as ∧ ((∀ zs, H sysModules ≠ some (.lst zs)) → sysModules ∉ as)
  | [], _, _, _, h, hp, hk => by
    cases h
    cases hk
    cases hp
    exact ⟨_, .nil, .nil, fun _ z => by cases z⟩
  | (k', d) :: ds, _, _, _, h, hp, hk => by
    cases h with
    | cons h1 h2 =>
      cases hk with
      | cons k1 k2 =>
        cases hp with
        | cons p1 p2 p3 =>
          obtain ⟨ek, rv⟩ := k1
          obtain ⟨bs, q1, q2, m2⟩ := DaKv.reads I ds _ _ _ h2 p3 k2
          obtain ⟨as, q3, m1⟩ := Da.reads I d _ _ h1 (p2.symm ▸ rv)
          refine ⟨_, ReadsAll.cons (key_reads (by
            have y := p1
            rw [mixKind_is] at y
            rw [← ek] at y
            exact y)) q1, ReadsAll.cons q3 q2, fun hS z => (List.mem_append.mp z).elim (m1 hS) (m2 hS)⟩
end
end
/-- the written part has sys.modules, a dict -/
def SysK (K : PySem.W.Frag) : Prop := ∃ o, K.lookup sysModules = some o ∧ o.cls = .type "dict"
theorem SysK.no {X : Cx} {pins : List (Addr × Obj)} {σ : L2.St} {H : Hp} {s : Shared} (h : SysK X.K) (I : Inv X pins σ H s) : ∀ zs, H sysModules ≠ some (.lst zs) := fun zs e => by
  obtain ⟨o, h1, h2⟩ := h
  have h3 := I.kIn _ _ h1
  obtain ⟨_, its, n, _, h4⟩ : zs.length ≤ sizeLine ∧ ∃ (its : List Value) (n : Nat), Vals zs its ∧ s.heap.get? sysModules = some { cls := .type "list", data := .seq its.toArray n } := I.hok _ _ e
  rw [h3] at h4
  cases h4
  exact absurd (Value.type.inj h2) (by decide)
/-- repr(x), whatever is inside -/
def rReprA (K : PySem.W.Frag) : List V → Hp → VK → Prop := fun xs H Q => ∃ x d, xs = [x] ∧ Da K H x d ∧ d.showable = true ∧ d.depth ≤ 60 ∧ d.shown.length ≤ sizeLine ∧ Q (.str d.shown) H
section
variable {X : Cx}
theorem call_reprA {k : Nat} (hr : Rm k X.A) (sys : SysK X.K) : CallR X (.builtin "repr") (rReprA X.K) := by
  intro pins s σ H xs us Q I r h
  obtain ⟨x, d, rfl, hx, hs, hd, hz, q⟩ := h
  have hS := sys.no I
  obtain ⟨u, rfl, ru⟩ := vals1 r
  obtain ⟨as, hreads, hsm⟩ := Da.reads I d x u hx ru
  have hu := hr.room.un
  cases x with
  | non =>
    cases ru
    cases hreads
    exact PySem.P.repr_of_none ⟨.str _, H, I.tok _, ⟨_, rfl⟩, q⟩
  | bl b =>
    cases ru
    cases hreads
    refine PySem.P.repr_of_bool ⟨.str _, H, I.tok _, ⟨_, rfl⟩, ?_⟩
    simp only [PyData.shown] at q
    exact q
  | int i =>
    obtain ⟨t, rfl⟩ := ru
    cases hreads
    simp only [PyData.shown] at q
    exact PySem.P.repr_of_int (by simpa [PyData.showable] using hs) ⟨.str _, H, I.tok _, ⟨_, rfl⟩, q⟩
  | str y =>
    obtain ⟨t, rfl⟩ := ru
    cases hreads
    simp only [PyData.shown] at q hz
    exact PySem.P.repr_of_str ⟨.str _, H, I.tok _, ⟨_, rfl⟩, q⟩ hz
  | byt y =>
    obtain ⟨t, rfl⟩ := ru
    cases hreads
  | flt y =>
    obtain ⟨t, rfl⟩ := ru
    cases hreads
  | ty y =>
    cases ru
    cases hreads
  | ref a =>
    cases ru
    exact repr_of_reads' hreads hs (fun _ => hsm hS) hr.plain (by omega) (fun _ _ e => e) (fun h' u tk hk => ⟨.str _, H, I.kept hk, ⟨u, rfl⟩, q⟩) hz
end
/-- data whose repr can be taken -/
structure Shows (d : PyData) : Prop where
  sh : d.showable = true
  dp : d.depth ≤ 60
  sz : d.shown.length ≤ sizeLine
variable {K : PySem.W.Frag}
def dReprA (de : DE) : DE := fun s P => de s fun d s1 => Shows d ∧ P (.str d.shown) s1
theorem re_reprA {te : TE} {de : DE} (h : RE K te de) : RE K (tCB (rReprA K) (tCons te tNil)) (dReprA de) := fun C hC s P hd σ H Q R q =>
  rd_cb (rd_cons (h C hC s _ hd σ H _ R fun v H1 d s1 hp R1 hv => by
    subst hC
    exact rd_nil ⟨v, d, rfl, hv.of (hd_sub _ H1), hp.1.sh, hp.1.dp, hp.1.sz, q _ H1 _ s1 hp.2 R1 (.str _)⟩))
end DL

set_option Elab.async false
set_option linter.all false
set_option maxRecDepth 100000
set_option maxHeartbeats 4000000
/-! DLk: dicts with ints and texts for keys, told by data. -/
namespace DL
open PySem PySem.Spec PyProof.Rows L2 GG DD PT
variable {K : PySem.W.Frag}
def kOf : PyData → Option L2.Key
  | .int i => some (.inl i)
  | .str x => some (.inr x)
  | _ => none
theorem kOf_keyD (k : L2.Key) : kOf (keyD k) = some k := by cases k <;> rfl
theorem key_v {H : Hp} {v : V} {d : PyData} {k : L2.Key} (h : Da K H v d) (e : kOf d = some k) : v = kV k := by
  cases d with
  | int i => cases h; cases e; rfl
  | str x => cases h; cases e; rfl
  | _ => cases e
def dgetD : List (PyData × PyData) → L2.Key → Option PyData
  | [], _ => none
  | p :: r, k => if kOf p.1 = some k then some p.2 else dgetD r k
def dputD (kvs : List (PyData × PyData)) (k : L2.Key) (d : PyData) : List (PyData × PyData) :=
  if (dgetD kvs k).isSome = true then kvs.map (fun p => if kOf p.1 = some k then (p.1, d) else p) else kvs ++ [(keyD k, d)]
def mergeD (kvs : List (PyData × PyData)) (more : List (L2.Key × PyData)) : List (PyData × PyData) := more.foldl (fun acc kv => dputD acc kv.1 kv.2) kvs
theorem get_da {H : Hp} (k : L2.Key) : ∀ {es : List (L2.Key × V)} {kvs : List (PyData × PyData)}, DaKv K H es kvs → (valV es k = none ∧ dgetD kvs k = none) ∨ ∃ v d, valV es k = some v ∧ dgetD kvs k = some d ∧ Da K H v d
  | _, _, .nil => .inl ⟨rfl, rfl⟩
  | _, _, .cons (k := k') (v := v) (r := r) (d := d) (ds := ds) h t => by
    by_cases e : k' = k
    · refine .inr ⟨v, d, valV_pos (p := (k', v)) e, ?_, h⟩
      unfold dgetD
      rw [kOf_keyD, e, if_pos rfl]
    · have e2 : ¬ kOf (keyD k') = some k := fun z => e (by rw [kOf_keyD] at z; exact Option.some.inj z)
      have e3 : dgetD ((keyD k', d) :: ds) k = dgetD ds k := by
        show (if kOf (keyD k') = some k then some d else dgetD ds k) = _
        rw [if_neg e2]
      rw [valV_neg (p := (k', v)) e, e3]
      exact get_da k t
theorem put_map {H : Hp} (k : L2.Key) {v : V} {d : PyData} (hd : Da K H v d) : ∀ {es : List (L2.Key × V)} {kvs : List (PyData × PyData)}, DaKv K H es kvs → DaKv K H (es.map fun kv => if kv.1 = k then (kv.1, v) else kv) (kvs.map fun p => if kOf p.1 = some k then (p.1, d) else p)
  | _, _, .nil => .nil
  | _, _, .cons (k := k') (v := v') (d := d') h t => by
    rw [List.map_cons, List.map_cons]
    by_cases e : k' = k
    · have e2 : kOf (keyD k') = some k := by rw [kOf_keyD, e]
      show DaKv K H ((if k' = k then (k', v) else (k', v')) :: _) ((if kOf (keyD k') = some k then (keyD k', d) else (keyD k', d')) :: _)
      rw [if_pos e, if_pos e2]
      exact .cons hd (put_map k hd t)
    · have e2 : ¬ kOf (keyD k') = some k := fun z => e (by rw [kOf_keyD] at z; exact Option.some.inj z)
      show DaKv K H ((if k' = k then (k', v) else (k', v')) :: _) ((if kOf (keyD k') = some k then (keyD k', d) else (keyD k', d')) :: _)
      rw [if_neg e, if_neg e2]
      exact .cons h (put_map k hd t)
theorem DaKv.append {H : Hp} : ∀ {es fs : List (L2.Key × V)} {a b : List (PyData × PyData)}, DaKv K H es a → DaKv K H fs b → DaKv K H (es ++ fs) (a ++ b)
  | _, _, _, _, .nil, h => h
  | _, _, _, _, .cons h t, k => .cons h (t.append k)
theorem DaKv.len {H : Hp} : ∀ {es : List (L2.Key × V)} {a : List (PyData × PyData)}, DaKv K H es a → es.length = a.length
  | _, _, .nil => rfl
  | _, _, .cons _ t => by rw [List.length_cons, List.length_cons, t.len]
theorem put_da {H : Hp} {es : List (L2.Key × V)} {kvs : List (PyData × PyData)} {k : L2.Key} {v : V} {d : PyData} (h : DaKv K H es kvs) (hd : Da K H v d) : DaKv K H (putK es k v) (dputD kvs k d) := by
  unfold putK dputD
  rw [valV_any]
  rcases get_da k h with ⟨e1, e2⟩ | ⟨v', d', e1, e2, _⟩
  · rw [e1, e2, if_neg (by decide), if_neg (by decide)]
    exact h.append (.cons hd .nil)
  · rw [e1, e2, if_pos (show (some v').isSome = true from rfl), if_pos (show (some d').isSome = true from rfl)]
    exact put_map k hd h
theorem merge_da {H : Hp} : ∀ {more : List (L2.Key × V)} {mored : List (L2.Key × PyData)} {es : List (L2.Key × V)} {kvs : List (PyData × PyData)}, Paired (fun (a : L2.Key × V) (b : L2.Key × PyData) => a.1 = b.1 ∧ Da K H a.2 b.2) more mored → DaKv K H es kvs → DaKv K H (mergeK es more) (mergeD kvs mored)
  | _, _, _, _, .nil, h => h
  | _, _, _, _, .cons (a := a) (b := b) q t, h => by
    obtain ⟨e, hd⟩ := q
    show DaKv K H (mergeK (putK _ a.1 a.2) _) (mergeD (dputD _ b.1 b.2) _)
    refine merge_da t ?_
    rw [e]
    exact put_da h hd
/-- the pairs (key, value) of a list -/
def pairsD : List PyData → Option (List (L2.Key × PyData))
  | [] => some []
  | .tuple [k, d] :: r => match kOf k, pairsD r with
    | some k', some r' => some ((k', d) :: r')
    | _, _ => none
  | _ => none
theorem pairs_da {S : Addr → Prop} {H : Hp} : ∀ {vs : List V} {ds : List PyData} {prs : List (L2.Key × PyData)}, DaAll K (Hd S H) vs ds → pairsD ds = some prs →
    ∃ (ps : List Addr) (kvs : List (L2.Key × V)), vs = ps.map V.ref ∧ Paired (fun p kv => SqT K H p [kV kv.1, kv.2]) ps kvs ∧ Paired (fun (a : L2.Key × V) (b : L2.Key × PyData) => a.1 = b.1 ∧ Da K (Hd S H) a.2 b.2) kvs prs
  | _, _, _, .nil, e => by
    cases e
    exact ⟨[], [], rfl, .nil, .nil⟩
  | _, _, prs, .cons (v := v) (ds := ds) (d := d) h t, e => by
    match d, h, e with
    | .tuple [k, x], h, e =>
      unfold pairsD at e
      cases e1 : kOf k with
      | none => rw [e1] at e; cases e
      | some k' =>
        cases e2 : pairsD ds with
        | none => rw [e1, e2] at e; cases e
        | some r' =>
          rw [e1, e2] at e
          cases e
          obtain ⟨ps, kvs, rfl, h1, h2⟩ := pairs_da t e2
          obtain ⟨a, us, rfl, h3, h4⟩ := da_tup h
          cases h4 with
          | cons q1 h4 =>
            cases h4 with
            | cons q2 h4 =>
              cases h4
              have e3 := key_v q1 e1
              subst e3
              exact ⟨a :: ps, (k', _) :: kvs, rfl, .cons h3 h1, .cons ⟨rfl, q2⟩ h2⟩
/-! ### dicts in slots -/
def dDictVar (i : Nat) (s : DSt) (P : List (PyData × PyData) → DSt → Prop) : Prop := match s.sl[i]? with
  | some (.dat (.dict kvs)) => P kvs s
  | some (.owd kvs) => P kvs s
  | _ => False
theorem dict_at {C : DC} {σ : L2.St} {H : Hp} {s : DSt} (R : Rl C σ H s) {i : Nat} {P : List (PyData × PyData) → DSt → Prop} (h : dDictVar i s P) : ∃ a es kvs, σ[i]? = some (some (V.ref a)) ∧ P kvs s ∧ H a = some (.dK es) ∧ DaKv C.K (Hd (Sof C σ s.sl) H) es kvs := by
  unfold dDictVar at h
  split at h
  · rename_i kvs e
    obtain ⟨sl, h1, v, rfl, h3⟩ := R.slots i _ e
    cases h3 with
    | dic h4 h5 => exact ⟨_, _, kvs, h1, h, (hd_some h4).2, h5⟩
  · rename_i kvs e
    obtain ⟨sl, h1, a, es, rfl, h4, h5⟩ := R.slots i _ e
    exact ⟨a, es, kvs, h1, h, h4, h5⟩
  · exact h.elim
def hasV : Option DV → Prop
  | some (.dat _) => True
  | some (.own _) => True
  | some (.owd _) => True
  | _ => False
theorem has_at {C : DC} {σ : L2.St} {H : Hp} {s : DSt} (R : Rl C σ H s) {i : Nat} (h : hasV s.sl[i]?) : ∃ v, σ[i]? = some (some v) := by
  cases e : s.sl[i]? with
  | none => rw [e] at h; exact h.elim
  | some dv =>
    obtain ⟨sl, h1, h2⟩ := R.slots i _ e
    cases dv with
    | dat d =>
      obtain ⟨v, rfl, _⟩ := h2
      exact ⟨v, h1⟩
    | own d =>
      obtain ⟨a, vs, rfl, _⟩ := h2
      exact ⟨_, h1⟩
    | owd d =>
      obtain ⟨a, vs, rfl, _⟩ := h2
      exact ⟨_, h1⟩
    | _ => rw [e] at h; exact h.elim
/-- y in d, y not in d: d in slot i -/
def dDIn (neg : Bool) (dk : DE) (i : Nat) : DE := fun s P => dk s fun kd s1 => match kOf kd with
  | some k => dDictVar i s1 fun kvs s2 => P (.bool (if neg then !(dgetD kvs k).isSome else (dgetD kvs k).isSome)) s2
  | none => False
theorem isSome_da {H : Hp} {es : List (L2.Key × V)} {kvs : List (PyData × PyData)} (h : DaKv K H es kvs) (k : L2.Key) : (valV es k).isSome = (dgetD kvs k).isSome := by
  rcases get_da k h with ⟨e1, e2⟩ | ⟨v, d, e1, e2, _⟩ <;> rw [e1, e2] <;> rfl
theorem re_dIn {ty : TE} {dk : DE} {i : Nat} (h : RE K ty dk) : RE K (tDIn ty (tVar i)) (dDIn false dk i) := fun C hC s P hd σ H Q R q =>
  h C hC s _ hd σ H _ R fun v H1 d s1 hp R1 hv => by
    cases e : kOf d with
    | none => rw [e] at hp; exact hp.elim
    | some k =>
      rw [e] at hp
      obtain ⟨a, es, kvs, h1, hp, h2, h3⟩ := dict_at R1 hp
      have ev := key_v hv e
      subst ev
      refine ⟨_, h1, a, _, rfl, DGet.k h2, ?_⟩
      rw [isSome_da h3 k]
      exact q _ H1 _ s1 hp R1 (.bl _)
theorem re_dNotIn {ty : TE} {dk : DE} {i : Nat} (h : RE K ty dk) : RE K (tDNotIn ty (tVar i)) (dDIn true dk i) := fun C hC s P hd σ H Q R q =>
  h C hC s _ hd σ H _ R fun v H1 d s1 hp R1 hv => by
    cases e : kOf d with
    | none => rw [e] at hp; exact hp.elim
    | some k =>
      rw [e] at hp
      obtain ⟨a, es, kvs, h1, hp, h2, h3⟩ := dict_at R1 hp
      have ev := key_v hv e
      subst ev
      refine ⟨_, h1, a, _, rfl, DGet.k h2, ?_⟩
      rw [isSome_da h3 k]
      exact q _ H1 _ s1 hp R1 (.bl _)
/-- d[y]: d in slot i -/
def dDGet (i : Nat) (dk : DE) : DE := fun s P => hasV s.sl[i]? ∧ dk s fun kd s1 => match kOf kd with
  | some k => dDictVar i s1 fun kvs s2 => ∃ d, dgetD kvs k = some d ∧ P d s2
  | none => False
theorem re_dGet {ty : TE} {dk : DE} {i : Nat} (h : RE K ty dk) : RE K (tDGet (tVar i) ty) (dDGet i dk) := fun C hC s P hd σ H Q R q => by
  obtain ⟨v0, e0⟩ := has_at R hd.1
  refine ⟨v0, e0, h C hC s _ hd.2 σ H _ R fun v H1 d s1 hp R1 hv => ?_⟩
  cases e : kOf d with
  | none => rw [e] at hp; exact hp.elim
  | some k =>
    rw [e] at hp
    obtain ⟨a, es, kvs, h1, ⟨x, hx, hp⟩, h2, h3⟩ := dict_at R1 hp
    rw [e0] at h1
    cases h1
    have ev := key_v hv e
    subst ev
    rcases get_da k h3 with ⟨_, e2⟩ | ⟨w, d', e1, e2, hw⟩
    · rw [e2] at hx
      cases hx
    · rw [e2] at hx
      cases hx
      refine ⟨a, w, rfl, ?_, q w H1 _ s1 hp R1 hw⟩
      have g := DGet.k (k := k) h2
      rw [e1] at g
      exact g
/-- d[y] = v: d one's own, in slot i -/
def isOwnD : Option DV → Prop
  | some (.owd _) => True
  | _ => False
def dDPut (i : Nat) (dk dv : DE) : DS := fun E s => dv s fun d s1 => isOwnD s1.sl[i]? ∧ dk s1 fun kd s2 => match kOf kd, s2.sl[i]? with
  | some k, some (.owd kvs) => kvs.length < 1000000 ∧ E.nx ⟨s2.sl.set i (.owd (dputD kvs k d)), s2.n⟩
  | _, _ => False
theorem rs_dPut {ty tv : TE} {dk dv : DE} {i : Nat} (h1 : RE K ty dk) (h2 : RE K tv dv) : RS K (sDPut (tVar i) ty tv) (dDPut i dk dv) := fun C hC E s hd σ H D R o =>
  h2 C hC s _ hd σ H _ R fun v H1 d s1 hp R1 hv => by
    obtain ⟨ho, hp⟩ := hp
    obtain ⟨v0, e0⟩ := has_at R1 (i := i) (by
      cases e : s1.sl[i]? with
      | none => rw [e] at ho; exact ho.elim
      | some dv => rw [e] at ho; cases dv <;> first | exact ho.elim | exact True.intro)
    refine ⟨v0, e0, h1 (C.keep v d) hC s1 _ hp σ H1 _ (R1.keep hv) fun y H2 kd s2 hp2 R2 hy => ?_⟩
    obtain ⟨R3, hv3⟩ := R2.kept
    cases e : kOf kd with
    | none => rw [e] at hp2; exact hp2.elim
    | some k =>
      cases e2 : s2.sl[i]? with
      | none => rw [e, e2] at hp2; exact hp2.elim
      | some fv =>
        cases fv with
        | owd kvs =>
          rw [e, e2] at hp2
          obtain ⟨sl, q1, a, es, rfl, q2, q3⟩ := R3.slots i _ e2
          rw [e0] at q1
          cases q1
          have ev := key_v hy e
          subst ev
          refine ⟨a, upd H2 a (.dK (putK es k v)), rfl, DPut.k q2 (by rw [q3.len]; exact Nat.lt_of_lt_of_le hp2.1 sz6), o.nx _ _ _ hp2.2 (R3.mut e2 rfl rfl e0 fun hs => ⟨a, _, rfl, upd_same, (put_da q3 hv3).of hs⟩)⟩
        | _ => rw [e, e2] at hp2; exact hp2.elim
/-! ### new dicts -/
abbrev DK := DSt → (List (PyData × PyData) → DSt → Prop) → Prop
def XD (C : DC) (te : TE) (s : DSt) (P : List (PyData × PyData) → DSt → Prop) : Prop := ∀ (σ : L2.St) (H : Hp) (Q : VK), Rl C σ H s → (∀ a es H' kvs s', P kvs s' → Rl C σ H' s' → H' a = none → DaKv C.K (Hd (Sof C σ s'.sl) H') es kvs → Q (.ref a) (upd H' a (.dK es))) → te σ H Q
def RD (K : PySem.W.Frag) (te : TE) (dl : DK) : Prop := ∀ C : DC, C.K = K → ∀ s P, dl s P → XD C te s P
def dNewD (dl : DK) : DE := fun s P => dl s fun kvs s1 => P (.dict kvs) s1
theorem re_newD {te : TE} {dl : DK} (h : RD K te dl) : RE K te (dNewD dl) := fun C hC s P hd σ H Q R q => h C hC s _ hd σ H Q R fun a es H' kvs s' hp R' na hv =>
  q _ _ _ s' hp (R'.ext (same_upd na)) (.dic (R'.see na) (hv.of (R'.kp na)))
def dSetD (dl : DK) (i : Nat) : DS := fun E s => dl s fun kvs s1 => i < s1.sl.length ∧ E.nx ⟨s1.sl.set i (.owd kvs), s1.n⟩
theorem rs_setD {te : TE} {i : Nat} {dl : DK} (h : RD K te dl) : RS K (tAsg te (gName i)) (dSetD dl i) := fun C hC E s hd σ H D R o =>
  h C hC s _ hd σ H _ R fun a es H1 kvs s1 hp R1 na hv => o.nx _ _ _ hp.2 (R1.setOwn na hp.1 rfl fun S' hs => ⟨a, es, rfl, upd_same, hv.of hs⟩)
def dDict0 : DK := fun s P => P [] s
theorem rd_dict0 : RD K tDNewK dDict0 := fun C hC s P hd σ H Q R q => fun p np => q p [] H [] s hd R np .nil
def rDictL (K : PySem.W.Frag) : List V → Hp → VK → Prop := fun xs H Q => ∃ (a : Addr) (ps : List Addr) (kvs : List (L2.Key × V)), xs = [.ref a] ∧ SqL K H a (ps.map V.ref) ∧ Paired (fun p kv => SqT K H p [kV kv.1, kv.2]) ps kvs ∧ ∀ p, H p = none → Q (.ref p) (upd H p (.dK (mergeK [] kvs)))
def dDictL (dl : DA) : DK := fun s P => dl s fun ds s1 => ∃ prs, pairsD ds = some prs ∧ P (mergeD [] prs) s1
theorem rd_dictL {te : TE} {dl : DA} (h : RL K te dl) : RD K (tCB (rDictL K) (tCons te tNil)) (dDictL dl) := fun C hC s P hd σ H Q R q =>
  rd_cb (rd_cons (h C hC s _ hd σ H _ R fun a vs H1 ds s1 hp R1 e hv => rd_nil (by
    obtain ⟨prs, hpr, hp⟩ := hp
    subst hC
    obtain ⟨ps, kvs, rfl, h1, h2⟩ := pairs_da hv hpr
    exact ⟨a, ps, kvs, rfl, sq e, h1, fun p np => q p _ H1 _ s1 hp R1 np (merge_da h2 .nil)⟩)))
def dDictU (de : DE) : DK := fun s P => de s fun d s1 => match d with
  | .tuple ds => ∃ prs, pairsD ds = some prs ∧ P (mergeD [] prs) s1
  | _ => False
theorem rd_dictU {te : TE} {de : DE} (h : RE K te de) : RD K (tCB (rDictT K) (tCons te tNil)) (dDictU de) := fun C hC s P hd σ H Q R q =>
  rd_cb (rd_cons (h C hC s _ hd σ H _ R fun v H1 d s1 hp R1 hv => by
    cases d with
    | tuple ds =>
      obtain ⟨prs, hpr, hp⟩ := hp
      subst hC
      cases hv with
      | tup k1 k2 =>
        obtain ⟨ps, kvs, rfl, h1, h2⟩ := pairs_da k2 hpr
        exact rd_nil ⟨_, ps, kvs, rfl, k1.same (hd_sub _ H1), h1, fun p np => q p _ H1 _ s1 hp R1 np (merge_da h2 .nil)⟩
    | _ => exact hp.elim))
end DL

set_option Elab.async false
set_option linter.all false
set_option maxRecDepth 100000
set_option maxHeartbeats 4000000
/-! KW: defs called by keywords alone, in any order. -/
namespace DL
open PySem PySem.Spec PyProof.Rows L2 GG DD PT
/-- the values in the parameters' order: the i-th parameter's stands at place π[i] -/
def permL {α : Type} (π : List Nat) (l : List α) : List α := π.filterMap fun i => l[i]?
/-- a def called by these keywords -/
structure DfK (P : Program) (w : World) (K : PySem.W.Frag) (mg : Str → Option Value) (base : Heap) (k : Nat) (nm : Str) (ps ks : List Str) (π : List Nat) (sp : Sp) : Prop where
  ex : ∃ f fd, Fg P w K mg base k f fd ps sp ∧ mg nm = some (.ref f) ∧ PySem.W.keepIn K (.ref f) = true ∧ ∀ (s : Shared) (ws : List Value), ws.length = ks.length → BindsTo s fd ⟨[], ks.zip ws⟩ (ps.zip (permL π ws))
theorem perm_vals {vs : List V} {us : List Value} (r : Vals vs us) : ∀ π : List Nat, Vals (permL π vs) (permL π us)
  | [] => .nil
  | i :: π => by
    unfold permL
    rw [List.filterMap_cons, List.filterMap_cons]
    cases e : vs[i]? with
    | none =>
      have e2 : us[i]? = none := by
        have := List.getElem?_eq_none_iff.mp e
        exact List.getElem?_eq_none (by rw [← r.length]; exact this)
      rw [e2]
      exact perm_vals r π
    | some v =>
      obtain ⟨u, e2, hu⟩ := r.get e
      rw [e2]
      exact .cons hu (perm_vals r π)
section
variable {X : Cx} {k : Nat} {nm : Str} {ps ks : List Str} {π : List Nat} {sp : Sp} {p pos : Pos} {kws : List Keyword} {tk : TA}
def tCallP (sp : Sp) (π : List Nat) (n : Nat) (tk : TA) : TE := fun σ H Q => tk σ H fun zs H2 => zs.length = n ∧ sp (permL π zs) H2 Q E0
theorem kcall (D : DfK X.prog X.w X.K X.mg X.base k nm ps ks π sp) (hr : Rm k X.A) (hg : Gl X nm) (hkw : PK X kws tk)
    (hall : (backToKw pos (keywordEach kws X.env)).all (·.1.isSome) = true := by rfl) (hks : (backToKw pos (keywordEach kws X.env)).filterMap (·.1) = ks := by rfl)
    (hdb : (nm == ("__debug__" : Str)) = false := by decide)
    (hpl : ((backTo pos (starEach [] X.env)).any (·.1) || (backToKw pos (keywordEach kws X.env)).any (·.1.isNone)) = false := by rfl) :
    PE X (.Call (.Name nm p) [] kws pos) (tCallP sp π ks.length tk) := by
  obtain ⟨f, fd, F, hm, hk, hb⟩ := D.ex
  refine ⟨fun pins s σ H Q I h => ?_⟩
  refine wpAny_Call_Name_kw (ld_glob I hg hm ?_ hdb)
  refine PySem.W.callWith_KW0 (h₀ := X.base) I.ok.mod.kin hk hall (thn (hkw.run pos pins s σ H _ I h) fun ws s2 ⟨zs, H2, I2, rz, hl, q2⟩ => ⟨I2.kIn, ?_⟩) hpl
  rw [hks]
  refine wpAny_call (codeAny_mono (F.go X.A X.stack s2 H2 ⟨[] ++ [], ks.zip ws⟩ (permL π ws) (permL π zs) Q hr I2.env0 (hb s2 ws (by rw [← rz.length]; exact hl)) (perm_vals rz π) q2) fun r s' hq => ?_)
  exact ret_of I2 hq
end
variable {K : PySem.W.Frag}
theorem perm_args {W : Wo} {S : Addr → Prop} {H : Hp} {vs : List V} {as : List DV} (h : ArgsOk K W S H vs as) : ∀ π : List Nat, ArgsOk K W S H (permL π vs) (permL π as)
  | [] => .nil
  | i :: π => by
    unfold permL
    rw [List.filterMap_cons, List.filterMap_cons]
    have get : ∀ {vs : List V} {as : List DV} (j : Nat), ArgsOk K W S H vs as → (vs[j]? = none ∧ as[j]? = none) ∨ ∃ v a, vs[j]? = some v ∧ as[j]? = some a ∧ ArgOk K W S H v a := by
      intro vs as j h
      induction h generalizing j with
      | nil => exact .inl ⟨rfl, rfl⟩
      | @cons v vs a as h1 h2 ih =>
        cases j with
        | zero => exact .inr ⟨v, a, rfl, rfl, h1⟩
        | succ j => simpa using ih j
    rcases get i h with ⟨e1, e2⟩ | ⟨v, a, e1, e2, ha⟩
    · rw [e1, e2]
      exact perm_args h π
    · rw [e1, e2]
      exact .cons ha (perm_args h π)
def dCallP (m : Nat) (F : FD) (π : List Nat) (n : Nat) (da : DX) : DE := fun s P => da s fun as s1 => as.length = n ∧ (permL π as).length = m ∧ F (permL π as) s1.n fun d n' => P d ⟨s1.sl, n'⟩
theorem re_callP {m : Nat} {F : FD} {π : List Nat} {n : Nat} {ta : TA} {da : DX} (h : RX K ta da) : RE K (tCallP (spOf K m F) π n ta) (dCallP m F π n da) := fun C hC s P hd σ H Q R q =>
  h C hC s _ hd σ H _ R fun vs H1 as s1 hp R1 hv => by
    subst hC
    refine ⟨by rw [hv.len]; exact hp.1, by rw [(perm_args hv π).len]; exact hp.2.1, C.W, Sof C σ s1.sl, s1.n, permL π as, _, R1.taken, R1.dk, fun b hb => .inr (.inl hb), perm_args hv π, hp.2.2, fun v H' d n' hP hD hB hda => ?_⟩
    exact q v H' d ⟨s1.sl, n'⟩ hP (R1.step hB hD) hda
end DL

set_option Elab.async false
set_option linter.all false
set_option maxRecDepth 100000
set_option maxHeartbeats 4000000
/-! SRT: sorted(xs), xs a list of pairs (text, int) of any length: a rearrangement. -/
namespace SRT
open PySem PyProof.Rows Srt SrtO L2
/-- by the text, then by the int -/
def lexS (p q : Str × Int) : Bool := if p.1 = q.1 then decide (p.2 < q.2) else decide (p.1.cps.toList < q.1.cps.toList)
theorem nat_lt_irr (a : List Nat) : ¬ a < a := List.lt_irrefl a
theorem str_eq {a b : Str} (h1 : ¬ a.cps.toList < b.cps.toList) (h2 : ¬ b.cps.toList < a.cps.toList) : a = b := by
  have h : a.cps.toList = b.cps.toList := List.le_antisymm (List.not_lt.mp h2) (List.not_lt.mp h1)
  obtain ⟨⟨a⟩⟩ := a
  obtain ⟨⟨b⟩⟩ := b
  simp at h
  rw [h]
theorem lexS_iff {p q : Str × Int} : lexS p q = true ↔ p.1.cps.toList < q.1.cps.toList ∨ (p.1 = q.1 ∧ p.2 < q.2) := by
  unfold lexS
  by_cases e : p.1 = q.1
  · rw [if_pos e, decide_eq_true_eq]
    constructor
    · exact fun h => .inr ⟨e, h⟩
    · rintro (h | h)
      · rw [e] at h
        exact absurd h (nat_lt_irr _)
      · exact h.2
  · rw [if_neg e, decide_eq_true_eq]
    constructor
    · exact .inl
    · rintro (h | h)
      · exact h
      · exact absurd h.1 e
theorem lexS_no {p q : Str × Int} : lexS p q = false ↔ ¬ (p.1.cps.toList < q.1.cps.toList ∨ (p.1 = q.1 ∧ p.2 < q.2)) := by
  rw [← lexS_iff]
  cases lexS p q <;> simp
theorem swo_S {α : Type} (k : α → Str × Int) : Swo fun v u => lexS (k v) (k u) := by
  refine ⟨fun x y h => ?_, fun x y z h1 h2 => ?_⟩
  · have a := lexS_iff.mp h
    refine lexS_no.mpr fun b => ?_
    rcases a with a | ⟨a1, a2⟩
    · rcases b with b | ⟨b1, b2⟩
      · exact nat_lt_irr _ (List.lt_trans a b)
      · rw [b1] at a
        exact nat_lt_irr _ a
    · rcases b with b | ⟨b1, b2⟩
      · rw [a1] at b
        exact nat_lt_irr _ b
      · omega
  · have a := lexS_no.mp h1
    have b := lexS_no.mp h2
    refine lexS_no.mpr fun c => ?_
    have a1 : ¬ (k y).1.cps.toList < (k x).1.cps.toList := fun z => a (.inl z)
    have b1 : ¬ (k z).1.cps.toList < (k y).1.cps.toList := fun w => b (.inl w)
    have c1 : ¬ (k z).1.cps.toList < (k x).1.cps.toList := List.not_lt.mpr (List.le_trans (List.not_lt.mp a1) (List.not_lt.mp b1))
    rcases c with c | ⟨c2, c3⟩
    · exact c1 c
    · have e1 : (k y).1 = (k x).1 := by
        refine str_eq a1 ?_
        rw [← c2]
        exact b1
      have e2 : (k z).1 = (k y).1 := c2.trans e1.symm
      have a2 : ¬ (k y).2 < (k x).2 := fun w => a (.inr ⟨e1, w⟩)
      have b2 : ¬ (k z).2 < (k y).2 := fun w => b (.inr ⟨e2, w⟩)
      omega
def IsSP (h : Heap) (v : Value) (x : Str) (y : Int) : Prop := ∃ a o t u n, v = .ref a ∧ h.get? a = some o ∧ o.cls = .type "tuple" ∧ o.data = .seq #[.str x t, .int y u] n
theorem IsSP.keeps {h h' : Heap} {v : Value} {x : Str} {y : Int} (p : IsSP h v x y) (k : ∀ b o, h.get? b = some o → o.cls = .type "tuple" → h'.get? b = some o) : IsSP h' v x y := by
  obtain ⟨a, o, t, u, n, e, ho, hc, hd⟩ := p
  exact ⟨a, o, t, u, n, e, k _ _ ho hc, hc, hd⟩
theorem firsts_S {h : Heap} : ∀ {vs : List Value}, (∀ v ∈ vs, ∃ x y, IsSP h v x y) → ∃ fs : List Value, PySem.W.KatTups h vs fs ∧ fs.length = vs.length ∧ ∀ f ∈ fs, ∃ x t, f = Value.str x t
  | [], _ => ⟨[], PySem.W.KatTups.nil, rfl, fun _ hm => by simp at hm⟩
  | v :: vs, hp => by
    obtain ⟨fs, h1, h2, h3⟩ := firsts_S (vs := vs) fun v' hm => hp v' (List.mem_cons_of_mem _ hm)
    obtain ⟨x, y, a, o, t, u, n, e, ho, hc, hd⟩ := hp v (List.mem_cons_self ..)
    subst e
    refine ⟨.str x t :: fs, PySem.W.KatTups.cons ho hc hd rfl h1, by rw [List.length_cons, List.length_cons, h2], fun f hm => ?_⟩
    rcases List.mem_cons.mp hm with rfl | hm
    · exact ⟨x, t, rfl⟩
    · exact h3 f hm
section
variable {prog : Program} {w : World} {A : Around} {E : Value → Shared → Prop} {s : Shared}
theorem sp_cmp {vs : List Value} {k : Value → Str × Int} (hp : ∀ v ∈ vs, IsSP s.heap v (k v).1 (k v).2) : Cmp prog w A s (tuples' true) (fun p => p.1 ∈ vs) (lt2 fun v u => lexS (k v) (k u)) := by
  intro p q hm hm'
  have h1 := hp _ hm
  have h2 := hp _ hm'
  show wpAny (model prog w) A (keyLt' (tuples' true) p.1 q.1) (fun r s' => s' = s ∧ r = lexS (k p.1) (k q.1)) (fun _ _ => False) s
  unfold lexS
  generalize (k p.1).1 = x at h1 ⊢
  generalize (k p.1).2 = y at h1 ⊢
  generalize (k q.1).1 = x' at h2 ⊢
  generalize (k q.1).2 = y' at h2 ⊢
  obtain ⟨a, o, t, u, n, e, ho, hc, hd⟩ := h1
  obtain ⟨a', o', t', u', n', e', ho', hc', hd'⟩ := h2
  rw [e, e']
  refine PySem.W.kat_lt ho hd ho' hd' ?_
  show PySem.W.KatLex prog w A true (decide (2 < 2)) _ [(.str x t, .str x' t'), (.int y u, .int y' u')] 0 s
  refine PySem.W.kat_cons (SeqAt.EqAt.str_str x t x' t' prog w _ _ ?_)
  refine PySem.W.kat_go (fun e1 => ?_) (fun e1 => ?_)
  · have ex : x = x' := by simpa using e1
    refine PySem.W.kat_yes (PySem.W.kat_cons (SeqAt.EqAt.int_int y u y' u' prog w _ _ ?_))
    refine PySem.W.kat_go (fun e2 => ?_) (fun e2 => ?_)
    · have ey : y = y' := by simpa using e2
      have e3 : (if x = x' then decide (y < y') else decide (x.cps.toList < x'.cps.toList)) = false := by
        rw [if_pos ex, ey]
        exact decide_eq_false (Int.lt_irrefl _)
      exact PySem.W.kat_yes (PySem.W.kat_nil ⟨rfl, e3.symm⟩)
    · have e3 : (if x = x' then decide (y < y') else decide (x.cps.toList < x'.cps.toList)) = decide (y < y') := if_pos ex
      refine PySem.W.kat_no (PySem.W.kat_one _ _ (PyProof.Rows.lt_int ?_))
      exact (show s = s ∧ decide (y < y') = (if x = x' then decide (y < y') else decide (x.cps.toList < x'.cps.toList)) from ⟨rfl, e3.symm⟩)
  · have ex : ¬ x = x' := by simpa using e1
    have e3 : (if x = x' then decide (y < y') else decide (x.cps.toList < x'.cps.toList)) = decide (x.cps.toList < x'.cps.toList) := if_neg ex
    exact PySem.W.kat_no (oneLt_str ⟨rfl, e3.symm⟩)
theorem sp_sortable {a : Addr} {vs : List Value} {k : Value → Str × Int} (h0 : 0 < vs.length) (hp : ∀ v ∈ vs, IsSP s.heap v (k v).1 (k v).2) (ha : ∀ o, s.heap.get? a = some o → o.cls ≠ .type "tuple") : SortableO prog w A s a vs fun v u => lexS (k v) (k u) := by
  intro h' keep
  have hp' : ∀ v ∈ vs, IsSP h' v (k v).1 (k v).2 := fun v hm => (hp v hm).keeps fun b o e c => keep b o (fun z => by subst z; exact ha o e c) e
  obtain ⟨fs, h1, h2, h3⟩ := firsts_S fun v hm => ⟨_, _, hp' v hm⟩
  refine ⟨tuples' true, fun Q E hq => ?_, sp_cmp hp'⟩
  refine PySem.W.kat_kind (T := .type "str") h1 (by omega) (fun f hm => ?_) (by rfl) ?_
  · obtain ⟨x, t, rfl⟩ := h3 f hm
    exact PySem.W.Looks.now
  · have e : (Value.type "str" != Value.type "tuple") = true := by first | decide +kernel | rfl | decide
    rw [e]
    exact hq
theorem sorted_sp {l : Addr} {vs : List Value} {k : Value → Str × Int} {Q : Value → Shared → Prop} (hl : s.heap.IsList l vs.toArray) (hz : vs.length ≤ sizeLine) (hp : ∀ v ∈ vs, IsSP s.heap v (k v).1 (k v).2)
    (h : ∀ (h' : Heap) (d : Addr) (out : List Value), out.Perm vs → (∀ b o, s.heap.get? b = some o → h'.get? b = some o) → s.heap.objs.size ≤ d → (∃ n, h'.get? d = some (seqObj "list" out.toArray n)) → Q (.ref d) { s with heap := h' }) :
    wpAny (model prog w) A (call (.builtin "sorted") [.ref l]) Q E s := by
  refine sorted_ord (swo_S k) hl hz (fun h2 h₁ a ha kk => ?_) fun out hs hb => ?_
  · refine sp_sortable (s := { s with heap := h₁ }) (by omega) (fun v hm => (hp v hm).keeps fun b o e _ => (kk b o e).2) fun o e => ?_
    have e' : some o = some (seqObj "list" vs.toArray 0) := e.symm.trans ha
    cases e'
    intro c
    exact absurd (Value.type.inj c) (by decide)
  · exact h _ _ out hb.perm (fun b o e => sortedAll_old e) (Nat.le_succ _) (sortedAll_at s.heap vs out.toArray)
end
open PySem.Spec in
/-- sorted(xs) of pairs (text, int): they are there in some order -/
def rSortedSI (K : PySem.W.Frag) : List V → Hp → VK → Prop := fun vs H Q => ∃ (a : Addr) (xs : List V) (k : V → Str × Int), vs = [V.ref a] ∧ SqL K H a xs ∧ (∀ x ∈ xs, ∃ t, x = V.ref t ∧ SqT K H t [.str (k x).1, .int (k x).2]) ∧ ∀ ys p, ys.Perm xs → H p = none → Q (.ref p) (upd H p (.lst ys))
theorem cr_sortedSI {X : Cx} : CallR X (.builtin "sorted") (rSortedSI X.K) := by
  intro pins s σ H vs us Q I r h
  obtain ⟨a, xs, k, rfl, hs, hx, q⟩ := h
  obtain ⟨its, rv, hl, hz⟩ := I.list hs
  obtain ⟨u, rfl, ru⟩ := vals1 r
  obtain rfl : u = Value.ref a := ru
  obtain ⟨e1, e2⟩ := refs_back rv fun x m => by
    obtain ⟨t, e, _⟩ := hx x m
    exact ⟨t, e⟩
  refine sorted_sp (k := fun u => k (backV u)) hl.isList (by rw [← rv.length]; exact hz) (fun v hv => ?_) fun h' d out h2 kp hd hn => ?_
  · obtain ⟨t, rfl⟩ := e2 v hv
    have hm : V.ref t ∈ xs := by rw [e1]; exact List.mem_map.mpr ⟨_, hv, rfl⟩
    obtain ⟨t', e, ht⟩ := hx _ hm
    cases e
    obtain ⟨its2, r2, ⟨o, ho, hc, n, hd⟩, _⟩ := I.tuple ht
    obtain ⟨u1, u2, rfl, ri, rj⟩ := vals2 r2
    obtain ⟨t1, rfl⟩ := ri
    obtain ⟨t2, rfl⟩ := rj
    exact ⟨t, o, t1, t2, n, rfl, ho, hc, hd⟩
  · have h3 : ∀ u ∈ out, ∃ a, u = Value.ref a := fun u hu => e2 u (h2.mem_iff.mp hu)
    obtain ⟨n, hn⟩ := hn
    have hb : (out.map backV).Perm xs := by
      rw [e1]
      exact h2.map backV
    refine ⟨.ref d, upd H d (.lst (out.map backV)), I.laid (t' := s.toks) kp hd ⟨?_, out, n, vals_back h3, hn⟩, rfl, q _ d hb (I.hok.fresh hd)⟩
    rw [hb.length_eq]
    exact hz
end SRT

set_option Elab.async false
set_option linter.all false
set_option maxRecDepth 100000
set_option maxHeartbeats 4000000
/-! RGL: range(n) as a value, list(range(n)). -/
namespace RGL
open PySem PySem.Spec PyProof.Rows L2
theorem cr_range1 {X : Cx} : CallR X (.type "range") (fun vs H Q => ∃ j, vs = [V.int j] ∧ ∀ p, H p = none → Q (.ref p) (upd H p (.rng 0 j))) := by
  intro pins s σ H vs us Q I r h
  obtain ⟨j, rfl, q⟩ := h
  obtain ⟨u, rfl, ru⟩ := vals1 r
  obtain ⟨t, rfl⟩ := ru
  refine call_range_1 ⟨.ref s.heap.objs.size, upd H s.heap.objs.size (.rng 0 j), I.laid (t' := s.toks + 2) (fun b o e => Heap.get?_push_of_some _ e) (Nat.le_refl _) ?_, rfl, q _ (I.hok.fresh (Nat.le_refl _))⟩
  exact ⟨_, _, _, Heap.get?_push_size _ rfl⟩
def upTo (n : Nat) : List V := (List.range n).map fun i => V.int (i : Nat)
def rListRng : List V → Hp → VK → Prop := fun vs H Q => ∃ (a : Addr) (n : Nat), vs = [V.ref a] ∧ H a = some (.rng 0 n) ∧ n ≤ 1000 ∧ ∀ p, H p = none → Q (.ref p) (upd H p (.lst (upTo n)))
theorem vals_ints : ∀ {n : Nat} {l : List Value}, l.length = n → (∀ (i : Nat) (v : Value), l[i]? = some v → ∃ t, v = .int (i : Nat) t) → Vals (upTo n) l := by
  intro n
  unfold upTo
  induction n with
  | zero =>
    intro l hl _
    cases l with
    | nil => exact .nil
    | cons _ _ => cases hl
  | succ n ih =>
    intro l hl h
    have hne : l ≠ [] := fun e => by rw [e] at hl; cases hl
    have e := (List.dropLast_concat_getLast hne).symm
    rw [List.range_succ, List.map_append, e]
    have hd : l.dropLast.length = n := by rw [List.length_dropLast, hl]; rfl
    refine (ih hd fun i v hv => ?_).append (.cons ?_ .nil)
    · refine h i v ?_
      have hi : i < l.dropLast.length := by
        rcases Nat.lt_or_ge i l.dropLast.length with q | q
        · exact q
        · rw [List.getElem?_eq_none q] at hv; cases hv
      rw [e, List.getElem?_append_left hi]
      exact hv
    · obtain ⟨t, ht⟩ := h n (l.getLast hne) (by
        rw [List.getLast_eq_getElem, List.getElem?_eq_getElem (by omega)]
        simp [hl])
      exact ⟨t, ht⟩
theorem cr_listRng {X : Cx} (hc : X.calm = true) : CallR X (.type "list") rListRng := by
  intro pins s σ H vs us Q I r h
  obtain ⟨a, n, rfl, ha, hn, q⟩ := h
  obtain ⟨u, rfl, ru⟩ := vals1 r
  obtain rfl : u = Value.ref a := ru
  obtain ⟨t1, t2, t3, ho⟩ := I.hok a _ ha
  have hsz : Builtin.Range.rangeSize 0 n 1 = n := by rw [rangeSize_one]; split <;> omega
  refine call_list_range (n := n) (I.ok.hd hc) ho (small_one (by omega) (by omega) (by omega) (by omega)) hsz (by omega) fun h' tk acc' c' kp e it => ?_
  refine ⟨.ref s.heap.objs.size, upd H s.heap.objs.size (.lst (upTo n)), I.laid (t' := tk) kp (Nat.le_refl _) ⟨by simp [upTo, sizeLine_eq]; omega, acc'.toList, c', vals_ints (by rw [Array.length_toList, it.1]) fun i v hv => ?_, ?_⟩, rfl, q _ (I.hok.fresh (Nat.le_refl _))⟩
  · obtain ⟨t, e1⟩ := it.2 i v (by rw [← Array.getElem?_toList]; exact hv)
    exact ⟨t, by rw [e1]; simp⟩
  · simpa using e
end RGL

set_option Elab.async false
set_option linter.all false
set_option maxRecDepth 100000
set_option maxHeartbeats 4000000
/-! EMT: t == () and xs == [], whatever lies in t or xs. -/
namespace EMT
open PySem PySem.Spec PyProof.Rows L2
variable {X : Cx}
def rEqMt (K : PySem.W.Frag) : R2 := fun x y H Q => ∃ a b xs, x = .ref a ∧ y = .ref b ∧ SqT K H a xs ∧ SqT K H b [] ∧ Q (.bl xs.isEmpty) H
theorem op_eqMt (hu : X.A.units + 64 < cLine) : OpR X (compareOp .Eq) (rEqMt X.K) := by
  intro pins s σ H x y v u Q I rx ry h
  obtain ⟨a, b, xs, rfl, rfl, ha, hb, q⟩ := h
  cases (show v = Value.ref a from rx)
  cases (show u = Value.ref b from ry)
  obtain ⟨its, rv, pl, _⟩ := I.tuple ha
  obtain ⟨its2, rv2, pl2, _⟩ := I.tuple hb
  cases rv2
  have hl := rv.length
  refine SeqAt.eq_tupleAt (e := fun _ => true) pl pl2 (by omega) (fun j _ h2 => absurd h2 (Nat.not_lt_zero _)) ?_
  have e : ((List.range (min its.toArray.size ([] : List Value).toArray.size)).all (fun _ => true) && its.toArray.size == ([] : List Value).toArray.size) = xs.isEmpty := by
    cases xs with
    | nil => cases rv; rfl
    | cons x r => cases rv; simp
  rw [e]
  exact ⟨.bl _, H, I, rfl, q⟩
def rEqMtL (K : PySem.W.Frag) : R2 := fun x y H Q => ∃ a b xs, x = .ref a ∧ y = .ref b ∧ SqL K H a xs ∧ SqL K H b [] ∧ Q (.bl xs.isEmpty) H
theorem op_eqMtL (hu : X.A.units + 64 < cLine) : OpR X (compareOp .Eq) (rEqMtL X.K) := by
  intro pins s σ H x y v u Q I rx ry h
  obtain ⟨a, b, xs, rfl, rfl, ha, hb, q⟩ := h
  cases (show v = Value.ref a from rx)
  cases (show u = Value.ref b from ry)
  obtain ⟨its, rv, pl, _⟩ := I.list ha
  obtain ⟨its2, rv2, pl2, _⟩ := I.list hb
  cases rv2
  cases xs with
  | nil =>
    cases rv
    exact SeqAt.eq_listAt (e := fun _ => true) pl.isList pl2.isList rfl (by omega) (fun j _ h2 => absurd h2 (Nat.not_lt_zero _)) ⟨.bl true, H, I, rfl, q⟩
  | cons x r =>
    cases rv
    exact SeqAt.eq_list_lengthsAt pl.isList pl2.isList (by simp) (by omega) ⟨.bl false, H, I, rfl, q⟩
end EMT
namespace DL
open PySem PySem.Spec PyProof.Rows L2 GG DD PT
variable {K : PySem.W.Frag}
def oEqMt : D2 := fun d e P => match d, e with
  | .tuple ds, .tuple [] => P (.bool ds.isEmpty)
  | _, _ => False
theorem ro_eqMt : RO K (EMT.rEqMt K) oEqMt := fun S H x y d e P Q _ hx hy h q => by
  unfold oEqMt at h
  split at h
  · obtain ⟨a, vs, rfl, k1, k2⟩ := da_tup hx
    obtain ⟨b, us, rfl, k3, k4⟩ := da_tup hy
    cases k4
    refine ⟨a, b, vs, rfl, rfl, k1, k3, q _ H _ h (Same.refl _) ?_⟩
    cases k2 with
    | nil => exact .bl _
    | cons _ _ => exact .bl _
  · exact h.elim
def oEqMtL : D2 := fun d e P => match d, e with
  | .list ds, .list [] => P (.bool ds.isEmpty)
  | _, _ => False
theorem ro_eqMtL : RO K (EMT.rEqMtL K) oEqMtL := fun S H x y d e P Q _ hx hy h q => by
  unfold oEqMtL at h
  split at h
  · obtain ⟨a, vs, rfl, k1, k2⟩ := da_list hx
    obtain ⟨b, us, rfl, k3, k4⟩ := da_list hy
    cases k4
    refine ⟨a, b, vs, rfl, rfl, sq k1, sq k3, q _ H _ h (Same.refl _) ?_⟩
    cases k2 with
    | nil => exact .bl _
    | cons _ _ => exact .bl _
  · exact h.elim
end DL

set_option Elab.async false
set_option linter.all false
set_option maxRecDepth 100000
set_option maxHeartbeats 4000000
/-! DLm: sorted of pairs (text, int). -/
namespace DL
open PySem PySem.Spec PyProof.Rows L2 GG DD PT
variable {K : PySem.W.Frag}
def isSI : PyData → Bool
  | .tuple [.str _, .int _] => true
  | _ => false
theorem si_da {S : Addr → Prop} {H : Hp} {v : V} {d : PyData} (h : Da K (Hd S H) v d) (e : isSI d = true) : ∃ k : Str × Int, ∃ t, v = V.ref t ∧ SqT K H t [.str k.1, .int k.2] := by
  match d, h, e with
  | .tuple [.str x, .int i], h, _ =>
    obtain ⟨a, us, rfl, h3, h4⟩ := da_tup h
    cases h4 with
    | cons q1 h4 =>
      cases h4 with
      | cons q2 h4 =>
        cases h4
        cases q1
        cases q2
        exact ⟨(x, i), a, rfl, h3⟩
theorem DaAll.mem {H : Hp} : ∀ {vs : List V} {ds : List PyData}, DaAll K H vs ds → ∀ v ∈ vs, ∃ d ∈ ds, Da K H v d
  | _, _, .nil, v, m => by cases m
  | _, _, .cons h t, v, m => by
    rcases List.mem_cons.mp m with rfl | m
    · exact ⟨_, List.mem_cons_self, h⟩
    · obtain ⟨d, hd, h'⟩ := DaAll.mem t v m
      exact ⟨d, List.mem_cons_of_mem _ hd, h'⟩
theorem DaAll.perm {H : Hp} {ys vs : List V} (p : ys.Perm vs) : ∀ {ds : List PyData}, DaAll K H vs ds → ∃ es : List PyData, es.Perm ds ∧ DaAll K H ys es := by
  induction p with
  | nil => intro ds h; exact ⟨ds, List.Perm.refl _, h⟩
  | cons x p ih =>
    intro ds h
    cases h with
    | cons h t =>
      obtain ⟨es, pe, he⟩ := ih t
      exact ⟨_ :: es, pe.cons _, .cons h he⟩
  | swap x y l =>
    intro ds h
    cases h with
    | cons h1 t =>
      cases t with
      | cons h2 t => exact ⟨_, List.Perm.swap _ _ _, .cons h2 (.cons h1 t)⟩
  | trans p1 p2 ih1 ih2 =>
    intro ds h
    obtain ⟨es, pe, he⟩ := ih2 h
    obtain ⟨fs, pf, hf⟩ := ih1 he
    exact ⟨fs, pf.trans pe, hf⟩
noncomputable def kSI (K : PySem.W.Frag) (H : Hp) (v : V) : Str × Int := Classical.epsilon fun k : Str × Int => ∃ t, v = V.ref t ∧ SqT K H t [.str k.1, .int k.2]
def dSortSI (dl : DA) : DA := fun s P => dl s fun ds s1 => ds.all isSI = true ∧ ∀ es : List PyData, es.Perm ds → P es s1
theorem rf_sortSI {te : TE} {dl : DA} (h : RL K te dl) : RF K (tCB (SRT.rSortedSI K) (tCons te tNil)) (dSortSI dl) := fun C hC s P hd σ H Q R q =>
  rd_cb (rd_cons (h C hC s _ hd σ H _ R fun a vs H1 ds s1 hp R1 e hv => rd_nil (by
    obtain ⟨h1, h2⟩ := hp
    subst hC
    refine ⟨a, vs, kSI C.K H1, rfl, sq e, fun x m => ?_, fun ys p pm np => ?_⟩
    · obtain ⟨d, md, hd⟩ := hv.mem x m
      exact Classical.epsilon_spec (si_da hd (List.all_eq_true.mp h1 d md))
    · obtain ⟨es, pe, he⟩ := hv.perm pm
      exact q p _ H1 es s1 (h2 es pe) R1 np he)))
/-! ### list(range(n)) -/
def rRng1 : List V → Hp → VK → Prop := fun vs H Q => ∃ j, vs = [V.int j] ∧ ∀ p, H p = none → Q (.ref p) (upd H p (.rng 0 j))
def upToD (n : Nat) : List PyData := (List.range n).map fun i => .int (i : Nat)
theorem da_upToR {H : Hp} (n : Nat) : DaAll K H (RGL.upTo n) (upToD n) := by
  unfold RGL.upTo upToD
  generalize List.range n = l
  induction l with
  | nil => exact .nil
  | cons x l ih => exact .cons (.int _) ih
def dListRng (de : DE) : DA := fun s P => de s fun d s1 => match d with
  | .int j => 0 ≤ j ∧ j ≤ 1000 ∧ P (upToD j.toNat) s1
  | _ => False
theorem rf_listRng {te : TE} {de : DE} (h : RE K te de) : RF K (tCB RGL.rListRng (tCons (tCB rRng1 (tCons te tNil)) tNil)) (dListRng de) := fun C hC s P hd σ H Q R q =>
  rd_cb (rd_cons (rd_cb (rd_cons (h C hC s _ hd σ H _ R fun v H1 d s1 hp R1 hv => rd_nil (by
    cases d with
    | int j =>
      cases hv
      refine ⟨j, rfl, fun p np => rd_nil ⟨p, j.toNat, rfl, ?_, by omega, fun p' np' => q p' _ _ _ s1 hp.2.2 (R1.ext (same_upd np)) np' (da_upToR _)⟩⟩
      rw [Int.toNat_of_nonneg hp.1]
      exact upd_same
    | _ => exact hp.elim)))))
/-! ### {k: v, ..} -/
def XPs (C : DC) (trs : List (TE × TE)) (s : DSt) (P : List (PyData × PyData) → DSt → Prop) : Prop := ∀ (σ : L2.St) (H : Hp) (Q : List (V × V) → Hp → Prop), Rl C σ H s →
  (∀ ps H' ds s', P ds s' → Rl C σ H' s' → DaAll C.K (Hd (Sof C σ s'.sl) H') (ps.map Prod.fst) (ds.map Prod.fst) → DaAll C.K (Hd (Sof C σ s'.sl) H') (ps.map Prod.snd) (ds.map Prod.snd) → Q ps H') → tPairs trs σ H Q
def RPs (K : PySem.W.Frag) (trs : List (TE × TE)) (dp : DK) : Prop := ∀ C : DC, C.K = K → ∀ s P, dp s P → XPs C trs s P
def dPsNil : DK := fun s P => P [] s
def dPsCons (dk dv : DE) (dp : DK) : DK := fun s P => dk s fun x s1 => dv s1 fun y s2 => dp s2 fun ds s3 => P ((x, y) :: ds) s3
theorem rps_nil : RPs K [] dPsNil := fun C hC s P hd σ H Q R q => q [] H [] s hd R .nil .nil
theorem rps_cons {tk tv : TE} {trs : List (TE × TE)} {dk dv : DE} {dp : DK} (h1 : RE K tk dk) (h2 : RE K tv dv) (hr : RPs K trs dp) : RPs K ((tk, tv) :: trs) (dPsCons dk dv dp) := fun C hC s P hd σ H Q R q =>
  h1 C hC s _ hd σ H _ R fun v H1 x s1 hp R1 hv => h2 (C.keep v x) hC s1 _ hp σ H1 _ (R1.keep hv) fun w H2 y s2 hp R2 hw => hr ((C.keep v x).keep w y) hC s2 _ hp σ H2 _ (R2.keep hw) fun ps H3 ds s3 hp R3 k1 k2 => by
    obtain ⟨R4, hw'⟩ := R3.kept
    obtain ⟨R5, hv'⟩ := R4.kept
    exact q ((v, w) :: ps) H3 ((x, y) :: ds) s3 hp R5 (.cons hv' k1) (.cons hw' k2)
def keysD : List (PyData × PyData) → Option (List (L2.Key × PyData))
  | [] => some []
  | (k, d) :: r => match kOf k, keysD r with
    | some k', some r' => some ((k', d) :: r')
    | _, _ => none
theorem keys_da {H : Hp} : ∀ {ps : List (V × V)} {ds : List (PyData × PyData)} {ks : List (L2.Key × PyData)}, DaAll K H (ps.map Prod.fst) (ds.map Prod.fst) → DaAll K H (ps.map Prod.snd) (ds.map Prod.snd) → keysD ds = some ks →
    ∃ kvs : List (L2.Key × V), ps = kvs.map (fun kv => (kV kv.1, kv.2)) ∧ kvs.length = ds.length ∧ Paired (fun (a : L2.Key × V) (b : L2.Key × PyData) => a.1 = b.1 ∧ Da K H a.2 b.2) kvs ks
  | [], [], _, _, _, e => by
    cases e
    exact ⟨[], rfl, rfl, .nil⟩
  | [], _ :: _, _, h, _, _ => by cases h
  | _ :: _, [], _, h, _, _ => by cases h
  | (v, w) :: ps, (x, y) :: ds, ks, h1, h2, e => by
    cases h1 with
    | cons a1 a2 =>
      cases h2 with
      | cons b1 b2 =>
        unfold keysD at e
        cases e1 : kOf x with
        | none => rw [e1] at e; cases e
        | some k' =>
          cases e2 : keysD ds with
          | none => rw [e1, e2] at e; cases e
          | some r' =>
            rw [e1, e2] at e
            cases e
            obtain ⟨kvs, rfl, hl, hp⟩ := keys_da a2 b2 e2
            have e3 := key_v a1 e1
            have e3 : v = kV k' := e3
            subst e3
            exact ⟨(k', w) :: kvs, rfl, by simp [hl], .cons ⟨rfl, b1⟩ hp⟩
theorem upd_del {H : Hp} {L : Addr} {o : HO} : upd (del H L) L o = upd H L o := by
  funext b
  by_cases e : b = L
  · subst e
    rw [upd_same, upd_same]
  · rw [upd_ne e, upd_ne e, del_ne e]
def dDisp (dp : DK) : DK := fun s P => dp s fun ds s1 => ds.length ≤ 15 ∧ ∃ ks, keysD ds = some ks ∧ P (mergeD [] ks) s1
theorem rd_disp {trs : List (TE × TE)} {dp : DK} (h : RPs K trs dp) : RD K (tDisp trs) (dDisp dp) := fun C hC s P hd σ H Q R q p np => by
  obtain ⟨n1, n2⟩ := R.new np
  have nM : ¬ Mu C.W p := fun z => n1 (.inr (.inl z))
  have R1 : Rl ((C.hide p).pin p (.dK [])) σ (upd H p (.dK [])) s := (R.hidden np).pin (.inr rfl) nM upd_same
  refine h ((C.hide p).pin p (.dK [])) hC s _ hd σ _ _ R1 fun ps H2 ds s2 hp R2 k1 k2 => ⟨R2.unpin.2, ?_⟩
  obtain ⟨h15, ks, hk, hp⟩ := hp
  obtain ⟨kvs, e, hl, pr⟩ := keys_da k1 k2 hk
  obtain ⟨R3, hs⟩ := R2.unpin.1.leave (fun z => n1 (.inl z)) nM n2 fun a u z => (R.fz a u z).1
  refine ⟨kvs, e, by omega, ?_⟩
  have hq := q p (mergeK [] kvs) (del H2 p) (mergeD [] ks) s2 hp R3 (if_pos rfl) ((merge_da pr .nil).of hs)
  rw [upd_del] at hq
  exact hq
end DL

set_option Elab.async false
set_option linter.all false
set_option maxRecDepth 100000
set_option maxHeartbeats 4000000
/-! LZ: list(zip(xs, ys)), two lists. -/
namespace LZ
open PySem PyProof.Rows L2
section
variable {prog : Program} {w : World} {A : Around} {E : Value → Shared → Prop} {s : Shared}
/-- the zip before its first pair, or with a pair out that is kept -/
def ZSt (h : Heap) (z TI TO i1 i2 : Addr) : Prop := (IsZip h z TI TO .none ∧ ∃ a b, IsPair h TO a b) ∨ ∃ (T : Addr) (f : Bool) (oT : Obj), IsZipHeld h z TI TO T f ∧ h.get? T = some oT ∧ T ≠ z ∧ T ≠ TO ∧ T ≠ i1 ∧ T ≠ i2
theorem next_item {z TI TO i1 i2 l1 l2 : Addr} {k1 k2 : Nat} {xs ys : Array Value} {x y : Value} {Q : Option Value → Shared → Prop} (D : ZipApart z TI TO i1 i2 l1 l2)
    (hz : ZSt s.heap z TI TO i1 i2) (hTI : IsPair s.heap TI (.ref i1) (.ref i2))
    (h1 : s.heap.IsListIter i1 l1 k1) (h2 : s.heap.IsListIter i2 l2 k2) (hl1 : s.heap.IsList l1 xs) (hl2 : s.heap.IsList l2 ys) (hx : xs[k1]? = some x) (hy : ys[k2]? = some y) (hTO : TO < s.heap.objs.size)
    (hQ : ∀ h', ZSt h' z TI TO i1 i2 → h'.IsListIter i1 l1 (k1 + 1) → h'.IsListIter i2 l2 (k2 + 1) → IsPair h' s.heap.objs.size x y → h'.objs.size = s.heap.objs.size + 1 →
      (∀ c o, c ≠ z → c ≠ TO → c ≠ i1 → c ≠ i2 → s.heap.get? c = some o → h'.get? c = some o) → Q (some (.ref s.heap.objs.size)) { s with heap := h' }) :
    wpAny (model prog w) A (pyNext (.ref z)) Q E s := by
  have hi1 : i1 < s.heap.objs.size := by obtain ⟨_, e, _⟩ := h1; exact Heap.lt_size e
  have hi2 : i2 < s.heap.objs.size := by obtain ⟨_, e, _⟩ := h2; exact Heap.lt_size e
  rcases hz with ⟨hz, a, b, hT⟩ | ⟨T, f, oT, hz, hT, t1, t2, t3, t4⟩
  · have hzl : z < s.heap.objs.size := Heap.lt_size hz
    exact wpAny_pyNext_zip_item D hz hTI hT h1 h2 hl1 hl2 hx hy fun h' a1 a2 a3 a4 a5 a6 hk =>
      hQ h' (.inr ⟨s.heap.objs.size, false, _, a1, a5, Nat.ne_of_gt hzl, Nat.ne_of_gt hTO, Nat.ne_of_gt hi1, Nat.ne_of_gt hi2⟩) a3 a4 a5 a6 hk
  · exact wpAny_pyNext_zip_item_held D hz hT hTI h1 h2 hl1 hl2 hx hy fun h' a1 a3 a4 a5 a6 hk =>
      hQ h' (.inr ⟨T, true, oT, a1, hk T oT t1 t3 t4 hT, t1, t2, t3, t4⟩) a3 a4 a5 a6 fun c o c1 _ c3 c4 e => hk c o c1 c3 c4 e
theorem next_end {z TI TO i1 i2 l1 l2 : Addr} {k1 k2 : Nat} {xs ys : Array Value} {Q : Option Value → Shared → Prop} (hh : A.handled = none) (D : ZipApart z TI TO i1 i2 l1 l2)
    (hz : ZSt s.heap z TI TO i1 i2) (hTI : IsPair s.heap TI (.ref i1) (.ref i2))
    (h1 : s.heap.IsListIter i1 l1 k1) (h2 : s.heap.IsListIter i2 l2 k2) (hl1 : s.heap.IsList l1 xs) (hl2 : s.heap.IsList l2 ys) (hend : xs[k1]? = none ∨ ys[k2]? = none)
    (hQ : ∀ h', (∀ c o, c ≠ z → c ≠ TO → c ≠ i1 → c ≠ i2 → s.heap.get? c = some o → h'.get? c = some o) → Q none { s with heap := h' }) :
    wpAny (model prog w) A (pyNext (.ref z)) Q E s := by
  rcases hz with ⟨hz, a, b, hT⟩ | ⟨T, f, oT, hz, hT, t1, t2, t3, t4⟩
  · exact wpAny_pyNext_zip_end hh D hz hTI hT h1 h2 hl1 hl2 hend hQ
  · exact wpAny_pyNext_zip_end_held hh D hz hT hTI h1 h2 hl1 hl2 hend fun h' hk => hQ h' fun c o c1 _ c3 c4 e => hk c o c1 c3 c4 e
theorem ZSt.at {h h' : Heap} {z TI TO i1 i2 : Addr} (st : ZSt h z TI TO i1 i2) {S : Addr} (hz : z ≠ S) (hTO : TO ≠ S) (hT : ∀ o, h.get? S = some o → ∃ u, h'.get? S = some u) (k : ∀ b o, b ≠ S → h.get? b = some o → h'.get? b = some o) : ZSt h' z TI TO i1 i2 := by
  rcases st with ⟨q1, a, b, q2⟩ | ⟨T, f, oT, q1, q2, t⟩
  · exact .inl ⟨k _ _ hz q1, a, b, k _ _ hTO q2⟩
  · by_cases e : T = S
    · subst e
      obtain ⟨u, hu⟩ := hT _ q2
      exact .inr ⟨T, f, u, k _ _ hz q1, hu, t⟩
    · exact .inr ⟨T, f, oT, k _ _ hz q1, k _ _ e q2, t⟩
theorem nd_push {acc : List Value} {u : Value} (nd : ∀ (j j' : Nat) (v : Value), acc[j]? = some v → acc[j']? = some v → j = j') (hu : ∀ (j : Nat) (v : Value), acc[j]? = some v → v ≠ u) :
    ∀ (j j' : Nat) (v : Value), (acc ++ [u])[j]? = some v → (acc ++ [u])[j']? = some v → j = j' := by
  have key : ∀ (j : Nat) (v : Value), (acc ++ [u])[j]? = some v → (j < acc.length ∧ acc[j]? = some v) ∨ (j = acc.length ∧ v = u) := fun j v h => by
    by_cases hj : j < acc.length
    · rw [List.getElem?_append_left hj] at h
      exact .inl ⟨hj, h⟩
    · rw [List.getElem?_append_right (by omega)] at h
      cases e : j - acc.length with
      | zero =>
        rw [e] at h
        exact .inr ⟨by omega, (Option.some.inj h).symm⟩
      | succ k => rw [e] at h; cases h
  intro j j' v h h'
  rcases key j v h with ⟨a, b⟩ | ⟨a, b⟩ <;> rcases key j' v h' with ⟨a', b'⟩ | ⟨a', b'⟩
  · exact nd j j' v b b'
  · exact absurd b' (hu j v b)
  · exact absurd b (hu j' v b')
  · omega
structure ZL (h0 : Heap) (S z TI TO i1 i2 l1 l2 : Addr) (xs ys : Array Value) (i : Nat) (acc : List Value) (h : Heap) : Prop where
  st : ZSt h z TI TO i1 i2
  ti : IsPair h TI (.ref i1) (.ref i2)
  to : TO < h.objs.size
  h1 : h.IsListIter i1 l1 i
  h2 : h.IsListIter i2 l2 i
  a1 : h.IsList l1 xs
  a2 : h.IsList l2 ys
  s : ∃ c, h.get? S = some { cls := .type "list", dict := none, data := .seq acc.toArray c, slots := #[] }
  len : acc.length = i
  pr : ∀ (j : Nat) (v : Value), acc[j]? = some v → ∃ (p : Addr) (x y : Value), v = Value.ref p ∧ xs[j]? = some x ∧ ys[j]? = some y ∧ IsPair h p x y ∧ (p ≠ S ∧ p ≠ z ∧ p ≠ TO ∧ p ≠ i1 ∧ p ≠ i2) ∧ h0.objs.size ≤ p
  old : ∀ b o, b ≠ S → b ≠ z → b ≠ TO → b ≠ i1 → b ≠ i2 → h0.get? b = some o → h.get? b = some o
  nd : ∀ (j j' : Nat) (v : Value), acc[j]? = some v → acc[j']? = some v → j = j'
  sz : h0.objs.size ≤ h.objs.size
/-- the end: the list stands, its pairs stand -/
structure ZE (h0 : Heap) (S z TO i1 i2 : Addr) (xs ys : Array Value) (acc : List Value) (h : Heap) : Prop where
  s : ∃ c, h.get? S = some { cls := .type "list", dict := none, data := .seq acc.toArray c, slots := #[] }
  len : acc.length = min xs.size ys.size
  pr : ∀ (j : Nat) (v : Value), acc[j]? = some v → ∃ (p : Addr) (x y : Value), v = Value.ref p ∧ xs[j]? = some x ∧ ys[j]? = some y ∧ IsPair h p x y ∧ (p ≠ S ∧ p ≠ z ∧ p ≠ TO ∧ p ≠ i1 ∧ p ≠ i2) ∧ h0.objs.size ≤ p
  old : ∀ b o, b ≠ S → b ≠ z → b ≠ TO → b ≠ i1 → b ≠ i2 → h0.get? b = some o → h.get? b = some o
  nd : ∀ (j j' : Nat) (v : Value), acc[j]? = some v → acc[j']? = some v → j = j'
structure SAp (S z TI TO i1 i2 l1 l2 : Addr) : Prop where
  z : z ≠ S
  TI : TI ≠ S
  TO : TO ≠ S
  i1 : i1 ≠ S
  i2 : i2 ≠ S
  l1 : l1 ≠ S
  l2 : l2 ≠ S
theorem zip_loop {h0 : Heap} {S z TI TO i1 i2 l1 l2 : Addr} {xs ys : Array Value} {res : Value} {Rs : Result → Shared → Prop} (hh : A.handled = none) (D : ZipApart z TI TO i1 i2 l1 l2) (ap : SAp S z TI TO i1 i2 l1 l2) (hx : xs.size ≤ sizeLine)
    (hd : ∀ acc h', ZE h0 S z TO i1 i2 xs ys acc h' → Rs (.ok (.ret res)) { s with heap := h' }) :
    ∀ (m i : Nat) (acc : List Value) (h : Heap), m + i = min xs.size ys.size → ZL h0 S z TI TO i1 i2 l1 l2 xs ys i acc h → codeAny (model prog w) A (.builtin "list.extend.loop" ⟨[.ref S, .ref z, res], []⟩) Rs { s with heap := h } := by
  intro m
  induction m with
  | zero =>
    intro i acc h hm J
    refine codeAny_builtin PySem.F.entry_extend_loop ?_
    rw [Around.under_plainId PySem.F.plain_extend_loop _]
    show wpAny _ A.in1 (pyNext (.ref z) >>= _) _ _ _
    have hend : xs[i]? = none ∨ ys[i]? = none := by
      rcases Nat.le_total xs.size ys.size with q | q
      · exact .inl (by rw [Array.getElem?_eq_none]; omega)
      · exact .inr (by rw [Array.getElem?_eq_none]; omega)
    refine wpAny_bind (next_end (s := { s with heap := h }) hh D J.st J.ti J.h1 J.h2 J.a1 J.a2 hend fun h' hk => wpAny_pure (hd acc h' ?_))
    obtain ⟨c, hc⟩ := J.s
    refine ⟨⟨c, hk _ _ ap.z.symm ap.TO.symm ap.i1.symm ap.i2.symm hc⟩, by rw [J.len]; omega, fun j v hv => ?_, fun b o b1 b2 b3 b4 b5 e => hk b o b2 b3 b4 b5 (J.old b o b1 b2 b3 b4 b5 e), J.nd⟩
    obtain ⟨p, x, y, e1, e2, e3, e4, e5, e6⟩ := J.pr j v hv
    exact ⟨p, x, y, e1, e2, e3, hk _ _ e5.2.1 e5.2.2.1 e5.2.2.2.1 e5.2.2.2.2 e4, e5, e6⟩
  | succ m ih =>
    intro i acc h hm J
    refine codeAny_builtin PySem.F.entry_extend_loop ?_
    rw [Around.under_plainId PySem.F.plain_extend_loop _]
    show wpAny _ A.in1 (pyNext (.ref z) >>= _) _ _ _
    have l1 : i < xs.size := by omega
    have l2 : i < ys.size := by omega
    refine wpAny_bind (next_item (s := { s with heap := h }) D J.st J.ti J.h1 J.h2 J.a1 J.a2 (Array.getElem?_eq_getElem l1) (Array.getElem?_eq_getElem l2) J.to fun h' st' h1' h2' hp hsz hk => ?_)
    show wpAny _ A.in1 (updateSeq S (·.push (.ref h.objs.size)) >>= _) _ _ _
    obtain ⟨c, hc⟩ := J.s
    have hS := hk _ _ ap.z.symm ap.TO.symm ap.i1.symm ap.i2.symm hc
    have lS : S < h.objs.size := Heap.lt_size hc
    refine wpAny_bind (wpAny_updateSeq hS rfl (wpAny_pure ⟨plainId_quiet PySem.F.plain_extend_loop _, ?_⟩) (by rw [List.size_toArray, J.len]; omega) (by show (acc.toArray.push _).size ≤ sizeLine + 1; rw [Array.size_push, List.size_toArray, J.len]; omega))
    have hS2 := Heap.get?_update_self (Obj.mapSeq (·.push (Value.ref h.objs.size))) hS rfl
    have oth : ∀ b o, b ≠ S → h'.get? b = some o → (h'.update S (Obj.mapSeq (·.push (Value.ref h.objs.size)))).get? b = some o := fun b o hb e => (Heap.get?_update_other _ _ (Ne.symm hb)).trans e
    have keep : ∀ b o, b ≠ S → b ≠ z → b ≠ TO → b ≠ i1 → b ≠ i2 → h.get? b = some o → (h'.update S (Obj.mapSeq (·.push (Value.ref h.objs.size)))).get? b = some o := fun b o q1 q2 q3 q4 q5 e => oth b o q1 (hk b o q2 q3 q4 q5 e)
    have usz : (h'.update S (Obj.mapSeq (·.push (Value.ref h.objs.size)))).objs.size = h'.objs.size := (Heap.SameBut.update ..).1
    have lz : z < h.objs.size := by
      rcases J.st with ⟨q, _⟩ | ⟨_, _, _, q, _⟩
      · exact Heap.lt_size q
      · exact Heap.lt_size q
    have li1 : i1 < h.objs.size := by obtain ⟨_, e, _⟩ := J.h1; exact Heap.lt_size e
    have li2 : i2 < h.objs.size := by obtain ⟨_, e, _⟩ := J.h2; exact Heap.lt_size e
    have lto := J.to
    refine ih (i + 1) (acc ++ [.ref h.objs.size]) _ (by omega) ⟨st'.at ap.z ap.TO (fun _ _ => ⟨_, hS2⟩) oth, keep _ _ ap.TI D.TIz D.TITO D.TIi1 D.TIi2 J.ti, by rw [usz, hsz]; exact Nat.lt_succ_of_lt lto, h1'.at fun o e => oth _ o ap.i1 e, h2'.at fun o e => oth _ o ap.i2 e,
      J.a1.at fun o e => keep _ o ap.l1 D.l1z D.l1TO D.l1i1 D.l1i2 e, J.a2.at fun o e => keep _ o ap.l2 D.l2z D.l2TO D.l2i1 D.l2i2 e, ⟨_, by rw [hS2]; simp [Obj.mapSeq]; rfl⟩, by simp [J.len], fun j v hv => ?_, fun b o b1 b2 b3 b4 b5 e => keep b o b1 b2 b3 b4 b5 (J.old b o b1 b2 b3 b4 b5 e), nd_push J.nd fun j v hv e => (by
        obtain ⟨p, x, y, e1, _, _, e4, _⟩ := J.pr j v hv
        rw [e1] at e
        have lp := Heap.lt_size e4
        rw [Value.ref.inj e] at lp
        exact Nat.lt_irrefl _ lp), by rw [usz, hsz]; exact Nat.le_succ_of_le J.sz⟩
    by_cases hj : j < acc.length
    · rw [List.getElem?_append_left hj] at hv
      obtain ⟨p, x, y, e1, e2, e3, e4, e5, e6⟩ := J.pr j v hv
      exact ⟨p, x, y, e1, e2, e3, keep _ _ e5.1 e5.2.1 e5.2.2.1 e5.2.2.2.1 e5.2.2.2.2 e4, e5, e6⟩
    · have ej : j = i := by
        have z1 : j < (acc ++ [Value.ref h.objs.size]).length := by
          rcases Nat.lt_or_ge j (acc ++ [Value.ref h.objs.size]).length with q | q
          · exact q
          · rw [List.getElem?_eq_none q] at hv; cases hv
        have z2 := J.len
        rw [List.length_append, List.length_singleton] at z1
        omega
      subst ej
      rw [List.getElem?_append_right (by rw [J.len]; exact Nat.le_refl _), J.len, Nat.sub_self] at hv
      cases hv
      exact ⟨h.objs.size, _, _, rfl, Array.getElem?_eq_getElem l1, Array.getElem?_eq_getElem l2, oth _ _ (Nat.ne_of_gt lS) hp, ⟨Nat.ne_of_gt lS, Nat.ne_of_gt lz, Nat.ne_of_gt lto, Nat.ne_of_gt li1, Nat.ne_of_gt li2⟩, J.sz⟩
theorem nolen_zip : typeLookup (.type "zip") "__len__" = pure none := by rw [typeLookup_type, builtinLookup_eq_fast]; kernel_rfl
theorem nohint_zip : typeLookup (.type "zip") "__length_hint__" = pure none := by rw [typeLookup_type, builtinLookup_eq_fast]; kernel_rfl
theorem call_list_zip {z TI TO i1 i2 l1 l2 : Addr} {xs ys : Array Value} {a b : Value} {Q : Value → Shared → Prop} (hh : A.handled = none) (D : ZipApart z TI TO i1 i2 l1 l2) (hx : xs.size ≤ sizeLine)
    (hz : IsZip s.heap z TI TO .none) (hTI : IsPair s.heap TI (.ref i1) (.ref i2)) (hTO : IsPair s.heap TO a b) (h1 : s.heap.IsListIter i1 l1 0) (h2 : s.heap.IsListIter i2 l2 0) (hl1 : s.heap.IsList l1 xs) (hl2 : s.heap.IsList l2 ys)
    (hQ : ∀ acc h', ZE s.heap s.heap.objs.size z TO i1 i2 xs ys acc h' → Q (.ref s.heap.objs.size) { s with heap := h' }) :
    wpAny (model prog w) A (call (.type "list") [.ref z]) Q E s := by
  have lz : z < s.heap.objs.size := Heap.lt_size hz
  have lTI : TI < s.heap.objs.size := Heap.lt_size hTI
  have lTO : TO < s.heap.objs.size := Heap.lt_size hTO
  have li1 : i1 < s.heap.objs.size := by obtain ⟨_, e, _⟩ := h1; exact Heap.lt_size e
  have li2 : i2 < s.heap.objs.size := by obtain ⟨_, e, _⟩ := h2; exact Heap.lt_size e
  have ll1 : l1 < s.heap.objs.size := by obtain ⟨_, e, _⟩ := hl1; exact Heap.lt_size e
  have ll2 : l2 < s.heap.objs.size := by obtain ⟨_, e, _⟩ := hl2; exact Heap.lt_size e
  refine callType_codes (Q₁ := fun obj s₁ => obj = .ref s.heap.objs.size ∧ s₁ = { s with heap := s.heap.push { cls := .type "list", data := .seq #[] } }) PySem.F.called_list (PySem.F.typeCall_list_1 _) PySem.F.entry_list_init
    (code_list_new _ ⟨rfl, rfl⟩) fun obj s₁ h₁ => ?_
  obtain ⟨rfl, rfl⟩ := h₁
  have hS : (s.heap.push { cls := .type "list", data := .seq #[] }).get? s.heap.objs.size = some { cls := .type "list", data := .seq #[] } := Heap.get?_push_size _ rfl
  refine ⟨⟨_, hS, rfl⟩, PySem.F.args_list_init_2 _ _, ?_⟩
  show wpAny _ _ (do let old ← Builtin.List.listItems (.ref s.heap.objs.size); Builtin.List.listUpdate (.ref s.heap.objs.size) (fun _ => #[]); letGo old.toList.reverse; Builtin.List.listExtendWith (.ref s.heap.objs.size) (.ref z) .none) _ _ _
  refine wpAny_bind ?_
  unfold Builtin.List.listItems
  refine wpAny_bind (wpAny_seqItems hS rfl (wpAny_pure ?_))
  show wpAny _ _ (updateSeq s.heap.objs.size (fun _ => #[]) >>= fun _ => letGo (#[] : Array Value).toList.reverse >>= fun _ => Builtin.List.listExtendWith (.ref s.heap.objs.size) (.ref z) .none) _ _ _
  refine wpAny_bind (wpAny_updateSeq hS rfl ?_)
  have hS₂ := Heap.get?_update_self (Obj.mapSeq (fun _ => (#[] : Array Value))) hS rfl
  have k₂ : ∀ b o, s.heap.get? b = some o → ((s.heap.push { cls := .type "list", data := .seq #[] }).update s.heap.objs.size (Obj.mapSeq (fun _ => (#[] : Array Value)))).get? b = some o :=
    fun b o e => (Heap.get?_update_other _ _ (Nat.ne_of_gt (Heap.lt_size e))).trans (Heap.get?_push_of_some _ e)
  have z₂ : ((s.heap.push { cls := .type "list", data := .seq #[] }).update s.heap.objs.size (Obj.mapSeq (fun _ => (#[] : Array Value)))).objs.size = s.heap.objs.size + 1 := by rw [(Heap.SameBut.update ..).1, Heap.size_push]
  refine wpAny_bind (wpAny_letGo ?_)
  generalize (s.heap.push { cls := .type "list", data := .seq #[] }).update s.heap.objs.size (Obj.mapSeq (fun _ => (#[] : Array Value))) = hh₂ at hS₂ k₂ z₂
  have hT : Shared.TypeIs { s with heap := hh₂ } (.ref z) "zip" := ⟨_, k₂ _ _ hz, rfl⟩
  unfold Builtin.List.listExtendWith
  refine wpAny_bind (wpAny_typeOf hT ?_)
  have e1 : Builtin.List.listSameRef (.ref s.heap.objs.size) (.ref z) = false := by simp [Builtin.List.listSameRef, Nat.ne_of_gt lz]
  have e2 : (Value.type "zip" == Value.type "list") = false := by decide
  have e3 : (Value.type "zip" == Value.type "tuple") = false := by decide
  simp only [e1, e2, e3, Bool.or_false, Bool.false_eq_true, if_false]
  refine wpAny_bind (wpAny_pyIter_zip (s := { s with heap := hh₂ }) (k₂ _ _ hz) ?_)
  refine wpAny_bind (wpAny_holding ?_)
  unfold Builtin.List.listLengthHint
  refine wpAny_bind (wpAny_specialOf hT nolen_zip ?_)
  show wpAny _ _ (specialOf (Value.ref z) (Str.ofString "__length_hint__") >>= _) _ _ _
  refine wpAny_bind (wpAny_specialOf hT nohint_zip ?_)
  refine wpAny_pure ?_
  show wpAny _ _ (rule "list.extend.makes-room" >>= fun _ => Builtin.List.listTouch (.ref s.heap.objs.size) >>= fun _ =>
    again (.builtin "list.extend.loop" ⟨[.ref s.heap.objs.size, .ref z, .none], []⟩)) _ _ _
  refine wpAny_bind (wpAny_rule ?_)
  refine wpAny_bind ?_
  show wpAny _ _ (updateSeq s.heap.objs.size (·.push .none) >>= fun _ => updateSeq s.heap.objs.size (·.pop)) _ _ _
  refine wpAny_bind (wpAny_updateSeq hS₂ rfl ?_)
  have hS₃ := Heap.get?_update_self (Obj.mapSeq (·.push Value.none)) hS₂ rfl
  refine wpAny_updateSeq hS₃ rfl ?_
  have hS₄ := Heap.get?_update_self (Obj.mapSeq (·.pop)) hS₃ rfl
  have k₄ : ∀ b o, s.heap.get? b = some o → ((hh₂.update s.heap.objs.size (Obj.mapSeq (·.push Value.none))).update s.heap.objs.size (Obj.mapSeq (·.pop))).get? b = some o :=
    fun b o e => (Heap.get?_update_other _ _ (Nat.ne_of_gt (Heap.lt_size e))).trans ((Heap.get?_update_other _ _ (Nat.ne_of_gt (Heap.lt_size e))).trans (k₂ b o e))
  have z₄ : ((hh₂.update s.heap.objs.size (Obj.mapSeq (·.push Value.none))).update s.heap.objs.size (Obj.mapSeq (·.pop))).objs.size = s.heap.objs.size + 1 := by rw [(Heap.SameBut.update ..).1, (Heap.SameBut.update ..).1, z₂]
  refine wpAny_pure ⟨plainId_quiet PySem.F.plain_extend_loop _, zip_loop (s := s) (h0 := s.heap) (A := A.in1) hh D ⟨Nat.ne_of_lt lz, Nat.ne_of_lt lTI, Nat.ne_of_lt lTO, Nat.ne_of_lt li1, Nat.ne_of_lt li2, Nat.ne_of_lt ll1, Nat.ne_of_lt ll2⟩ hx (fun acc h' ze => ⟨rfl, hQ acc h' ze⟩) _ 0 [] _ rfl ?_⟩
  exact ⟨.inl ⟨k₄ _ _ hz, a, b, k₄ _ _ hTO⟩, k₄ _ _ hTI, by rw [z₄]; exact Nat.lt_succ_of_lt lTO, h1.at fun o e => k₄ _ o e, h2.at fun o e => k₄ _ o e, hl1.at fun o e => k₄ _ o e, hl2.at fun o e => k₄ _ o e, ⟨_, hS₄⟩, rfl, (fun j v hv => by simp at hv), fun b o _ _ _ _ _ e => k₄ b o e, (fun j j' v hv => by simp at hv), by rw [z₄]; exact Nat.le_succ _⟩
end
end LZ

set_option Elab.async false
set_option linter.all false
set_option maxRecDepth 100000
set_option maxHeartbeats 4000000
/-! LZP: list(zip(xs, ys)) as an expression. -/
namespace LZ
open PySem PySem.Spec PyProof.Rows L2
variable {X : Cx}
/-- things already laid are tracked -/
theorem takeF {pins : List (Addr × Obj)} {σ : L2.St} {H0 : Hp} {s : Shared} {h' : Heap} {tk : Nat} (G : Addr → HO) (I0 : Inv X pins σ H0 s) : ∀ (L : List Addr) (H1 : Hp), Inv X pins σ H1 { s with heap := h', toks := tk } →
    (∀ a ∈ L, s.heap.objs.size ≤ a ∧ (H1 a = none ∨ H1 a = some (G a)) ∧ ∀ H2, ObjOk X.prog X.w H2 h' a (G a)) →
    ∃ H2, Inv X pins σ H2 { s with heap := h', toks := tk } ∧ (∀ b o, H1 b = some o → H2 b = some o) ∧ (∀ a ∈ L, H2 a = some (G a)) ∧ ∀ b, b ∉ L → H2 b = H1 b
  | [], H1, I1, _ => ⟨H1, I1, fun _ _ e => e, (fun _ h => nomatch h), fun _ _ => rfl⟩
  | a :: L, H1, I1, h => by
    obtain ⟨hb, hnone, ok⟩ := h a (List.mem_cons_self ..)
    rcases hnone with hnone | hnone
    · have I2 : Inv X pins σ (upd H1 a (G a)) { s with heap := h', toks := tk } := I1.take (h' := h') (t' := tk) (fun b ob _ e => e) (I0.fpOk hb hnone) (ok _)
      obtain ⟨H2, I3, g, q, n⟩ := takeF G I0 L (upd H1 a (G a)) I2 fun c hc => by
        obtain ⟨c1, c2, c3⟩ := h c (List.mem_cons_of_mem _ hc)
        refine ⟨c1, ?_, c3⟩
        by_cases e : c = a
        · subst e
          exact .inr upd_same
        · rw [upd_ne e]
          exact c2
      refine ⟨H2, I3, fun b o e => g b o (by rw [upd_ne (ne_of_none e hnone)]; exact e), fun c hc => ?_, fun b hb' => ?_⟩
      · rcases List.mem_cons.mp hc with rfl | hc
        · exact g _ _ upd_same
        · exact q c hc
      · rw [List.mem_cons, not_or] at hb'
        rw [n b hb'.2, upd_ne hb'.1]
    · obtain ⟨H2, I3, g, q, n⟩ := takeF G I0 L H1 I1 fun c hc => h c (List.mem_cons_of_mem _ hc)
      refine ⟨H2, I3, g, fun c hc => ?_, fun b hb' => n b fun z => hb' (List.mem_cons_of_mem _ z)⟩
      rcases List.mem_cons.mp hc with rfl | hc
      · exact g _ _ hnone
      · exact q c hc
theorem vget : ∀ {xs : List V} {its : List Value} {j : Nat} {u : Value}, Vals xs its → its[j]? = some u → ∃ x, xs[j]? = some x ∧ RelV x u
  | _, _, _, _, .nil, h => by simp at h
  | _, _, 0, _, .cons r _, h => by
    cases h
    exact ⟨_, rfl, r⟩
  | _, _, j + 1, _, .cons _ t, h => by
    obtain ⟨x, e, r⟩ := vget (j := j) t (by simpa using h)
    exact ⟨x, by simpa using e, r⟩
/-- list(zip(a, b)) -/
def tListZip (K : PySem.W.Frag) (ta : TA) : TE := fun σ H Q => ta σ H fun vs H1 => ∃ a b xs ys, vs = [.ref a, .ref b] ∧ SqL K H1 a xs ∧ SqL K H1 b ys ∧
  ∀ (ps : List Addr) (H2 : Hp) (p : Addr), (∀ b o, H1 b = some o → H2 b = some o) → H2 p = none → ps.length = min xs.length ys.length →
    (∀ (j : Nat) (t : Addr), ps[j]? = some t → ∃ x y o, xs[j]? = some x ∧ ys[j]? = some y ∧ H2 t = some (.frz o (.tup [x, y])) ∧ o.dict = none ∧ H1 t = none) → Q (.ref p) (upd H2 p (.lst (ps.map V.ref)))
def adr : Value → Addr
  | .ref p => p
  | _ => 0
theorem pe_listZip {e e2 : Expr} {ta : TA} {p p2 pos pos2 : Pos} (hc : X.calm = true) (hg : Gl X "list") (hm : X.mg "list" = none) (hg2 : Gl X "zip") (hm2 : X.mg "zip" = none) (ha : PA X [e, e2] ta)
    (hs : starEach [e, e2] X.env = (false, eval e X.env) :: starEach [e2] X.env := by rfl) (hpl : (backTo pos2 (starEach [e2] X.env)).any (·.1) = false := by rfl)
    (hs1 : starEach [.Call (.Name "zip" p2) [e, e2] [] pos2] X.env = (false, eval (.Call (.Name "zip" p2) [e, e2] [] pos2) X.env) :: starEach [] X.env := by rfl) (hpl1 : (backTo pos (starEach [] X.env)).any (·.1) = false := by rfl) :
    PE X (.Call (.Name "list" p) [.Call (.Name "zip" p2) [e, e2] [] pos2] [] pos) (tListZip X.K ta) := by
  refine ⟨fun pins s σ H Q I h => ?_⟩
  refine wpAny_Call_Name_kw (ld_blt I hg hm (u := .type "list") (by decide +kernel) ?_)
  refine PyProof.Rows.callWith_type1 ?_ hs1 hpl1
  rw [hs1]
  show wpAny _ _ (spliced ((false, eval (.Call (.Name "zip" p2) [e, e2] [] pos2) X.env) :: backTo pos (starEach [] X.env))) _ _ s
  refine Calls.spliced_cons (Call_ (ld_blt I hg2 hm2 PyProof.Rows.boot_zip (PyProof.Rows.callWith_type1 (thn (ha.run pos2 pins s σ H _ I h) fun us s1 ⟨vs, H1, I1, r1, q1⟩ => ?_) hs hpl)))
  obtain ⟨a, b, xs, ys, ex, hqx, hqy, q⟩ := q1
  subst ex
  cases r1 with
  | cons r rr =>
    cases rr with
    | cons r' rr =>
      cases rr
      cases r
      cases r'
      obtain ⟨its, rv, p1, z1⟩ := I1.list hqx
      obtain ⟨its2, rv2, p3, z2⟩ := I1.list hqy
      have la : a < s1.heap.objs.size := p1.lt
      have lb : b < s1.heap.objs.size := p3.lt
      refine call_zip_2 p1.isList p3.isList fun h' hz hTI hTO h1 h2 hsz hk => Calls.spliced_nil ?_
      refine call_list_zip (s := { s1 with heap := h' }) (I1.ok.hd hc) (PySem.W.ktu_apart s1.heap.objs.size a b la lb) (by rw [List.size_toArray, ← rv.length]; exact z1) hz hTI hTO h1 h2 (p1.isList.at fun o e => hk _ o e) (p3.isList.at fun o e => hk _ o e) fun acc h2' ze => ?_
      have hk2 : ∀ c o, s1.heap.get? c = some o → h2'.get? c = some o := fun c o ec => by
        have lc := Heap.lt_size ec
        have le : ∀ k : Nat, c ≠ s1.heap.objs.size + k := fun k => Nat.ne_of_lt (Nat.lt_of_lt_of_le lc (Nat.le_add_right _ _))
        exact ze.old c o (by show c ≠ h'.objs.size; rw [hsz]; exact le 5) (le 4) (le 3) (le 0) (le 1) (hk c o ec)
      have I2 : Inv X pins σ H1 { s1 with heap := h2' } := I1.kept (t' := s1.toks) hk2
      have key : ∀ v, v ∈ acc → ∃ (j : Nat) (t : Addr) (x y : V) (u1 u2 : Value), v = .ref t ∧ acc[j]? = some v ∧ xs[j]? = some x ∧ ys[j]? = some y ∧ RelV x u1 ∧ RelV y u2 ∧ IsPair h2' t u1 u2 ∧ s1.heap.objs.size ≤ t ∧ t ≠ h'.objs.size := fun v hv => by
        obtain ⟨j, hj⟩ := List.mem_iff_getElem?.mp hv
        obtain ⟨t, u1, u2, e1, e2, e3, e4, e5, e6⟩ := ze.pr j v hj
        obtain ⟨x, e7, e8⟩ := vget rv (by simpa using e2)
        obtain ⟨y, e9, e10⟩ := vget rv2 (by simpa using e3)
        exact ⟨j, t, x, y, u1, u2, e1, hj, e7, e9, e8, e10, e4, Nat.le_trans (by rw [hsz]; exact Nat.le_add_right _ _) e6, e5.1⟩
      have key' : ∀ t : Addr, ∃ o : HO, Value.ref t ∈ acc → ∃ (j : Nat) (x y : V) (u1 u2 : Value), o = .frz { cls := .type "tuple", data := .seq #[u1, u2] } (.tup [x, y]) ∧ acc[j]? = some (.ref t) ∧ xs[j]? = some x ∧ ys[j]? = some y ∧ RelV x u1 ∧ RelV y u2 ∧ IsPair h2' t u1 u2 := fun t => by
        by_cases m : Value.ref t ∈ acc
        · obtain ⟨j, t', x, y, u1, u2, e0, e1, e2, e3, e4, e5, e6, _⟩ := key _ m
          cases e0
          exact ⟨_, fun _ => ⟨j, x, y, u1, u2, rfl, e1, e2, e3, e4, e5, e6⟩⟩
        · exact ⟨.lst [], fun z => absurd z m⟩
      obtain ⟨G, hG⟩ := Classical.axiomOfChoice key'
      have mem : ∀ t, t ∈ acc.map adr → Value.ref t ∈ acc := fun t ht => by
        obtain ⟨v, hv, e⟩ := List.mem_map.mp ht
        obtain ⟨_, t', _, _, _, _, e0, _⟩ := key v hv
        subst e0
        cases e
        exact hv
      have lo : ∀ t, t ∈ acc.map adr → s1.heap.objs.size ≤ t ∧ t ≠ h'.objs.size := fun t ht => by
        obtain ⟨_, t', _, _, _, _, e0, _, _, _, _, _, _, e7, e8⟩ := key _ (mem t ht)
        cases e0
        exact ⟨e7, e8⟩
      obtain ⟨H2, I3, g2, g3, g4⟩ := takeF (tk := s1.toks) G I1 (acc.map adr) H1 I2 fun t ht => by
        refine ⟨(lo t ht).1, .inl (I1.hok.fresh (lo t ht).1), fun H3 => ?_⟩
        obtain ⟨j, x, y, u1, u2, e0, e1, e2, e3, e4, e5, e6⟩ := hG t (mem t ht)
        rw [e0]
        exact ⟨e6, by rw [sizeLine_eq]; show 2 ≤ 16777216; decide, [u1, u2], .cons e4 (.cons e5 .nil), ⟨_, e6, rfl, _, rfl⟩⟩
      obtain ⟨c, hS⟩ := ze.s
      have l5 : s1.heap.objs.size ≤ h'.objs.size := by rw [hsz]; exact Nat.le_add_right _ _
      have hnp : H2 h'.objs.size = none := by
        rw [g4 _ fun z => (lo _ z).2 rfl]
        exact I1.hok.fresh l5
      have eacc : acc = (acc.map adr).map Value.ref := by
        rw [List.map_map]
        have e : acc.map (Value.ref ∘ adr) = acc.map id := List.map_congr_left fun v hv => by
          obtain ⟨_, t', _, _, _, _, e0, _⟩ := key v hv
          subst e0
          rfl
        rw [List.map_id] at e
        exact e.symm
      have vacc : Vals ((acc.map adr).map V.ref) acc := by
        have z := vals_refs (acc.map adr)
        rw [← eacc] at z
        exact z
      have hlen := ze.len
      have lx := rv.length
      have ly := rv2.length
      have I4 : Inv X pins σ (upd H2 h'.objs.size (.lst ((acc.map adr).map V.ref))) { s1 with heap := h2' } := I3.take (h' := h2') (t' := s1.toks) (fun b ob _ e => e) (I1.fpOk l5 hnp) ⟨by
        rw [List.length_map, List.length_map, hlen]
        simp only [List.size_toArray]
        omega, acc, c, vacc, hS⟩
      refine ⟨.ref h'.objs.size, _, I4, rfl, q (acc.map adr) H2 _ g2 hnp (by rw [List.length_map, hlen, lx, ly]; simp) fun j t ht => ?_⟩
      have hv : acc[j]? = some (.ref t) := by
        rw [eacc, List.getElem?_map, ht]
        rfl
      have hm : t ∈ acc.map adr := List.mem_of_getElem? ht
      obtain ⟨j', x, y, u1, u2, e0, e1, e2, e3, _⟩ := hG t (mem t hm)
      have ej := ze.nd j j' _ hv e1
      subst ej
      exact ⟨x, y, _, e2, e3, by rw [g3 t hm, e0], rfl, I1.hok.fresh (lo t hm).1⟩
end LZ

set_option Elab.async false
set_option linter.all false
set_option maxRecDepth 100000
set_option maxHeartbeats 4000000
/-! DLn: list(zip(xs, ys)). -/
namespace DL
open PySem PySem.Spec PyProof.Rows L2 GG DD PT
variable {K : PySem.W.Frag}
theorem DaAll.ofGet {H : Hp} : ∀ {vs : List V} {ds : List PyData}, vs.length = ds.length → (∀ (j : Nat) (v : V) (d : PyData), vs[j]? = some v → ds[j]? = some d → Da K H v d) → DaAll K H vs ds
  | [], [], _, _ => .nil
  | [], _ :: _, h, _ => by cases h
  | _ :: _, [], h, _ => by cases h
  | v :: vs, d :: ds, h, k => .cons (k 0 v d rfl rfl) (DaAll.ofGet (by simpa using h) fun j v' d' e e' => k (j + 1) v' d' (by simpa using e) (by simpa using e'))
theorem DaAll.at {H : Hp} : ∀ {vs : List V} {ds : List PyData} {j : Nat} {v : V} {d : PyData}, DaAll K H vs ds → vs[j]? = some v → ds[j]? = some d → Da K H v d
  | _, _, 0, _, _, .cons h _, e, e' => by
    cases e
    cases e'
    exact h
  | _, _, j + 1, _, _, .cons _ t, e, e' => DaAll.at (j := j) t (by simpa using e) (by simpa using e')
  | _, _, _, _, _, .nil, e, _ => by simp at e
def dListZip (d1 d2 : DE) : DA := fun s P => d1 s fun x s1 => d2 s1 fun y s2 => match x, y with
  | .list a, .list b => P (List.zipWith (fun p q => PyData.tuple [p, q]) a b) s2
  | _, _ => False
theorem rf_listZip {t1 t2 : TE} {d1 d2 : DE} (h1 : RE K t1 d1) (h2 : RE K t2 d2) : RF K (LZ.tListZip K (tCons t1 (tCons t2 tNil))) (dListZip d1 d2) := fun C hC s P hd σ H Q R q =>
  rd_cons (h1 C hC s _ hd σ H _ R fun v H1 d s1 hd1 R1 hv => rd_cons (h2 (C.keep v d) hC s1 _ hd1 σ H1 _ (R1.keep hv) fun w H2 e s2 hp R2 hw => rd_nil (by
    obtain ⟨R3, hv3⟩ := R2.kept
    subst hC
    split at hp
    · obtain ⟨a, vs, rfl, k1, k2⟩ := da_list hv3
      obtain ⟨b, us, rfl, k3, k4⟩ := da_list hw
      refine ⟨a, b, vs, us, rfl, sq k1, sq k3, fun ps H3 p sm np hl hps => ?_⟩
      refine q p (ps.map V.ref) H3 _ s2 hp (R3.ext sm) np (DaAll.ofGet (by simp [hl, k2.len, k4.len]) fun j v' d' e e' => ?_)
      rw [List.getElem?_map] at e
      obtain ⟨t, ht, e⟩ := Option.map_eq_some_iff.mp e
      subst e
      obtain ⟨x, y, o, e1, e2, e3, e4, e5⟩ := hps j t ht
      rw [List.getElem?_zipWith] at e'
      split at e'
      · rename_i da db f1 f2
        cases e'
        have g1 := (k2.of (hdS sm)).at e1 f1
        have g2 := (k4.of (hdS sm)).at e2 f2
        exact .tup (.inl ⟨o, by rw [hd_ne (R3.new e5).1]; exact e3, e4⟩) (.cons g1 (.cons g2 .nil))
      · cases e'
    · exact hp.elim)))
end DL

set_option Elab.async false
set_option linter.all false
set_option maxRecDepth 100000
set_option maxHeartbeats 4000000
/-! DLo: xs[i] of a list or a tuple. -/
namespace DL
open PySem PySem.Spec PyProof.Rows L2 GG DD PT
variable {K : PySem.W.Frag}
def oIxQ : D2 := fun d e P => match d, e with
  | .list a, .int i => ∃ x, atI a i = some x ∧ P x
  | .tuple a, .int i => ∃ x, atI a i = some x ∧ P x
  | _, _ => False
theorem ro_ixQ : RO K (rIx K) oIxQ := fun S H x y d e P Q T hx hy h q => by
  unfold oIxQ at h
  split at h
  · exact .inl (ro_ixL S H x y _ _ P Q T hx hy h q)
  · exact .inr (.inl (ro_ixU S H x y _ _ P Q T hx hy h q))
  · exact h.elim
end DL

set_option Elab.async false
set_option linter.all false
set_option maxRecDepth 100000
set_option maxHeartbeats 4000000
/-! DK0: a law's deck: what _law_deck and _law_draw promise, for any law. -/
namespace DL
open PySem PySem.Spec PyProof.Rows L2 GG DD PT
def intsD (cs : List Int) : List PyData := cs.map PyData.int
theorem dp_intsD {K : PySem.W.Frag} {H : Hp} : ∀ cs : List Int, DpAll K H (cs.map V.int) (intsD cs)
  | [] => .nil
  | c :: cs => .cons (.int c) (dp_intsD cs)
theorem shaped_ints : ∀ cs : List Int, SeqAt.shaped (PyData.list (intsD cs)) = true := by
  have h1 : ∀ cs : List Int, PyData.canLayAll0 (intsD cs) = true := by
    intro cs
    induction cs with
    | nil => simp only [intsD, List.map_nil, PyData.canLayAll0]
    | cons c cs ih =>
      have ih' : PyData.canLayAll0 (cs.map PyData.int) = true := ih
      simp only [intsD, List.map_cons, PyData.canLayAll0, PyData.canLay0, ih', Bool.and_self]
  have h2 : ∀ cs : List Int, PyData.depthAll (intsD cs) = 0 := by
    intro cs
    induction cs with
    | nil => simp only [intsD, List.map_nil, PyData.depthAll]
    | cons c cs ih =>
      have ih' : PyData.depthAll (cs.map PyData.int) = 0 := ih
      simp only [intsD, List.map_cons, PyData.depthAll, PyData.depth, ih', Nat.max_self]
  intro cs
  unfold SeqAt.shaped
  simp only [PyData.canLay0, PyData.depth, h1, h2, Bool.true_and]
  decide
theorem eqv_ints_nil : ∀ cs : List Int, PyData.eqv (.list (intsD cs)) (.list []) = cs.isEmpty
  | [] => by simp only [intsD, List.map_nil, PyData.eqv, PyData.eqvAll, List.isEmpty_nil]
  | c :: cs => by simp only [intsD, List.map_cons, PyData.eqv, PyData.eqvAll, List.isEmpty_cons]
def spDeckH (K : PySem.W.Frag) : Sp := fun vs H Q _ => ∃ (a : Addr) (ns : List Int), vs = [.ref a] ∧ SqL K H a (ns.map V.int) ∧ ns.length ≤ 63 ∧ ∀ H' p l, Same H H' → Deck H' p l 0 → H p = none → H l = none → Q (.ref p) H'
def spDrawH : Sp := fun vs H Q _ => ∃ (p l : Addr) (n : Nat) (lim : Int), vs = [.ref p, .int lim] ∧ Deck H p l n ∧ n < 1000000 ∧ 1 ≤ lim ∧ lim < 1000000 ∧ ∀ H' v, Deck H' p l (n + 1) → But p l H H' → 0 ≤ v → v < lim → Q (.int v) H'
/-- a draw: any int below the limit -/
def F_draw : FD := fun as n P => match as with
  | [.deck, .dat (.int L)] => n < 1000000 ∧ 1 ≤ L ∧ L < 1000000 ∧ ∀ v, 0 ≤ v → v < L → P (.int v) (n + 1)
  | _ => False
theorem draw_of {K : PySem.W.Frag} {vs : List V} {H : Hp} {Q : VK} (h : spOf K 2 F_draw vs H Q E0) : spDrawH vs H Q E0 := by
  obtain ⟨hl, W, S0, n, as, P, T, dk, hm, ha, hF, q⟩ := h
  unfold F_draw at hF
  split at hF
  · rename_i L
    cases ha with
    | cons h1 h2 =>
      obtain ⟨p, l, rfl, rfl⟩ := h1
      cases h2 with
      | cons h3 h4 =>
        cases h4
        cases h3
        refine ⟨p, l, n, L, rfl, dk, hF.1, hF.2.1, hF.2.2.1, fun H' v hD hB h0 h1 => ?_⟩
        exact q _ H' _ _ (hF.2.2.2 v h0 h1) hD (fun b o hb e => hB b o (fun z => hb (.inl z)) (fun z => hb (.inr z)) e) (.int v)
  · exact hF.elim
section
variable {P : Program} {w : World} {K : PySem.W.Frag} {mg : Str → Option Value} {base : Heap} {k : Nat} {f : Addr} {fd : FuncData} {ps : List Str} {sp sp' : Sp}
theorem weak (F : Fg P w K mg base k f fd ps sp) (hs : ∀ vs H Q, sp' vs H Q E0 → sp vs H Q E0) : Fg P w K mg base k f fd ps sp' :=
  ⟨fun vs H Q h => F.size vs H Q (hs vs H Q h), fun A o s H a us vs Q r e b v h => F.go A o s H a us vs Q r e b v (hs vs H Q h)⟩
end
end DL

set_option Elab.async false
set_option linter.all false
set_option maxRecDepth 100000
set_option maxHeartbeats 4000000
/-! LB: a law's body: its deck is made first, the rest is told by data. -/
namespace DL
open PySem PySem.Spec PyProof.Rows L2 GG DD PT
def spLaw (K : PySem.W.Frag) : Sp := fun vs H Q _ => ∃ (a : Addr) (ns : List Int), vs = [.ref a] ∧ SqL K H a (ns.map V.int) ∧ ns.length ≤ 63 ∧ ∀ H', Q (.bl true) H'
theorem un_at {j : Nat} : ∀ {i : Nat} {dv : DV}, (List.replicate j DV.un)[i]? = some dv → dv = .un ∧ i < j := fun {i dv} h => by
  have h1 := List.eq_of_mem_replicate (List.mem_of_getElem? h)
  have h2 := (List.getElem?_eq_some_iff.mp h).1
  rw [List.length_replicate] at h2
  exact ⟨h1, h2⟩
theorem rl_deck {K : PySem.W.Frag} {H : Hp} {p l a : Addr} (m : Nat) (hD : Deck H p l 0) :
    Rl ⟨K, some (p, l), fun _ => False, H, fun _ _ => False, fun _ _ => False⟩ (some (.ref a) :: some (.ref p) :: List.replicate m none) H ⟨.un :: .deck :: List.replicate m .un, 0⟩ := by
  have no : ∀ (i : Nat) (dv : DV), (DV.un :: DV.deck :: List.replicate m DV.un)[i]? = some dv → isOwn dv = true → False := fun i dv h ho => by
    match i, h with
    | 0, h => cases h; cases ho
    | 1, h => cases h; cases ho
    | i + 2, h =>
      have := (un_at (i := i) (by simpa using h)).1
      subst this
      cases ho
  refine ⟨by simp, fun i dv h => ?_, fun i j a dv ev h1 _ h3 => (no i dv h1 h3).elim, fun i a dv h1 h2 => (no i dv h1 h2).elim, hD, ButW.refl _ _, fun b hb => hb.elim, fun _ _ h => h.elim, fun _ _ h => h.elim⟩
  match i, h with
  | 0, h => cases h; exact ⟨_, rfl, trivial⟩
  | 1, h => cases h; exact ⟨_, rfl, p, l, rfl, rfl⟩
  | i + 2, h =>
    obtain ⟨rfl, hi⟩ := un_at (i := i) (by simpa using h)
    exact ⟨none, by simp [hi], trivial⟩
section
variable {P : Program} {w : World} {K : PySem.W.Frag} {mg : Str → Option Value} {base : Heap} {k : Nat} {f : Addr} {fd : FuncData}
theorem ok_law_of {x qual sc : Str} {st : Stmt} {N : List Str} (m : Nat) {d : DS} (F : L2.Fun K x qual st f fd) (S : FnScope N [sc] (defScope st)) (hN : N.length = m + 2)
    (hd : d { nx := fun _ => False, rt := fun v _ => v = .bool true } ⟨.un :: .deck :: List.replicate m .un, 0⟩)
    (body : ∀ (cdv : Value) (A : Around) (outer : List Env) (s : Shared) (H : Hp), Rm k (A.deeper (envOfC qual (defScope st) s.heap.objs.size f cdv)) →
      ∃ tr, PSs (cxOf CX0 P w K mg base N qual (defScope st) f cdv A outer s H E0).nox (defBody st) (tSeq (tAsg (tCall (spDeckH K) [] E0 (tCons (tVar 0) tNil)) (gName 1)) tr) ∧ RS K tr d) :
    Fg P w K mg base (k + 1) f fd [sc] (spLaw K) := by
  refine okg F S (fun vs H Q h => ?_) fun cdv A outer s H vs Q hr h => ?_
  · obtain ⟨a, ns, rfl, _⟩ := h
    rfl
  · obtain ⟨a, ns, rfl, hS, hl, q⟩ := h
    obtain ⟨tr, h1, h2⟩ := body cdv A outer s H hr
    refine ⟨_, h1, ?_⟩
    unfold L2.start
    rw [hN]
    refine rd_seq (rd_set (rd_call (rd_cons (rd_var (v := .ref a) rfl (rd_nil ⟨a, ns, rfl, hS, hl, fun H1 p l s1 hD np nl => ?_⟩)))))
    refine h2 ⟨K, some (p, l), fun _ => False, H1, fun _ _ => False, fun _ _ => False⟩ rfl _ _ hd (some (.ref a) :: some (.ref p) :: List.replicate m none) H1 _ (rl_deck m hD) ⟨fun _ _ _ z => z.elim, fun σ v H' d' s' hp R hv => ?_, fun _ _ _ z => z.elim, fun _ _ _ z => z.elim⟩
    subst hp
    cases hv
    exact q H'
end
end DL
namespace DL
open PySem PySem.Spec PyProof.Rows L2 GG DD PT
section
variable {P : Program} {w : World} {K : PySem.W.Frag} {mg : Str → Option Value} {base : Heap} {k : Nat} {f : Addr} {fd : FuncData} {ps : List Str}
/-- a def that may not be called any more -/
theorem fg_none (m : Nat) : Fg P w K mg base k f fd ps (spOf K m fun _ _ _ => False) :=
  ⟨fun vs H Q h => by
    obtain ⟨_, _, _, _, _, _, _, _, _, _, hF, _⟩ := h
    exact hF.elim, fun A o s H a us vs Q r e b v h => by
    obtain ⟨_, _, _, _, _, _, _, _, _, _, hF, _⟩ := h
    exact hF.elim⟩
/-- a def that calls itself: level by level -/
theorem fg_rec {m l : Nat} {F : Nat → FD} (h0 : F 0 = fun _ _ _ => False) (step : ∀ j, Fg P w K mg base (l + j) f fd ps (spOf K m (F j)) → Fg P w K mg base (l + j + 1) f fd ps (spOf K m (F (j + 1)))) : ∀ j, Fg P w K mg base (l + j) f fd ps (spOf K m (F j))
  | 0 => by
    rw [h0]
    exact fg_none m
  | j + 1 => step j (fg_rec h0 step j)
end
end DL
namespace DL
open PySem PySem.Spec PyProof.Rows L2 GG DD PT
theorem kb {K : PySem.W.Frag} {x qual : Str} {st : Stmt} {f : Addr} {fd : FuncData} {ps ks : List Str} {π : List Nat} (F : Fun K x qual st f fd)
    (h : ∀ (kV doc pm : Value) (an : Option Addr) (cdv ct : Value) (us : List Value), us.length = ks.length → bindArgs (PySem.W.fnOf x qual (defArgs st) (defBody st) (defScope st) .none kV doc pm an cdv ct) ⟨[], ks.zip us⟩ = pure (ps.zip (permL π us))) :
    ∀ (s : Shared) (ws : List Value), ws.length = ks.length → BindsTo s fd ⟨[], ks.zip ws⟩ (ps.zip (permL π ws)) := by
  obtain ⟨oc, od, kV, doc, pm, an, cdv, ct, osl, rfl, lk, hcd⟩ := F.ex
  exact fun s ws hl => .of_eq (h kV doc pm an cdv ct ws hl)
end DL

set_option Elab.async false
set_option linter.all false
set_option maxRecDepth 100000
set_option maxHeartbeats 4000000
/-! PL: the data functions stepped through, one layer each; loops and comprehensions by what is left; data whose repr can be taken. -/
namespace DL
open PySem PySem.Spec PyProof.Rows L2 GG DD PT
section
variable {P : PyData → DSt → Prop} {PA : List PyData → DSt → Prop} {PT' : Bool → DSt → Prop} {PX : List DV → DSt → Prop} {PO : PyData → Prop} {s : DSt} {E : DEnds} {i j m : Nat} {d e : PyData} {de df da db dc : DE} {dl dm : DA} {c c2 : DT} {a b : DS} {x : DX} {F : FD} {r r' : D2}
/-! ### statements -/
theorem w_seq (h : a { E with nx := b E } s) : dSeq a b E s := h
theorem w_next (h : E.nx s) : dNext E s := h
theorem w_set (h : de s fun d s1 => E.nx ⟨s1.sl.set i (.dat d), s1.n⟩) : dSet de i E s := h
theorem w_setO (h : dl s fun ds s1 => i < s1.sl.length ∧ E.nx ⟨s1.sl.set i (.own ds), s1.n⟩) : dSetO dl i E s := h
theorem w_if (h : c s fun b' s1 => if b' = true then a E s1 else b E s1) : dIf c a b E s := h
theorem w_ret (h : de s E.rt) : dRet de E s := h
theorem w_drop (h : de s fun _ s1 => E.nx s1) : dDrop de E s := h
theorem w_fzO {ds : List PyData} (e : s.sl[i]? = some (.own ds)) (h : b E ⟨s.sl.set i (.dat (.list ds)), s.n⟩) : dFreeze i b E s := by unfold dFreeze; rw [e]; exact h
theorem w_fzD {kvs : List (PyData × PyData)} (e : s.sl[i]? = some (.owd kvs)) (h : b E ⟨s.sl.set i (.dat (.dict kvs)), s.n⟩) : dFreeze i b E s := by unfold dFreeze; rw [e]; exact h
theorem w_fz (e : s.sl[i]? = some (.dat d)) (h : b E s) : dFreeze i b E s := by unfold dFreeze; rw [e]; exact h
theorem w_par (h : dl s fun ds s1 => match ds with
  | [d, e] => E.nx ⟨(s1.sl.set i (.dat d)).set j (.dat e), s1.n⟩
  | _ => False) : dPar i j dl E s := h
theorem w_parL (h : dl s fun ds s1 => de s1 fun d s2 => i < s2.sl.length ∧ E.nx ⟨(s2.sl.set i (.own ds)).set j (.dat d), s2.n⟩) : dParL i j dl de E s := h
theorem w_parR (h : de s fun d s1 => dl s1 fun ds s2 => i ≠ j ∧ j < s2.sl.length ∧ E.nx ⟨(s2.sl.set i (.dat d)).set j (.own ds), s2.n⟩) : dParR i j de dl E s := h
theorem w_parLL (h : dl s fun ds s1 => dm s1 fun es s2 => i < s2.sl.length ∧ j < s2.sl.length ∧ E.nx ⟨(s2.sl.set i (.own ds)).set j (.own es), s2.n⟩) : dParLL i j dl dm E s := h
theorem w_asg {g : DG} (h : de s fun d s1 => g d E.nx s1) : dAsg de g E s := h
def appK (i : Nat) (E : DEnds) (d : PyData) (s1 : DSt) : Prop := match s1.sl[i]? with
  | some (.own ds) => ds.length < 1000000 ∧ E.nx ⟨s1.sl.set i (.own (ds ++ [d])), s1.n⟩
  | _ => False
theorem w_app (h0 : isOwnL s.sl[i]?) (h : de s fun d s1 => appK i E d s1) : dApp i de E s := ⟨h0, h⟩
theorem w_appK {ds : List PyData} (e : s.sl[i]? = some (.own ds)) (h1 : ds.length < 1000000) (h : E.nx ⟨s.sl.set i (.own (ds ++ [d])), s.n⟩) : appK i E d s := by
  unfold appK
  rw [e]
  exact ⟨h1, h⟩
def popK (i : Nat) (P : PyData → DSt → Prop) (d : PyData) (s1 : DSt) : Prop := match s1.sl[i]?, d with
  | some (.own ds), .int k => -(2 ^ 63) ≤ k ∧ k < 2 ^ 63 ∧ ∃ j x, seqIndex? k ds.length = some j ∧ ds[j]? = some x ∧ P x ⟨s1.sl.set i (.own (ds.eraseIdx j)), s1.n⟩
  | _, _ => False
theorem w_popAt (h0 : isOwnL s.sl[i]?) (h : de s fun d s1 => popK i P d s1) : dPopAt i de s P := ⟨h0, h⟩
theorem w_popK {ds : List PyData} {k : Nat} (e : s.sl[i]? = some (.own ds)) (h1 : ds.length < 1000000) (hx : ds[k]? = some d) (h : P d ⟨s.sl.set i (.own (ds.eraseIdx k)), s.n⟩) : popK i P (.int (k : Nat)) s := by
  unfold popK
  rw [e]
  have hk : k < ds.length := (List.getElem?_eq_some_iff.mp hx).1
  have ei : ixN ds.length (k : Int) = some k := by
    unfold ixN
    rw [if_pos (by omega), if_pos (by omega)]
    simp
  exact ⟨by omega, by omega, k, d, (ixN_seq ei).1, hx, h⟩
theorem w_vsNil {neg : Bool} (h : dListVar i s fun ds s1 => PyData.hasDictAll ds = false ∧ SeqAt.shaped (.list ds) = true ∧ P (.bool (if neg then !ds.isEmpty else ds.isEmpty)) s1) : dVsNil neg i s P := h
def inK (neg : Bool) (i : Nat) (P : PyData → DSt → Prop) (kd : PyData) (s1 : DSt) : Prop := match kOf kd with
  | some k => dDictVar i s1 fun kvs s2 => P (.bool (if neg then !(dgetD kvs k).isSome else (dgetD kvs k).isSome)) s2
  | none => False
theorem w_dIn {neg : Bool} (h : de s fun kd s1 => inK neg i P kd s1) : dDIn neg de i s P := h
theorem w_inK {neg : Bool} {kvs : List (PyData × PyData)} {k : L2.Key} (ek : kOf d = some k) (e : s.sl[i]? = some (.dat (.dict kvs))) (h : P (.bool (if neg then !(dgetD kvs k).isSome else (dgetD kvs k).isSome)) s) : inK neg i P d s := by
  unfold inK
  rw [ek]
  show dDictVar i s _
  unfold dDictVar
  rw [e]
  exact h
theorem w_inKO {neg : Bool} {kvs : List (PyData × PyData)} {k : L2.Key} (ek : kOf d = some k) (e : s.sl[i]? = some (.owd kvs)) (h : P (.bool (if neg then !(dgetD kvs k).isSome else (dgetD kvs k).isSome)) s) : inK neg i P d s := by
  unfold inK
  rw [ek]
  show dDictVar i s _
  unfold dDictVar
  rw [e]
  exact h
def getK (i : Nat) (P : PyData → DSt → Prop) (kd : PyData) (s1 : DSt) : Prop := match kOf kd with
  | some k => dDictVar i s1 fun kvs s2 => ∃ d, dgetD kvs k = some d ∧ P d s2
  | none => False
theorem w_dGet (h0 : hasV s.sl[i]?) (h : de s fun kd s1 => getK i P kd s1) : dDGet i de s P := ⟨h0, h⟩
theorem w_getK {kvs : List (PyData × PyData)} {k : L2.Key} {x : PyData} (ek : kOf d = some k) (e : s.sl[i]? = some (.dat (.dict kvs))) (hx : dgetD kvs k = some x) (h : P x s) : getK i P d s := by
  unfold getK
  rw [ek]
  show dDictVar i s _
  unfold dDictVar
  rw [e]
  exact ⟨x, hx, h⟩
theorem w_getKO {kvs : List (PyData × PyData)} {k : L2.Key} {x : PyData} (ek : kOf d = some k) (e : s.sl[i]? = some (.owd kvs)) (hx : dgetD kvs k = some x) (h : P x s) : getK i P d s := by
  unfold getK
  rw [ek]
  show dDictVar i s _
  unfold dDictVar
  rw [e]
  exact ⟨x, hx, h⟩
def putK' (i : Nat) (E : DEnds) (d kd : PyData) (s2 : DSt) : Prop := match kOf kd, s2.sl[i]? with
  | some k, some (.owd kvs) => kvs.length < 1000000 ∧ E.nx ⟨s2.sl.set i (.owd (dputD kvs k d)), s2.n⟩
  | _, _ => False
theorem w_dPut (h : df s fun d s1 => isOwnD s1.sl[i]? ∧ de s1 fun kd s2 => putK' i E d kd s2) : dDPut i de df E s := h
theorem w_putK {kvs : List (PyData × PyData)} {k : L2.Key} {kd : PyData} (ek : kOf kd = some k) (e : s.sl[i]? = some (.owd kvs)) (hl : kvs.length < 1000000) (h : E.nx ⟨s.sl.set i (.owd (dputD kvs k d)), s.n⟩) : putK' i E d kd s := by
  unfold putK'
  rw [ek, e]
  exact ⟨hl, h⟩
/-! what a dict tells -/
theorem get_map (k k' : L2.Key) (d : PyData) : ∀ kvs : List (PyData × PyData), dgetD (kvs.map fun p => if kOf p.1 = some k then (p.1, d) else p) k' = if k = k' then (dgetD kvs k).map (fun _ => d) else dgetD kvs k'
  | [] => by
    show none = _
    split <;> rfl
  | p :: r => by
    have ih := get_map k k' d r
    rw [List.map_cons]
    by_cases e : kOf p.1 = some k
    · rw [if_pos e]
      show (if kOf p.1 = some k' then some d else dgetD _ k') = _
      by_cases e2 : k = k'
      · subst e2
        rw [if_pos e, if_pos rfl]
        show _ = (if kOf p.1 = some k then some p.2 else dgetD r k).map _
        rw [if_pos e]
        rfl
      · have e3 : ¬ kOf p.1 = some k' := fun z => e2 (Option.some.inj (e.symm.trans z))
        rw [if_neg e3, ih, if_neg e2, if_neg e2]
        show _ = (if kOf p.1 = some k' then some p.2 else dgetD r k')
        rw [if_neg e3]
    · rw [if_neg e]
      show (if kOf p.1 = some k' then some p.2 else dgetD _ k') = _
      rw [ih]
      by_cases e2 : k = k'
      · subst e2
        rw [if_neg e, if_pos rfl, if_pos rfl]
        show _ = (if kOf p.1 = some k then some p.2 else dgetD r k).map _
        rw [if_neg e]
      · rw [if_neg e2, if_neg e2]
        rfl
theorem get_append (k : L2.Key) (b : List (PyData × PyData)) : ∀ a : List (PyData × PyData), dgetD (a ++ b) k = (dgetD a k).or (dgetD b k)
  | [] => rfl
  | p :: r => by
    show (if kOf p.1 = some k then some p.2 else dgetD (r ++ b) k) = (if kOf p.1 = some k then some p.2 else dgetD r k).or _
    by_cases e : kOf p.1 = some k
    · rw [if_pos e, if_pos e]
      rfl
    · rw [if_neg e, if_neg e]
      exact get_append k b r
theorem get_put (kvs : List (PyData × PyData)) (k k' : L2.Key) (d : PyData) : dgetD (dputD kvs k d) k' = if k = k' then some d else dgetD kvs k' := by
  unfold dputD
  by_cases h : (dgetD kvs k).isSome = true
  · rw [if_pos h, get_map]
    by_cases e : k = k'
    · rw [if_pos e, if_pos e]
      obtain ⟨x, hx⟩ := Option.isSome_iff_exists.mp h
      rw [hx]
      rfl
    · rw [if_neg e, if_neg e]
  · rw [if_neg h, get_append]
    have hn : dgetD kvs k = none := by
      cases e : dgetD kvs k with
      | none => rfl
      | some x => rw [e] at h; exact absurd rfl h
    show (dgetD kvs k').or (if kOf (keyD k) = some k' then some d else none) = _
    rw [kOf_keyD]
    by_cases e : k = k'
    · subst e
      rw [hn, if_pos rfl, if_pos rfl]
      rfl
    · rw [if_neg (fun z => e (Option.some.inj z)), if_neg e]
      cases dgetD kvs k' <;> rfl
theorem put_len (kvs : List (PyData × PyData)) (k : L2.Key) (d : PyData) : (dputD kvs k d).length ≤ kvs.length + 1 := by
  unfold dputD
  split
  · rw [List.length_map]
    omega
  · rw [List.length_append]
    exact Nat.le_refl _
/-- the last value of a key -/
def lastD (k : L2.Key) : List (L2.Key × PyData) → Option PyData → Option PyData
  | [], o => o
  | p :: r, o => lastD k r (if p.1 = k then some p.2 else o)
theorem get_merge (k : L2.Key) : ∀ (more : List (L2.Key × PyData)) (kvs : List (PyData × PyData)), dgetD (mergeD kvs more) k = lastD k more (dgetD kvs k)
  | [], _ => rfl
  | p :: r, kvs => by
    show dgetD (mergeD (dputD kvs p.1 p.2) r) k = lastD k r (if p.1 = k then some p.2 else dgetD kvs k)
    rw [get_merge k r, get_put]
theorem merge_len : ∀ (more : List (L2.Key × PyData)) (kvs : List (PyData × PyData)), (mergeD kvs more).length ≤ kvs.length + more.length
  | [], _ => Nat.le_refl _
  | p :: r, kvs => by
    have h1 := merge_len r (dputD kvs p.1 p.2)
    have h2 := put_len kvs p.1 p.2
    show (mergeD (dputD kvs p.1 p.2) r).length ≤ _
    rw [List.length_cons]
    omega
theorem w_for {g : DG} (h : dl s fun items s1 => dLoop g b E items s1) : dFor dl g b E s := h
/-! ### targets -/
theorem w_gdN {N : DSt → Prop} (h : N ⟨s.sl.set i (.dat d), s.n⟩) : gdN i d N s := h
theorem w_gdTup {n : Nat} {g : DGs} {ds : List PyData} {N : DSt → Prop} (hl : ds.length = n) (h : g ds N s) : gdTup n g (.tuple ds) N s := ⟨hl, h⟩
theorem w_gdNil {N : DSt → Prop} (h : N s) : gdNil [] N s := ⟨rfl, h⟩
theorem w_gdCons {g : DG} {gs : DGs} {ds : List PyData} {N : DSt → Prop} (h : g d (fun s1 => gs ds N s1) s) : gdCons g gs (d :: ds) N s := h
/-! ### expressions -/
theorem w_c (h : P d s) : dC d s P := h
theorem w_var (e : s.sl[i]? = some (.dat d)) (h : P d s) : dVar i s P := by unfold dVar; rw [e]; exact h
theorem w_listO {ds : List PyData} (e : s.sl[i]? = some (.own ds)) (h : PA ds s) : dListVar i s PA := by unfold dListVar; rw [e]; exact h
theorem w_listD {ds : List PyData} (e : s.sl[i]? = some (.dat (.list ds))) (h : PA ds s) : dListVar i s PA := by unfold dListVar; rw [e]; exact h
theorem w_asL (h : de s fun d s1 => match d with
  | .list ds => PA ds s1
  | _ => False) : dAsL de s PA := h
theorem w_asU (h : de s fun d s1 => match d with
  | .tuple ds => PA ds s1
  | _ => False) : dAsU de s PA := h
theorem w_newL (h : dl s fun ds s1 => P (.list ds) s1) : dNewL dl s P := h
theorem w_nil (h : PA [] s) : dNil s PA := h
theorem w_cons (h : de s fun d s1 => dl s1 fun ds s2 => PA (d :: ds) s2) : dCons de dl s PA := h
theorem w_tup (h : dl s fun ds s1 => ds.length ≤ 1000000 ∧ P (.tuple ds) s1) : dTup dl s P := h
theorem w_lst (h : dl s fun ds s1 => ds.length ≤ 1000000 ∧ PA ds s1) : dLst dl s PA := h
theorem w_op (h : da s fun d s1 => db s1 fun e s2 => r d e fun f => P f s2) : dOp r da db s P := h
theorem w_lenL (h : dl s fun ds s1 => P (.int ds.length) s1) : dLenL dl s P := h
theorem w_lenD (h : de s fun d s1 => match d with
  | .list ds => P (.int ds.length) s1
  | .tuple ds => P (.int ds.length) s1
  | _ => False) : dLenD de s P := h
theorem w_tupOf (h : dl s fun ds s1 => P (.tuple ds) s1) : dTupOf dl s P := h
theorem w_ifE (h : c s fun b s1 => if b = true then da s1 P else db s1 P) : dIfE c da db s P := h
theorem w_cat (h : da s fun d s1 => db s1 fun e s2 => match d, e with
  | .list a, .list b => a.length + b.length ≤ 1000000 ∧ PA (a ++ b) s2
  | _, _ => False) : dCat da db s PA := h
theorem w_rep (h : da s fun d s1 => db s1 fun e s2 => match d, e with
  | .list a, .int k => -(2 ^ 63) ≤ k ∧ k < 2 ^ 63 ∧ a.length * k.toNat ≤ 1000000 ∧ PA (List.replicate k.toNat a).flatten s2
  | _, _ => False) : dRep da db s PA := h
theorem w_call (h : x s fun as s1 => as.length = m ∧ F as s1.n fun d n' => P d ⟨s1.sl, n'⟩) : dCall m F x s P := h
theorem w_callP {π : List Nat} {n : Nat} (h : x s fun as s1 => as.length = n ∧ (permL π as).length = m ∧ F (permL π as) s1.n fun d n' => P d ⟨s1.sl, n'⟩) : dCallP m F π n x s P := h
theorem w_xNil (h : PX [] s) : xNil s PX := h
theorem w_xCons (h : de s fun d s1 => x s1 fun ds s2 => PX (.dat d :: ds) s2) : xCons de x s PX := h
theorem w_xDeck (e : s.sl[i]? = some .deck) (h : x s fun ds s2 => PX (.deck :: ds) s2) : xDeck i x s PX := by unfold xDeck; rw [e]; exact h
theorem w_ixVarD (e : s.sl[i]? = some (.dat d)) (h : db s fun e s1 => match e with
  | .int k => dListVar i s1 fun a s2 => ∃ x, atI a k = some x ∧ P x s2
  | _ => False) : dIxVar i db s P := ⟨by rw [e]; trivial, h⟩
theorem w_ixVarO {ds : List PyData} (e : s.sl[i]? = some (.own ds)) (h : db s fun e s1 => match e with
  | .int k => dListVar i s1 fun a s2 => ∃ x, atI a k = some x ∧ P x s2
  | _ => False) : dIxVar i db s P := ⟨by rw [e]; trivial, h⟩
theorem w_all (h : dl s fun ds s1 => ∃ bs, boolsD ds = some bs ∧ P (.bool (bs.all id)) s1) : dAll dl s P := h
theorem w_reprA (h : de s fun d s1 => Shows d ∧ P (.str d.shown) s1) : dReprA de s P := h
theorem w_isi {n : String} (h : de s fun d s1 => ∃ b, isaB (tyD d) n = some b ∧ P (.bool b) s1) : dIsi n de s P := h
theorem w_andV (h : da s fun d s1 => match d with
  | .bool c => if c = true then db s1 P else P (.bool false) s1
  | _ => False) : dAndV da db s P := h
theorem w_newD {dk : DK} (h : dk s fun kvs s1 => P (.dict kvs) s1) : dNewD dk s P := h
theorem w_dict0 {PK : List (PyData × PyData) → DSt → Prop} (h : PK [] s) : dDict0 s PK := h
theorem w_rng1 (h : de s fun d s1 => match d with
  | .int j => -(2 ^ 62) ≤ j ∧ j < 2 ^ 62 ∧ PA (rngD 0 j.toNat) s1
  | _ => False) : dRng1 de s PA := h
theorem w_comp {g : DG} {t : DT} {vs : List Nat} (h : dl s fun items s1 => items.length ≤ 1000 ∧ noOwnB s1.sl vs = true ∧ dLc g t de (wipeD s1.sl vs) items [] s1.n fun acc n => PA acc ⟨s1.sl, n⟩) : dComp dl g t de vs s PA := h
theorem w_enum (h : de s fun d s1 => match d with
  | .list ds => PA (enumD ds) s1
  | _ => False) : dEnum de s PA := h
/-! ### tests -/
theorem w_B (h : de s fun d s1 => match d with
  | .bool c => PT' c s1
  | _ => False) : dB de s PT' := h
theorem w_and (h : c s fun b s1 => if b = true then c2 s1 PT' else PT' false s1) : dAnd c c2 s PT' := h
theorem w_or (h : c s fun b s1 => if b = true then PT' true s1 else c2 s1 PT') : dOr c c2 s PT' := h
theorem w_not (h : c s fun b s1 => PT' (!b) s1) : dNot c s PT' := h
theorem w_yes (h : PT' true s) : dYes s PT' := h
theorem w_T {c : Bool} {x y : Prop} (e : c = true) (h : x) : if c = true then x else y := by rw [if_pos e]; exact h
theorem w_F {c : Bool} {x y : Prop} (e : c = false) (h : y) : if c = true then x else y := by rw [if_neg (by rw [e]; decide)]; exact h
theorem w_ite {c : Bool} {x y : Prop} (h1 : c = true → x) (h2 : c = false → y) : if c = true then x else y := by
  cases c with
  | true => exact w_T rfl (h1 rfl)
  | false => exact w_F rfl (h2 rfl)
/-! ### operations -/
theorem w_I0 {g : Int → Int → Int} {p q : Int} (h : PO (.int (g p q))) : oI0 g (.int p) (.int q) PO := h
theorem w_B0 {g : Int → Int → Bool} {p q : Int} (h : PO (.bool (g p q))) : oB0 g (.int p) (.int q) PO := h
theorem w_eqI {p q : Int} (h : PO (.bool (decide (p = q)))) : oEq false (.int p) (.int q) PO := by
  refine ⟨rfl, ?_⟩
  have e : decide (V.int p = V.int q) = decide (p = q) := decide_eq_decide.mpr ⟨fun z => V.int.inj z, fun z => by rw [z]⟩
  show PO (.bool (decide (V.int p = V.int q)))
  rw [e]
  exact h
theorem w_neI {p q : Int} (h : PO (.bool (!decide (p = q)))) : oEq true (.int p) (.int q) PO := by
  refine ⟨rfl, ?_⟩
  have e : decide (V.int p = V.int q) = decide (p = q) := decide_eq_decide.mpr ⟨fun z => V.int.inj z, fun z => by rw [z]⟩
  show PO (.bool (!decide (V.int p = V.int q)))
  rw [e]
  exact h
theorem w_eqS {p q : Str} (h : PO (.bool (decide (p = q)))) : oEq false (.str p) (.str q) PO := by
  refine ⟨rfl, ?_⟩
  have e : decide (V.str p = V.str q) = decide (p = q) := decide_eq_decide.mpr ⟨fun z => V.str.inj z, fun z => by rw [z]⟩
  show PO (.bool (decide (V.str p = V.str q)))
  rw [e]
  exact h
theorem w_neS {p q : Str} (h : PO (.bool (!decide (p = q)))) : oEq true (.str p) (.str q) PO := by
  refine ⟨rfl, ?_⟩
  have e : decide (V.str p = V.str q) = decide (p = q) := decide_eq_decide.mpr ⟨fun z => V.str.inj z, fun z => by rw [z]⟩
  show PO (.bool (!decide (V.str p = V.str q)))
  rw [e]
  exact h
theorem w_ixU {ds : List PyData} {k : Int} (e : atI ds k = some d) (h : PO d) : oIxU (.tuple ds) (.int k) PO := ⟨d, e, h⟩
theorem w_ixL {ds : List PyData} {k : Int} (e : atI ds k = some d) (h : PO d) : oIxL (.list ds) (.int k) PO := ⟨d, e, h⟩
theorem w_catU {ds es : List PyData} (e : ds.length + es.length ≤ 1000000) (h : PO (.tuple (ds ++ es))) : oCatU (.tuple ds) (.tuple es) PO := ⟨e, h⟩
theorem w_eqMt {ds : List PyData} (h : PO (.bool ds.isEmpty)) : oEqMt (.tuple ds) (.tuple []) PO := h
theorem w_eqMtL {ds : List PyData} (h : PO (.bool ds.isEmpty)) : oEqMtL (.list ds) (.list []) PO := h
theorem w_isN (h : PO (.bool (isNoneD d))) : oIsN false d .none PO := h
theorem w_notN (h : PO (.bool (!isNoneD d))) : oIsN true d .none PO := h
theorem rep_one (x : PyData) (k : Nat) : (List.replicate k [x]).flatten = List.replicate k x := by
  induction k with
  | zero => rfl
  | succ k ih => rw [List.replicate_succ, List.flatten_cons, ih, List.replicate_succ]; rfl
theorem w_rep1 {k : Nat} (hk : k ≤ 1000) (h : PO (.tuple (List.replicate k d))) : oRepU (.tuple [d]) (.int (k : Nat)) PO := by
  refine ⟨by omega, by omega, by simp, ?_⟩
  rw [Int.toNat_natCast, rep_one]
  exact h
end
theorem not_dec_f {p : Prop} [Decidable p] (h : (!decide p) = false) : p := by
  by_cases hp : p
  · exact hp
  · rw [decide_eq_false hp] at h
    cases h
theorem not_dec_t {p : Prop} [Decidable p] (h : (!decide p) = true) : ¬ p := fun hp => by
  rw [decide_eq_true hp] at h
  cases h
theorem not_f {b : Bool} (h : (!b) = false) : b = true := by
  cases b with
  | true => rfl
  | false => cases h
theorem not_t {b : Bool} (h : (!b) = true) : b = false := by
  cases b with
  | true => cases h
  | false => rfl
/-! ### loops by what is left -/
theorem loop_rem {g : DG} {b : DS} {E : DEnds} (J : List PyData → DSt → Prop)
    (step : ∀ d ds s, J (d :: ds) s → ∀ N : DSt → Prop, (∀ s2, J ds s2 → N s2) → g d (fun s1 => b { nx := N, rt := E.rt, ct := N, bk := E.nx } s1) s)
    (fin : ∀ s, J [] s → E.nx s) : ∀ (items : List PyData) (s : DSt), J items s → dLoop g b E items s
  | [], s, h => fin s h
  | d :: ds, s, h => step d ds s h _ fun s2 h2 => loop_rem J step fin ds s2 h2
theorem lc_rem {g : DG} {t : DT} {e : DE} {base : List DV} {P : List PyData → Nat → Prop} (J : List PyData → List PyData → Nat → Prop)
    (step : ∀ d ds acc n, J (d :: ds) acc n → ∀ (Y : PyData → Nat → Prop) (Z : Nat → Prop), (∀ y n', J ds (acc ++ [y]) n' → Y y n') → (∀ n', J ds acc n' → Z n') →
      g d (fun s1 => t s1 fun b s2 => if b = true then e s2 fun y s3 => s3.sl = s1.sl ∧ Y y s3.n else s2.sl = s1.sl ∧ Z s2.n) ⟨base, n⟩)
    (fin : ∀ acc n, J [] acc n → P acc n) : ∀ (items acc : List PyData) (n : Nat), J items acc n → dLc g t e base items acc n P
  | [], acc, n, h => fin acc n h
  | d :: ds, acc, n, h => step d ds acc n h (fun y n' => dLc g t e base ds (acc ++ [y]) n' P) (fun n' => dLc g t e base ds acc n' P)
      (fun y n' h2 => lc_rem J step fin ds _ n' h2) (fun n' h2 => lc_rem J step fin ds _ n' h2)
/-- each item gives its image; no draw -/
theorem lc_map {g : DG} {t : DT} {e : DE} {base : List DV} {P : List PyData → Nat → Prop} {n : Nat} {items : List PyData} (f : PyData → PyData)
    (step : ∀ d, d ∈ items → ∀ (Y : PyData → Nat → Prop) (Z : Nat → Prop), Y (f d) n →
      g d (fun s1 => t s1 fun b s2 => if b = true then e s2 fun y s3 => s3.sl = s1.sl ∧ Y y s3.n else s2.sl = s1.sl ∧ Z s2.n) ⟨base, n⟩)
    (fin : P (items.map f) n) : dLc g t e base items [] n P := by
  refine lc_rem (fun ds acc m => (∀ d, d ∈ ds → d ∈ items) ∧ acc ++ ds.map f = items.map f ∧ m = n) (fun d ds acc m h Y Z hY hZ => ?_) (fun acc m h => ?_) items [] n ⟨fun _ h => h, rfl, rfl⟩
  · obtain ⟨h1, h2, rfl⟩ := h
    refine step d (h1 d List.mem_cons_self) Y Z (hY _ _ ⟨fun x hx => h1 x (List.mem_cons_of_mem _ hx), ?_, rfl⟩)
    rw [← h2, List.map_cons, List.append_assoc]
    rfl
  · obtain ⟨_, h2, rfl⟩ := h
    rw [List.map_nil, List.append_nil] at h2
    rw [h2]
    exact fin
/-- the items that pass; no draw -/
theorem lc_filter {g : DG} {t : DT} {e : DE} {base : List DV} {P : List PyData → Nat → Prop} {n : Nat} {items : List PyData} (p : PyData → Bool)
    (step : ∀ d, d ∈ items → ∀ (Y : PyData → Nat → Prop) (Z : Nat → Prop), (p d = true → Y d n) → (p d = false → Z n) →
      g d (fun s1 => t s1 fun b s2 => if b = true then e s2 fun y s3 => s3.sl = s1.sl ∧ Y y s3.n else s2.sl = s1.sl ∧ Z s2.n) ⟨base, n⟩)
    (fin : P (items.filter p) n) : dLc g t e base items [] n P := by
  refine lc_rem (fun ds acc m => (∀ d, d ∈ ds → d ∈ items) ∧ acc ++ ds.filter p = items.filter p ∧ m = n) (fun d ds acc m h Y Z hY hZ => ?_) (fun acc m h => ?_) items [] n ⟨fun _ h => h, rfl, rfl⟩
  · obtain ⟨h1, h2, rfl⟩ := h
    refine step d (h1 d List.mem_cons_self) Y Z (fun hp => hY _ _ ⟨fun x hx => h1 x (List.mem_cons_of_mem _ hx), ?_, rfl⟩) (fun hp => hZ _ ⟨fun x hx => h1 x (List.mem_cons_of_mem _ hx), ?_, rfl⟩)
    · rw [← h2, List.filter_cons_of_pos hp, List.append_assoc]
      rfl
    · rw [← h2, List.filter_cons_of_neg (by rw [hp]; decide)]
  · obtain ⟨_, h2, rfl⟩ := h
    rw [List.filter_nil, List.append_nil] at h2
    rw [h2]
    exact fin
/-- each item gives something that keeps R, with at most k draws each -/
theorem lc_all {g : DG} {t : DT} {e : DE} {base : List DV} {P : List PyData → Nat → Prop} {n : Nat} {items : List PyData} (R : PyData → Prop) (k : Nat)
    (step : ∀ d, d ∈ items → ∀ m, n ≤ m → m + k ≤ n + k * items.length → ∀ (Y : PyData → Nat → Prop) (Z : Nat → Prop), (∀ y m', R y → m ≤ m' → m' ≤ m + k → Y y m') →
      g d (fun s1 => t s1 fun b s2 => if b = true then e s2 fun y s3 => s3.sl = s1.sl ∧ Y y s3.n else s2.sl = s1.sl ∧ Z s2.n) ⟨base, m⟩)
    (fin : ∀ ys m, ys.length = items.length → (∀ y, y ∈ ys → R y) → n ≤ m → m ≤ n + k * items.length → P ys m) : dLc g t e base items [] n P := by
  refine lc_rem (fun ds acc m => (∀ d, d ∈ ds → d ∈ items) ∧ acc.length + ds.length = items.length ∧ (∀ y, y ∈ acc → R y) ∧ n ≤ m ∧ m + k * ds.length ≤ n + k * items.length) (fun d ds acc m h Y Z hY hZ => ?_) (fun acc m h => ?_) items [] n ⟨fun _ h => h, by simp, (fun y h => by cases h), Nat.le_refl _, Nat.le_refl _⟩
  · obtain ⟨h1, h2, h3, h4, h5⟩ := h
    rw [List.length_cons, Nat.mul_add, Nat.mul_one] at h5
    rw [List.length_cons] at h2
    refine step d (h1 d List.mem_cons_self) m h4 (by omega) Y Z fun y m' hR a1 a2 => hY _ _ ⟨fun x hx => h1 x (List.mem_cons_of_mem _ hx), ?_, fun z hz => ?_, by omega, by omega⟩
    · rw [List.length_append, List.length_singleton]
      omega
    · rcases List.mem_append.mp hz with hz | hz
      · exact h3 z hz
      · rw [List.mem_singleton.mp hz]
        exact hR
  · obtain ⟨_, h2, h3, h4, h5⟩ := h
    exact fin acc m (by simpa using h2) h3 h4 (by simpa using h5)
theorem w_slD {P : List PyData → DSt → Prop} {s : DSt} {de : DE} {d1 d2 : DO} (h : de s fun d s1 => d1 s1 fun lo s2 => d2 s2 fun hi s3 => match d with
  | .list ds => P (cutD ds lo hi) s3
  | _ => False) : dSlD de d1 d2 s P := h
theorem w_slU {P : PyData → DSt → Prop} {s : DSt} {de : DE} {d1 d2 : DO} (h : de s fun d s1 => d1 s1 fun lo s2 => d2 s2 fun hi s3 => match d with
  | .tuple ds => P (.tuple (cutD ds lo hi)) s3
  | _ => False) : dSlU de d1 d2 s P := h
theorem w_noP {P : Option Int → DSt → Prop} {s : DSt} (h : P none s) : dNoP s P := h
theorem w_part {P : Option Int → DSt → Prop} {s : DSt} {de : DE} (h : de s fun d s1 => match d with
  | .int i => P (some i) s1
  | _ => False) : dPart de s P := h
theorem w_listZip {P : List PyData → DSt → Prop} {s : DSt} {d1 d2 : DE} (h : d1 s fun x s1 => d2 s1 fun y s2 => match x, y with
  | .list a, .list b => P (List.zipWith (fun p q => PyData.tuple [p, q]) a b) s2
  | _, _ => False) : dListZip d1 d2 s P := h
theorem w_sortSI {P : List PyData → DSt → Prop} {s : DSt} {dl : DA} (h : dl s fun ds s1 => ds.all isSI = true ∧ ∀ es : List PyData, es.Perm ds → P es s1) : dSortSI dl s P := h
theorem w_listRng {P : List PyData → DSt → Prop} {s : DSt} {de : DE} (h : de s fun d s1 => match d with
  | .int j => 0 ≤ j ∧ j ≤ 1000 ∧ P (upToD j.toNat) s1
  | _ => False) : dListRng de s P := h
theorem w_setD {E : DEnds} {s : DSt} {i : Nat} {dl : DK} (h : dl s fun kvs s1 => i < s1.sl.length ∧ E.nx ⟨s1.sl.set i (.owd kvs), s1.n⟩) : dSetD dl i E s := h
theorem w_dictL {P : List (PyData × PyData) → DSt → Prop} {s : DSt} {dl : DA} (h : dl s fun ds s1 => ∃ prs, pairsD ds = some prs ∧ P (mergeD [] prs) s1) : dDictL dl s P := h
theorem w_dictU {P : List (PyData × PyData) → DSt → Prop} {s : DSt} {de : DE} (h : de s fun d s1 => match d with
  | .tuple ds => ∃ prs, pairsD ds = some prs ∧ P (mergeD [] prs) s1
  | _ => False) : dDictU de s P := h
theorem w_disp {P : List (PyData × PyData) → DSt → Prop} {s : DSt} {dp : DK} (h : dp s fun ds s1 => ds.length ≤ 15 ∧ ∃ ks, keysD ds = some ks ∧ P (mergeD [] ks) s1) : dDisp dp s P := h
theorem w_psNil {P : List (PyData × PyData) → DSt → Prop} {s : DSt} (h : P [] s) : dPsNil s P := h
theorem w_psCons {P : List (PyData × PyData) → DSt → Prop} {s : DSt} {dk dv : DE} {dp : DK} (h : dk s fun x s1 => dv s1 fun y s2 => dp s2 fun ds s3 => P ((x, y) :: ds) s3) : dPsCons dk dv dp s P := h
theorem cut_to {xs : List PyData} (k : Nat) : cutD xs none (some (k : Int)) = xs.take k := by
  unfold cutD
  rw [HT.sIx_nat, HT.sIx_none, List.drop_zero, Nat.sub_zero]
  rcases Nat.le_total k xs.length with h | h
  · rw [Nat.min_eq_left h]
  · rw [Nat.min_eq_right h, List.take_of_length_le (Nat.le_refl _), List.take_of_length_le h]
theorem cut_from {xs : List PyData} (k : Nat) : cutD xs (some (k : Int)) none = xs.drop k := by
  unfold cutD
  rw [HT.sIx_nat, HT.sIx_none]
  rcases Nat.le_total k xs.length with h | h
  · rw [Nat.min_eq_left h]
    exact List.take_of_length_le (by rw [List.length_drop]; omega)
  · rw [Nat.min_eq_right h, List.drop_eq_nil_of_le h, List.drop_length, List.take_nil]
/-- some items give something; no draw -/
theorem lc_fm {g : DG} {t : DT} {e : DE} {base : List DV} {P : List PyData → Nat → Prop} {n : Nat} {items : List PyData} (f : PyData → Option PyData)
    (step : ∀ d, d ∈ items → ∀ (Y : PyData → Nat → Prop) (Z : Nat → Prop), (∀ y, f d = some y → Y y n) → (f d = none → Z n) →
      g d (fun s1 => t s1 fun b s2 => if b = true then e s2 fun y s3 => s3.sl = s1.sl ∧ Y y s3.n else s2.sl = s1.sl ∧ Z s2.n) ⟨base, n⟩)
    (fin : P (items.filterMap f) n) : dLc g t e base items [] n P := by
  refine lc_rem (fun ds acc m => (∀ d, d ∈ ds → d ∈ items) ∧ acc ++ ds.filterMap f = items.filterMap f ∧ m = n) (fun d ds acc m h Y Z hY hZ => ?_) (fun acc m h => ?_) items [] n ⟨fun _ h => h, rfl, rfl⟩
  · obtain ⟨h1, h2, rfl⟩ := h
    refine step d (h1 d List.mem_cons_self) Y Z (fun y hp => hY _ _ ⟨fun x hx => h1 x (List.mem_cons_of_mem _ hx), ?_, rfl⟩) (fun hp => hZ _ ⟨fun x hx => h1 x (List.mem_cons_of_mem _ hx), ?_, rfl⟩)
    · rw [← h2, List.filterMap_cons_some hp, List.append_assoc]
      rfl
    · rw [← h2, List.filterMap_cons_none hp]
  · obtain ⟨_, h2, rfl⟩ := h
    rw [List.filterMap_nil, List.append_nil] at h2
    rw [h2]
    exact fin
/-- some items give something that keeps R, with at most k draws each -/
theorem lc_some {g : DG} {t : DT} {e : DE} {base : List DV} {P : List PyData → Nat → Prop} {n : Nat} {items : List PyData} (R : PyData → Prop) (k : Nat)
    (step : ∀ d, d ∈ items → ∀ m, n ≤ m → m + k ≤ n + k * items.length → ∀ (Y : PyData → Nat → Prop) (Z : Nat → Prop), (∀ y m', R y → m ≤ m' → m' ≤ m + k → Y y m') → (∀ m', m ≤ m' → m' ≤ m + k → Z m') →
      g d (fun s1 => t s1 fun b s2 => if b = true then e s2 fun y s3 => s3.sl = s1.sl ∧ Y y s3.n else s2.sl = s1.sl ∧ Z s2.n) ⟨base, m⟩)
    (fin : ∀ ys m, ys.length ≤ items.length → (∀ y, y ∈ ys → R y) → n ≤ m → m ≤ n + k * items.length → P ys m) : dLc g t e base items [] n P := by
  refine lc_rem (fun ds acc m => (∀ d, d ∈ ds → d ∈ items) ∧ acc.length + ds.length ≤ items.length ∧ (∀ y, y ∈ acc → R y) ∧ n ≤ m ∧ m + k * ds.length ≤ n + k * items.length) (fun d ds acc m h Y Z hY hZ => ?_) (fun acc m h => ?_) items [] n ⟨fun _ h => h, by simp, (fun y h => by cases h), Nat.le_refl _, Nat.le_refl _⟩
  · obtain ⟨h1, h2, h3, h4, h5⟩ := h
    rw [List.length_cons, Nat.mul_add, Nat.mul_one] at h5
    rw [List.length_cons] at h2
    refine step d (h1 d List.mem_cons_self) m h4 (by omega) Y Z (fun y m' hR a1 a2 => hY _ _ ⟨fun x hx => h1 x (List.mem_cons_of_mem _ hx), ?_, fun z hz => ?_, by omega, by omega⟩) fun m' a1 a2 => hZ _ ⟨fun x hx => h1 x (List.mem_cons_of_mem _ hx), by omega, h3, by omega, by omega⟩
    · rw [List.length_append, List.length_singleton]
      omega
    · rcases List.mem_append.mp hz with hz | hz
      · exact h3 z hz
      · rw [List.mem_singleton.mp hz]
        exact hR
  · obtain ⟨_, h2, h3, h4, h5⟩ := h
    exact fin acc m (by simpa using h2) h3 h4 (by simpa using h5)
/-! ### ints -/
abbrev natsD (l : List Nat) : List PyData := l.map fun f => .int (f : Nat)
theorem nats_ints (l : List Nat) : natsD l = intsD (l.map fun f : Nat => (f : Int)) := by
  unfold natsD intsD
  rw [List.map_map]
  rfl
theorem noDict_nats : ∀ l : List Nat, PyData.hasDictAll (natsD l) = false
  | [] => by simp only [natsD, List.map_nil, PyData.hasDictAll]
  | x :: l => by
    have ih : PyData.hasDictAll (l.map fun f => PyData.int (f : Nat)) = false := noDict_nats l
    simp only [natsD, List.map_cons, PyData.hasDictAll, PyData.hasDict, ih, Bool.or_self]
theorem shaped_nats (l : List Nat) : SeqAt.shaped (.list (natsD l)) = true := by
  rw [nats_ints]
  exact shaped_ints _
theorem nats_of : ∀ {ys : List PyData} {L : Nat}, (∀ y, y ∈ ys → ∃ v : Nat, v < L ∧ y = .int (v : Nat)) → ∃ fs : List Nat, ys = natsD fs ∧ fs.length = ys.length ∧ ∀ f, f ∈ fs → f < L
  | [], _, _ => ⟨[], rfl, rfl, fun f hf => absurd hf List.not_mem_nil⟩
  | y :: ys, L, h => by
    obtain ⟨v, hv, rfl⟩ := h y List.mem_cons_self
    obtain ⟨fs, rfl, h2, h3⟩ := nats_of (fun z hz => h z (List.mem_cons_of_mem _ hz))
    refine ⟨v :: fs, rfl, by simp, fun f hf => ?_⟩
    rcases List.mem_cons.mp hf with rfl | hf
    · exact hv
    · exact h3 f hf
theorem rng_len (lo : Int) (n : Nat) : (rngD lo n).length = n := by unfold rngD; simp
theorem rng_mem {n : Nat} {d : PyData} (h : d ∈ rngD 0 n) : ∃ v : Nat, v < n ∧ d = .int (v : Nat) := by
  unfold rngD at h
  obtain ⟨k, hk, rfl⟩ := List.mem_map.mp h
  exact ⟨k, List.mem_range.mp hk, by rw [Int.zero_add]⟩
theorem upTo_nats (n : Nat) : upToD n = natsD (List.range n) := rfl
theorem mem_erase {α : Type} {l : List α} {v : Nat} (hv : v < l.length) {x : α} (h : x ∈ l) : x = l[v] ∨ x ∈ l.eraseIdx v := by
  rw [List.eraseIdx_eq_take_drop_succ]
  rw [← List.take_append_drop v l, List.drop_eq_getElem_cons hv] at h
  rcases List.mem_append.mp h with h | h
  · exact .inr (List.mem_append_left _ h)
  · rcases List.mem_cons.mp h with h | h
    · exact .inl h
    · exact .inr (List.mem_append_right _ h)
theorem of_erase {α : Type} {l : List α} {v : Nat} {x : α} (h : x ∈ l.eraseIdx v) : x ∈ l := List.mem_of_mem_eraseIdx h
/-! ### calls of draws -/
theorem w_draw {n L : Nat} {P : PyData → Nat → Prop} (hn : n < 1000000) (h1 : 1 ≤ L) (h2 : L < 1000000) (h : ∀ v : Nat, v < L → P (.int (v : Nat)) (n + 1)) : F_draw [.deck, .dat (.int (L : Nat))] n P := by
  refine ⟨hn, by omega, by omega, fun v h0 hv => ?_⟩
  obtain ⟨k, rfl⟩ := Int.eq_ofNat_of_zero_le h0
  exact h k (by omega)
/-! ### isinstance -/
def isTup : PyData → Bool
  | .tuple _ => true
  | _ => false
def isStrD : PyData → Bool
  | .str _ => true
  | _ => false
theorem isa_tup (d : PyData) : isaB (tyD d) "tuple" = some (isTup d) := by cases d <;> kernel_rfl
theorem isa_str (d : PyData) : isaB (tyD d) "str" = some (isStrD d) := by cases d <;> kernel_rfl
/-! ### data whose repr can be taken -/
structure Val (D W : Nat) (d : PyData) : Prop where
  sh : d.showable = true
  lv : d.leavesShort 13 = true
  dp : d.depth ≤ D
  wt : d.weight ≤ W
theorem Val.shows {D W : Nat} {d : PyData} (h : Val D W d) (hD : D ≤ 60) (hW : W ≤ 2 ^ 20) : Shows d :=
  ⟨h.sh, Nat.le_trans h.dp hD, PyData.shown_fits (by decide) (by decide) h.lv (Nat.le_trans h.wt hW)⟩
theorem Val.mono {D W D' W' : Nat} {d : PyData} (h : Val D W d) (hD : D ≤ D') (hW : W ≤ W') : Val D' W' d := ⟨h.sh, h.lv, Nat.le_trans h.dp hD, Nat.le_trans h.wt hW⟩
structure Vals' (D W : Nat) (ds : List PyData) : Prop where
  sh : PyData.showableAll ds = true
  lv : PyData.leavesShortAll 13 ds = true
  dp : PyData.depthAll ds ≤ D
  wt : PyData.weightAll ds ≤ W
theorem vals_nil {D W : Nat} : Vals' D W [] := ⟨by simp only [PyData.showableAll], by simp only [PyData.leavesShortAll], by simp only [PyData.depthAll]; omega, by simp only [PyData.weightAll]; omega⟩
theorem vals_cons {D W V : Nat} {d : PyData} {ds : List PyData} (h : Val D V d) (hs : Vals' D W ds) : Vals' D (V + 1 + W) (d :: ds) :=
  ⟨by simp only [PyData.showableAll, h.sh, hs.sh, Bool.and_self], by simp only [PyData.leavesShortAll, h.lv, hs.lv, Bool.and_self], by simp only [PyData.depthAll]; exact Nat.max_le.mpr ⟨h.dp, hs.dp⟩, by
    simp only [PyData.weightAll]
    have := h.wt
    have := hs.wt
    omega⟩
theorem vals_mono {D W D' W' : Nat} {ds : List PyData} (h : Vals' D W ds) (hD : D ≤ D') (hW : W ≤ W') : Vals' D' W' ds := ⟨h.sh, h.lv, Nat.le_trans h.dp hD, Nat.le_trans h.wt hW⟩
theorem val_tup {D W : Nat} {ds : List PyData} (h : Vals' D W ds) : Val (D + 1) W (.tuple ds) :=
  ⟨by simp only [PyData.showable, h.sh], by simp only [PyData.leavesShort, h.lv], by simp only [PyData.depth]; have := h.dp; omega, by simp only [PyData.weight]; exact h.wt⟩
theorem val_lst {D W : Nat} {ds : List PyData} (h : Vals' D W ds) : Val (D + 1) W (.list ds) :=
  ⟨by simp only [PyData.showable, h.sh], by simp only [PyData.leavesShort, h.lv], by simp only [PyData.depth]; have := h.dp; omega, by simp only [PyData.weight]; exact h.wt⟩
theorem vals_of_tup {D W : Nat} {ds : List PyData} (h : Val (D + 1) W (.tuple ds)) : Vals' D W ds :=
  ⟨by simpa only [PyData.showable] using h.sh, by simpa only [PyData.leavesShort] using h.lv, by have := h.dp; simp only [PyData.depth] at this; omega, by simpa only [PyData.weight] using h.wt⟩
theorem vals_append {D W V : Nat} : ∀ {ds es : List PyData}, Vals' D W ds → Vals' D V es → Vals' D (W + V) (ds ++ es)
  | [], es, _, h => vals_mono h (Nat.le_refl _) (by omega)
  | d :: ds, es, h, k => by
    have h1 := h.sh
    have h2 := h.lv
    have h3 := h.dp
    have h4 := h.wt
    simp only [PyData.showableAll, Bool.and_eq_true] at h1
    simp only [PyData.leavesShortAll, Bool.and_eq_true] at h2
    simp only [PyData.depthAll] at h3
    simp only [PyData.weightAll] at h4
    have z := vals_append (W := W - d.weight - 1) (⟨h1.2, h2.2, Nat.le_trans (Nat.le_max_right _ _) h3, by omega⟩ : Vals' D (W - d.weight - 1) ds) k
    exact vals_mono (vals_cons (V := d.weight) ⟨h1.1, h2.1, Nat.le_trans (Nat.le_max_left _ _) h3, Nat.le_refl _⟩ z) (Nat.le_refl _) (by omega)
/-- each of them -/
theorem vals_all {D V : Nat} : ∀ {ds : List PyData}, (∀ d, d ∈ ds → Val D V d) → Vals' D (ds.length * (V + 1)) ds
  | [], _ => vals_nil
  | d :: ds, h => by
    have z := vals_cons (h d List.mem_cons_self) (vals_all fun x hx => h x (List.mem_cons_of_mem _ hx))
    refine vals_mono z (Nat.le_refl _) ?_
    rw [List.length_cons, Nat.add_mul]
    omega
theorem vals_mem {D W : Nat} : ∀ {ds : List PyData}, Vals' D W ds → ∀ d, d ∈ ds → Val D W d
  | [], _, d, h => by cases h
  | x :: ds, h, d, hd => by
    have h1 := h.sh
    have h2 := h.lv
    have h3 := h.dp
    have h4 := h.wt
    simp only [PyData.showableAll, Bool.and_eq_true] at h1
    simp only [PyData.leavesShortAll, Bool.and_eq_true] at h2
    simp only [PyData.depthAll] at h3
    simp only [PyData.weightAll] at h4
    rcases List.mem_cons.mp hd with rfl | hd
    · exact ⟨h1.1, h2.1, Nat.le_trans (Nat.le_max_left _ _) h3, by omega⟩
    · exact vals_mem ⟨h1.2, h2.2, Nat.le_trans (Nat.le_max_right _ _) h3, by omega⟩ d hd
theorem val_none {D W : Nat} : Val D W .none := ⟨by simp only [PyData.showable], by simp only [PyData.leavesShort], by simp only [PyData.depth]; omega, by simp only [PyData.weight]; omega⟩
theorem val_bool {D W : Nat} (b : Bool) : Val D W (.bool b) := ⟨by simp only [PyData.showable], by simp only [PyData.leavesShort], by simp only [PyData.depth]; omega, by simp only [PyData.weight]; omega⟩
end DL
namespace DL
open PySem PySem.Spec PyProof.Rows L2 GG DD PT
theorem vals_uncons {D W : Nat} {d : PyData} {ds : List PyData} (h : Vals' D W (d :: ds)) : Val D d.weight d ∧ Vals' D (W - d.weight - 1) ds ∧ d.weight + 1 ≤ W := by
  have h1 := h.sh
  have h2 := h.lv
  have h3 := h.dp
  have h4 := h.wt
  simp only [PyData.showableAll, Bool.and_eq_true] at h1
  simp only [PyData.leavesShortAll, Bool.and_eq_true] at h2
  simp only [PyData.depthAll] at h3
  simp only [PyData.weightAll] at h4
  exact ⟨⟨h1.1, h2.1, Nat.le_trans (Nat.le_max_left _ _) h3, Nat.le_refl _⟩, ⟨h1.2, h2.2, Nat.le_trans (Nat.le_max_right _ _) h3, by omega⟩, by omega⟩
theorem vals_split {D : Nat} : ∀ {xs ys : List PyData} {W : Nat}, Vals' D W (xs ++ ys) → ∃ a b, Vals' D a xs ∧ Vals' D b ys ∧ a + b ≤ W
  | [], ys, W, h => ⟨0, W, vals_nil, h, by omega⟩
  | x :: xs, ys, W, h => by
    obtain ⟨h1, h2, h3⟩ := vals_uncons h
    obtain ⟨a, b, h4, h5, h6⟩ := vals_split (xs := xs) h2
    exact ⟨_, b, vals_cons h1 h4, h5, by omega⟩
/-- at one place -/
theorem vals_at {D W k : Nat} {ds : List PyData} (h : Vals' D W ds) (hk : k < ds.length) : ∃ a b c, Vals' D a (ds.take k) ∧ Val D b ds[k] ∧ Vals' D c (ds.drop (k + 1)) ∧ a + b + 1 + c ≤ W := by
  have e : ds = ds.take k ++ ds[k] :: ds.drop (k + 1) := by rw [← List.drop_eq_getElem_cons hk, List.take_append_drop]
  rw [e] at h
  obtain ⟨a, b, h1, h2, h3⟩ := vals_split h
  obtain ⟨h4, h5, h6⟩ := vals_uncons h2
  exact ⟨a, _, _, h1, h4, h5, by omega⟩
theorem val_depth_pos {D W : Nat} {ds : List PyData} (h : Val D W (.tuple ds)) : ∃ D', D = D' + 1 := by
  have := h.dp
  simp only [PyData.depth] at this
  exact ⟨D - 1, by omega⟩
theorem depth_at : ∀ {ds : List PyData} {k : Nat} (hk : k < ds.length), ds[k].depth ≤ PyData.depthAll ds
  | d :: ds, 0, _ => by
    simp only [PyData.depthAll, List.getElem_cons_zero]
    exact Nat.le_max_left _ _
  | d :: ds, k + 1, h => by
    simp only [PyData.depthAll, List.getElem_cons_succ]
    exact Nat.le_trans (depth_at (by simpa using h)) (Nat.le_max_right _ _)
/-- a tuple is no longer than its weight -/
theorem vals_len {D : Nat} : ∀ {W : Nat} {ds : List PyData}, Vals' D W ds → ds.length ≤ W
  | W, [], _ => Nat.zero_le _
  | W, d :: ds, h => by
    obtain ⟨_, h2, h3⟩ := vals_uncons h
    have := vals_len h2
    rw [List.length_cons]
    omega
theorem val_str {D W : Nat} {x : Str} (h : (PyData.str x).leavesShort 13 = true) (hw : x.cps.size ≤ W) : Val D W (.str x) := ⟨by simp only [PyData.showable], h, by simp only [PyData.depth]; omega, by simp only [PyData.weight]; exact hw⟩
theorem val_dict1 {D W V : Nat} {k x : PyData} (hk : Val D V k) (h : Val D W x) : Val (D + 1) (V + W + 2) (.dict [(k, x)]) :=
  ⟨by simp only [PyData.showable, PyData.showableKv, hk.sh, h.sh, Bool.and_self], by simp only [PyData.leavesShort, PyData.leavesShortKv, hk.lv, h.lv, Bool.and_self], by
    have h1 := hk.dp
    have h2 := h.dp
    simp only [PyData.depth, PyData.depthKv]
    omega, by
    have h1 := hk.wt
    have h2 := h.wt
    simp only [PyData.weight, PyData.weightKv]
    omega⟩
end DL
namespace DL
open PySem PySem.Spec PyProof.Rows L2 GG DD PT
def AllV (D W : Nat) (ds : List PyData) : Prop := ∀ d, d ∈ ds → Val D W d
theorem av_nil {D W : Nat} : AllV D W [] := fun d h => absurd h List.not_mem_nil
theorem av_cons {D W : Nat} {d : PyData} {ds : List PyData} (h : Val D W d) (t : AllV D W ds) : AllV D W (d :: ds) := fun x hx => by
  rcases List.mem_cons.mp hx with rfl | hx
  · exact h
  · exact t x hx
theorem av_app {D W : Nat} {ds es : List PyData} (h : AllV D W ds) (t : AllV D W es) : AllV D W (ds ++ es) := fun x hx => (List.mem_append.mp hx).elim (h x) (t x)
theorem vN : Val 0 0 .none := val_none
theorem vB (b : Bool) : Val 0 0 (.bool b) := val_bool b
theorem vI0 : Val 0 0 (.int 0) := ⟨by decide, by decide, by decide, by decide⟩
theorem vT0 : Val 1 0 (.tuple []) := val_tup vals_nil
theorem vL0 : Val 1 0 (.list []) := val_lst vals_nil
theorem vD0 : Val 1 0 (.dict []) := ⟨by simp only [PyData.showable, PyData.showableKv], by simp only [PyData.leavesShort, PyData.leavesShortKv], by simp only [PyData.depth, PyData.depthKv]; omega, by simp only [PyData.weight, PyData.weightKv]; omega⟩
theorem vT1 {D A : Nat} {a : PyData} (h : Val D A a) : Val (D + 1) (A + 1) (.tuple [a]) := val_tup (vals_cons (W := 0) h vals_nil)
theorem vL1 {D A : Nat} {a : PyData} (h : Val D A a) : Val (D + 1) (A + 1) (.list [a]) := val_lst (vals_cons (W := 0) h vals_nil)
theorem vals2 {D A D' B : Nat} {a b : PyData} (h : Val D A a) (k : Val D' B b) : Vals' (max D D') (A + B + 2) [a, b] :=
  vals_mono (vals_cons (h.mono (Nat.le_max_left _ _) (Nat.le_refl _)) (vals_cons (W := 0) (k.mono (Nat.le_max_right _ _) (Nat.le_refl _)) vals_nil)) (Nat.le_refl _) (by omega)
theorem vT2 {D A D' B : Nat} {a b : PyData} (h : Val D A a) (k : Val D' B b) : Val (max D D' + 1) (A + B + 2) (.tuple [a, b]) := val_tup (vals2 h k)
theorem vL2 {D A D' B : Nat} {a b : PyData} (h : Val D A a) (k : Val D' B b) : Val (max D D' + 1) (A + B + 2) (.list [a, b]) := val_lst (vals2 h k)
theorem vals_rep {D A k m : Nat} {a : PyData} (hk : k ≤ m) (h : Val D A a) : Vals' D (m * (A + 1)) (List.replicate k a) := by
  have z := vals_all (D := D) (V := A) (ds := List.replicate k a) fun d hd => by
    rw [List.eq_of_mem_replicate hd]
    exact h
  rw [List.length_replicate] at z
  exact vals_mono z (Nat.le_refl _) (Nat.mul_le_mul_right _ hk)
theorem vTn {D A k m : Nat} {a : PyData} (hk : k ≤ m) (h : Val D A a) : Val (D + 1) (m * (A + 1)) (.tuple (List.replicate k a)) := val_tup (vals_rep hk h)
theorem vLn {D A k m : Nat} {a : PyData} (hk : k ≤ m) (h : Val D A a) : Val (D + 1) (m * (A + 1)) (.list (List.replicate k a)) := val_lst (vals_rep hk h)
end DL
namespace DL
open PySem PySem.Spec PyProof.Rows L2 GG DD PT
/-- each item gives something that keeps R, with at most k draws each -/
theorem lc_each {g : DG} {t : DT} {e : DE} {base : List DV} {P : List PyData → Nat → Prop} {n : Nat} {items : List PyData} (R : PyData → Prop) (k : Nat)
    (step : ∀ d, d ∈ items → ∀ m, m + k ≤ n + k * items.length → ∀ (Y : PyData → Nat → Prop) (Z : Nat → Prop), (∀ y m', R y → m' ≤ m + k → Y y m') →
      g d (fun s1 => t s1 fun b s2 => if b = true then e s2 fun y s3 => s3.sl = s1.sl ∧ Y y s3.n else s2.sl = s1.sl ∧ Z s2.n) ⟨base, m⟩)
    (fin : ∀ ys m, ys.length = items.length → (∀ y, y ∈ ys → R y) → m ≤ n + k * items.length → P ys m) : dLc g t e base items [] n P := by
  refine lc_rem (fun ds acc m => (∀ d, d ∈ ds → d ∈ items) ∧ acc.length + ds.length = items.length ∧ (∀ y, y ∈ acc → R y) ∧ m + k * ds.length ≤ n + k * items.length) (fun d ds acc m h Y Z hY hZ => ?_) (fun acc m h => ?_) items [] n ⟨fun _ h => h, by simp, (fun y h => by cases h), Nat.le_refl _⟩
  · obtain ⟨h1, h2, h3, h5⟩ := h
    rw [List.length_cons, Nat.mul_add, Nat.mul_one] at h5
    rw [List.length_cons] at h2
    refine step d (h1 d List.mem_cons_self) m (by omega) Y Z fun y m' hR a2 => hY _ _ ⟨fun x hx => h1 x (List.mem_cons_of_mem _ hx), ?_, fun z hz => ?_, by omega⟩
    · rw [List.length_append, List.length_singleton]
      omega
    · rcases List.mem_append.mp hz with hz | hz
      · exact h3 z hz
      · rw [List.mem_singleton.mp hz]
        exact hR
  · obtain ⟨_, h2, h3, h5⟩ := h
    exact fin acc m (by simpa using h2) h3 (by simpa using h5)
end DL

namespace K09
open PySem
def topS (i : Nat) : Stmt := PySem.Challenge.pw_roundcalls_k09_tops.main.body.getD i (.Pass ⟨0, 0, 0, 0⟩)
end K09

set_option Elab.async false
set_option linter.all false
set_option maxRecDepth 100000
set_option maxHeartbeats 4000000
namespace K09
open PySem PySem.Spec PyProof.Rows L2 GG DD PT DL
abbrev s_deck : Stmt := topS 7
abbrev s_draw : Stmt := topS 8
theorem sc_deck : FnScope ["_law_script", "_law_cells", "_law_mixed", "_law_cell"] ["_law_script"] (defScope s_deck) := ⟨rfl, rfl, rfl, by decide +kernel, rfl, by decide +kernel, by decide +kernel⟩
theorem sc_draw : FnScope ["_law_deck_here", "_law_count", "_law_cell", "_law_number"] ["_law_deck_here", "_law_count"] (defScope s_draw) := ⟨rfl, rfl, rfl, by decide +kernel, rfl, by decide +kernel, by decide +kernel⟩
section
variable {P : Program} {w : World} {K : PySem.W.Frag} {mg : Str → Option Value} {base : Heap}
theorem ok_deck {f : Addr} {fd : FuncData} (F : L2.Fun K "_law_deck" "_law_deck" s_deck f fd) (m_list : mg "list" = none) : Fg P w K mg base 1 f fd ["_law_script"] (spDeckH K) := by
  refine okg F sc_deck (fun vs H Q h => ?_) (fun cdv A outer s H vs Q hr h => ?_)
  · obtain ⟨a, ns, rfl, _⟩ := h
    rfl
  · obtain ⟨a, ns, rfl, hS, hlen, q⟩ := h
    refine ⟨_, (pss_cons (ps_par (i := 1) (j := 2) (by rfl) sc_deck.nd rfl rfl (by decide) rfl rfl (pa_cons (pe_callTy call_list_of (by rfl) m_list (by decide +kernel) (pa_cons (pe_slice sl_list (pv 0) po_none (po_some pe_int)) pa_nil)) (pa_cons pe_int pa_nil)) (by rfl)) (pss_cons (ps_for PassesOwn.never rfl (pi_list (pv 1)) (pg_name (i := 3) sc_deck.nd rfl (Or.inl rfl)) (pss_one (ps_set (i := 2) sc_deck.nd rfl (Or.inl rfl) (pe_op op_mod (pe_op op_add (pe_op op_add (pe_op op_mul (pv 2) pe_int) (pe_op op_mod (pv 3) pe_int)) pe_int) pe_int)))) (pss_one (ps_ret (pe_lst (pa_cons (pe_revL (pv 1)) (pa_cons (pv 2) (pa_cons pe_int pa_nil)))))))), ?_⟩
    refine ⟨.ref a, rfl, 63, rfl, a, _, rfl, hS, fun p1 n1 => ?_⟩
    refine ⟨p1, _, rfl, .inl (sq upd_same), fun c nc => ?_⟩
    refine ⟨_, _, rfl, ?_⟩
    have hcut : cutV (ns.map V.int) none (some 63) = ns.map V.int := by
      unfold cutV
      rw [show HT.sIx (ns.map V.int).length (ns.map V.int).length (some 63) = min 63 (ns.map V.int).length from HT.sIx_nat _ _ 63, HT.sIx_none, List.drop_zero, Nat.sub_zero]
      exact List.take_of_length_le (by rw [List.length_map]; omega)
    rw [hcut] at nc ⊢
    have s1 : Same H (upd H p1 (.lst (ns.map V.int))) := same_upd n1
    have s2 : Same (upd H p1 (.lst (ns.map V.int))) (upd (upd H p1 (.lst (ns.map V.int))) c (.lst (ns.map V.int))) := same_upd nc
    have ec : (upd (upd H p1 (.lst (ns.map V.int))) c (.lst (ns.map V.int))) c = some (.lst (ns.map V.int)) := upd_same
    generalize hG : upd (upd H p1 (.lst (ns.map V.int))) c (.lst (ns.map V.int)) = G at *
    refine ⟨.ref c, rfl, c, rfl, ⟨_, sq ec⟩, for_list (K := K) (a := c) (xs := ns.map V.int) (fun i σ H' => ∃ (m : Int) (v : Option V), σ = [some (.ref a), some (.ref c), some (.int m), v] ∧ H' = G ∧ 0 ≤ m ∧ m < 2147483587) ⟨30013, none, rfl, rfl, by decide, by decide⟩ ?_ ?_ ?_⟩
    · rintro i σ H' _ ⟨m, v, rfl, rfl, _⟩
      exact sq ec
    · rintro i x σ H' hi ⟨m, v, rfl, rfl, h0, h1⟩
      obtain ⟨z, rfl⟩ : ∃ z, x = V.int z := by
        rw [List.getElem?_map] at hi
        cases e : ns[i]? with
        | none => rw [e] at hi; cases hi
        | some u => rw [e] at hi; exact ⟨u, (Option.some.inj hi).symm⟩
      refine ⟨_, rfl, _, _, rfl, rfl, .inl ⟨by omega, by omega⟩, .int z, rfl, z, 2147483629, rfl, rfl, (by show (0 : Int) < 2147483629; decide), _, _, rfl, rfl, _, _, rfl, rfl, _, _, rfl, rfl, (by show (0 : Int) < 2147483587; decide), ?_⟩
      exact ⟨_, _, rfl, rfl, Int.emod_nonneg _ (by decide), Int.emod_lt_of_pos _ (by decide)⟩
    · rintro σ H' ⟨m, v, rfl, rfl, h0, h1⟩
      refine ⟨.ref c, rfl, c, _, rfl, sq ec, fun l nl => ?_⟩
      refine ⟨_, rfl, (by show 3 ≤ sizeLine; decide), fun p np => ?_⟩
      have nlp : l ≠ p := ne_new upd_same np
      have np' : H' p = none := by rw [upd_ne nlp.symm] at np; exact np
      refine q _ p l (s1.trans (s2.trans ((same_upd nl).trans (same_upd np)))) ⟨⟨m, ns.reverse, upd_same, ?_, h0, by omega, by rw [List.length_reverse]; omega⟩, nlp⟩ (s1.free (s2.free np')) (s1.free (s2.free nl))
      rw [upd_ne nlp, upd_same, List.map_reverse]
theorem ok_drawH {f : Addr} {fd : FuncData} (F : L2.Fun K "_law_draw" "_law_draw" s_draw f fd) : Fg P w K mg base 1 f fd ["_law_deck_here", "_law_count"] spDrawH := by
  refine okg F sc_draw (fun vs H Q h => ?_) (fun cdv A outer s H vs Q hr h => ?_)
  · obtain ⟨p, l, n, lim, rfl, _⟩ := h
    rfl
  · obtain ⟨p, l, n, lim, rfl, ⟨⟨m, cs, hp, hl, hm0, hm1, hcs⟩, hne⟩, hn, hlim, hlim2, q⟩ := h
    refine ⟨_, (pss_cons (ps_asg (pe_op op_add (pe_ix ix_list (pv 0) pe_int (fun _ _ => rfl)) pe_int) (pg_sub (pv 0) pe_int set_list)) (pss_cons (ps_set (i := 2) sc_draw.nd rfl (Or.inl rfl) (pe_ix ix_list (pv 0) pe_int (fun _ _ => rfl))) (Evl.pss_cut (ps_if (pt_cmpR (op_neD hr.room.units) (pe_ix ix_list (pv 0) pe_int (fun _ _ => rfl)) (pe_lst pa_nil) (nomark _)) (pss_cons (ps_set (i := 2) sc_draw.nd rfl (Or.inl rfl) (pe_bm0 PySem.F.plainAttrs_list PySem.F.slot_list_pop PySem.F.type_list_pop mt_pop (pe_ix ix_list (pv 0) pe_int (fun _ _ => rfl)))) (pss_cons (ps_if (pt_cmpR op_ge (pv 2) (pe_op op_pow pe_int pe_int) (nomark _)) (pss_cons (ps_expr (pe_bm PySem.F.plainAttrs_list PySem.F.slot_list_append PySem.F.type_list_append mt_append (pe_ix ix_list (pv 0) pe_int (fun _ _ => rfl)) (pa_cons (pe_op op_fdivN (pv 2) (pv 1)) pa_nil))) (pss_one (ps_ret (pe_op op_mod (pv 2) (pv 1))))) pss_nil) (pss_one (ps_set (i := 2) sc_draw.nd rfl (Or.inl rfl) (pe_op op_add (pv 2) (pe_ix ix_list (pv 0) pe_int (fun _ _ => rfl))))))) pss_nil) (pss_cons (ps_set (i := 3) sc_draw.nd rfl (Or.inl rfl) (pe_op op_mod (pe_op op_mul (pe_op op_add (pe_op op_add (pe_op op_mod (pv 2) pe_int) (pe_op op_mul (pe_op op_mul pe_int (pe_ix ix_list (pv 0) pe_int (fun _ _ => rfl))) (pe_ix ix_list (pv 0) pe_int (fun _ _ => rfl)))) pe_int) pe_int) pe_int)) (pss_cons (ps_set (i := 3) sc_draw.nd rfl (Or.inl rfl) (pe_op op_mod (pe_op op_add (pe_op op_add (pe_op op_mul (pv 3) (pv 3)) (pe_op op_mul pe_int (pe_ix ix_list (pv 0) pe_int (fun _ _ => rfl)))) pe_int) pe_int)) (pss_one (ps_ret (pe_op op_mod (pe_op op_fdivN (pe_op op_mod (pe_op op_mul (pv 3) pe_int) pe_int) pe_int) (pv 1))))))))), ?_⟩
    refine ⟨.ref p, rfl, p, _, 2, .int (n : Int), rfl, rfl, sq hp, rfl, _, _, rfl, rfl, .ref p, rfl, p, _, 2, 2, rfl, rfl, hp, rfl, ?_⟩
    have hp1 : (upd H p (.lst [.ref l, .int m, .int ((n : Int) + 1)])) p = some (.lst [.ref l, .int m, .int ((n : Int) + 1)]) := upd_same
    have hl1 : (upd H p (.lst [.ref l, .int m, .int ((n : Int) + 1)])) l = some (.lst (cs.map V.int)) := by rw [upd_ne hne]; exact hl
    have b1 : But p l H (upd H p (.lst [.ref l, .int m, .int ((n : Int) + 1)])) := (But.refl p l H).left
    show tSeq _ _ _ _ (upd H p (.lst [.ref l, .int m, .int ((n : Int) + 1)]))
    generalize upd H p (.lst [.ref l, .int m, .int ((n : Int) + 1)]) = H1 at hp1 hl1 b1 ⊢
    refine ⟨.ref p, rfl, p, _, 1, .int m, rfl, rfl, sq hp1, rfl, ?_⟩
    refine ⟨fun σ2 H2 => ∃ (c : Int) (cs2 : List Int), σ2 = [some (.ref p), some (.int lim), some (.int c), none] ∧ H2 p = some (.lst [.ref l, .int m, .int ((n : Int) + 1)]) ∧ H2 l = some (.lst (cs2.map V.int)) ∧ But p l H H2 ∧ cs2.length ≤ 64, ?_, ?_⟩
    · refine ⟨.ref p, rfl, p, _, 0, .ref l, rfl, rfl, sq hp1, rfl, Nat.zero_le _, fun e ne => ?_⟩
      have sE : Same H1 (upd H1 e (.lst [])) := same_upd ne
      have bE : But p l H (upd H1 e (.lst [])) := b1.trans (.of sE)
      have eE : (upd H1 e (.lst [])) e = some (.lst []) := upd_same
      have hp2 := sE _ _ hp1
      have hl2 := sE _ _ hl1
      generalize upd H1 e (.lst []) = G at sE bE eE hp2 hl2 ⊢
      refine ⟨.list (intsD cs), .list [], .lst (sq hl2) (dp_intsD cs), .lst (sq eE) .nil, shaped_ints cs, shaped_ints [], _, rfl, ?_⟩
      rw [eqv_ints_nil]
      cases cs with
      | nil => exact ⟨m, [], rfl, hp2, hl2, bE, Nat.zero_le _⟩
      | cons c0 cs0 =>
        have hlast : ((c0 :: cs0).map V.int)[((c0 :: cs0).map V.int).length - 1]? = some (.int ((c0 :: cs0).getLast (List.cons_ne_nil _ _))) := by
          rw [List.length_map, List.getElem?_map, ← List.getLast?_eq_getElem?, List.getLast?_eq_getLast (List.cons_ne_nil _ _)]
          rfl
        generalize hz : (c0 :: cs0).getLast (List.cons_ne_nil _ _) = z at hlast
        refine ⟨.ref p, rfl, p, _, 0, .ref l, rfl, rfl, sq hp2, rfl, .inl ⟨rfl, _, sq hl2⟩, l, _, _, rfl, rfl, hl2, hlast, ?_⟩
        have hdl : ((c0 :: cs0).map V.int).dropLast = ((c0 :: cs0).dropLast).map V.int := List.map_dropLast.symm
        rw [hdl]
        generalize hcs : (c0 :: cs0).dropLast = cs1
        have hlen1 : cs1.length ≤ 63 := by
          rw [← hcs, List.length_dropLast]
          omega
        have hp3 : (upd G l (.lst (cs1.map V.int))) p = some (.lst [.ref l, .int m, .int ((n : Int) + 1)]) := by rw [upd_ne hne.symm]; exact hp2
        have hl3 : (upd G l (.lst (cs1.map V.int))) l = some (.lst (cs1.map V.int)) := upd_same
        have b3 : But p l H (upd G l (.lst (cs1.map V.int))) := bE.right
        generalize upd G l (.lst (cs1.map V.int)) = G3 at hp3 hl3 b3 ⊢
        refine ⟨_, rfl, _, _, rfl, rfl, (by show (0 : Int) ≤ 18 ∧ (18 : Int) ≤ 1000000 ∧ (10 : Int).natAbs < 2 ^ 64; decide), _, _, rfl, rfl, _, rfl, ite2 (fun _ => ?_) (fun _ => ?_)⟩
        · refine ⟨.ref p, rfl, p, _, 0, .ref l, rfl, rfl, sq hp3, rfl, .inl ⟨rfl, _, sq hl3⟩, _, rfl, _, rfl, _, _, rfl, rfl, ⟨by omega, by omega⟩, l, _, _, rfl, rfl, hl3, (by rw [List.length_map]; exact szl (by omega)), ?_⟩
          refine ⟨_, rfl, _, rfl, _, _, rfl, rfl, by omega, ?_⟩
          refine q _ _ ⟨⟨m, cs1 ++ [z.fdiv lim], ?_, ?_, hm0, hm1, ?_⟩, hne⟩ b3.right (Int.emod_nonneg _ (by omega)) (Int.emod_lt_of_pos _ (by omega))
          · rw [upd_ne hne.symm]
            exact hp3
          · rw [upd_same, List.map_append]
            rfl
          · rw [List.length_append, List.length_singleton]
            omega
        · refine ⟨_, rfl, .ref p, rfl, p, _, 1, .int m, rfl, rfl, sq hp3, rfl, _, _, rfl, rfl, ?_⟩
          exact ⟨_, cs1, rfl, hp3, hl3, b3, by omega⟩
    · rintro σ2 H2 ⟨c, cs2, rfl, hp2, hl2, b2, hc2⟩
      refine ⟨_, rfl, _, _, rfl, rfl, (by show (0 : Int) < 2147483629; decide), .ref p, rfl, p, _, 2, .int ((n : Int) + 1), rfl, rfl, sq hp2, rfl, _, _, rfl, rfl, .inl ⟨by decide, by decide⟩, .ref p, rfl, p, _, 2, .int ((n : Int) + 1), rfl, rfl, sq hp2, rfl, _, _, rfl, rfl, .inl ⟨by omega, by omega⟩, _, _, rfl, rfl, _, _, rfl, rfl, _, _, rfl, rfl, .inr ⟨by decide, by decide⟩, _, _, rfl, rfl, (by show (0 : Int) < 2147483647; decide), ?_⟩
      have hx0 := Int.emod_nonneg ((c % 2147483629 + 74093 * ((n : Int) + 1) * ((n : Int) + 1) + 47) * 40692) (show (2147483647 : Int) ≠ 0 by decide)
      have hx1 := Int.emod_lt_of_pos ((c % 2147483629 + 74093 * ((n : Int) + 1) * ((n : Int) + 1) + 47) * 40692) (show (0 : Int) < 2147483647 by decide)
      show tSeq _ _ _ [some (.ref p), some (.int lim), some (.int c), some (.int ((c % 2147483629 + 74093 * ((n : Int) + 1) * ((n : Int) + 1) + 47) * 40692 % 2147483647))] H2
      generalize (c % 2147483629 + 74093 * ((n : Int) + 1) * ((n : Int) + 1) + 47) * 40692 % 2147483647 = x at hx0 hx1 ⊢
      refine ⟨_, rfl, _, rfl, _, _, rfl, rfl, .inl ⟨by omega, by omega⟩, .ref p, rfl, p, _, 2, .int ((n : Int) + 1), rfl, rfl, sq hp2, rfl, _, _, rfl, rfl, .inl ⟨by decide, by decide⟩, _, _, rfl, rfl, _, _, rfl, rfl, _, _, rfl, rfl, (by show (0 : Int) < 2147483563; decide), ?_⟩
      have hy0 := Int.emod_nonneg (x * x + 69621 * ((n : Int) + 1) + 11) (show (2147483563 : Int) ≠ 0 by decide)
      have hy1 := Int.emod_lt_of_pos (x * x + 69621 * ((n : Int) + 1) + 11) (show (0 : Int) < 2147483563 by decide)
      refine ⟨_, rfl, _, _, rfl, rfl, .inr ⟨by decide, by decide⟩, _, _, rfl, rfl, (by show (0 : Int) < 2147483587; decide), _, _, rfl, rfl, ⟨by decide, by decide⟩, _, rfl, _, _, rfl, rfl, by omega, ?_⟩
      exact q H2 _ ⟨⟨m, cs2, hp2, hl2, hm0, hm1, hc2⟩, hne⟩ b2 (Int.emod_nonneg _ (by omega)) (Int.emod_lt_of_pos _ (by omega))
theorem ok_draw {f : Addr} {fd : FuncData} (F : L2.Fun K "_law_draw" "_law_draw" s_draw f fd) : Fg P w K mg base 1 f fd ["_law_deck_here", "_law_count"] (spOf K 2 F_draw) := weak (ok_drawH F) fun _ _ _ h => draw_of h
end
end K09


set_option Elab.async false
set_option linter.all false
set_option maxRecDepth 100000
set_option maxHeartbeats 4000000
namespace K09
open PySem PySem.Spec PyProof.Rows L2 GG DD PT DL
/-! ### top_of_row -/
abbrev s_top_of_row : Stmt := topS 2
theorem sc_top_of_row : FnScope ["sheet", "row", "depth", "tag", "fields", "field"] ["sheet", "row", "depth"] (defScope s_top_of_row) := ⟨rfl, rfl, rfl, by decide +kernel, rfl, by decide +kernel, by decide +kernel⟩
def dB_top_of_row (F_top_of_row : FD) : DS := (dSeq (dAsg (dOp oIxU (dVar 0) (dVar 1)) (gdTup 2 (gdCons (gdN 3) (gdCons (gdN 4) gdNil)))) (dSeq (dIf (dB (dOp (oEq false) (dVar 2) (dC (.int 0)))) (dRet (dTup (dCons (dVar 3) (dCons (dOp oRepU (dTup (dCons (dC .none) dNil)) (dLenL (dAsU (dVar 4)))) dNil)))) dNext) (dRet (dTup (dCons (dVar 3) (dCons (dTupOf (dComp (dAsU (dVar 4)) (gdN 5) dYes (dCall 3 F_top_of_row (xCons (dVar 0) (xCons (dVar 5) (xCons (dOp (oI0 fun i j => i - j) (dVar 2) (dC (.int 1))) xNil)))) [5])) dNil))))))
theorem ok_top_of_row {P : Program} {w : World} {K : PySem.W.Frag} {mg : Str → Option Value} {base : Heap} {f : Addr} {fd : FuncData} {k : Nat} {F_top_of_row : FD} (F : L2.Fun K "top_of_row" "top_of_row" s_top_of_row f fd)
    (D_top_of_row : Df P w K mg base k "top_of_row" ["sheet", "row", "depth"] (spOf K 3 F_top_of_row)) (m_len : mg "len" = none) (m_tuple : mg "tuple" = none)  :
    Fg P w K mg base (k + 1) f fd ["sheet", "row", "depth"] (spOf K 3 (bodyD (dB_top_of_row F_top_of_row) 3)) :=
  okd (m := 3) rfl F sc_top_of_row fun cdv A outer s H hr => ⟨_, (pss_cons (ps_asg (pe_ix ix_tup (pv 0) (pv 1) (fun _ _ => rfl)) (pg_tup rfl (pgs_cons (pg_name (i := 3) sc_top_of_row.nd rfl (Or.inl rfl)) (pgs_cons (pg_name (i := 4) sc_top_of_row.nd rfl (Or.inl rfl)) pgs_nil)))) (pss_cons (ps_if (pt_cmpR op_eq (pv 2) pe_int (nomark _)) (pss_one (ps_ret (pe_tupP (pa_cons (pv 3) (pa_cons (pe_op op_repP (pe_tupP (pa_cons pe_non pa_nil)) (pe_callB call_len_seq (by rfl) m_len (by decide +kernel) (pa_cons (pv 4) pa_nil))) pa_nil))))) pss_nil) (pss_one (ps_ret (pe_tupP (pa_cons (pv 3) (pa_cons (pe_callTy call_tuple_ofP (by rfl) m_tuple (by decide +kernel) (pa_cons (pe_lc (own := [("field", 5)]) (g := (gName 5)) rfl sc_top_of_row.nd (pi_tup (pv 4)) (blkOk_by (own := [("field", 5)]) (N := ["sheet", "row", "depth", "tag", "fields", "field"]) (sc := defScope s_top_of_row) (by decide +kernel)) (fun _ _ _ _ _ => (pg_name (i := 5) sc_top_of_row.nd rfl (Or.inl rfl))) (fun _ _ _ _ _ => pts_nil) (fun _ _ _ _ _ => (dcall D_top_of_row (hr.mono (Nat.le_refl _)) (by rfl) (pa_cons (pv 0) (pa_cons (pv 5) (pa_cons (pe_op op_sub (pv 2) pe_int) pa_nil)))))) pa_nil)) pa_nil))))))),
    (rs_seq (rs_asg (re_op ro_ixU (re_var (i := 0)) (re_var (i := 1))) (rg_tup (rgs_cons (rg_name (i := 3)) (rgs_cons (rg_name (i := 4)) rgs_nil)))) (rs_seq (rs_if (rt_test (re_op ro_eq (re_var (i := 2)) re_int)) (rs_ret (re_tup (ra_cons (re_var (i := 3)) (ra_cons (re_op ro_repU (re_tup (ra_cons re_non ra_nil)) (re_lenU (ru_of (re_var (i := 4))))) ra_nil)))) rs_next) (rs_ret (re_tup (ra_cons (re_var (i := 3)) (ra_cons (re_tupL (rl_new (rf_comp (vs := [5]) (ri_tup (re_var (i := 4))) (rgv_name (i := 5) (by decide)) (gw_name (i := 5) (by decide)) rt_yes (re_call (rx_cons (re_var (i := 0)) (rx_cons (re_var (i := 5)) (rx_cons (re_op ro_I0 (re_var (i := 2)) re_int) rx_nil))))))) ra_nil))))))⟩
/-! ### top -/
abbrev s_top : Stmt := topS 3
theorem sc_top : FnScope ["sheet", "depth"] ["sheet", "depth"] (defScope s_top) := ⟨rfl, rfl, rfl, by decide +kernel, rfl, by decide +kernel, by decide +kernel⟩
def dB_top (F_top_of_row : FD) : DS := (dRet (dCall 3 F_top_of_row (xCons (dVar 0) (xCons (dC (.int 0)) (xCons (dVar 1) xNil)))))
theorem ok_top {P : Program} {w : World} {K : PySem.W.Frag} {mg : Str → Option Value} {base : Heap} {f : Addr} {fd : FuncData} {k : Nat} {F_top_of_row : FD} (F : L2.Fun K "top" "top" s_top f fd)
    {k0 : Nat} (D_top_of_row : Df P w K mg base k0 "top_of_row" ["sheet", "row", "depth"] (spOf K 3 F_top_of_row)) (h_k0 : k0 ≤ k) :
    Fg P w K mg base (k + 1) f fd ["sheet", "depth"] (spOf K 2 (bodyD (dB_top F_top_of_row) 0)) :=
  okd (m := 2) rfl F sc_top fun cdv A outer s H hr => ⟨_, (pss_one (ps_ret (dcall D_top_of_row (hr.mono (h_k0)) (by rfl) (pa_cons (pv 0) (pa_cons pe_int (pa_cons (pv 1) pa_nil)))))),
    (rs_ret (re_call (rx_cons (re_var (i := 0)) (rx_cons re_int (rx_cons (re_var (i := 1)) rx_nil)))))⟩
/-! ### is_node_top -/
abbrev s_is_node_top : Stmt := topS 4
theorem sc_is_node_top : FnScope ["counts", "depth", "thing", "tag", "fields", "field"] ["counts", "depth", "thing"] (defScope s_is_node_top) := ⟨rfl, rfl, rfl, by decide +kernel, rfl, by decide +kernel, by decide +kernel⟩
def dB_is_node_top (F_is_node_top : FD) : DS := (dSeq (dIf (dOr (dNot (dB (dIsi "tuple" (dVar 2)))) (dB (dOp (oEq true) (dLenD (dVar 2)) (dC (.int 2))))) (dRet (dC (.bool false))) dNext) (dSeq (dAsg (dVar 2) (gdTup 2 (gdCons (gdN 3) (gdCons (gdN 4) gdNil)))) (dSeq (dIf (dOr (dNot (dB (dIsi "str" (dVar 3)))) (dOr (dB (dDIn true (dVar 3) 0)) (dOr (dNot (dB (dIsi "tuple" (dVar 4)))) (dB (dOp (oEq true) (dLenL (dAsU (dVar 4))) (dDGet 0 (dVar 3))))))) (dRet (dC (.bool false))) dNext) (dSeq (dIf (dB (dOp (oEq false) (dVar 1) (dC (.int 0)))) (dRet (dAll (dComp (dAsU (dVar 4)) (gdN 5) dYes (dOp (oIsN false) (dVar 5) (dC .none)) [5]))) dNext) (dRet (dAll (dComp (dAsU (dVar 4)) (gdN 5) dYes (dCall 3 F_is_node_top (xCons (dVar 0) (xCons (dOp (oI0 fun i j => i - j) (dVar 1) (dC (.int 1))) (xCons (dVar 5) xNil)))) [5])))))))
theorem ok_is_node_top {P : Program} {w : World} {K : PySem.W.Frag} {mg : Str → Option Value} {base : Heap} {f : Addr} {fd : FuncData} {k : Nat} {F_is_node_top : FD} (F : L2.Fun K "is_node_top" "is_node_top" s_is_node_top f fd)
    (D_is_node_top : Df P w K mg base k "is_node_top" ["counts", "depth", "thing"] (spOf K 3 F_is_node_top)) (m_all : mg "all" = none) (m_isinstance : mg "isinstance" = none) (m_len : mg "len" = none) (m_str : mg "str" = none) (m_tuple : mg "tuple" = none)  :
    Fg P w K mg base (k + 1) f fd ["counts", "depth", "thing"] (spOf K 3 (bodyD (dB_is_node_top F_is_node_top) 3)) :=
  okd (m := 3) rfl F sc_is_node_top fun cdv A outer s H hr => ⟨_, (pss_cons (ps_if (PW.pt (pw_or (pt_not (pt_val (pe_callB call_isi (by rfl) m_isinstance (by decide +kernel) (pa_cons (pv 2) (pa_cons (pe_bltn (v := .ty "tuple") (by rfl) m_tuple (by decide +kernel) rfl) pa_nil))))) (pw_or1 (pt_cmpR op_ne (pe_callB call_len_seq (by rfl) m_len (by decide +kernel) (pa_cons (pv 2) pa_nil)) pe_int (nomark _))))) (pss_one (ps_ret pe_bl)) pss_nil) (pss_cons (ps_asg (pv 2) (pg_tup rfl (pgs_cons (pg_name (i := 3) sc_is_node_top.nd rfl (Or.inl rfl)) (pgs_cons (pg_name (i := 4) sc_is_node_top.nd rfl (Or.inl rfl)) pgs_nil)))) (pss_cons (ps_if (PW.pt (pw_or (pt_not (pt_val (pe_callB call_isi (by rfl) m_isinstance (by decide +kernel) (pa_cons (pv 3) (pa_cons (pe_bltn (v := .ty "str") (by rfl) m_str (by decide +kernel) rfl) pa_nil))))) (pw_or (pt_cmp (pc_dnotin (hu_of hr.room) (pv 3) (pv 0)) (by rfl)) (pw_or (pt_not (pt_val (pe_callB call_isi (by rfl) m_isinstance (by decide +kernel) (pa_cons (pv 4) (pa_cons (pe_bltn (v := .ty "tuple") (by rfl) m_tuple (by decide +kernel) rfl) pa_nil))))) (pw_or1 (pt_cmpR op_ne (pe_callB call_len_seq (by rfl) m_len (by decide +kernel) (pa_cons (pv 4) pa_nil)) (pe_dget (hu_of hr.room) (pv 0) (pv 3) (fun _ _ => rfl)) (nomark _))))))) (pss_one (ps_ret pe_bl)) pss_nil) (pss_cons (ps_if (pt_cmpR op_eq (pv 1) pe_int (nomark _)) (pss_one (ps_ret (pe_callB (cr_all rfl) (by rfl) m_all (by decide +kernel) (pa_cons (pe_lc (own := [("field", 5)]) (g := (gName 5)) rfl sc_is_node_top.nd (pi_tup (pv 4)) (blkOk_by (own := [("field", 5)]) (N := ["counts", "depth", "thing", "tag", "fields", "field"]) (sc := defScope s_is_node_top) (by decide +kernel)) (fun _ _ _ _ _ => (pg_name (i := 5) sc_is_node_top.nd rfl (Or.inl rfl))) (fun _ _ _ _ _ => pts_nil) (fun _ _ _ _ _ => (pe_cmpR op_isN (pv 5) pe_non (nomark _)))) pa_nil)))) pss_nil) (pss_one (ps_ret (pe_callB (cr_all rfl) (by rfl) m_all (by decide +kernel) (pa_cons (pe_lc (own := [("field", 5)]) (g := (gName 5)) rfl sc_is_node_top.nd (pi_tup (pv 4)) (blkOk_by (own := [("field", 5)]) (N := ["counts", "depth", "thing", "tag", "fields", "field"]) (sc := defScope s_is_node_top) (by decide +kernel)) (fun _ _ _ _ _ => (pg_name (i := 5) sc_is_node_top.nd rfl (Or.inl rfl))) (fun _ _ _ _ _ => pts_nil) (fun _ _ _ _ _ => (dcall D_is_node_top (hr.mono (Nat.le_refl _)) (by rfl) (pa_cons (pv 0) (pa_cons (pe_op op_sub (pv 1) pe_int) (pa_cons (pv 5) pa_nil)))))) pa_nil)))))))),
    (rs_seq (rs_if (rt_or (rt_not (rt_val (re_isi (n := "tuple") (re_var (i := 2))))) (rt_test (re_op ro_ne (re_lenD (re_var (i := 2))) re_int))) (rs_ret re_bl) rs_next) (rs_seq (rs_asg (re_var (i := 2)) (rg_tup (rgs_cons (rg_name (i := 3)) (rgs_cons (rg_name (i := 4)) rgs_nil)))) (rs_seq (rs_if (rt_or (rt_not (rt_val (re_isi (n := "str") (re_var (i := 3))))) (rt_or (rt_val (re_dNotIn (i := 0) (re_var (i := 3)))) (rt_or (rt_not (rt_val (re_isi (n := "tuple") (re_var (i := 4))))) (rt_test (re_op ro_ne (re_lenU (ru_of (re_var (i := 4)))) (re_dGet (i := 0) (re_var (i := 3)))))))) (rs_ret re_bl) rs_next) (rs_seq (rs_if (rt_test (re_op ro_eq (re_var (i := 1)) re_int)) (rs_ret (re_all (rl_new (rf_comp (vs := [5]) (ri_tup (re_var (i := 4))) (rgv_name (i := 5) (by decide)) (gw_name (i := 5) (by decide)) rt_yes (re_op ro_isN (re_var (i := 5)) re_non))))) rs_next) (rs_ret (re_all (rl_new (rf_comp (vs := [5]) (ri_tup (re_var (i := 4))) (rgv_name (i := 5) (by decide)) (gw_name (i := 5) (by decide)) rt_yes (re_call (rx_cons (re_var (i := 0)) (rx_cons (re_op ro_I0 (re_var (i := 1)) re_int) (rx_cons (re_var (i := 5)) rx_nil))))))))))))⟩
/-! ### is_top -/
abbrev s_is_top : Stmt := topS 5
theorem sc_is_top : FnScope ["signature", "depth", "thing", "counts"] ["signature", "depth", "thing"] (defScope s_is_top) := ⟨rfl, rfl, rfl, by decide +kernel, rfl, by decide +kernel, by decide +kernel⟩
def dB_is_top (F_is_node_top : FD) : DS := (dSeq (dSetD (dDictU (dVar 0)) 3) (dSeq (dDPut 3 (dC (.str "void")) (dC (.int 0))) (dFreeze 3 (dRet (dCall 3 F_is_node_top (xCons (dVar 3) (xCons (dVar 1) (xCons (dVar 2) xNil))))))))
theorem ok_is_top {P : Program} {w : World} {K : PySem.W.Frag} {mg : Str → Option Value} {base : Heap} {f : Addr} {fd : FuncData} {k : Nat} {F_is_node_top : FD} (F : L2.Fun K "is_top" "is_top" s_is_top f fd)
    {k0 : Nat} (D_is_node_top : Df P w K mg base k0 "is_node_top" ["counts", "depth", "thing"] (spOf K 3 F_is_node_top)) (m_dict : mg "dict" = none) {t_VOID : Tok} (m_VOID_TAG : mg "VOID_TAG" = some (.str "void" t_VOID)) (h_k0 : k0 ≤ k) :
    Fg P w K mg base (k + 1) f fd ["signature", "depth", "thing"] (spOf K 3 (bodyD (dB_is_top F_is_node_top) 1)) :=
  okd (m := 3) rfl F sc_is_top fun cdv A outer s H hr => ⟨_, (pss_cons (ps_set (i := 3) sc_is_top.nd rfl (Or.inl rfl) (pe_callTy (call_dictT rfl) (by rfl) m_dict (by decide +kernel) (pa_cons (pv 0) pa_nil))) (pss_cons (ps_dput (hu_of hr.room) (pv 3) (pe_glob (v := .str "void") (by rfl) m_VOID_TAG ⟨_, rfl⟩) pe_int (by rfl)) (pss_one (ps_ret (dcall D_is_node_top (hr.mono (h_k0)) (by rfl) (pa_cons (pv 3) (pa_cons (pv 1) (pa_cons (pv 2) pa_nil)))))))),
    (rs_seq (rs_setD (i := 3) (rd_dictU (re_var (i := 0)))) (rs_seq (rs_dPut (i := 3) re_str re_int) (rs_freeze (i := 3) (rs_ret (re_call (rx_cons (re_var (i := 3)) (rx_cons (re_var (i := 1)) (rx_cons (re_var (i := 2)) rx_nil))))))))⟩
end K09


set_option Elab.async false
set_option linter.all false
set_option maxRecDepth 100000
set_option maxHeartbeats 4000000
namespace K09
open PySem PySem.Spec PyProof.Rows L2 GG DD PT DL
/-! ### _law_pick -/
abbrev s_pick : Stmt := topS 9
theorem sc_pick : FnScope ["_law_deck_here", "_law_items"] ["_law_deck_here", "_law_items"] (defScope s_pick) := ⟨rfl, rfl, rfl, by decide +kernel, rfl, by decide +kernel, by decide +kernel⟩
def dB_pick (F_draw : FD) : DS := (dRet (dOp oIxQ (dVar 1) (dCall 2 F_draw (xDeck 0 (xCons (dLenD (dVar 1)) xNil)))))
theorem ok_pick {P : Program} {w : World} {K : PySem.W.Frag} {mg : Str → Option Value} {base : Heap} {f : Addr} {fd : FuncData} {k : Nat} {F_draw : FD} (F : L2.Fun K "_law_pick" "_law_pick" s_pick f fd)
    {k0 : Nat} (D_draw : Df P w K mg base k0 "_law_draw" ["_law_deck_here", "_law_count"] (spOf K 2 F_draw)) (m_len : mg "len" = none) (h_k0 : k0 ≤ k) :
    Fg P w K mg base (k + 1) f fd ["_law_deck_here", "_law_items"] (spOf K 2 (bodyD (dB_pick F_draw) 0)) :=
  okd (m := 2) rfl F sc_pick fun cdv A outer s H hr => ⟨_, (pss_one (ps_ret (pe_ix ix_seq (pv 1) (dcall D_draw (hr.mono (h_k0)) (by rfl) (pa_cons (pv 0) (pa_cons (pe_callB call_len_seq (by rfl) m_len (by decide +kernel) (pa_cons (pv 1) pa_nil)) pa_nil))) (fun _ _ => rfl)))),
    (rs_ret (re_op ro_ixQ (re_var (i := 1)) (re_call (rx_deck (i := 0) (rx_cons (re_lenD (re_var (i := 1))) rx_nil)))))⟩
/-! ### _law_rows -/
abbrev s_rows : Stmt := topS 11
theorem sc_rows : FnScope ["_law_deck_here", "_law_signs_here", "_law_most", "_law_found", "_law_count", "_law_k", "_law_word", "_law_fields", "_law_j"] ["_law_deck_here", "_law_signs_here", "_law_most"] (defScope s_rows) := ⟨rfl, rfl, rfl, by decide +kernel, rfl, by decide +kernel, by decide +kernel⟩
def dB_rows (F_pick : FD) (F_draw : FD) : DS := (dSeq (dParL 3 4 (dLst dNil) (dOp (oI0 fun i j => i + j) (dC (.int 1)) (dCall 2 F_draw (xDeck 0 (xCons (dVar 2) xNil))))) (dSeq (dFor (dRng1 (dVar 4)) (gdN 5) (dSeq (dAsg (dCall 2 F_pick (xDeck 0 (xCons (dVar 1) xNil))) (gdTup 2 (gdCons (gdN 6) (gdCons (gdN 7) gdNil)))) (dApp 3 (dTup (dCons (dVar 6) (dCons (dTupOf (dComp (dRng1 (dVar 7)) (gdN 8) dYes (dCall 2 F_draw (xDeck 0 (xCons (dVar 4) xNil))) [8])) dNil)))))) (dRet (dTupOf (dListVar 3)))))
theorem ok_rows {P : Program} {w : World} {K : PySem.W.Frag} {mg : Str → Option Value} {base : Heap} {f : Addr} {fd : FuncData} {k : Nat} {F_pick : FD} {F_draw : FD} (F : L2.Fun K "_law_rows" "_law_rows" s_rows f fd)
    {k0 : Nat} {k1 : Nat} (D_pick : Df P w K mg base k0 "_law_pick" ["_law_deck_here", "_law_items"] (spOf K 2 F_pick)) (D_draw : Df P w K mg base k1 "_law_draw" ["_law_deck_here", "_law_count"] (spOf K 2 F_draw)) (m_range : mg "range" = none) (m_tuple : mg "tuple" = none) (h_k0 : k0 ≤ k) (h_k1 : k1 ≤ k) :
    Fg P w K mg base (k + 1) f fd ["_law_deck_here", "_law_signs_here", "_law_most"] (spOf K 3 (bodyD (dB_rows F_pick F_draw) 6)) :=
  okd (m := 3) rfl F sc_rows fun cdv A outer s H hr => ⟨_, (pss_cons (ps_asg (pe_tupP (pa_cons (pe_lst pa_nil) (pa_cons (pe_op op_add pe_int (dcall D_draw (hr.mono (h_k1)) (by rfl) (pa_cons (pv 0) (pa_cons (pv 2) pa_nil)))) pa_nil))) (pg_tup rfl (pgs_cons (pg_name (i := 3) sc_rows.nd rfl (Or.inl rfl)) (pgs_cons (pg_name (i := 4) sc_rows.nd rfl (Or.inr rfl)) pgs_nil)))) (pss_cons (ps_for PassesOwn.never rfl (pi_range1 (by rfl) m_range (pa_cons (pv 4) pa_nil)) (pg_name (i := 5) sc_rows.nd rfl (Or.inl rfl)) (pss_cons (ps_asg (dcall D_pick (hr.mono (h_k0)) (by rfl) (pa_cons (pv 0) (pa_cons (pv 1) pa_nil))) (pg_tup rfl (pgs_cons (pg_name (i := 6) sc_rows.nd rfl (Or.inl rfl)) (pgs_cons (pg_name (i := 7) sc_rows.nd rfl (Or.inl rfl)) pgs_nil)))) (pss_one (ps_expr (pe_bm PySem.F.plainAttrs_list PySem.F.slot_list_append PySem.F.type_list_append mt_append (pv 3) (pa_cons (pe_tupP (pa_cons (pv 6) (pa_cons (pe_callTy call_tuple_ofP (by rfl) m_tuple (by decide +kernel) (pa_cons (pe_lc (own := [("_law_j", 8)]) (g := (gName 8)) rfl sc_rows.nd (pi_range1 (by rfl) m_range (pa_cons (pv 7) pa_nil)) (blkOk_by (own := [("_law_j", 8)]) (N := ["_law_deck_here", "_law_signs_here", "_law_most", "_law_found", "_law_count", "_law_k", "_law_word", "_law_fields", "_law_j"]) (sc := defScope s_rows) (by decide +kernel)) (fun _ _ _ _ _ => (pg_name (i := 8) sc_rows.nd rfl (Or.inl rfl))) (fun _ _ _ _ _ => pts_nil) (fun _ _ _ _ _ => (dcall D_draw (hr.mono (h_k1)) (by rfl) (pa_cons (pv 0) (pa_cons (pv 4) pa_nil))))) pa_nil)) pa_nil))) pa_nil)))))) (pss_one (ps_ret (pe_callTy call_tuple_ofP (by rfl) m_tuple (by decide +kernel) (pa_cons (pv 3) pa_nil)))))),
    (rs_seq (rs_tupL (i := 3) (j := 4) (rf_lst ra_nil) (re_op ro_I0 re_int (re_call (rx_deck (i := 0) (rx_cons (re_var (i := 2)) rx_nil))))) (rs_seq (rs_for (ri_rng1 (re_var (i := 4))) (rg_name (i := 5)) (rs_seq (rs_asg (re_call (rx_deck (i := 0) (rx_cons (re_var (i := 1)) rx_nil))) (rg_tup (rgs_cons (rg_name (i := 6)) (rgs_cons (rg_name (i := 7)) rgs_nil)))) (rs_app (i := 3) (re_tup (ra_cons (re_var (i := 6)) (ra_cons (re_tupL (rl_new (rf_comp (vs := [8]) (ri_rng1 (re_var (i := 7))) (rgv_name (i := 8) (by decide)) (gw_name (i := 8) (by decide)) rt_yes (re_call (rx_deck (i := 0) (rx_cons (re_var (i := 4)) rx_nil)))))) ra_nil)))))) (rs_ret (re_tupL (rl_var (i := 3))))))⟩
/-! ### _law_cut -/
abbrev s_cut : Stmt := topS 13
theorem sc_cut : FnScope ["_law_own", "_law_k", "_law_deep_here", "_law_word", "_law_fields", "_law_f"] ["_law_own", "_law_k", "_law_deep_here"] (defScope s_cut) := ⟨rfl, rfl, rfl, by decide +kernel, rfl, by decide +kernel, by decide +kernel⟩
def dB_cut (F_cut : FD) : DS := (dSeq (dAsg (dOp oIxU (dVar 0) (dVar 1)) (gdTup 2 (gdCons (gdN 3) (gdCons (gdN 4) gdNil)))) (dRet (dTup (dCons (dVar 3) (dCons (dTupOf (dComp (dAsU (dVar 4)) (gdN 5) dYes (dIfE (dB (dOp (oEq false) (dVar 2) (dC (.int 0)))) (dC .none) (dCall 3 F_cut (xCons (dVar 0) (xCons (dVar 5) (xCons (dOp (oI0 fun i j => i - j) (dVar 2) (dC (.int 1))) xNil))))) [5])) dNil)))))
theorem ok_cut {P : Program} {w : World} {K : PySem.W.Frag} {mg : Str → Option Value} {base : Heap} {f : Addr} {fd : FuncData} {k : Nat} {F_cut : FD} (F : L2.Fun K "_law_cut" "_law_cut" s_cut f fd)
    (D_cut : Df P w K mg base k "_law_cut" ["_law_own", "_law_k", "_law_deep_here"] (spOf K 3 F_cut)) (m_tuple : mg "tuple" = none)  :
    Fg P w K mg base (k + 1) f fd ["_law_own", "_law_k", "_law_deep_here"] (spOf K 3 (bodyD (dB_cut F_cut) 3)) :=
  okd (m := 3) rfl F sc_cut fun cdv A outer s H hr => ⟨_, (pss_cons (ps_asg (pe_ix ix_tup (pv 0) (pv 1) (fun _ _ => rfl)) (pg_tup rfl (pgs_cons (pg_name (i := 3) sc_cut.nd rfl (Or.inl rfl)) (pgs_cons (pg_name (i := 4) sc_cut.nd rfl (Or.inl rfl)) pgs_nil)))) (pss_one (ps_ret (pe_tupP (pa_cons (pv 3) (pa_cons (pe_callTy call_tuple_ofP (by rfl) m_tuple (by decide +kernel) (pa_cons (pe_lc (own := [("_law_f", 5)]) (g := (gName 5)) rfl sc_cut.nd (pi_tup (pv 4)) (blkOk_by (own := [("_law_f", 5)]) (N := ["_law_own", "_law_k", "_law_deep_here", "_law_word", "_law_fields", "_law_f"]) (sc := defScope s_cut) (by decide +kernel)) (fun _ _ _ _ _ => (pg_name (i := 5) sc_cut.nd rfl (Or.inl rfl))) (fun _ _ _ _ _ => pts_nil) (fun _ _ _ _ _ => (pe_ifExp (pt_cmpR op_eq (pv 2) pe_int (nomark _)) pe_non (dcall D_cut (hr.mono (Nat.le_refl _)) (by rfl) (pa_cons (pv 0) (pa_cons (pv 5) (pa_cons (pe_op op_sub (pv 2) pe_int) pa_nil))))))) pa_nil)) pa_nil)))))),
    (rs_seq (rs_asg (re_op ro_ixU (re_var (i := 0)) (re_var (i := 1))) (rg_tup (rgs_cons (rg_name (i := 3)) (rgs_cons (rg_name (i := 4)) rgs_nil)))) (rs_ret (re_tup (ra_cons (re_var (i := 3)) (ra_cons (re_tupL (rl_new (rf_comp (vs := [5]) (ri_tup (re_var (i := 4))) (rgv_name (i := 5) (by decide)) (gw_name (i := 5) (by decide)) rt_yes (re_if (rt_test (re_op ro_eq (re_var (i := 2)) re_int)) re_non (re_call (rx_cons (re_var (i := 0)) (rx_cons (re_var (i := 5)) (rx_cons (re_op ro_I0 (re_var (i := 2)) re_int) rx_nil)))))))) ra_nil)))))⟩
/-! ### _law_has_form -/
abbrev s_has_form : Stmt := topS 14
theorem sc_has_form : FnScope ["_law_counts", "_law_deep_here", "_law_it", "_law_field"] ["_law_counts", "_law_deep_here", "_law_it"] (defScope s_has_form) := ⟨rfl, rfl, rfl, by decide +kernel, rfl, by decide +kernel, by decide +kernel⟩
def dB_has_form (F_has_form : FD) : DS := (dSeq (dIf (dOr (dNot (dB (dIsi "tuple" (dVar 2)))) (dOr (dB (dOp (oEq true) (dLenL (dAsU (dVar 2))) (dC (.int 2)))) (dOr (dNot (dB (dIsi "str" (dOp oIxU (dVar 2) (dC (.int 0)))))) (dNot (dB (dIsi "tuple" (dOp oIxU (dVar 2) (dC (.int 1))))))))) (dRet (dC (.bool false))) dNext) (dSeq (dIf (dOr (dB (dDIn true (dOp oIxU (dVar 2) (dC (.int 0))) 0)) (dB (dOp (oEq true) (dLenL (dAsU (dOp oIxU (dVar 2) (dC (.int 1))))) (dDGet 0 (dOp oIxU (dVar 2) (dC (.int 0))))))) (dRet (dC (.bool false))) dNext) (dSeq (dIf (dB (dOp (oEq false) (dVar 1) (dC (.int 0)))) (dRet (dOp oEqMtL (dNewL (dComp (dAsU (dOp oIxU (dVar 2) (dC (.int 1)))) (gdN 3) (dB (dOp (oIsN true) (dVar 3) (dC .none))) (dVar 3) [3])) (dNewL (dLst dNil)))) dNext) (dRet (dOp oEqMtL (dNewL (dComp (dAsU (dOp oIxU (dVar 2) (dC (.int 1)))) (gdN 3) (dNot (dB (dCall 3 F_has_form (xCons (dVar 0) (xCons (dOp (oI0 fun i j => i - j) (dVar 1) (dC (.int 1))) (xCons (dVar 3) xNil)))))) (dVar 3) [3])) (dNewL (dLst dNil)))))))
theorem ok_has_form {P : Program} {w : World} {K : PySem.W.Frag} {mg : Str → Option Value} {base : Heap} {f : Addr} {fd : FuncData} {k : Nat} {F_has_form : FD} (F : L2.Fun K "_law_has_form" "_law_has_form" s_has_form f fd)
    (D_has_form : Df P w K mg base k "_law_has_form" ["_law_counts", "_law_deep_here", "_law_it"] (spOf K 3 F_has_form)) (m_isinstance : mg "isinstance" = none) (m_len : mg "len" = none) (m_str : mg "str" = none) (m_tuple : mg "tuple" = none)  :
    Fg P w K mg base (k + 1) f fd ["_law_counts", "_law_deep_here", "_law_it"] (spOf K 3 (bodyD (dB_has_form F_has_form) 1)) :=
  okd (m := 3) rfl F sc_has_form fun cdv A outer s H hr => ⟨_, (pss_cons (ps_if (PW.pt (pw_or (pt_not (pt_val (pe_callB call_isi (by rfl) m_isinstance (by decide +kernel) (pa_cons (pv 2) (pa_cons (pe_bltn (v := .ty "tuple") (by rfl) m_tuple (by decide +kernel) rfl) pa_nil))))) (pw_or (pt_cmpR op_ne (pe_callB call_len_seq (by rfl) m_len (by decide +kernel) (pa_cons (pv 2) pa_nil)) pe_int (nomark _)) (pw_or (pt_not (pt_val (pe_callB call_isi (by rfl) m_isinstance (by decide +kernel) (pa_cons (pe_ix ix_tup (pv 2) pe_int (fun _ _ => rfl)) (pa_cons (pe_bltn (v := .ty "str") (by rfl) m_str (by decide +kernel) rfl) pa_nil))))) (pw_or1 (pt_not (pt_val (pe_callB call_isi (by rfl) m_isinstance (by decide +kernel) (pa_cons (pe_ix ix_tup (pv 2) pe_int (fun _ _ => rfl)) (pa_cons (pe_bltn (v := .ty "tuple") (by rfl) m_tuple (by decide +kernel) rfl) pa_nil)))))))))) (pss_one (ps_ret pe_bl)) pss_nil) (pss_cons (ps_if (PW.pt (pw_or (pt_cmp (pc_dnotin (hu_of hr.room) (pe_ix ix_tup (pv 2) pe_int (fun _ _ => rfl)) (pv 0)) (by rfl)) (pw_or1 (pt_cmpR op_ne (pe_callB call_len_seq (by rfl) m_len (by decide +kernel) (pa_cons (pe_ix ix_tup (pv 2) pe_int (fun _ _ => rfl)) pa_nil)) (pe_dget (hu_of hr.room) (pv 0) (pe_ix ix_tup (pv 2) pe_int (fun _ _ => rfl)) (fun _ _ => rfl)) (nomark _))))) (pss_one (ps_ret pe_bl)) pss_nil) (pss_cons (ps_if (pt_cmpR op_eq (pv 1) pe_int (nomark _)) (pss_one (ps_ret (pe_cmpR (EMT.op_eqMtL hr.room.units) (pe_lc (own := [("_law_field", 3)]) (g := (gName 3)) rfl sc_has_form.nd (pi_tup (pe_ix ix_tup (pv 2) pe_int (fun _ _ => rfl))) (blkOk_by (own := [("_law_field", 3)]) (N := ["_law_counts", "_law_deep_here", "_law_it", "_law_field"]) (sc := defScope s_has_form) (by decide +kernel)) (fun _ _ _ _ _ => (pg_name (i := 3) sc_has_form.nd rfl (Or.inl rfl))) (fun _ _ _ _ _ => (pts_one (pt_cmpR op_notN (pv 3) pe_non (nomark _)))) (fun _ _ _ _ _ => (pv 3))) (pe_lst pa_nil) (nomark _)))) pss_nil) (pss_one (ps_ret (pe_cmpR (EMT.op_eqMtL hr.room.units) (pe_lc (own := [("_law_field", 3)]) (g := (gName 3)) rfl sc_has_form.nd (pi_tup (pe_ix ix_tup (pv 2) pe_int (fun _ _ => rfl))) (blkOk_by (own := [("_law_field", 3)]) (N := ["_law_counts", "_law_deep_here", "_law_it", "_law_field"]) (sc := defScope s_has_form) (by decide +kernel)) (fun _ _ _ _ _ => (pg_name (i := 3) sc_has_form.nd rfl (Or.inl rfl))) (fun _ _ _ _ _ => (pts_one (pt_not (pt_val (dcall D_has_form (hr.mono (Nat.le_refl _)) (by rfl) (pa_cons (pv 0) (pa_cons (pe_op op_sub (pv 1) pe_int) (pa_cons (pv 3) pa_nil)))))))) (fun _ _ _ _ _ => (pv 3))) (pe_lst pa_nil) (nomark _))))))),
    (rs_seq (rs_if (rt_or (rt_not (rt_val (re_isi (n := "tuple") (re_var (i := 2))))) (rt_or (rt_test (re_op ro_ne (re_lenU (ru_of (re_var (i := 2)))) re_int)) (rt_or (rt_not (rt_val (re_isi (n := "str") (re_op ro_ixU (re_var (i := 2)) re_int)))) (rt_not (rt_val (re_isi (n := "tuple") (re_op ro_ixU (re_var (i := 2)) re_int))))))) (rs_ret re_bl) rs_next) (rs_seq (rs_if (rt_or (rt_val (re_dNotIn (i := 0) (re_op ro_ixU (re_var (i := 2)) re_int))) (rt_test (re_op ro_ne (re_lenU (ru_of (re_op ro_ixU (re_var (i := 2)) re_int))) (re_dGet (i := 0) (re_op ro_ixU (re_var (i := 2)) re_int))))) (rs_ret re_bl) rs_next) (rs_seq (rs_if (rt_test (re_op ro_eq (re_var (i := 1)) re_int)) (rs_ret (re_op ro_eqMtL (re_new (rf_comp (vs := [3]) (ri_tup (re_op ro_ixU (re_var (i := 2)) re_int)) (rgv_name (i := 3) (by decide)) (gw_name (i := 3) (by decide)) (rt_test (re_op ro_notN (re_var (i := 3)) re_non)) (re_var (i := 3)))) (re_new (rf_lst ra_nil)))) rs_next) (rs_ret (re_op ro_eqMtL (re_new (rf_comp (vs := [3]) (ri_tup (re_op ro_ixU (re_var (i := 2)) re_int)) (rgv_name (i := 3) (by decide)) (gw_name (i := 3) (by decide)) (rt_not (rt_val (re_call (rx_cons (re_var (i := 0)) (rx_cons (re_op ro_I0 (re_var (i := 1)) re_int) (rx_cons (re_var (i := 3)) rx_nil)))))) (re_var (i := 3)))) (re_new (rf_lst ra_nil)))))))⟩
/-! ### _law_bent -/
abbrev s_bent : Stmt := topS 16
theorem sc_bent : FnScope ["_law_deck_here", "_law_signs_here", "_law_it", "_law_at"] ["_law_deck_here", "_law_signs_here", "_law_it"] (defScope s_bent) := ⟨rfl, rfl, rfl, by decide +kernel, rfl, by decide +kernel, by decide +kernel⟩
def dB_bent (F_draw : FD) (F_odd : FD) (F_bent : FD) : DS := (dSeq (dIf (dOr (dNot (dB (dIsi "tuple" (dVar 2)))) (dOr (dB (dOp oEqMt (dVar 2) (dTup dNil))) (dB (dOp (oEq false) (dCall 2 F_draw (xDeck 0 (xCons (dC (.int 5)) xNil))) (dC (.int 0)))))) (dRet (dCall 3 F_odd (xDeck 0 (xCons (dVar 1) (xCons (dVar 2) xNil))))) dNext) (dSeq (dSet (dCall 2 F_draw (xDeck 0 (xCons (dLenL (dAsU (dVar 2))) xNil))) 3) (dSeq (dIf (dB (dOp (oEq false) (dCall 2 F_draw (xDeck 0 (xCons (dC (.int 8)) xNil))) (dC (.int 0)))) (dRet (dOp oCatU (dSlU (dVar 2) dNoP (dPart (dVar 3))) (dSlU (dVar 2) (dPart (dOp (oI0 fun i j => i + j) (dVar 3) (dC (.int 1)))) dNoP))) dNext) (dRet (dOp oCatU (dOp oCatU (dSlU (dVar 2) dNoP (dPart (dVar 3))) (dTup (dCons (dCall 3 F_bent (xDeck 0 (xCons (dVar 1) (xCons (dOp oIxU (dVar 2) (dVar 3)) xNil)))) dNil))) (dSlU (dVar 2) (dPart (dOp (oI0 fun i j => i + j) (dVar 3) (dC (.int 1)))) dNoP))))))
theorem ok_bent {P : Program} {w : World} {K : PySem.W.Frag} {mg : Str → Option Value} {base : Heap} {f : Addr} {fd : FuncData} {k : Nat} {F_draw : FD} {F_odd : FD} {F_bent : FD} (F : L2.Fun K "_law_bent" "_law_bent" s_bent f fd)
    {k0 : Nat} {k1 : Nat} (D_draw : Df P w K mg base k0 "_law_draw" ["_law_deck_here", "_law_count"] (spOf K 2 F_draw)) (D_odd : Df P w K mg base k1 "_law_odd" ["_law_deck_here", "_law_signs_here", "_law_it"] (spOf K 3 F_odd)) (D_bent : Df P w K mg base k "_law_bent" ["_law_deck_here", "_law_signs_here", "_law_it"] (spOf K 3 F_bent)) (m_isinstance : mg "isinstance" = none) (m_len : mg "len" = none) (m_tuple : mg "tuple" = none) (h_k0 : k0 ≤ k) (h_k1 : k1 ≤ k) :
    Fg P w K mg base (k + 1) f fd ["_law_deck_here", "_law_signs_here", "_law_it"] (spOf K 3 (bodyD (dB_bent F_draw F_odd F_bent) 1)) :=
  okd (m := 3) rfl F sc_bent fun cdv A outer s H hr => ⟨_, (pss_cons (ps_if (PW.pt (pw_or (pt_not (pt_val (pe_callB call_isi (by rfl) m_isinstance (by decide +kernel) (pa_cons (pv 2) (pa_cons (pe_bltn (v := .ty "tuple") (by rfl) m_tuple (by decide +kernel) rfl) pa_nil))))) (pw_or (pt_cmpR (EMT.op_eqMt hr.room.units) (pv 2) (pe_tupP pa_nil) (nomark _)) (pw_or1 (pt_cmpR op_eq (dcall D_draw (hr.mono (h_k0)) (by rfl) (pa_cons (pv 0) (pa_cons pe_int pa_nil))) pe_int (nomark _)))))) (pss_one (ps_ret (dcall D_odd (hr.mono (h_k1)) (by rfl) (pa_cons (pv 0) (pa_cons (pv 1) (pa_cons (pv 2) pa_nil)))))) pss_nil) (pss_cons (ps_set (i := 3) sc_bent.nd rfl (Or.inl rfl) (dcall D_draw (hr.mono (h_k0)) (by rfl) (pa_cons (pv 0) (pa_cons (pe_callB call_len_seq (by rfl) m_len (by decide +kernel) (pa_cons (pv 2) pa_nil)) pa_nil)))) (pss_cons (ps_if (pt_cmpR op_eq (dcall D_draw (hr.mono (h_k0)) (by rfl) (pa_cons (pv 0) (pa_cons pe_int pa_nil))) pe_int (nomark _)) (pss_one (ps_ret (pe_op op_catP (pe_slice sl_tupP (pv 2) po_none (po_some (pv 3))) (pe_slice sl_tupP (pv 2) (po_some (pe_op op_add (pv 3) pe_int)) po_none)))) pss_nil) (pss_one (ps_ret (pe_op op_catP (pe_op op_catP (pe_slice sl_tupP (pv 2) po_none (po_some (pv 3))) (pe_tupP (pa_cons (dcall D_bent (hr.mono (Nat.le_refl _)) (by rfl) (pa_cons (pv 0) (pa_cons (pv 1) (pa_cons (pe_ix ix_tup (pv 2) (pv 3) (fun _ _ => rfl)) pa_nil)))) pa_nil))) (pe_slice sl_tupP (pv 2) (po_some (pe_op op_add (pv 3) pe_int)) po_none))))))),
    (rs_seq (rs_if (rt_or (rt_not (rt_val (re_isi (n := "tuple") (re_var (i := 2))))) (rt_or (rt_test (re_op ro_eqMt (re_var (i := 2)) (re_tup ra_nil))) (rt_test (re_op ro_eq (re_call (rx_deck (i := 0) (rx_cons re_int rx_nil))) re_int)))) (rs_ret (re_call (rx_deck (i := 0) (rx_cons (re_var (i := 1)) (rx_cons (re_var (i := 2)) rx_nil))))) rs_next) (rs_seq (rs_set (i := 3) (re_call (rx_deck (i := 0) (rx_cons (re_lenU (ru_of (re_var (i := 2)))) rx_nil)))) (rs_seq (rs_if (rt_test (re_op ro_eq (re_call (rx_deck (i := 0) (rx_cons re_int rx_nil))) re_int)) (rs_ret (re_op ro_catU (re_slU (re_var (i := 2)) rp_no (rp_of (re_var (i := 3)))) (re_slU (re_var (i := 2)) (rp_of (re_op ro_I0 (re_var (i := 3)) re_int)) rp_no))) rs_next) (rs_ret (re_op ro_catU (re_op ro_catU (re_slU (re_var (i := 2)) rp_no (rp_of (re_var (i := 3)))) (re_tup (ra_cons (re_call (rx_deck (i := 0) (rx_cons (re_var (i := 1)) (rx_cons (re_op ro_ixU (re_var (i := 2)) (re_var (i := 3))) rx_nil)))) ra_nil))) (re_slU (re_var (i := 2)) (rp_of (re_op ro_I0 (re_var (i := 3)) re_int)) rp_no))))))⟩
/-! ### _law_odd -/
abbrev s_odd : Stmt := topS 15
theorem sc_odd : FnScope ["_law_deck_here", "_law_signs_here", "_law_it", "_law_word", "_law_fields", "_law_some"] ["_law_deck_here", "_law_signs_here", "_law_it"] (defScope s_odd) := ⟨rfl, rfl, rfl, by decide +kernel, rfl, by decide +kernel, by decide +kernel⟩
def dB_odd (F_pick : FD) : DS := (dSeq (dAsg (dCall 2 F_pick (xDeck 0 (xCons (dVar 1) xNil))) (gdTup 2 (gdCons (gdN 3) (gdCons (gdN 4) gdNil)))) (dSeq (dSet (dNewL (dLst (dCons (dC .none) (dCons (dTup dNil) (dCons (dNewL (dLst dNil)) (dCons (dNewD dDict0) (dCons (dC (.int 0)) (dCons (dC (.bool true)) (dCons (dC (.str "void")) (dCons (dVar 3) (dCons (dTup (dCons (dVar 3) (dCons (dOp oRepU (dTup (dCons (dC .none) dNil)) (dVar 4)) dNil))) (dCons (dTup (dCons (dVar 3) (dCons (dNewL (dRep (dNewL (dLst (dCons (dC .none) dNil))) (dVar 4))) dNil))) (dCons (dTup (dCons (dVar 3) (dCons (dC .none) dNil))) dNil))))))))))))) 5) (dSeq (dSet (dNewL (dCat (dVar 5) (dNewL (dLst (dCons (dTup (dCons (dVar 3) dNil)) (dCons (dTup (dCons (dC (.str "void")) (dCons (dTup dNil) dNil))) (dCons (dTup (dCons (dC (.str "void")) (dCons (dTup (dCons (dC .none) dNil)) dNil))) (dCons (dTup (dCons (dC (.str "nothing")) (dCons (dTup dNil) dNil))) (dCons (dTup (dCons (dC (.str "")) (dCons (dTup dNil) dNil))) (dCons (dTup (dCons (dVar 3) (dCons (dOp oRepU (dTup (dCons (dC (.bool false)) dNil)) (dVar 4)) dNil))) dNil)))))))))) 5) (dRet (dCall 2 F_pick (xDeck 0 (xCons (dNewL (dCat (dVar 5) (dNewL (dLst (dCons (dTup (dCons (dVar 2) dNil)) (dCons (dTup (dCons (dVar 3) (dCons (dOp oRepU (dTup (dCons (dTup (dCons (dVar 3) (dCons (dOp oRepU (dTup (dCons (dC .none) dNil)) (dVar 4)) dNil))) dNil)) (dVar 4)) dNil))) (dCons (dNewL (dLst (dCons (dVar 2) (dCons (dVar 2) dNil)))) (dCons (dTup (dCons (dVar 2) (dCons (dVar 2) dNil))) dNil)))))))) xNil)))))))
theorem ok_odd {P : Program} {w : World} {K : PySem.W.Frag} {mg : Str → Option Value} {base : Heap} {f : Addr} {fd : FuncData} {k : Nat} {F_pick : FD} (F : L2.Fun K "_law_odd" "_law_odd" s_odd f fd)
    {k0 : Nat} (D_pick : Df P w K mg base k0 "_law_pick" ["_law_deck_here", "_law_items"] (spOf K 2 F_pick)) (h_k0 : k0 ≤ k) :
    Fg P w K mg base (k + 1) f fd ["_law_deck_here", "_law_signs_here", "_law_it"] (spOf K 3 (bodyD (dB_odd F_pick) 3)) :=
  okd (m := 3) rfl F sc_odd fun cdv A outer s H hr => ⟨_, (pss_cons (ps_asg (dcall D_pick (hr.mono (h_k0)) (by rfl) (pa_cons (pv 0) (pa_cons (pv 1) pa_nil))) (pg_tup rfl (pgs_cons (pg_name (i := 3) sc_odd.nd rfl (Or.inl rfl)) (pgs_cons (pg_name (i := 4) sc_odd.nd rfl (Or.inl rfl)) pgs_nil)))) (pss_cons (ps_set (i := 5) sc_odd.nd rfl (Or.inl rfl) (pe_lst (pa_cons pe_non (pa_cons (pe_tupP pa_nil) (pa_cons (pe_lst pa_nil) (pa_cons pe_dnewK (pa_cons pe_int (pa_cons pe_bl (pa_cons pe_str (pa_cons (pv 3) (pa_cons (pe_tupP (pa_cons (pv 3) (pa_cons (pe_op op_repP (pe_tupP (pa_cons pe_non pa_nil)) (pv 4)) pa_nil))) (pa_cons (pe_tupP (pa_cons (pv 3) (pa_cons (pe_op op_rep (pe_lst (pa_cons pe_non pa_nil)) (pv 4)) pa_nil))) (pa_cons (pe_tupP (pa_cons (pv 3) (pa_cons pe_non pa_nil))) pa_nil))))))))))))) (pss_cons (ps_set (i := 5) sc_odd.nd rfl (Or.inl rfl) (pe_op op_cat (pv 5) (pe_lst (pa_cons (pe_tupP (pa_cons (pv 3) pa_nil)) (pa_cons (pe_tupP (pa_cons pe_str (pa_cons (pe_tupP pa_nil) pa_nil))) (pa_cons (pe_tupP (pa_cons pe_str (pa_cons (pe_tupP (pa_cons pe_non pa_nil)) pa_nil))) (pa_cons (pe_tupP (pa_cons pe_str (pa_cons (pe_tupP pa_nil) pa_nil))) (pa_cons (pe_tupP (pa_cons pe_str (pa_cons (pe_tupP pa_nil) pa_nil))) (pa_cons (pe_tupP (pa_cons (pv 3) (pa_cons (pe_op op_repP (pe_tupP (pa_cons pe_bl pa_nil)) (pv 4)) pa_nil))) pa_nil))))))))) (pss_one (ps_ret (dcall D_pick (hr.mono (h_k0)) (by rfl) (pa_cons (pv 0) (pa_cons (pe_op op_cat (pv 5) (pe_lst (pa_cons (pe_tupP (pa_cons (pv 2) pa_nil)) (pa_cons (pe_tupP (pa_cons (pv 3) (pa_cons (pe_op op_repP (pe_tupP (pa_cons (pe_tupP (pa_cons (pv 3) (pa_cons (pe_op op_repP (pe_tupP (pa_cons pe_non pa_nil)) (pv 4)) pa_nil))) pa_nil)) (pv 4)) pa_nil))) (pa_cons (pe_lst (pa_cons (pv 2) (pa_cons (pv 2) pa_nil))) (pa_cons (pe_tupP (pa_cons (pv 2) (pa_cons (pv 2) pa_nil))) pa_nil)))))) pa_nil)))))))),
    (rs_seq (rs_asg (re_call (rx_deck (i := 0) (rx_cons (re_var (i := 1)) rx_nil))) (rg_tup (rgs_cons (rg_name (i := 3)) (rgs_cons (rg_name (i := 4)) rgs_nil)))) (rs_seq (rs_set (i := 5) (re_new (rf_lst (ra_cons re_non (ra_cons (re_tup ra_nil) (ra_cons (re_new (rf_lst ra_nil)) (ra_cons (re_newD rd_dict0) (ra_cons re_int (ra_cons re_bl (ra_cons re_str (ra_cons (re_var (i := 3)) (ra_cons (re_tup (ra_cons (re_var (i := 3)) (ra_cons (re_op ro_repU (re_tup (ra_cons re_non ra_nil)) (re_var (i := 4))) ra_nil))) (ra_cons (re_tup (ra_cons (re_var (i := 3)) (ra_cons (re_new (rf_rep (re_new (rf_lst (ra_cons re_non ra_nil))) (re_var (i := 4)))) ra_nil))) (ra_cons (re_tup (ra_cons (re_var (i := 3)) (ra_cons re_non ra_nil))) ra_nil)))))))))))))) (rs_seq (rs_set (i := 5) (re_new (rf_cat (re_var (i := 5)) (re_new (rf_lst (ra_cons (re_tup (ra_cons (re_var (i := 3)) ra_nil)) (ra_cons (re_tup (ra_cons re_str (ra_cons (re_tup ra_nil) ra_nil))) (ra_cons (re_tup (ra_cons re_str (ra_cons (re_tup (ra_cons re_non ra_nil)) ra_nil))) (ra_cons (re_tup (ra_cons re_str (ra_cons (re_tup ra_nil) ra_nil))) (ra_cons (re_tup (ra_cons re_str (ra_cons (re_tup ra_nil) ra_nil))) (ra_cons (re_tup (ra_cons (re_var (i := 3)) (ra_cons (re_op ro_repU (re_tup (ra_cons re_bl ra_nil)) (re_var (i := 4))) ra_nil))) ra_nil))))))))))) (rs_ret (re_call (rx_deck (i := 0) (rx_cons (re_new (rf_cat (re_var (i := 5)) (re_new (rf_lst (ra_cons (re_tup (ra_cons (re_var (i := 2)) ra_nil)) (ra_cons (re_tup (ra_cons (re_var (i := 3)) (ra_cons (re_op ro_repU (re_tup (ra_cons (re_tup (ra_cons (re_var (i := 3)) (ra_cons (re_op ro_repU (re_tup (ra_cons re_non ra_nil)) (re_var (i := 4))) ra_nil))) ra_nil)) (re_var (i := 4))) ra_nil))) (ra_cons (re_new (rf_lst (ra_cons (re_var (i := 2)) (ra_cons (re_var (i := 2)) ra_nil)))) (ra_cons (re_tup (ra_cons (re_var (i := 2)) (ra_cons (re_var (i := 2)) ra_nil))) ra_nil)))))))) rx_nil)))))))⟩
/-! ### _law_deep -/
abbrev s_deep : Stmt := topS 17
theorem sc_deep : FnScope ["_law_signs_here", "_law_count", "_law_found", "_law_k", "_law_word", "_law_fields", "_law_sign"] ["_law_signs_here", "_law_count"] (defScope s_deep) := ⟨rfl, rfl, rfl, by decide +kernel, rfl, by decide +kernel, by decide +kernel⟩
def dB_deep  : DS := (dSeq (dSet (dC .none) 2) (dSeq (dFor (dRng1 (dVar 1)) (gdN 3) (dSeq (dAsg (dOp oIxL (dNewL (dComp (dAsU (dVar 0)) (gdN 6) (dB (dOp (oB0 fun i j => decide (j < i)) (dOp oIxU (dVar 6) (dC (.int 1))) (dC (.int 0)))) (dVar 6) [6])) (dC (.int 0))) (gdTup 2 (gdCons (gdN 4) (gdCons (gdN 5) gdNil)))) (dSet (dTup (dCons (dVar 4) (dCons (dOp oCatU (dTup (dCons (dVar 2) dNil)) (dOp oRepU (dTup (dCons (dC .none) dNil)) (dOp (oI0 fun i j => i - j) (dVar 5) (dC (.int 1))))) dNil))) 2))) (dRet (dNewL (dLst (dCons (dVar 2) (dCons (dNewL (dLst (dCons (dNewL (dLst (dCons (dNewL (dLst (dCons (dNewL (dLst (dCons (dVar 2) dNil))) dNil))) dNil))) dNil))) (dCons (dNewD (dDisp (dPsCons (dC (.str "a")) (dTup (dCons (dVar 2) dNil)) dPsNil))) dNil))))))))
theorem ok_deep {P : Program} {w : World} {K : PySem.W.Frag} {mg : Str → Option Value} {base : Heap} {f : Addr} {fd : FuncData} {k : Nat}  (F : L2.Fun K "_law_deep" "_law_deep" s_deep f fd)
    (m_range : mg "range" = none)  :
    Fg P w K mg base (k + 1) f fd ["_law_signs_here", "_law_count"] (spOf K 2 (bodyD (dB_deep ) 5)) :=
  okd (m := 2) rfl F sc_deep fun cdv A outer s H hr => ⟨_, (pss_cons (ps_set (i := 2) sc_deep.nd rfl (Or.inl rfl) pe_non) (pss_cons (ps_for PassesOwn.never rfl (pi_range1 (by rfl) m_range (pa_cons (pv 1) pa_nil)) (pg_name (i := 3) sc_deep.nd rfl (Or.inl rfl)) (pss_cons (ps_asg (pe_ix ix_list (pe_lc (own := [("_law_sign", 6)]) (g := (gName 6)) rfl sc_deep.nd (pi_tup (pv 0)) (blkOk_by (own := [("_law_sign", 6)]) (N := ["_law_signs_here", "_law_count", "_law_found", "_law_k", "_law_word", "_law_fields", "_law_sign"]) (sc := defScope s_deep) (by decide +kernel)) (fun _ _ _ _ _ => (pg_name (i := 6) sc_deep.nd rfl (Or.inl rfl))) (fun _ _ _ _ _ => (pts_one (pt_cmpR op_gt (pe_ix ix_tup (pv 6) pe_int (fun _ _ => rfl)) pe_int (nomark _)))) (fun _ _ _ _ _ => (pv 6))) pe_int (fun _ _ => rfl)) (pg_tup rfl (pgs_cons (pg_name (i := 4) sc_deep.nd rfl (Or.inl rfl)) (pgs_cons (pg_name (i := 5) sc_deep.nd rfl (Or.inl rfl)) pgs_nil)))) (pss_one (ps_set (i := 2) sc_deep.nd rfl (Or.inl rfl) (pe_tupP (pa_cons (pv 4) (pa_cons (pe_op op_catP (pe_tupP (pa_cons (pv 2) pa_nil)) (pe_op op_repP (pe_tupP (pa_cons pe_non pa_nil)) (pe_op op_sub (pv 5) pe_int))) pa_nil))))))) (pss_one (ps_ret (pe_lst (pa_cons (pv 2) (pa_cons (pe_lst (pa_cons (pe_lst (pa_cons (pe_lst (pa_cons (pe_lst (pa_cons (pv 2) pa_nil)) pa_nil)) pa_nil)) pa_nil)) (pa_cons (pe_disp (pps_cons pe_str (pe_tupP (pa_cons (pv 2) pa_nil)) pps_nil) (by rfl) (by rfl) (fun z => by cases z) (by decide)) pa_nil)))))))),
    (rs_seq (rs_set (i := 2) re_non) (rs_seq (rs_for (ri_rng1 (re_var (i := 1))) (rg_name (i := 3)) (rs_seq (rs_asg (re_op ro_ixL (re_new (rf_comp (vs := [6]) (ri_tup (re_var (i := 0))) (rgv_name (i := 6) (by decide)) (gw_name (i := 6) (by decide)) (rt_test (re_op ro_B0 (re_op ro_ixU (re_var (i := 6)) re_int) re_int)) (re_var (i := 6)))) re_int) (rg_tup (rgs_cons (rg_name (i := 4)) (rgs_cons (rg_name (i := 5)) rgs_nil)))) (rs_set (i := 2) (re_tup (ra_cons (re_var (i := 4)) (ra_cons (re_op ro_catU (re_tup (ra_cons (re_var (i := 2)) ra_nil)) (re_op ro_repU (re_tup (ra_cons re_non ra_nil)) (re_op ro_I0 (re_var (i := 5)) re_int))) ra_nil)))))) (rs_ret (re_new (rf_lst (ra_cons (re_var (i := 2)) (ra_cons (re_new (rf_lst (ra_cons (re_new (rf_lst (ra_cons (re_new (rf_lst (ra_cons (re_new (rf_lst (ra_cons (re_var (i := 2)) ra_nil))) ra_nil))) ra_nil))) ra_nil))) (ra_cons (re_newD (rd_disp (rps_cons re_str (re_tup (ra_cons (re_var (i := 2)) ra_nil)) rps_nil))) ra_nil))))))))⟩
/-! ### _law_recognized -/
abbrev s_recognized : Stmt := topS 18
theorem sc_recognized : FnScope ["_law_signs_here", "_law_deep_here", "_law_it", "_law_counts", "_law_kept", "_law_due", "_law_listed", "_law_told", "_law_sign"] ["_law_signs_here", "_law_deep_here", "_law_it"] (defScope s_recognized) := ⟨rfl, rfl, rfl, by decide +kernel, rfl, by decide +kernel, by decide +kernel⟩
def dB_recognized (F_has_form : FD) (F_is_top : FD) : DS := (dSeq (dPar 3 4 (dCons (dNewD (dDictL (dCat (dNewL (dAsU (dVar 0))) (dNewL (dLst (dCons (dTup (dCons (dC (.str "void")) (dCons (dC (.int 0)) dNil))) dNil)))))) (dCons (dReprA (dVar 2)) dNil))) (dSeq (dPar 5 6 (dCons (dCall 3 F_has_form (xCons (dVar 3) (xCons (dVar 1) (xCons (dVar 2) xNil)))) (dCons (dTupOf (dComp (dAsU (dVar 0)) (gdN 8) (dB (dOp (oEq true) (dOp oIxU (dVar 8) (dC (.int 0))) (dC (.str "void")))) (dVar 8) [8])) dNil))) (dSeq (dSet (dNewL (dLst (dCons (dCall 3 F_is_top (xCons (dVar 6) (xCons (dVar 1) (xCons (dVar 2) xNil)))) (dCons (dCallP 3 F_is_top [2, 1, 0] 3 (xCons (dVar 2) (xCons (dVar 1) (xCons (dVar 6) xNil)))) dNil)))) 7) (dRet (dAndV (dOp (oEq false) (dReprA (dVar 7)) (dReprA (dNewL (dLst (dCons (dVar 5) (dCons (dVar 5) dNil)))))) (dOp (oEq false) (dReprA (dVar 2)) (dVar 4)))))))
theorem ok_recognized {P : Program} {w : World} {K : PySem.W.Frag} {mg : Str → Option Value} {base : Heap} {f : Addr} {fd : FuncData} {k : Nat} {F_has_form : FD} {F_is_top : FD} (F : L2.Fun K "_law_recognized" "_law_recognized" s_recognized f fd)
    {k0 : Nat} {k1 : Nat} (D_has_form : Df P w K mg base k0 "_law_has_form" ["_law_counts", "_law_deep_here", "_law_it"] (spOf K 3 F_has_form)) (D_is_top : Df P w K mg base k1 "is_top" ["signature", "depth", "thing"] (spOf K 3 F_is_top)) (DK_is_top_thing_depth_signature : DfK P w K mg base k1 "is_top" ["signature", "depth", "thing"] ["thing", "depth", "signature"] [2, 1, 0] (spOf K 3 F_is_top)) (m_dict : mg "dict" = none) (m_list : mg "list" = none) (m_repr : mg "repr" = none) (m_tuple : mg "tuple" = none) (sys : SysK K) (h_k0 : k0 ≤ k) (h_k1 : k1 ≤ k) :
    Fg P w K mg base (k + 1) f fd ["_law_signs_here", "_law_deep_here", "_law_it"] (spOf K 3 (bodyD (dB_recognized F_has_form F_is_top) 6)) :=
  okd (m := 3) rfl F sc_recognized fun cdv A outer s H hr => ⟨_, (pss_cons (ps_par (i := 3) (j := 4) (by rfl) sc_recognized.nd rfl rfl (by decide) rfl rfl (pa_cons (pe_callTy (call_dictP rfl) (by rfl) m_dict (by decide +kernel) (pa_cons (pe_op op_cat (pe_callTy call_list_of (by rfl) m_list (by decide +kernel) (pa_cons (pv 0) pa_nil)) (pe_lst (pa_cons (pe_tupP (pa_cons pe_str (pa_cons pe_int pa_nil))) pa_nil))) pa_nil)) (pa_cons (pe_callB (call_reprA hr sys) (by rfl) m_repr (by decide +kernel) (pa_cons (pv 2) pa_nil)) pa_nil)) (by rfl)) (pss_cons (ps_par (i := 5) (j := 6) (by rfl) sc_recognized.nd rfl rfl (by decide) rfl rfl (pa_cons (dcall D_has_form (hr.mono (h_k0)) (by rfl) (pa_cons (pv 3) (pa_cons (pv 1) (pa_cons (pv 2) pa_nil)))) (pa_cons (pe_callTy call_tuple_ofP (by rfl) m_tuple (by decide +kernel) (pa_cons (pe_lc (own := [("_law_sign", 8)]) (g := (gName 8)) rfl sc_recognized.nd (pi_tup (pv 0)) (blkOk_by (own := [("_law_sign", 8)]) (N := ["_law_signs_here", "_law_deep_here", "_law_it", "_law_counts", "_law_kept", "_law_due", "_law_listed", "_law_told", "_law_sign"]) (sc := defScope s_recognized) (by decide +kernel)) (fun _ _ _ _ _ => (pg_name (i := 8) sc_recognized.nd rfl (Or.inl rfl))) (fun _ _ _ _ _ => (pts_one (pt_cmpR op_ne (pe_ix ix_tup (pv 8) pe_int (fun _ _ => rfl)) pe_str (nomark _)))) (fun _ _ _ _ _ => (pv 8))) pa_nil)) pa_nil)) (by rfl)) (pss_cons (ps_set (i := 7) sc_recognized.nd rfl (Or.inl rfl) (pe_lst (pa_cons (dcall D_is_top (hr.mono (h_k1)) (by rfl) (pa_cons (pv 6) (pa_cons (pv 1) (pa_cons (pv 2) pa_nil)))) (pa_cons (kcall DK_is_top_thing_depth_signature (hr.mono (h_k1)) (by rfl) (pk_cons (pv 2) (pk_cons (pv 1) (pk_cons (pv 6) pk_nil)))) pa_nil)))) (pss_one (ps_ret (pe_and (pe_cmpR op_eq (pe_callB (call_reprA hr sys) (by rfl) m_repr (by decide +kernel) (pa_cons (pv 7) pa_nil)) (pe_callB (call_reprA hr sys) (by rfl) m_repr (by decide +kernel) (pa_cons (pe_lst (pa_cons (pv 5) (pa_cons (pv 5) pa_nil))) pa_nil)) (nomark _)) (pe_one (pe_cmpR op_eq (pe_callB (call_reprA hr sys) (by rfl) m_repr (by decide +kernel) (pa_cons (pv 2) pa_nil)) (pv 4) (nomark _))))))))),
    (rs_seq (rs_par (i := 3) (j := 4) (ra_cons (re_newD (rd_dictL (rl_new (rf_cat (re_new (rf_listU (ru_of (re_var (i := 0))))) (re_new (rf_lst (ra_cons (re_tup (ra_cons re_str (ra_cons re_int ra_nil))) ra_nil))))))) (ra_cons (re_reprA (re_var (i := 2))) ra_nil))) (rs_seq (rs_par (i := 5) (j := 6) (ra_cons (re_call (rx_cons (re_var (i := 3)) (rx_cons (re_var (i := 1)) (rx_cons (re_var (i := 2)) rx_nil)))) (ra_cons (re_tupL (rl_new (rf_comp (vs := [8]) (ri_tup (re_var (i := 0))) (rgv_name (i := 8) (by decide)) (gw_name (i := 8) (by decide)) (rt_test (re_op ro_ne (re_op ro_ixU (re_var (i := 8)) re_int) re_str)) (re_var (i := 8))))) ra_nil))) (rs_seq (rs_set (i := 7) (re_new (rf_lst (ra_cons (re_call (rx_cons (re_var (i := 6)) (rx_cons (re_var (i := 1)) (rx_cons (re_var (i := 2)) rx_nil)))) (ra_cons (re_callP (π := [2, 1, 0]) (n := 3) (rx_cons (re_var (i := 2)) (rx_cons (re_var (i := 1)) (rx_cons (re_var (i := 6)) rx_nil)))) ra_nil))))) (rs_ret (re_and (re_op ro_eq (re_reprA (re_var (i := 7))) (re_reprA (re_new (rf_lst (ra_cons (re_var (i := 5)) (ra_cons (re_var (i := 5)) ra_nil)))))) (re_op ro_eq (re_reprA (re_var (i := 2))) (re_var (i := 4))))))))⟩
end K09


set_option Elab.async false
set_option linter.all false
set_option maxRecDepth 100000
set_option maxHeartbeats 4000000
namespace K09
open PySem PySem.Spec PyProof.Rows L2 GG DD PT DL
/-! ### _law_again -/
abbrev s_again : Stmt := topS 12
theorem sc_again : FnScope ["_law_deck_here", "_law_own", "_law_old", "_law_left", "_law_found", "_law_k", "_law_word", "_law_fields", "_law_places", "_law_f", "_law_at", "_law_row", "_law_some"] ["_law_deck_here", "_law_own"] (defScope s_again) := ⟨rfl, rfl, rfl, by decide +kernel, rfl, by decide +kernel, by decide +kernel⟩
def dB_again (F_draw : FD) (F_pick : FD) : DS := (dSeq (dSetO (dCat (dNewL (dLst (dCons (dC (.int 0)) dNil))) (dNewL (dComp (dRng1 (dLenL (dAsU (dVar 1)))) (gdN 5) (dB (dOp (oEq false) (dCall 2 F_draw (xDeck 0 (xCons (dC (.int 2)) xNil))) (dC (.int 1)))) (dVar 5) [5]))) 2) (dSeq (dSetO (dListRng (dLenL (dAsU (dVar 1)))) 3) (dSeq (dWhile (dB (dVsNil true 3)) (dApp 2 (dPopAt 3 (dCall 2 F_draw (xDeck 0 (xCons (dLenL (dListVar 3)) xNil)))))) (dSeq (dSetO (dLst dNil) 4) (dSeq (dFreeze 2 (dFor (dAsL (dVar 2)) (gdN 5) (dSeq (dAsg (dOp oIxU (dVar 1) (dVar 5)) (gdTup 2 (gdCons (gdN 6) (gdCons (gdN 7) gdNil)))) (dSeq (dSet (dNewL (dComp (dAsU (dVar 7)) (gdN 9) dYes (dNewL (dComp (dEnum (dVar 2)) (gdTup 2 (gdCons (gdN 10) (gdCons (gdN 11) gdNil))) (dB (dOp (oEq false) (dVar 11) (dVar 9))) (dVar 10) [10, 11])) [9])) 8) (dApp 4 (dTup (dCons (dVar 6) (dCons (dTupOf (dComp (dAsL (dVar 8)) (gdN 12) dYes (dCall 2 F_pick (xDeck 0 (xCons (dVar 12) xNil))) [12])) dNil)))))))) (dRet (dTupOf (dListVar 4))))))))
theorem ok_again {P : Program} {w : World} {K : PySem.W.Frag} {mg : Str → Option Value} {base : Heap} {f : Addr} {fd : FuncData} {k : Nat} {F_draw : FD} {F_pick : FD} (F : L2.Fun K "_law_again" "_law_again" s_again f fd)
    {k0 : Nat} {k1 : Nat} (D_draw : Df P w K mg base k0 "_law_draw" ["_law_deck_here", "_law_count"] (spOf K 2 F_draw)) (D_pick : Df P w K mg base k1 "_law_pick" ["_law_deck_here", "_law_items"] (spOf K 2 F_pick)) (m_enumerate : mg "enumerate" = none) (m_len : mg "len" = none) (m_list : mg "list" = none) (m_range : mg "range" = none) (m_tuple : mg "tuple" = none) (h_k0 : k0 ≤ k) (h_k1 : k1 ≤ k) :
    Fg P w K mg base (k + 1) f fd ["_law_deck_here", "_law_own"] (spOf K 2 (bodyD (dB_again F_draw F_pick) 11)) :=
  okd (m := 2) rfl F sc_again fun cdv A outer s H hr => ⟨_, (pss_cons (ps_set (i := 2) sc_again.nd rfl (Or.inr rfl) (pe_op op_cat (pe_lst (pa_cons pe_int pa_nil)) (pe_lc (own := [("_law_k", 5)]) (g := (gName 5)) rfl sc_again.nd (pi_range1 (by rfl) m_range (pa_cons (pe_callB call_len_seq (by rfl) m_len (by decide +kernel) (pa_cons (pv 1) pa_nil)) pa_nil)) (blkOk_by (own := [("_law_k", 5)]) (N := ["_law_deck_here", "_law_own", "_law_old", "_law_left", "_law_found", "_law_k", "_law_word", "_law_fields", "_law_places", "_law_f", "_law_at", "_law_row", "_law_some"]) (sc := defScope s_again) (by decide +kernel)) (fun _ _ _ _ _ => (pg_name (i := 5) sc_again.nd rfl (Or.inl rfl))) (fun _ _ _ _ _ => (pts_one (pt_cmpR op_eq (dcall D_draw (hr.mono (h_k0)) (by rfl) (pa_cons (pv 0) (pa_cons pe_int pa_nil))) pe_int (nomark _)))) (fun _ _ _ _ _ => (pv 5))))) (pss_cons (ps_set (i := 3) sc_again.nd rfl (Or.inl rfl) (pe_callTy (RGL.cr_listRng rfl) (by rfl) m_list (by decide +kernel) (pa_cons (pe_callTy RGL.cr_range1 (by rfl) m_range (by decide +kernel) (pa_cons (pe_callB call_len_seq (by rfl) m_len (by decide +kernel) (pa_cons (pv 1) pa_nil)) pa_nil)) pa_nil))) (pss_cons (ps_while PassesOwn.never (pt_cmpR (op_neD hr.room.units) (pv 3) (pe_lst pa_nil) (nomark _)) (pss_one (ps_expr (pe_bm PySem.F.plainAttrs_list PySem.F.slot_list_append PySem.F.type_list_append mt_append (pv 2) (pa_cons (pe_bm PySem.F.plainAttrs_list PySem.F.slot_list_pop PySem.F.type_list_pop mt_popAt (pv 3) (pa_cons (dcall D_draw (hr.mono (h_k0)) (by rfl) (pa_cons (pv 0) (pa_cons (pe_callB call_len_seq (by rfl) m_len (by decide +kernel) (pa_cons (pv 3) pa_nil)) pa_nil))) pa_nil)) pa_nil))))) (pss_cons (ps_set (i := 4) sc_again.nd rfl (Or.inl rfl) (pe_lst pa_nil)) (pss_cons (ps_for PassesOwn.never rfl (pi_list (pv 2)) (pg_name (i := 5) sc_again.nd rfl (Or.inl rfl)) (pss_cons (ps_asg (pe_ix ix_tup (pv 1) (pv 5) (fun _ _ => rfl)) (pg_tup rfl (pgs_cons (pg_name (i := 6) sc_again.nd rfl (Or.inl rfl)) (pgs_cons (pg_name (i := 7) sc_again.nd rfl (Or.inl rfl)) pgs_nil)))) (pss_cons (ps_setLc (i := 8) (own := [("_law_f", 9)]) (g := (gName 9)) rfl sc_again.nd rfl rfl (sw_true rfl rfl rfl (by decide +kernel)) (pi_tup (pv 7)) (blkOk_by (own := [("_law_f", 9)]) (N := ["_law_deck_here", "_law_own", "_law_old", "_law_left", "_law_found", "_law_k", "_law_word", "_law_fields", "_law_places", "_law_f", "_law_at", "_law_row", "_law_some"]) (sc := defScope s_again) (by decide +kernel)) (fun _ _ _ _ _ => (pg_name (i := 9) sc_again.nd rfl (Or.inr rfl))) (fun _ _ _ _ _ => pts_nil) (fun _ _ _ _ _ => (pe_lc (own := [("_law_at", 10), ("_law_row", 11)]) (g := _) rfl sc_again.nd (pi_enum (by rfl) m_enumerate (pa_cons (pv 2) pa_nil)) (by exact blkOk_by (by kernel_rfl)) (fun _ _ _ _ _ => (pg_tup rfl (pgs_cons (pg_name (i := 10) sc_again.nd rfl (Or.inl rfl)) (pgs_cons (pg_name (i := 11) sc_again.nd rfl (Or.inl rfl)) pgs_nil)))) (fun _ _ _ _ _ => (pts_one (pt_cmpR op_eq (pv 11) (pv 9) (nomark _)))) (fun _ _ _ _ _ => (pv 10))))) (pss_one (ps_expr (pe_bm PySem.F.plainAttrs_list PySem.F.slot_list_append PySem.F.type_list_append mt_append (pv 4) (pa_cons (pe_tupP (pa_cons (pv 6) (pa_cons (pe_callTy call_tuple_ofP (by rfl) m_tuple (by decide +kernel) (pa_cons (pe_lc (own := [("_law_some", 12)]) (g := (gName 12)) rfl sc_again.nd (pi_list (pv 8)) (blkOk_by (own := [("_law_some", 12)]) (N := ["_law_deck_here", "_law_own", "_law_old", "_law_left", "_law_found", "_law_k", "_law_word", "_law_fields", "_law_places", "_law_f", "_law_at", "_law_row", "_law_some"]) (sc := defScope s_again) (by decide +kernel)) (fun _ _ _ _ _ => (pg_name (i := 12) sc_again.nd rfl (Or.inl rfl))) (fun _ _ _ _ _ => pts_nil) (fun _ _ _ _ _ => (dcall D_pick (hr.mono (h_k1)) (by rfl) (pa_cons (pv 0) (pa_cons (pv 12) pa_nil))))) pa_nil)) pa_nil))) pa_nil))))))) (pss_one (ps_ret (pe_callTy call_tuple_ofP (by rfl) m_tuple (by decide +kernel) (pa_cons (pv 4) pa_nil))))))))),
    (rs_seq (rs_setO (i := 2) (rf_cat (re_new (rf_lst (ra_cons re_int ra_nil))) (re_new (rf_comp (vs := [5]) (ri_rng1 (re_lenU (ru_of (re_var (i := 1))))) (rgv_name (i := 5) (by decide)) (gw_name (i := 5) (by decide)) (rt_test (re_op ro_eq (re_call (rx_deck (i := 0) (rx_cons re_int rx_nil))) re_int)) (re_var (i := 5)))))) (rs_seq (rs_setO (i := 3) (rf_listRng (re_lenU (ru_of (re_var (i := 1)))))) (rs_seq (rs_while (rt_test (re_neNil (i := 3))) (rs_app (i := 2) (re_popAt (i := 3) (re_call (rx_deck (i := 0) (rx_cons (re_lenL (rl_var (i := 3))) rx_nil)))))) (rs_seq (rs_setO (i := 4) (rf_lst ra_nil)) (rs_seq (rs_freeze (i := 2) (rs_for (ri_list (re_var (i := 2))) (rg_name (i := 5)) (rs_seq (rs_asg (re_op ro_ixU (re_var (i := 1)) (re_var (i := 5))) (rg_tup (rgs_cons (rg_name (i := 6)) (rgs_cons (rg_name (i := 7)) rgs_nil)))) (rs_seq (rs_set (i := 8) (re_new (rf_comp (vs := [9]) (ri_tup (re_var (i := 7))) (rgv_name (i := 9) (by decide)) (gw_name (i := 9) (by decide)) rt_yes (re_new (rf_comp (vs := [10, 11]) (ri_enum (re_var (i := 2))) (rgv_tup (rgvs_cons (rgv_name (i := 10) (by decide)) (rgvs_cons (rgv_name (i := 11) (by decide)) rgvs_nil))) (gw_tup (gws_cons (gw_name (i := 10) (by decide)) (gws_cons (gw_name (i := 11) (by decide)) gws_nil))) (rt_test (re_op ro_eq (re_var (i := 11)) (re_var (i := 9)))) (re_var (i := 10))))))) (rs_app (i := 4) (re_tup (ra_cons (re_var (i := 6)) (ra_cons (re_tupL (rl_new (rf_comp (vs := [12]) (ri_list (re_var (i := 8))) (rgv_name (i := 12) (by decide)) (gw_name (i := 12) (by decide)) rt_yes (re_call (rx_deck (i := 0) (rx_cons (re_var (i := 12)) rx_nil)))))) ra_nil)))))))) (rs_ret (re_tupL (rl_var (i := 4)))))))))⟩
end K09


set_option Elab.async false
set_option linter.all false
set_option maxRecDepth 100000
set_option maxHeartbeats 4000000
namespace K09
open PySem PySem.Spec PyProof.Rows L2 GG DD PT DL
/-! ### _law_signs -/
abbrev s_signs : Stmt := topS 10
theorem sc_signs : FnScope ["_law_deck_here", "_law_words", "_law_counts", "_law_found"] ["_law_deck_here"] (defScope s_signs) := ⟨rfl, rfl, rfl, by decide +kernel, rfl, by decide +kernel, by decide +kernel⟩
def dB_signs (F_pick : FD) (F_draw : FD) : DS := (dSeq (dSet (dNewL (dLst (dCons (dNewL (dLst (dCons (dC (.str "a")) (dCons (dC (.str "aa")) (dCons (dC (.str "ab")) (dCons (dC (.str "b")) (dCons (dC (.str "z")) dNil))))))) (dCons (dNewL (dLst (dCons (dC (.str "cons")) (dCons (dC (.str "cone")) (dCons (dC (.str "con")) (dCons (dC (.str "end")) (dCons (dC (.str "ends")) dNil))))))) (dCons (dNewL (dLst (dCons (dC (.str "x")) (dCons (dC (.str "xxxxxxxx")) (dCons (dC (.str "y")) (dCons (dC (.str "w")) (dCons (dC (.str "v")) dNil))))))) dNil))))) 1) (dSeq (dSet (dCall 2 F_pick (xDeck 0 (xCons (dVar 1) xNil))) 1) (dSeq (dSet (dCall 2 F_pick (xDeck 0 (xCons (dNewL (dLst (dCons (dNewL (dLst (dCons (dC (.int 2)) (dCons (dC (.int 0)) (dCons (dC (.int 1)) (dCons (dC (.int 0)) (dCons (dC (.int 3)) dNil))))))) (dCons (dNewL (dLst (dCons (dC (.int 1)) (dCons (dC (.int 2)) (dCons (dC (.int 0)) (dCons (dC (.int 0)) (dCons (dC (.int 1)) dNil))))))) (dCons (dNewL (dLst (dCons (dC (.int 3)) (dCons (dC (.int 0)) (dCons (dC (.int 0)) (dCons (dC (.int 1)) (dCons (dC (.int 2)) dNil))))))) (dCons (dNewL (dLst (dCons (dC (.int 0)) (dCons (dC (.int 1)) (dCons (dC (.int 2)) (dCons (dC (.int 0)) (dCons (dC (.int 1)) dNil))))))) dNil)))))) xNil))) 2) (dSeq (dSet (dNewL (dSlD (dNewL (dListZip (dVar 1) (dVar 2))) dNoP (dPart (dOp (oI0 fun i j => i + j) (dC (.int 3)) (dCall 2 F_draw (xDeck 0 (xCons (dC (.int 3)) xNil))))))) 3) (dRet (dTupOf (dSortSI (dCat (dVar 3) (dNewL (dRep (dNewL (dLst (dCons (dTup (dCons (dC (.str "void")) (dCons (dC (.int 0)) dNil))) dNil))) (dCall 2 F_draw (xDeck 0 (xCons (dC (.int 2)) xNil)))))))))))))
theorem ok_signs {P : Program} {w : World} {K : PySem.W.Frag} {mg : Str → Option Value} {base : Heap} {f : Addr} {fd : FuncData} {k : Nat} {F_pick : FD} {F_draw : FD} (F : L2.Fun K "_law_signs" "_law_signs" s_signs f fd)
    {k0 : Nat} {k1 : Nat} (D_pick : Df P w K mg base k0 "_law_pick" ["_law_deck_here", "_law_items"] (spOf K 2 F_pick)) (D_draw : Df P w K mg base k1 "_law_draw" ["_law_deck_here", "_law_count"] (spOf K 2 F_draw)) (m_list : mg "list" = none) (m_sorted : mg "sorted" = none) (m_tuple : mg "tuple" = none) (m_zip : mg "zip" = none) (h_k0 : k0 ≤ k) (h_k1 : k1 ≤ k) :
    Fg P w K mg base (k + 1) f fd ["_law_deck_here"] (spOf K 1 (bodyD (dB_signs F_pick F_draw) 3)) :=
  okd (m := 1) rfl F sc_signs fun cdv A outer s H hr => ⟨_, (pss_cons (ps_set (i := 1) sc_signs.nd rfl (Or.inl rfl) (pe_lst (pa_cons (pe_lst (pa_cons pe_str (pa_cons pe_str (pa_cons pe_str (pa_cons pe_str (pa_cons pe_str pa_nil)))))) (pa_cons (pe_lst (pa_cons pe_str (pa_cons pe_str (pa_cons pe_str (pa_cons pe_str (pa_cons pe_str pa_nil)))))) (pa_cons (pe_lst (pa_cons pe_str (pa_cons pe_str (pa_cons pe_str (pa_cons pe_str (pa_cons pe_str pa_nil)))))) pa_nil))))) (pss_cons (ps_set (i := 1) sc_signs.nd rfl (Or.inl rfl) (dcall D_pick (hr.mono (h_k0)) (by rfl) (pa_cons (pv 0) (pa_cons (pv 1) pa_nil)))) (pss_cons (ps_set (i := 2) sc_signs.nd rfl (Or.inl rfl) (dcall D_pick (hr.mono (h_k0)) (by rfl) (pa_cons (pv 0) (pa_cons (pe_lst (pa_cons (pe_lst (pa_cons pe_int (pa_cons pe_int (pa_cons pe_int (pa_cons pe_int (pa_cons pe_int pa_nil)))))) (pa_cons (pe_lst (pa_cons pe_int (pa_cons pe_int (pa_cons pe_int (pa_cons pe_int (pa_cons pe_int pa_nil)))))) (pa_cons (pe_lst (pa_cons pe_int (pa_cons pe_int (pa_cons pe_int (pa_cons pe_int (pa_cons pe_int pa_nil)))))) (pa_cons (pe_lst (pa_cons pe_int (pa_cons pe_int (pa_cons pe_int (pa_cons pe_int (pa_cons pe_int pa_nil)))))) pa_nil))))) pa_nil)))) (pss_cons (ps_set (i := 3) sc_signs.nd rfl (Or.inl rfl) (pe_slice sl_list (LZ.pe_listZip rfl (by rfl) m_list (by rfl) m_zip (pa_cons (pv 1) (pa_cons (pv 2) pa_nil))) po_none (po_some (pe_op op_add pe_int (dcall D_draw (hr.mono (h_k1)) (by rfl) (pa_cons (pv 0) (pa_cons pe_int pa_nil))))))) (pss_one (ps_ret (pe_callTy call_tuple_ofP (by rfl) m_tuple (by decide +kernel) (pa_cons (pe_callB SRT.cr_sortedSI (by rfl) m_sorted (by decide +kernel) (pa_cons (pe_op op_cat (pv 3) (pe_op op_rep (pe_lst (pa_cons (pe_tupP (pa_cons pe_str (pa_cons pe_int pa_nil))) pa_nil)) (dcall D_draw (hr.mono (h_k1)) (by rfl) (pa_cons (pv 0) (pa_cons pe_int pa_nil))))) pa_nil)) pa_nil)))))))),
    (rs_seq (rs_set (i := 1) (re_new (rf_lst (ra_cons (re_new (rf_lst (ra_cons re_str (ra_cons re_str (ra_cons re_str (ra_cons re_str (ra_cons re_str ra_nil))))))) (ra_cons (re_new (rf_lst (ra_cons re_str (ra_cons re_str (ra_cons re_str (ra_cons re_str (ra_cons re_str ra_nil))))))) (ra_cons (re_new (rf_lst (ra_cons re_str (ra_cons re_str (ra_cons re_str (ra_cons re_str (ra_cons re_str ra_nil))))))) ra_nil)))))) (rs_seq (rs_set (i := 1) (re_call (rx_deck (i := 0) (rx_cons (re_var (i := 1)) rx_nil)))) (rs_seq (rs_set (i := 2) (re_call (rx_deck (i := 0) (rx_cons (re_new (rf_lst (ra_cons (re_new (rf_lst (ra_cons re_int (ra_cons re_int (ra_cons re_int (ra_cons re_int (ra_cons re_int ra_nil))))))) (ra_cons (re_new (rf_lst (ra_cons re_int (ra_cons re_int (ra_cons re_int (ra_cons re_int (ra_cons re_int ra_nil))))))) (ra_cons (re_new (rf_lst (ra_cons re_int (ra_cons re_int (ra_cons re_int (ra_cons re_int (ra_cons re_int ra_nil))))))) (ra_cons (re_new (rf_lst (ra_cons re_int (ra_cons re_int (ra_cons re_int (ra_cons re_int (ra_cons re_int ra_nil))))))) ra_nil)))))) rx_nil)))) (rs_seq (rs_set (i := 3) (re_new (rf_sl (re_new (rf_listZip (re_var (i := 1)) (re_var (i := 2)))) rp_no (rp_of (re_op ro_I0 re_int (re_call (rx_deck (i := 0) (rx_cons re_int rx_nil)))))))) (rs_ret (re_tupL (rl_new (rf_sortSI (rl_new (rf_cat (re_var (i := 3)) (re_new (rf_rep (re_new (rf_lst (ra_cons (re_tup (ra_cons re_str (ra_cons re_int ra_nil))) ra_nil))) (re_call (rx_deck (i := 0) (rx_cons re_int rx_nil)))))))))))))))⟩
end K09


set_option Elab.async false
set_option linter.all false
set_option maxRecDepth 100000
set_option maxHeartbeats 4000000
namespace K09
open PySem PySem.Spec PyProof.Rows L2 GG DD PT DL
/-! ### law -/
abbrev s_law : Stmt := topS 19
theorem sc_law : FnScope ["_law_script", "_law_deck_here", "_law_turn", "_law_signs_here", "_law_own", "_law_far", "_law_kept", "_law_deep_here", "_law_due", "_law_told", "_law_some", "_law_it", "_law_k"] ["_law_script"] (defScope s_law) := ⟨rfl, rfl, rfl, by decide +kernel, rfl, by decide +kernel, by decide +kernel⟩
def dB_law (F_signs : FD) (F_rows : FD) (F_again : FD) (F_cut : FD) (F_top : FD) (F_deep : FD) (F_bent : FD) (F_odd : FD) (F_recognized : FD) : DS := (dSeq (dFor (dRng1 (dC (.int 4))) (gdN 2) (dSeq (dSet (dCall 1 F_signs (xDeck 1 xNil)) 3) (dSeq (dSet (dCall 3 F_rows (xDeck 1 (xCons (dVar 3) (xCons (dC (.int 6)) xNil)))) 4) (dSeq (dPar 5 6 (dCons (dCall 2 F_again (xDeck 1 (xCons (dVar 4) xNil))) (dCons (dReprA (dVar 4)) dNil))) (dFor (dRng1 (dC (.int 5))) (gdN 7) (dSeq (dSet (dCall 3 F_cut (xCons (dVar 4) (xCons (dC (.int 0)) (xCons (dVar 7) xNil)))) 8) (dSeq (dSet (dNewL (dLst (dCons (dCall 2 F_top (xCons (dVar 4) (xCons (dVar 7) xNil))) (dCons (dCall 2 F_top (xCons (dVar 5) (xCons (dVar 7) xNil))) (dCons (dCallP 2 F_top [1, 0] 2 (xCons (dVar 7) (xCons (dVar 5) xNil))) dNil))))) 9) (dSeq (dIf (dOr (dB (dOp (oEq true) (dReprA (dVar 9)) (dReprA (dNewL (dRep (dNewL (dLst (dCons (dVar 8) dNil))) (dC (.int 3))))))) (dB (dOp (oEq true) (dReprA (dVar 4)) (dVar 6)))) (dRet (dC (.bool false))) dNext) (dSeq (dSet (dNewL (dCat (dNewL (dLst (dCons (dVar 8) (dCons (dCall 3 F_cut (xCons (dVar 4) (xCons (dC (.int 0)) (xCons (dOp (oI0 fun i j => i + j) (dVar 7) (dC (.int 1))) xNil)))) dNil)))) (dNewL (dComp (dRng1 (dC (.int 6))) (gdN 12) dYes (dCall 3 F_bent (xDeck 1 (xCons (dVar 3) (xCons (dVar 8) xNil)))) [12])))) 10) (dSeq (dSet (dNewL (dCat (dVar 10) (dNewL (dLst (dCons (dCall 3 F_bent (xDeck 1 (xCons (dVar 3) (xCons (dCall 3 F_bent (xDeck 1 (xCons (dVar 3) (xCons (dVar 8) xNil)))) xNil)))) (dCons (dCall 3 F_odd (xDeck 1 (xCons (dVar 3) (xCons (dVar 8) xNil)))) dNil)))))) 10) (dFor (dAsL (dNewL (dCat (dVar 10) (dCall 2 F_deep (xCons (dVar 3) (xCons (dC (.int 13)) xNil)))))) (gdN 11) (dIf (dOr (dNot (dB (dCall 3 F_recognized (xCons (dVar 3) (xCons (dVar 7) (xCons (dVar 11) xNil)))))) (dNot (dB (dCall 3 F_recognized (xCons (dVar 3) (xCons (dOp (oI0 fun i j => i - j) (dC (.int 4)) (dVar 7)) (xCons (dVar 11) xNil))))))) (dRet (dC (.bool false))) dNext)))))))))))) (dRet (dC (.bool true))))
theorem ok_law {P : Program} {w : World} {K : PySem.W.Frag} {mg : Str → Option Value} {base : Heap} {f : Addr} {fd : FuncData} {k : Nat} {F_signs : FD} {F_rows : FD} {F_again : FD} {F_cut : FD} {F_top : FD} {F_deep : FD} {F_bent : FD} {F_odd : FD} {F_recognized : FD} (F : L2.Fun K "law" "law" s_law f fd)
    {k0 : Nat} {k1 : Nat} {k2 : Nat} {k3 : Nat} {k4 : Nat} {k5 : Nat} {k6 : Nat} {k7 : Nat} {k8 : Nat} {k9 : Nat} (D_deck : Df P w K mg base k0 "_law_deck" ["_law_script"] (spDeckH K)) (D_signs : Df P w K mg base k1 "_law_signs" ["_law_deck_here"] (spOf K 1 F_signs)) (D_rows : Df P w K mg base k2 "_law_rows" ["_law_deck_here", "_law_signs_here", "_law_most"] (spOf K 3 F_rows)) (D_again : Df P w K mg base k3 "_law_again" ["_law_deck_here", "_law_own"] (spOf K 2 F_again)) (D_cut : Df P w K mg base k4 "_law_cut" ["_law_own", "_law_k", "_law_deep_here"] (spOf K 3 F_cut)) (D_top : Df P w K mg base k5 "top" ["sheet", "depth"] (spOf K 2 F_top)) (DK_top_depth_sheet : DfK P w K mg base k5 "top" ["sheet", "depth"] ["depth", "sheet"] [1, 0] (spOf K 2 F_top)) (D_deep : Df P w K mg base k6 "_law_deep" ["_law_signs_here", "_law_count"] (spOf K 2 F_deep)) (D_bent : Df P w K mg base k7 "_law_bent" ["_law_deck_here", "_law_signs_here", "_law_it"] (spOf K 3 F_bent)) (D_odd : Df P w K mg base k8 "_law_odd" ["_law_deck_here", "_law_signs_here", "_law_it"] (spOf K 3 F_odd)) (D_recognized : Df P w K mg base k9 "_law_recognized" ["_law_signs_here", "_law_deep_here", "_law_it"] (spOf K 3 F_recognized)) (m_range : mg "range" = none) (m_repr : mg "repr" = none) (sys : SysK K) (h_k0 : k0 ≤ k) (h_k1 : k1 ≤ k) (h_k2 : k2 ≤ k) (h_k3 : k3 ≤ k) (h_k4 : k4 ≤ k) (h_k5 : k5 ≤ k) (h_k6 : k6 ≤ k) (h_k7 : k7 ≤ k) (h_k8 : k8 ≤ k) (h_k9 : k9 ≤ k)
    (hd : dB_law F_signs F_rows F_again F_cut F_top F_deep F_bent F_odd F_recognized { nx := fun _ => False, rt := fun v _ => v = .bool true } ⟨.un :: .deck :: List.replicate 11 .un, 0⟩) :
    Fg P w K mg base (k + 1) f fd ["_law_script"] (spLaw K) :=
  ok_law_of 11 F sc_law rfl hd fun cdv A outer s H hr => ⟨_, (pss_cons (ps_set (i := 1) sc_law.nd rfl (Or.inr rfl) (dcall D_deck (hr.mono (h_k0)) (by rfl) (pa_cons (pv 0) pa_nil))) (pss_cons (ps_for PassesOwn.never rfl (pi_range1 (by rfl) m_range (pa_cons pe_int pa_nil)) (pg_name (i := 2) sc_law.nd rfl (Or.inl rfl)) (pss_cons (ps_set (i := 3) sc_law.nd rfl (Or.inr rfl) (dcall D_signs (hr.mono (h_k1)) (by rfl) (pa_cons (pv 1) pa_nil))) (pss_cons (ps_set (i := 4) sc_law.nd rfl (Or.inl rfl) (dcall D_rows (hr.mono (h_k2)) (by rfl) (pa_cons (pv 1) (pa_cons (pv 3) (pa_cons pe_int pa_nil))))) (pss_cons (ps_par (i := 5) (j := 6) (by rfl) sc_law.nd rfl rfl (by decide) rfl rfl (pa_cons (dcall D_again (hr.mono (h_k3)) (by rfl) (pa_cons (pv 1) (pa_cons (pv 4) pa_nil))) (pa_cons (pe_callB (call_reprA hr sys) (by rfl) m_repr (by decide +kernel) (pa_cons (pv 4) pa_nil)) pa_nil)) (by rfl)) (pss_one (ps_for PassesOwn.never rfl (pi_range1 (by rfl) m_range (pa_cons pe_int pa_nil)) (pg_name (i := 7) sc_law.nd rfl (Or.inl rfl)) (pss_cons (ps_set (i := 8) sc_law.nd rfl (Or.inr rfl) (dcall D_cut (hr.mono (h_k4)) (by rfl) (pa_cons (pv 4) (pa_cons pe_int (pa_cons (pv 7) pa_nil))))) (pss_cons (ps_set (i := 9) sc_law.nd rfl (Or.inl rfl) (pe_lst (pa_cons (dcall D_top (hr.mono (h_k5)) (by rfl) (pa_cons (pv 4) (pa_cons (pv 7) pa_nil))) (pa_cons (dcall D_top (hr.mono (h_k5)) (by rfl) (pa_cons (pv 5) (pa_cons (pv 7) pa_nil))) (pa_cons (kcall DK_top_depth_sheet (hr.mono (h_k5)) (by rfl) (pk_cons (pv 7) (pk_cons (pv 5) pk_nil))) pa_nil))))) (pss_cons (ps_if (PW.pt (pw_or (pt_cmpR op_ne (pe_callB (call_reprA hr sys) (by rfl) m_repr (by decide +kernel) (pa_cons (pv 9) pa_nil)) (pe_callB (call_reprA hr sys) (by rfl) m_repr (by decide +kernel) (pa_cons (pe_op op_rep (pe_lst (pa_cons (pv 8) pa_nil)) pe_int) pa_nil)) (nomark _)) (pw_or1 (pt_cmpR op_ne (pe_callB (call_reprA hr sys) (by rfl) m_repr (by decide +kernel) (pa_cons (pv 4) pa_nil)) (pv 6) (nomark _))))) (pss_one (ps_ret pe_bl)) pss_nil) (pss_cons (ps_set (i := 10) sc_law.nd rfl (Or.inl rfl) (pe_op op_cat (pe_lst (pa_cons (pv 8) (pa_cons (dcall D_cut (hr.mono (h_k4)) (by rfl) (pa_cons (pv 4) (pa_cons pe_int (pa_cons (pe_op op_add (pv 7) pe_int) pa_nil)))) pa_nil))) (pe_lc (own := [("_law_k", 12)]) (g := (gName 12)) rfl sc_law.nd (pi_range1 (by rfl) m_range (pa_cons pe_int pa_nil)) (blkOk_by (own := [("_law_k", 12)]) (N := ["_law_script", "_law_deck_here", "_law_turn", "_law_signs_here", "_law_own", "_law_far", "_law_kept", "_law_deep_here", "_law_due", "_law_told", "_law_some", "_law_it", "_law_k"]) (sc := defScope s_law) (by decide +kernel)) (fun _ _ _ _ _ => (pg_name (i := 12) sc_law.nd rfl (Or.inl rfl))) (fun _ _ _ _ _ => pts_nil) (fun _ _ _ _ _ => (dcall D_bent (hr.mono (h_k7)) (by rfl) (pa_cons (pv 1) (pa_cons (pv 3) (pa_cons (pv 8) pa_nil)))))))) (pss_cons (ps_set (i := 10) sc_law.nd rfl (Or.inl rfl) (pe_op op_cat (pv 10) (pe_lst (pa_cons (dcall D_bent (hr.mono (h_k7)) (by rfl) (pa_cons (pv 1) (pa_cons (pv 3) (pa_cons (dcall D_bent (hr.mono (h_k7)) (by rfl) (pa_cons (pv 1) (pa_cons (pv 3) (pa_cons (pv 8) pa_nil)))) pa_nil)))) (pa_cons (dcall D_odd (hr.mono (h_k8)) (by rfl) (pa_cons (pv 1) (pa_cons (pv 3) (pa_cons (pv 8) pa_nil)))) pa_nil))))) (pss_one (ps_for PassesOwn.never rfl (pi_list (pe_op op_cat (pv 10) (dcall D_deep (hr.mono (h_k6)) (by rfl) (pa_cons (pv 3) (pa_cons pe_int pa_nil))))) (pg_name (i := 11) sc_law.nd rfl (Or.inl rfl)) (pss_one (ps_if (PW.pt (pw_or (pt_not (pt_val (dcall D_recognized (hr.mono (h_k9)) (by rfl) (pa_cons (pv 3) (pa_cons (pv 7) (pa_cons (pv 11) pa_nil)))))) (pw_or1 (pt_not (pt_val (dcall D_recognized (hr.mono (h_k9)) (by rfl) (pa_cons (pv 3) (pa_cons (pe_op op_sub pe_int (pv 7)) (pa_cons (pv 11) pa_nil))))))))) (pss_one (ps_ret pe_bl)) pss_nil))))))))))))))) (pss_one (ps_ret pe_bl)))),
    (rs_seq (rs_for (ri_rng1 re_int) (rg_name (i := 2)) (rs_seq (rs_set (i := 3) (re_call (rx_deck (i := 1) rx_nil))) (rs_seq (rs_set (i := 4) (re_call (rx_deck (i := 1) (rx_cons (re_var (i := 3)) (rx_cons re_int rx_nil))))) (rs_seq (rs_par (i := 5) (j := 6) (ra_cons (re_call (rx_deck (i := 1) (rx_cons (re_var (i := 4)) rx_nil))) (ra_cons (re_reprA (re_var (i := 4))) ra_nil))) (rs_for (ri_rng1 re_int) (rg_name (i := 7)) (rs_seq (rs_set (i := 8) (re_call (rx_cons (re_var (i := 4)) (rx_cons re_int (rx_cons (re_var (i := 7)) rx_nil))))) (rs_seq (rs_set (i := 9) (re_new (rf_lst (ra_cons (re_call (rx_cons (re_var (i := 4)) (rx_cons (re_var (i := 7)) rx_nil))) (ra_cons (re_call (rx_cons (re_var (i := 5)) (rx_cons (re_var (i := 7)) rx_nil))) (ra_cons (re_callP (π := [1, 0]) (n := 2) (rx_cons (re_var (i := 7)) (rx_cons (re_var (i := 5)) rx_nil))) ra_nil)))))) (rs_seq (rs_if (rt_or (rt_test (re_op ro_ne (re_reprA (re_var (i := 9))) (re_reprA (re_new (rf_rep (re_new (rf_lst (ra_cons (re_var (i := 8)) ra_nil))) re_int))))) (rt_test (re_op ro_ne (re_reprA (re_var (i := 4))) (re_var (i := 6))))) (rs_ret re_bl) rs_next) (rs_seq (rs_set (i := 10) (re_new (rf_cat (re_new (rf_lst (ra_cons (re_var (i := 8)) (ra_cons (re_call (rx_cons (re_var (i := 4)) (rx_cons re_int (rx_cons (re_op ro_I0 (re_var (i := 7)) re_int) rx_nil)))) ra_nil)))) (re_new (rf_comp (vs := [12]) (ri_rng1 re_int) (rgv_name (i := 12) (by decide)) (gw_name (i := 12) (by decide)) rt_yes (re_call (rx_deck (i := 1) (rx_cons (re_var (i := 3)) (rx_cons (re_var (i := 8)) rx_nil))))))))) (rs_seq (rs_set (i := 10) (re_new (rf_cat (re_var (i := 10)) (re_new (rf_lst (ra_cons (re_call (rx_deck (i := 1) (rx_cons (re_var (i := 3)) (rx_cons (re_call (rx_deck (i := 1) (rx_cons (re_var (i := 3)) (rx_cons (re_var (i := 8)) rx_nil)))) rx_nil)))) (ra_cons (re_call (rx_deck (i := 1) (rx_cons (re_var (i := 3)) (rx_cons (re_var (i := 8)) rx_nil)))) ra_nil))))))) (rs_for (ri_list (re_new (rf_cat (re_var (i := 10)) (re_call (rx_cons (re_var (i := 3)) (rx_cons re_int rx_nil)))))) (rg_name (i := 11)) (rs_if (rt_or (rt_not (rt_val (re_call (rx_cons (re_var (i := 3)) (rx_cons (re_var (i := 7)) (rx_cons (re_var (i := 11)) rx_nil)))))) (rt_not (rt_val (re_call (rx_cons (re_var (i := 3)) (rx_cons (re_op ro_I0 re_int (re_var (i := 7))) (rx_cons (re_var (i := 11)) rx_nil))))))) (rs_ret re_bl) rs_next)))))))))))) (rs_ret re_bl))⟩
end K09


set_option Elab.async false
set_option linter.all false
set_option maxRecDepth 100000
set_option maxHeartbeats 4000000
/-! U09a: what the tops are, by data. -/
namespace K09
open PySem PySem.Spec PyProof.Rows L2 GG DD PT DL
set_option simprocs false
local macro_rules | `(tactic| walk_at "w1") => `(tactic| with_reducible first
  | refine DL.w_seq ?_ | refine DL.w_next ?_ | refine DL.w_set ?_ | refine DL.w_setO ?_ | refine DL.w_if ?_ | refine DL.w_ret ?_ | refine DL.w_drop ?_
  | refine DL.w_par ?_ | refine DL.w_parL ?_ | refine DL.w_parR ?_ | refine DL.w_parLL ?_ | refine DL.w_asg ?_ | refine DL.w_for ?_ | refine DL.w_vsNil ?_ | refine DL.w_dIn ?_ | refine DL.w_dPut ?_
  | refine DL.w_gdN ?_ | refine DL.w_gdNil ?_ | refine DL.w_gdCons ?_
  | refine DL.w_c ?_ | refine DL.w_asL ?_ | refine DL.w_asU ?_ | refine DL.w_newL ?_ | refine DL.w_nil ?_ | refine DL.w_cons ?_ | refine DL.w_tup ?_ | refine DL.w_lst ?_ | refine DL.w_op ?_
  | refine DL.w_lenL ?_ | refine DL.w_lenD ?_ | refine DL.w_tupOf ?_ | refine DL.w_ifE ?_ | refine DL.w_cat ?_ | refine DL.w_rep ?_ | refine DL.w_call ?_ | refine DL.w_callP ?_
  | refine DL.w_xNil ?_ | refine DL.w_xCons ?_ | refine DL.w_all ?_ | refine DL.w_reprA ?_ | refine DL.w_isi ?_ | refine DL.w_andV ?_ | refine DL.w_newD ?_ | refine DL.w_dict0 ?_
  | refine DL.w_slD ?_ | refine DL.w_slU ?_ | refine DL.w_noP ?_ | refine DL.w_part ?_ | refine DL.w_listZip ?_ | refine DL.w_sortSI ?_ | refine DL.w_listRng ?_ | refine DL.w_setD ?_ | refine DL.w_dictL ?_ | refine DL.w_dictU ?_ | refine DL.w_disp ?_ | refine DL.w_psNil ?_ | refine DL.w_psCons ?_
  | refine DL.w_rng1 ?_ | refine DL.w_comp ?_ | refine DL.w_enum ?_ | refine DL.w_B ?_ | refine DL.w_and ?_ | refine DL.w_or ?_ | refine DL.w_not ?_ | refine DL.w_yes ?_)
local macro_rules | `(tactic| walk_at "w2") => `(tactic| first
  | walk_at "w1"
  | ((with_reducible apply DL.w_var); (· rfl))
  | ((with_reducible apply DL.w_xDeck); (· rfl))
  | ((with_reducible apply DL.w_listO); (· rfl))
  | ((with_reducible apply DL.w_listD); (· rfl))
  | ((with_reducible apply DL.w_app); (· exact trivial))
  | ((with_reducible apply DL.w_popAt); (· exact trivial))
  | ((with_reducible apply DL.w_dGet); (· exact trivial))
  | ((with_reducible apply DL.w_fzO); (· rfl))
  | ((with_reducible apply DL.w_fzD); (· rfl))
  | ((with_reducible apply DL.w_fz); (· rfl))
  | ((with_reducible apply DL.w_gdTup); (· rfl))
  | ((with_reducible refine And.intro ?_ ?_); (· first | rfl | exact True.intro | decide | (dsimp only [List.length_cons, List.length_nil]; decide)))
  | with_reducible refine DL.w_I0 ?_ | with_reducible refine DL.w_eqI ?_ | with_reducible refine DL.w_neI ?_ | with_reducible refine DL.w_isN ?_ | with_reducible refine DL.w_notN ?_)
local macro_rules | `(tactic| walk_at "w") => `(tactic| (repeat walk_at "w2"; try dsimp only [List.set_cons_zero, List.set_cons_succ, List.cons_append, List.nil_append, List.replicate_succ, List.replicate_zero]))
abbrev Row := Str × List Nat
abbrev rowD (r : Row) : PyData := .tuple [.str r.1, .tuple (r.2.map fun f => .int (f : Nat))]
abbrev ownD (own : List Row) : PyData := .tuple (own.map rowD)
def rowAt (own : List Row) (k : Nat) : Row := own.getD k ("", [])
theorem row_at {own : List Row} {k : Nat} (h : k < own.length) : (own.map rowD)[k]? = some (rowD (rowAt own k)) := by
  unfold rowAt
  rw [List.getElem?_map, List.getElem?_eq_getElem h, List.getD_eq_getElem?_getD, List.getElem?_eq_getElem h]
  rfl
theorem row_mem {own : List Row} {k : Nat} (h : k < own.length) : rowAt own k ∈ own := by
  unfold rowAt
  rw [List.getD_eq_getElem?_getD, List.getElem?_eq_getElem h]
  exact List.getElem_mem h
def cutV (own : List Row) : Nat → Nat → PyData
  | 0, k => .tuple [.str (rowAt own k).1, .tuple ((rowAt own k).2.map fun _ => .none)]
  | d + 1, k => .tuple [.str (rowAt own k).1, .tuple ((rowAt own k).2.map fun f => cutV own d f)]
structure OwnOk (own : List Row) : Prop where
  fl : ∀ r, r ∈ own → r.2.length ≤ 3 ∧ ∀ f, f ∈ r.2 → f < own.length
  ln : own.length ≤ 20
/-! ### cut -/
def F_cut : Nat → FD
  | 0 => fun _ _ _ => False
  | m + 1 => bodyD (dB_cut (F_cut m)) 3
def cutF (own : List Row) : Nat → PyData → PyData
  | d + 1, .int i => cutV own d i.toNat
  | _, _ => .none
theorem cut_map (own : List Row) (d k : Nat) : PyData.tuple [.str (rowAt own k).1, .tuple (((rowAt own k).2.map fun f => PyData.int (f : Nat)).map (cutF own d))] = cutV own d k := by
  cases d with
  | zero =>
    rw [cutV, List.map_map]
    rfl
  | succ d =>
    rw [cutV, List.map_map]
    rfl
theorem sub1 (d : Nat) : (((d + 1 : Nat) : Int) - 1) = (d : Nat) := by omega
theorem cut_spec {own : List Row} (ok : OwnOk own) : ∀ (m deep k n : Nat) (P : PyData → Nat → Prop), deep < m → k < own.length → P (cutV own deep k) n → F_cut m [.dat (ownD own), .dat (.int (k : Nat)), .dat (.int (deep : Nat))] n P
  | 0, _, _, _, _, h, _, _ => absurd h (Nat.not_lt_zero _)
  | m + 1, deep, k, n, P, hm, hk, hP => by
    have hr := (ok.fl _ (row_mem hk))
    unfold F_cut bodyD dB_cut
    walk_at "w"
    refine w_ixU (atI_nat (row_at hk)) ?_
    walk_at "w"
    refine ⟨by rw [List.length_map]; omega, rfl, lc_map (cutF own deep) (fun d hd Y Z hY => ?_) ?_⟩
    · obtain ⟨f, hf, rfl⟩ := List.mem_map.mp hd
      walk_at "w"
      refine w_T rfl ?_
      walk_at "w"
      cases deep with
      | zero =>
        refine w_T (by decide) ?_
        walk_at "w"
        exact hY
      | succ d =>
        refine w_F (by simp; omega) ?_
        walk_at "w"
        rw [sub1]
        refine cut_spec ok m d f n _ (by omega) (hr.2 f hf) ⟨rfl, hY⟩
    · walk_at "w"
      rw [cut_map]
      exact hP
/-! ### top_of_row, top -/
def F_tor : Nat → FD
  | 0 => fun _ _ _ => False
  | m + 1 => bodyD (dB_top_of_row (F_tor m)) 3
theorem tor_spec {own : List Row} (ok : OwnOk own) : ∀ (m deep k n : Nat) (P : PyData → Nat → Prop), deep < m → k < own.length → P (cutV own deep k) n → F_tor m [.dat (ownD own), .dat (.int (k : Nat)), .dat (.int (deep : Nat))] n P
  | 0, _, _, _, _, h, _, _ => absurd h (Nat.not_lt_zero _)
  | m + 1, deep, k, n, P, hm, hk, hP => by
    have hr := (ok.fl _ (row_mem hk))
    unfold F_tor bodyD dB_top_of_row
    walk_at "w"
    refine w_ixU (atI_nat (row_at hk)) ?_
    walk_at "w"
    cases deep with
    | zero =>
      refine w_T (by decide) ?_
      walk_at "w"
      refine w_rep1 (by rw [List.length_map]; omega) ?_
      walk_at "w"
      rw [List.length_map, ← List.map_const']
      rw [cutV] at hP
      exact hP
    | succ d =>
      refine w_F (by simp; omega) ?_
      walk_at "w"
      refine ⟨by rw [List.length_map]; omega, rfl, lc_map (cutF own (d + 1)) (fun x hd Y Z hY => ?_) ?_⟩
      · obtain ⟨f, hf, rfl⟩ := List.mem_map.mp hd
        walk_at "w"
        refine w_T rfl ?_
        walk_at "w"
        rw [sub1]
        refine tor_spec ok m d f n _ (by omega) (hr.2 f hf) ⟨rfl, hY⟩
      · walk_at "w"
        rw [cut_map]
        exact hP
def F_top : FD := bodyD (dB_top (F_tor 8)) 0
theorem top_spec {own : List Row} (ok : OwnOk own) {deep n : Nat} {P : PyData → Nat → Prop} (hd : deep < 8) (h0 : 0 < own.length) (hP : P (cutV own deep 0) n) : F_top [.dat (ownD own), .dat (.int (deep : Nat))] n P := by
  unfold F_top bodyD dB_top
  walk_at "w"
  exact tor_spec ok 8 deep 0 n _ hd h0 hP
/-! ### another sheet of the same value -/
structure FarOk (own far : List Row) (old : Nat → Nat) : Prop where
  ok : OwnOk far
  z : old 0 = 0
  p : 0 < far.length
  w : ∀ i, i < far.length → (rowAt far i).1 = (rowAt own (old i)).1
  f : ∀ i, i < far.length → (rowAt far i).2.map old = (rowAt own (old i)).2
theorem cut_far {own far : List Row} {old : Nat → Nat} (h : FarOk own far old) : ∀ (d i : Nat), i < far.length → cutV far d i = cutV own d (old i)
  | 0, i, hi => by rw [cutV, cutV, h.w i hi, ← h.f i hi, List.map_map]; rfl
  | d + 1, i, hi => by
    rw [cutV, cutV, h.w i hi, ← h.f i hi, List.map_map]
    congr 3
    refine congrArg _ (List.map_congr_left fun f hf => ?_)
    exact cut_far h d f ((h.ok.fl _ (row_mem hi)).2 f hf)
end K09

set_option Elab.async false
set_option linter.all false
set_option maxRecDepth 100000
set_option maxHeartbeats 4000000
/-! U09b: signs, rows, another sheet: what they make. -/
namespace K09
open PySem PySem.Spec PyProof.Rows L2 GG DD PT DL
set_option simprocs false
local macro_rules | `(tactic| walk_at "w1") => `(tactic| with_reducible first
  | refine DL.w_seq ?_ | refine DL.w_next ?_ | refine DL.w_set ?_ | refine DL.w_setO ?_ | refine DL.w_if ?_ | refine DL.w_ret ?_ | refine DL.w_drop ?_
  | refine DL.w_par ?_ | refine DL.w_parL ?_ | refine DL.w_parR ?_ | refine DL.w_parLL ?_ | refine DL.w_asg ?_ | refine DL.w_for ?_ | refine DL.w_vsNil ?_ | refine DL.w_dIn ?_ | refine DL.w_dPut ?_
  | refine DL.w_gdN ?_ | refine DL.w_gdNil ?_ | refine DL.w_gdCons ?_
  | refine DL.w_c ?_ | refine DL.w_asL ?_ | refine DL.w_asU ?_ | refine DL.w_newL ?_ | refine DL.w_nil ?_ | refine DL.w_cons ?_ | refine DL.w_tup ?_ | refine DL.w_lst ?_ | refine DL.w_op ?_
  | refine DL.w_lenL ?_ | refine DL.w_lenD ?_ | refine DL.w_tupOf ?_ | refine DL.w_ifE ?_ | refine DL.w_cat ?_ | refine DL.w_rep ?_ | refine DL.w_call ?_ | refine DL.w_callP ?_
  | refine DL.w_xNil ?_ | refine DL.w_xCons ?_ | refine DL.w_all ?_ | refine DL.w_reprA ?_ | refine DL.w_isi ?_ | refine DL.w_andV ?_ | refine DL.w_newD ?_ | refine DL.w_dict0 ?_
  | refine DL.w_slD ?_ | refine DL.w_slU ?_ | refine DL.w_noP ?_ | refine DL.w_part ?_ | refine DL.w_listZip ?_ | refine DL.w_sortSI ?_ | refine DL.w_listRng ?_ | refine DL.w_setD ?_ | refine DL.w_dictL ?_ | refine DL.w_dictU ?_ | refine DL.w_disp ?_ | refine DL.w_psNil ?_ | refine DL.w_psCons ?_
  | refine DL.w_rng1 ?_ | refine DL.w_comp ?_ | refine DL.w_enum ?_ | refine DL.w_B ?_ | refine DL.w_and ?_ | refine DL.w_or ?_ | refine DL.w_not ?_ | refine DL.w_yes ?_)
local macro_rules | `(tactic| walk_at "w2") => `(tactic| first
  | walk_at "w1"
  | ((with_reducible apply DL.w_var); (· rfl))
  | ((with_reducible apply DL.w_xDeck); (· rfl))
  | ((with_reducible apply DL.w_listO); (· rfl))
  | ((with_reducible apply DL.w_listD); (· rfl))
  | ((with_reducible apply DL.w_app); (· exact trivial))
  | ((with_reducible apply DL.w_popAt); (· exact trivial))
  | ((with_reducible apply DL.w_dGet); (· exact trivial))
  | ((with_reducible apply DL.w_fzO); (· rfl))
  | ((with_reducible apply DL.w_fzD); (· rfl))
  | ((with_reducible apply DL.w_fz); (· rfl))
  | ((with_reducible apply DL.w_gdTup); (· rfl))
  | ((with_reducible refine And.intro ?_ ?_); (· first | rfl | exact True.intro | decide | (dsimp only [List.length_cons, List.length_nil]; decide)))
  | with_reducible refine DL.w_I0 ?_ | with_reducible refine DL.w_eqI ?_ | with_reducible refine DL.w_neI ?_ | with_reducible refine DL.w_isN ?_ | with_reducible refine DL.w_notN ?_)
local macro_rules | `(tactic| walk_at "w") => `(tactic| (repeat walk_at "w2"; try dsimp only [List.set_cons_zero, List.set_cons_succ, List.cons_append, List.nil_append, List.replicate_succ, List.replicate_zero]))
/-! ### pick -/
def F_pick : FD := bodyD (dB_pick F_draw) 0
theorem pick_list {ds : List PyData} {n : Nat} {P : PyData → Nat → Prop} (hn : n < 1000000) (h1 : 1 ≤ ds.length) (h2 : ds.length < 1000000) (h : ∀ d, d ∈ ds → P d (n + 1)) : F_pick [.deck, .dat (.list ds)] n P := by
  unfold F_pick bodyD dB_pick
  walk_at "w"
  refine w_draw hn h1 h2 fun v hv => ?_
  exact ⟨ds[v], atI_nat (List.getElem?_eq_getElem hv), h _ (List.getElem_mem hv)⟩
theorem pick_tup {ds : List PyData} {n : Nat} {P : PyData → Nat → Prop} (hn : n < 1000000) (h1 : 1 ≤ ds.length) (h2 : ds.length < 1000000) (h : ∀ d, d ∈ ds → P d (n + 1)) : F_pick [.deck, .dat (.tuple ds)] n P := by
  unfold F_pick bodyD dB_pick
  walk_at "w"
  refine w_draw hn h1 h2 fun v hv => ?_
  exact ⟨ds[v], atI_nat (List.getElem?_eq_getElem hv), h _ (List.getElem_mem hv)⟩
/-! ### signs -/
abbrev Sign := Str × Nat
abbrev signD (s : Sign) : PyData := .tuple [.str s.1, .int (s.2 : Nat)]
abbrev signsD (ss : List Sign) : PyData := .tuple (ss.map signD)
def words : List (List Str) := [["a", "aa", "ab", "b", "z"], ["cons", "cone", "con", "end", "ends"], ["x", "xxxxxxxx", "y", "w", "v"]]
def counts : List (List Nat) := [[2, 0, 1, 0, 3], [1, 2, 0, 0, 1], [3, 0, 0, 1, 2], [0, 1, 2, 0, 1]]
def wordsAll : List Str := "void" :: words.flatten
structure SgOk (ss : List Sign) : Prop where
  wd : ∀ s, s ∈ ss → s.1 ∈ wordsAll
  ct : ∀ s, s ∈ ss → s.2 ≤ 3
  po : ∃ s, s ∈ ss ∧ 0 < s.2
  fn : ∀ s, s ∈ ss → ∀ t, t ∈ ss → s.1 = t.1 → s.2 = t.2
  vo : ∀ s, s ∈ ss → s.1 = "void" → s.2 = 0
  ln : ss.length ≤ 10
def sgB (ss : List Sign) : Bool := ss.all (fun s => decide (s.1 ∈ wordsAll) && (decide (s.2 ≤ 3) && (!decide (s.1 = "void") || decide (s.2 = 0)) && ss.all fun t => !decide (s.1 = t.1) || decide (s.2 = t.2))) && (ss.any (fun s => decide (0 < s.2)) && decide (ss.length ≤ 10))
theorem sgB_of {ss tt : List Sign} (h : sgB ss = true) (p : tt.Perm ss) : SgOk tt := by
  unfold sgB at h
  simp only [Bool.and_eq_true, List.all_eq_true, List.any_eq_true, decide_eq_true_eq, Bool.or_eq_true, Bool.not_eq_true', decide_eq_false_iff_not] at h
  obtain ⟨h1, ⟨s, hs, hp⟩, hl⟩ := h
  refine ⟨fun s hs => (h1 s (p.subset hs)).1, fun s hs => (h1 s (p.subset hs)).2.1.1, ⟨s, p.symm.subset hs, hp⟩, fun s hs t ht e => ?_, fun s hs e => ?_, by rw [p.length_eq]; exact hl⟩
  · rcases (h1 s (p.subset hs)).2.2 t (p.subset ht) with z | z
    · exact absurd e z
    · exact z
  · rcases (h1 s (p.subset hs)).2.1.2 with z | z
    · exact absurd e z
    · exact z
theorem perm_map {α β : Type} (f : α → β) {es zs : List β} (p : es.Perm zs) : ∀ {l : List α}, zs = l.map f → ∃ ss : List α, ss.Perm l ∧ es = ss.map f := by
  induction p with
  | nil =>
    intro l h
    cases l with
    | nil => exact ⟨[], .nil, rfl⟩
    | cons a l => cases h
  | cons x p ih =>
    intro l h
    cases l with
    | nil => cases h
    | cons a l =>
      rw [List.map_cons] at h
      obtain ⟨rfl, h2⟩ := List.cons.inj h
      obtain ⟨ss, p1, rfl⟩ := ih h2
      exact ⟨a :: ss, p1.cons a, rfl⟩
  | swap x y l' =>
    intro l h
    match l, h with
    | a :: b :: r, h =>
      rw [List.map_cons, List.map_cons] at h
      obtain ⟨rfl, h2⟩ := List.cons.inj h
      obtain ⟨rfl, rfl⟩ := List.cons.inj h2
      exact ⟨b :: a :: r, List.Perm.swap _ _ _, rfl⟩
  | trans p1 p2 ih1 ih2 =>
    intro l h
    obtain ⟨ss, q1, e1⟩ := ih2 h
    obtain ⟨tt, q2, e2⟩ := ih1 e1
    exact ⟨tt, q2.trans q1, e2⟩
theorem sg_all : ∀ l, l ∈ words → ∀ c, c ∈ counts → ∀ v, v < 3 → ∀ r, r < 2 → sgB ((l.zip c).take (3 + v) ++ List.replicate r (("void", 0) : Sign)) = true := by decide +kernel
theorem zip_signs : ∀ (l : List Str) (c : List Nat), List.zipWith (fun p q => PyData.tuple [p, q]) (l.map PyData.str) (c.map fun k => PyData.int (k : Nat)) = (l.zip c).map signD
  | [], _ => by simp
  | _ :: _, [] => by simp
  | x :: l, k :: c => by
    rw [List.map_cons, List.map_cons, List.zipWith_cons_cons, zip_signs l c, List.zip_cons_cons, List.map_cons]
theorem all_si (ss : List Sign) : (ss.map signD).all isSI = true := by
  rw [List.all_eq_true]
  intro d hd
  obtain ⟨s, _, rfl⟩ := List.mem_map.mp hd
  rfl
def F_signs : FD := bodyD (dB_signs F_pick F_draw) 3
theorem signs_spec {n : Nat} {P : PyData → Nat → Prop} (hn : n + 5 ≤ 1000000) (h : ∀ ss, SgOk ss → P (signsD ss) (n + 4)) : F_signs [.deck] n P := by
  unfold F_signs bodyD dB_signs
  walk_at "w"
  refine pick_list (by omega) (by decide) (by decide) fun ws hws => ?_
  have hws' : ws ∈ words.map (fun l => PyData.list (l.map PyData.str)) := hws
  obtain ⟨l, hl, rfl⟩ := List.mem_map.mp hws'
  clear hws hws'
  walk_at "w"
  refine pick_list (by omega) (by decide) (by decide) fun cs hcs => ?_
  have hcs' : cs ∈ counts.map (fun c => PyData.list (c.map fun k => PyData.int (k : Nat))) := hcs
  obtain ⟨c, hc, rfl⟩ := List.mem_map.mp hcs'
  clear hcs hcs'
  walk_at "w"
  refine w_draw (L := 3) (by omega) (by omega) (by omega) fun v hv => ?_
  walk_at "w"
  rw [zip_signs]
  have e3 : (3 : Int) + (v : Int) = ((3 + v : Nat) : Int) := by omega
  rw [e3, cut_to, ← List.map_take]
  refine w_draw (L := 2) (by omega) (by omega) (by omega) fun r hr => ?_
  refine ⟨by omega, by omega, by simp; omega, ?_⟩
  have e4 : (List.replicate ((r : Int)).toNat [PyData.tuple [.str "void", .int 0]]).flatten = (List.replicate r (("void", 0) : Sign)).map signD := by
    rw [Int.toNat_natCast, rep_one, List.map_replicate]
    rfl
  rw [e4, ← List.map_append]
  refine ⟨?_, all_si _, fun es hes => ?_⟩
  · simp only [List.length_map, List.length_take, List.length_replicate]
    omega
  · obtain ⟨ss, p, rfl⟩ := perm_map signD hes rfl
    exact h ss (sgB_of (sg_all l hl c hc v hv r hr) p)
/-! ### rows -/
structure OwnIn (ss : List Sign) (own : List Row) : Prop where
  sg : ∀ r, r ∈ own → (r.1, r.2.length) ∈ ss
  fl : ∀ r, r ∈ own → ∀ f, f ∈ r.2 → f < own.length
  ln : own.length ≤ 6
  p : 0 < own.length
theorem OwnIn.ok {ss : List Sign} {own : List Row} (h : OwnIn ss own) (s : SgOk ss) : OwnOk own := ⟨fun r hr => ⟨s.ct _ (h.sg r hr), h.fl r hr⟩, by have := h.ln; omega⟩
def F_rows : FD := bodyD (dB_rows F_pick F_draw) 6
theorem rows_spec {ss : List Sign} (sg : SgOk ss) {n : Nat} {P : PyData → Nat → Prop} (hn : n + 40 ≤ 1000000) (h : ∀ own n', OwnIn ss own → n' ≤ n + 40 → P (ownD own) n') : F_rows [.deck, .dat (signsD ss), .dat (.int 6)] n P := by
  unfold F_rows bodyD dB_rows
  walk_at "w"
  refine w_draw (L := 6) (by omega) (by omega) (by omega) fun v hv => ?_
  walk_at "w"
  have e1 : (1 : Int) + (v : Int) = ((v + 1 : Nat) : Int) := by omega
  rw [e1]
  generalize hc : v + 1 = cnt
  refine ⟨by omega, by omega, ?_⟩
  rw [Int.toNat_natCast]
  refine loop_rem (fun ds s => ∃ (own : List Row) (x5 x6 x7 : DV), s.sl = [.deck, .dat (signsD ss), .dat (.int 6), .own (own.map rowD), .dat (.int (cnt : Nat)), x5, x6, x7, .un] ∧ (∀ r, r ∈ own → (r.1, r.2.length) ∈ ss) ∧ (∀ r, r ∈ own → ∀ f, f ∈ r.2 → f < cnt) ∧ own.length + ds.length = cnt ∧ s.n + 5 * ds.length ≤ n + 36) (fun d ds s hJ N hN => ?_) (fun s hJ => ?_) _ _ ⟨[], _, _, _, rfl, (fun r hr => absurd hr List.not_mem_nil), (fun r hr => absurd hr List.not_mem_nil), by rw [rng_len]; simp, by rw [rng_len]; show n + 1 + 5 * cnt ≤ _; omega⟩
  · obtain ⟨own, x5, x6, x7, hs, h1, h2, h3, h4⟩ := hJ
    obtain ⟨sl, n1⟩ := s
    simp only at hs h4
    subst hs
    rw [List.length_cons] at h3 h4
    walk_at "w"
    obtain ⟨s0, hs0, _⟩ := sg.po
    refine pick_tup (by omega) (by rw [List.length_map]; exact List.length_pos_of_mem hs0) (by rw [List.length_map]; have := sg.ln; omega) fun d hd => ?_
    obtain ⟨sn, hsn, rfl⟩ := List.mem_map.mp hd
    have h3s := sg.ct sn hsn
    walk_at "w"
    refine ⟨by omega, by omega, ?_⟩
    rw [Int.toNat_natCast]
    refine ⟨by rw [rng_len]; omega, rfl, lc_all (fun y => ∃ u : Nat, u < cnt ∧ y = .int (u : Nat)) 1 (fun d hd m hm1 hm2 Y Z hY => ?_) fun ys m hl hR hm1 hm2 => ?_⟩
    · rw [rng_len] at hm2
      walk_at "w"
      refine w_T rfl ?_
      walk_at "w"
      refine w_draw (by omega) (by omega) (by omega) fun u hu => ⟨rfl, hY _ _ ⟨u, hu, rfl⟩ (Nat.le_succ _) (Nat.le_refl _)⟩
    · rw [rng_len] at hl hm2
      obtain ⟨fs, rfl, hfl, hf⟩ := nats_of hR
      walk_at "w"
      refine w_appK rfl (by rw [List.length_map]; omega) ?_
      refine hN _ ⟨own ++ [(sn.1, fs)], _, _, _, by rw [List.map_append]; rfl, fun r hr => ?_, fun r hr => ?_, by rw [List.length_append, List.length_singleton]; omega, by show m + _ ≤ _; omega⟩
      · rcases List.mem_append.mp hr with hr | hr
        · exact h1 r hr
        · rw [List.mem_singleton.mp hr]
          show (sn.1, fs.length) ∈ ss
          rw [hfl, hl]
          exact hsn
      · rcases List.mem_append.mp hr with hr | hr
        · exact h2 r hr
        · rw [List.mem_singleton.mp hr]
          exact hf
  · obtain ⟨own, x5, x6, x7, hs, h1, h2, h3, h4⟩ := hJ
    obtain ⟨sl, n1⟩ := s
    simp only at hs h4
    subst hs
    rw [List.length_nil, Nat.add_zero] at h3
    walk_at "w"
    exact h own n1 ⟨h1, by rw [h3]; exact h2, by omega, by omega⟩ (by omega)
end K09

set_option Elab.async false
set_option linter.all false
set_option maxRecDepth 100000
set_option maxHeartbeats 4000000
/-! U09c: another sheet of the same value. -/
namespace K09
open PySem PySem.Spec PyProof.Rows L2 GG DD PT DL
set_option simprocs false
local macro_rules | `(tactic| walk_at "w1") => `(tactic| with_reducible first
  | refine DL.w_seq ?_ | refine DL.w_next ?_ | refine DL.w_set ?_ | refine DL.w_setO ?_ | refine DL.w_if ?_ | refine DL.w_ret ?_ | refine DL.w_drop ?_
  | refine DL.w_par ?_ | refine DL.w_parL ?_ | refine DL.w_parR ?_ | refine DL.w_parLL ?_ | refine DL.w_asg ?_ | refine DL.w_for ?_ | refine DL.w_vsNil ?_ | refine DL.w_dIn ?_ | refine DL.w_dPut ?_
  | refine DL.w_gdN ?_ | refine DL.w_gdNil ?_ | refine DL.w_gdCons ?_
  | refine DL.w_c ?_ | refine DL.w_asL ?_ | refine DL.w_asU ?_ | refine DL.w_newL ?_ | refine DL.w_nil ?_ | refine DL.w_cons ?_ | refine DL.w_tup ?_ | refine DL.w_lst ?_ | refine DL.w_op ?_
  | refine DL.w_lenL ?_ | refine DL.w_lenD ?_ | refine DL.w_tupOf ?_ | refine DL.w_ifE ?_ | refine DL.w_cat ?_ | refine DL.w_rep ?_ | refine DL.w_call ?_ | refine DL.w_callP ?_
  | refine DL.w_xNil ?_ | refine DL.w_xCons ?_ | refine DL.w_all ?_ | refine DL.w_reprA ?_ | refine DL.w_isi ?_ | refine DL.w_andV ?_ | refine DL.w_newD ?_ | refine DL.w_dict0 ?_
  | refine DL.w_slD ?_ | refine DL.w_slU ?_ | refine DL.w_noP ?_ | refine DL.w_part ?_ | refine DL.w_listZip ?_ | refine DL.w_sortSI ?_ | refine DL.w_listRng ?_ | refine DL.w_setD ?_ | refine DL.w_dictL ?_ | refine DL.w_dictU ?_ | refine DL.w_disp ?_ | refine DL.w_psNil ?_ | refine DL.w_psCons ?_
  | refine DL.w_rng1 ?_ | refine DL.w_comp ?_ | refine DL.w_enum ?_ | refine DL.w_B ?_ | refine DL.w_and ?_ | refine DL.w_or ?_ | refine DL.w_not ?_ | refine DL.w_yes ?_)
local macro_rules | `(tactic| walk_at "w2") => `(tactic| first
  | walk_at "w1"
  | ((with_reducible apply DL.w_var); (· rfl))
  | ((with_reducible apply DL.w_xDeck); (· rfl))
  | ((with_reducible apply DL.w_listO); (· rfl))
  | ((with_reducible apply DL.w_listD); (· rfl))
  | ((with_reducible apply DL.w_app); (· exact trivial))
  | ((with_reducible apply DL.w_popAt); (· exact trivial))
  | ((with_reducible apply DL.w_dGet); (· exact trivial))
  | ((with_reducible apply DL.w_fzO); (· rfl))
  | ((with_reducible apply DL.w_fzD); (· rfl))
  | ((with_reducible apply DL.w_fz); (· rfl))
  | ((with_reducible apply DL.w_gdTup); (· rfl))
  | ((with_reducible refine And.intro ?_ ?_); (· first | rfl | exact True.intro | decide | (dsimp only [List.length_cons, List.length_nil]; decide)))
  | with_reducible refine DL.w_I0 ?_ | with_reducible refine DL.w_eqI ?_ | with_reducible refine DL.w_neI ?_ | with_reducible refine DL.w_isN ?_ | with_reducible refine DL.w_notN ?_)
local macro_rules | `(tactic| walk_at "w") => `(tactic| (repeat walk_at "w2"; try dsimp only [List.set_cons_zero, List.set_cons_succ, List.cons_append, List.nil_append, List.replicate_succ, List.replicate_zero]))
def F_again : FD := bodyD (dB_again F_draw F_pick) 11
def at0 (old : List Nat) (i : Nat) : Nat := old.getD i 0
theorem at0_get {old : List Nat} {i k : Nat} (h : old[i]? = some k) : at0 old i = k := by
  unfold at0
  rw [List.getD_eq_getElem?_getD, h]
  rfl
/-- the places of a number, as data -/
def selD (fv : Nat) : PyData → Option PyData
  | .tuple [.int i, .int r] => if r = (fv : Int) then some (.int i) else none
  | _ => none
theorem enum_mem {l : List PyData} {d : PyData} (h : d ∈ enumD l) : ∃ (i : Nat) (x : PyData), l[i]? = some x ∧ d = .tuple [.int (i : Nat), x] := by
  obtain ⟨i, hi⟩ := List.mem_iff_getElem?.mp h
  obtain ⟨x, h1, h2⟩ := enum_get hi
  exact ⟨i, x, h1, h2⟩
theorem mem_enum {l : List PyData} {i : Nat} {x : PyData} (h : l[i]? = some x) : PyData.tuple [.int (i : Nat), x] ∈ enumD l := by
  unfold enumD
  refine List.mem_map.mpr ⟨(x, i), ?_, rfl⟩
  exact List.mem_zipIdx_iff_getElem?.mpr h
def placeD (old : List Nat) (fv : Nat) : PyData := .list ((enumD (natsD old)).filterMap (selD fv))
def placeF (old : List Nat) : PyData → PyData
  | .int f => placeD old f.toNat
  | _ => .none
theorem place_mem {old : List Nat} {fv : Nat} {y : PyData} (h : y ∈ (enumD (natsD old)).filterMap (selD fv)) : ∃ a : Nat, a < old.length ∧ y = .int (a : Nat) ∧ at0 old a = fv := by
  obtain ⟨d, hd, e⟩ := List.mem_filterMap.mp h
  obtain ⟨i, x, hx, rfl⟩ := enum_mem hd
  rw [List.getElem?_map] at hx
  cases ho : old[i]? with
  | none => rw [ho] at hx; cases hx
  | some k =>
    rw [ho] at hx
    cases hx
    unfold selD at e
    simp only at e
    by_cases hk : (k : Int) = (fv : Int)
    · rw [if_pos hk] at e
      cases e
      exact ⟨i, (List.getElem?_eq_some_iff.mp ho).1, rfl, by rw [at0_get ho]; omega⟩
    · rw [if_neg hk] at e
      cases e
theorem place_pos {old : List Nat} {fv : Nat} (h : fv ∈ old) : 0 < ((enumD (natsD old)).filterMap (selD fv)).length := by
  obtain ⟨i, hi⟩ := List.mem_iff_getElem?.mp h
  have hm : (natsD old)[i]? = some (.int (fv : Nat)) := by
    rw [List.getElem?_map, hi]
    rfl
  refine List.length_pos_of_mem (a := .int (i : Nat)) (List.mem_filterMap.mpr ⟨_, mem_enum hm, ?_⟩)
  unfold selD
  exact if_pos rfl
theorem place_len {old : List Nat} {fv : Nat} : ((enumD (natsD old)).filterMap (selD fv)).length ≤ old.length := by
  refine Nat.le_trans (List.length_filterMap_le _ _) ?_
  rw [enum_len, List.length_map]
  exact Nat.le_refl _
theorem erase_map {α β : Type} (f : α → β) (l : List α) (v : Nat) : (l.map f).eraseIdx v = (l.eraseIdx v).map f := by
  rw [List.eraseIdx_eq_take_drop_succ, List.eraseIdx_eq_take_drop_succ, List.map_append, List.map_take, List.map_drop]
structure FarRow (own : List Row) (old : List Nat) (r : Row) (k : Nat) : Prop where
  w : r.1 = (rowAt own k).1
  m : r.2.map (at0 old) = (rowAt own k).2
  l : ∀ f, f ∈ r.2 → f < old.length
theorem again_spec {ss : List Sign} (sg : SgOk ss) {own : List Row} (oi : OwnIn ss own) {n : Nat} {P : PyData → Nat → Prop} (hn : n + 60 ≤ 1000000) (h : ∀ far old n', FarOk own far old → n' ≤ n + 60 → P (ownD far) n') : F_again [.deck, .dat (ownD own)] n P := by
  have hlen := oi.ln
  unfold F_again bodyD dB_again
  walk_at "w"
  rw [List.length_map]
  refine ⟨by omega, by omega, ?_⟩
  rw [Int.toNat_natCast]
  refine ⟨by rw [rng_len]; omega, rfl, lc_some (fun y => ∃ u : Nat, u < own.length ∧ y = .int (u : Nat)) 1 (fun d hd m hm1 hm2 Y Z hY hZ => ?_) fun ys m hl hR hm1 hm2 => ?_⟩
  · rw [rng_len] at hm2
    obtain ⟨u, hu, rfl⟩ := rng_mem hd
    walk_at "w"
    refine w_draw (L := 2) (by omega) (by omega) (by omega) fun v hv => ?_
    walk_at "w"
    refine w_ite (fun _ => ?_) fun _ => ?_
    · walk_at "w"
      exact hY _ _ ⟨u, hu, rfl⟩ (Nat.le_succ _) (Nat.le_refl _)
    · exact ⟨rfl, hZ _ (Nat.le_succ _) (Nat.le_refl _)⟩
  rw [rng_len] at hl hm2
  obtain ⟨us, rfl, hul, hu⟩ := nats_of hR
  rw [List.length_map] at hl
  walk_at "w"
  refine ⟨by rw [List.length_map]; show 1 + _ ≤ _; omega, ?_⟩
  walk_at "w"
  rw [List.length_map]
  refine ⟨by omega, by omega, ?_⟩
  walk_at "w"
  rw [Int.toNat_natCast, upTo_nats]
  have e0 : PyData.int 0 :: natsD us = natsD (0 :: us) := rfl
  rw [e0]
  refine ⟨fun c s => ∃ old left : List Nat, s.sl = [.deck, .dat (ownD own), .own (natsD old), .own (natsD left), .un, .un, .un, .un, .un, .un, .un, .un, .un] ∧ left.length = c ∧ (∀ k, k < own.length → k ∈ old ∨ k ∈ left) ∧ (∀ k, k ∈ old → k < own.length) ∧ (∀ k, k ∈ left → k < own.length) ∧ at0 old 0 = 0 ∧ 0 < old.length ∧ old.length + left.length ≤ 13 ∧ s.n + left.length ≤ n + 12,
    ⟨own.length, 0 :: us, List.range own.length, rfl, List.length_range, fun k hk => .inr (List.mem_range.mpr hk), fun k hk => ?_, fun k hk => List.mem_range.mp hk, rfl, by simp, by simp; omega, by rw [List.length_range]; show m + _ ≤ _; omega⟩, fun c s hI => ?_⟩
  · rcases List.mem_cons.mp hk with rfl | hk
    · exact oi.p
    · exact hu k hk
  obtain ⟨old, left, hs, h1, h2, h3, h4, h5, h6, h7, h8⟩ := hI
  obtain ⟨sl, n1⟩ := s
  simp only at hs h8
  subst hs
  walk_at "w"
  refine ⟨noDict_nats _, shaped_nats _, ?_⟩
  refine w_ite (fun ht => ?_) fun hf => ?_
  · walk_at "w"
    rw [List.length_map]
    have hl0 : 0 < left.length := by
      cases left with
      | nil => cases ht
      | cons x r => exact Nat.succ_pos _
    refine w_draw (by omega) (by omega) (by omega) fun v hv => ?_
    refine w_popK (d := .int (left[v] : Nat)) rfl (by rw [List.length_map]; omega) (by rw [List.getElem?_map, List.getElem?_eq_getElem hv]; rfl) ?_
    refine w_appK rfl (by rw [List.length_map]; omega) ?_
    have hle : (left.eraseIdx v).length = left.length - 1 := List.length_eraseIdx_of_lt hv
    refine ⟨left.length - 1, by omega, old ++ [left[v]], left.eraseIdx v, ?_, hle, fun k hk => ?_, fun k hk => ?_, fun k hk => h4 k (of_erase hk), ?_, by rw [List.length_append]; omega, by rw [List.length_append, hle, List.length_singleton]; omega, by rw [hle]; show n1 + 1 + _ ≤ _; omega⟩
    · show [DV.deck, _, _, DV.own ((natsD left).eraseIdx v), _, _, _, _, _, _, _, _, _] = _
      rw [erase_map, natsD, natsD, List.map_append]
      rfl
    · rcases h2 k hk with z | z
      · exact .inl (List.mem_append_left _ z)
      · rcases mem_erase hv z with z | z
        · exact .inl (List.mem_append_right _ (by rw [z]; exact List.mem_singleton.mpr rfl))
        · exact .inr z
    · rcases List.mem_append.mp hk with hk | hk
      · exact h3 k hk
      · rw [List.mem_singleton.mp hk]
        exact h4 _ (List.getElem_mem hv)
    · unfold at0 at h5 ⊢
      rw [List.getD_eq_getElem?_getD] at h5 ⊢
      rw [List.getElem?_append_left h6]
      exact h5
  · have hl0 : left = [] := by
      cases left with
      | nil => rfl
      | cons x r => cases hf
    subst hl0
    have h2' : ∀ k, k < own.length → k ∈ old := fun k hk => (h2 k hk).elim id fun z => absurd z List.not_mem_nil
    rw [List.length_nil, Nat.add_zero] at h7 h8
    clear h4 h2 hf
    walk_at "w"
    refine loop_rem (fun ds s => ∃ (far : List Row) (done rest : List Nat) (x5 x6 x7 x8 : DV), s.sl = [.deck, .dat (ownD own), .dat (.list (natsD old)), .own [], .own (far.map rowD), x5, x6, x7, x8, .un, .un, .un, .un] ∧ done ++ rest = old ∧ ds = natsD rest ∧ far.length = done.length ∧ (∀ i r k, far[i]? = some r → done[i]? = some k → FarRow own old r k) ∧ s.n + 3 * rest.length ≤ n + 60) (fun d ds s hJ N hN => ?_) (fun s hJ => ?_) _ _ ⟨[], [], old, _, _, _, _, rfl, rfl, rfl, rfl, (fun i r k hr => by rw [List.getElem?_nil] at hr; cases hr), by show n1 + _ ≤ _; omega⟩
    · obtain ⟨far, done, rest, x5, x6, x7, x8, hs, e1, e2, e3, e4, e5⟩ := hJ
      obtain ⟨sl, n2⟩ := s
      simp only at hs e5
      subst hs
      cases rest with
      | nil => cases e2
      | cons k rest =>
        rw [natsD, List.map_cons] at e2
        obtain ⟨rfl, rfl⟩ := List.cons.inj e2
        rw [List.length_cons] at e5
        have hkm : k ∈ old := by
          rw [← e1]
          exact List.mem_append_right _ List.mem_cons_self
        have hk := h3 k hkm
        have hr := row_mem hk
        have hfl := oi.fl _ hr
        have hf3 := sg.ct _ (oi.sg _ hr)
        walk_at "w"
        refine w_ixU (atI_nat (row_at hk)) ?_
        walk_at "w"
        refine ⟨by rw [List.length_map]; show (rowAt own k).2.length ≤ _; simp only at hf3; omega, rfl, lc_map (placeF old) (fun d hd Y Z hY => ?_) ?_⟩
        · obtain ⟨fv, hfv, rfl⟩ := List.mem_map.mp hd
          walk_at "w"
          refine w_T rfl ?_
          walk_at "w"
          refine ⟨by rw [enum_len, List.length_map]; omega, rfl, lc_fm (selD fv) (fun d hd Y2 Z2 hY2 hZ2 => ?_) ?_⟩
          · obtain ⟨i, x, hx, rfl⟩ := enum_mem hd
            rw [List.getElem?_map] at hx
            cases ho : old[i]? with
            | none => rw [ho] at hx; cases hx
            | some k2 =>
              rw [ho] at hx
              cases hx
              walk_at "w"
              refine w_ite (fun he => ?_) fun he => ?_
              · walk_at "w"
                refine hY2 _ (if_pos ?_)
                exact of_decide_eq_true he
              · refine ⟨rfl, hZ2 (if_neg ?_)⟩
                exact of_decide_eq_false he
          · exact ⟨rfl, hY⟩
        · walk_at "w"
          refine ⟨by rw [List.length_map, List.length_map]; simp only at hf3; omega, rfl, lc_rem (fun ds acc m => ∃ ats rs : List Nat, ats.map (at0 old) ++ rs = (rowAt own k).2 ∧ acc = natsD ats ∧ ds = rs.map (placeD old) ∧ (∀ a, a ∈ ats → a < old.length) ∧ m + rs.length ≤ n2 + 3) (fun d ds acc m hJ2 Y Z hY hZ => ?_) (fun acc m hJ2 => ?_) _ _ _ ⟨[], (rowAt own k).2, rfl, rfl, ?_, (fun a ha => absurd ha List.not_mem_nil), by simp only at hf3; omega⟩⟩
          · obtain ⟨ats, rs, g1, g2, g3, g4, g5⟩ := hJ2
            cases rs with
            | nil => cases g3
            | cons fv rs =>
              rw [List.map_cons] at g3
              obtain ⟨rfl, rfl⟩ := List.cons.inj g3
              rw [List.length_cons] at g5
              have hfv : fv ∈ (rowAt own k).2 := by
                rw [← g1]
                exact List.mem_append_right _ List.mem_cons_self
              walk_at "w"
              refine w_T rfl ?_
              walk_at "w"
              refine pick_list (by omega) (place_pos (h2' _ (hfl _ hfv))) (by have := place_len (old := old) (fv := fv); omega) fun y hy => ⟨rfl, ?_⟩
              obtain ⟨a, ha, rfl, hav⟩ := place_mem hy
              refine hY _ _ ⟨ats ++ [a], rs, by rw [List.map_append, List.append_assoc, ← g1, ← hav]; rfl, by rw [g2, natsD, natsD, List.map_append]; rfl, rfl, fun b hb => ?_, by omega⟩
              rcases List.mem_append.mp hb with hb | hb
              · exact g4 b hb
              · rw [List.mem_singleton.mp hb]
                exact ha
          · obtain ⟨ats, rs, g1, rfl, g3, g4, g5⟩ := hJ2
            cases rs with
            | cons x rs => cases g3
            | nil =>
              rw [List.append_nil] at g1
              walk_at "w"
              refine w_appK rfl (by rw [List.length_map, e3]; have := congrArg List.length e1; rw [List.length_append, List.length_cons] at this; omega) ?_
              refine hN _ ⟨far ++ [((rowAt own k).1, ats)], done ++ [k], rest, _, _, _, _, by rw [List.map_append]; rfl, by rw [List.append_assoc]; exact e1, rfl, by rw [List.length_append, List.length_append, e3]; rfl, fun i r k2 hr hk2 => ?_, by show m + _ ≤ _; rw [List.length_nil] at g5; omega⟩
              rcases Nat.lt_trichotomy i far.length with z | z | z
              · rw [List.getElem?_append_left z] at hr
                rw [List.getElem?_append_left (e3 ▸ z)] at hk2
                exact e4 i r k2 hr hk2
              · subst z
                rw [List.getElem?_append_right (Nat.le_refl _), Nat.sub_self] at hr
                rw [e3, List.getElem?_append_right (Nat.le_refl _), Nat.sub_self] at hk2
                cases hr
                cases hk2
                exact ⟨rfl, g1, g4⟩
              · rw [List.getElem?_eq_none (by rw [List.length_append]; show far.length + 1 ≤ i; omega)] at hr
                cases hr
          · rw [List.map_map]
            rfl
    · obtain ⟨far, done, rest, x5, x6, x7, x8, hs, e1, e2, e3, e4, e5⟩ := hJ
      obtain ⟨sl, n2⟩ := s
      simp only at hs e5
      subst hs
      cases rest with
      | cons k rest => cases e2
      | nil =>
        rw [List.append_nil] at e1
        subst e1
        walk_at "w"
        have key : ∀ i, i < far.length → FarRow own done (rowAt far i) (at0 done i) := fun i hi => by
          have q1 : far[i]? = some (rowAt far i) := by
            unfold rowAt
            rw [List.getD_eq_getElem?_getD, List.getElem?_eq_getElem hi]
            rfl
          have q2 : done[i]? = some (at0 done i) := by
            unfold at0
            rw [List.getD_eq_getElem?_getD, List.getElem?_eq_getElem (e3 ▸ hi)]
            rfl
          exact e4 i _ _ q1 q2
        refine h far (at0 done) n2 ⟨⟨fun r hr => ?_, by omega⟩, h5, by omega, fun i hi => (key i hi).w, fun i hi => (key i hi).m⟩ (by rw [List.length_nil] at e5; omega)
        obtain ⟨i, hi⟩ := List.mem_iff_getElem?.mp hr
        have hlt := (List.getElem?_eq_some_iff.mp hi).1
        have q2 : done[i]? = some (done[i]'(e3 ▸ hlt)) := List.getElem?_eq_getElem (e3 ▸ hlt)
        have z := e4 i r _ hi q2
        have hkk := h3 _ (List.getElem_mem (e3 ▸ hlt) : done[i]'(e3 ▸ hlt) ∈ done)
        refine ⟨?_, fun f hf => e3 ▸ z.l f hf⟩
        have z2 := congrArg List.length z.m
        rw [List.length_map] at z2
        rw [z2]
        exact sg.ct _ (oi.sg _ (row_mem hkk))
end K09

set_option Elab.async false
set_option linter.all false
set_option maxRecDepth 100000
set_option maxHeartbeats 4000000
/-! U09d: whether a value is a top: the law's look and the program's are the same. -/
namespace K09
open PySem PySem.Spec PyProof.Rows L2 GG DD PT DL
set_option simprocs false
local macro_rules | `(tactic| walk_at "w1") => `(tactic| with_reducible first
  | refine DL.w_seq ?_ | refine DL.w_next ?_ | refine DL.w_set ?_ | refine DL.w_setO ?_ | refine DL.w_if ?_ | refine DL.w_ret ?_ | refine DL.w_drop ?_
  | refine DL.w_par ?_ | refine DL.w_parL ?_ | refine DL.w_parR ?_ | refine DL.w_parLL ?_ | refine DL.w_asg ?_ | refine DL.w_for ?_ | refine DL.w_vsNil ?_ | refine DL.w_dIn ?_ | refine DL.w_dPut ?_
  | refine DL.w_gdN ?_ | refine DL.w_gdNil ?_ | refine DL.w_gdCons ?_
  | refine DL.w_c ?_ | refine DL.w_asL ?_ | refine DL.w_asU ?_ | refine DL.w_newL ?_ | refine DL.w_nil ?_ | refine DL.w_cons ?_ | refine DL.w_tup ?_ | refine DL.w_lst ?_ | refine DL.w_op ?_
  | refine DL.w_lenL ?_ | refine DL.w_lenD ?_ | refine DL.w_tupOf ?_ | refine DL.w_ifE ?_ | refine DL.w_cat ?_ | refine DL.w_rep ?_ | refine DL.w_call ?_ | refine DL.w_callP ?_
  | refine DL.w_xNil ?_ | refine DL.w_xCons ?_ | refine DL.w_all ?_ | refine DL.w_reprA ?_ | refine DL.w_isi ?_ | refine DL.w_andV ?_ | refine DL.w_newD ?_ | refine DL.w_dict0 ?_
  | refine DL.w_slD ?_ | refine DL.w_slU ?_ | refine DL.w_noP ?_ | refine DL.w_part ?_ | refine DL.w_listZip ?_ | refine DL.w_sortSI ?_ | refine DL.w_listRng ?_ | refine DL.w_setD ?_ | refine DL.w_dictL ?_ | refine DL.w_dictU ?_ | refine DL.w_disp ?_ | refine DL.w_psNil ?_ | refine DL.w_psCons ?_
  | refine DL.w_rng1 ?_ | refine DL.w_comp ?_ | refine DL.w_enum ?_ | refine DL.w_B ?_ | refine DL.w_and ?_ | refine DL.w_or ?_ | refine DL.w_not ?_ | refine DL.w_yes ?_)
local macro_rules | `(tactic| walk_at "w2") => `(tactic| first
  | walk_at "w1"
  | ((with_reducible apply DL.w_var); (· rfl))
  | ((with_reducible apply DL.w_xDeck); (· rfl))
  | ((with_reducible apply DL.w_listO); (· rfl))
  | ((with_reducible apply DL.w_listD); (· rfl))
  | ((with_reducible apply DL.w_app); (· exact trivial))
  | ((with_reducible apply DL.w_popAt); (· exact trivial))
  | ((with_reducible apply DL.w_dGet); (· exact trivial))
  | ((with_reducible apply DL.w_fzO); (· rfl))
  | ((with_reducible apply DL.w_fzD); (· rfl))
  | ((with_reducible apply DL.w_fz); (· rfl))
  | ((with_reducible apply DL.w_gdTup); (· rfl))
  | ((with_reducible refine And.intro ?_ ?_); (· first | rfl | exact True.intro | decide | (dsimp only [List.length_cons, List.length_nil]; decide)))
  | with_reducible refine DL.w_I0 ?_ | with_reducible refine DL.w_eqI ?_ | with_reducible refine DL.w_neI ?_ | with_reducible refine DL.w_isN ?_ | with_reducible refine DL.w_notN ?_)
local macro_rules | `(tactic| walk_at "w") => `(tactic| (repeat walk_at "w2"; try dsimp only [List.set_cons_zero, List.set_cons_succ, List.cons_append, List.nil_append, List.replicate_succ, List.replicate_zero]))
/-- whether a value has the form of a top -/
def formN (c : Str → Option Nat) (p : List PyData → Bool) : PyData → Bool
  | .tuple [.str w, .tuple fs] => match c w with
    | none => false
    | some k => decide (fs.length = k) && p fs
  | _ => false
def subs (c : Str → Option Nat) : Nat → List PyData → Bool
  | 0 => fun fs => fs.all isNoneD
  | d + 1 => fun fs => fs.all fun x => formN c (subs c d) x
def formB (c : Str → Option Nat) (deep : Nat) (it : PyData) : Bool := formN c (subs c deep) it
/-- a dict tells these counts -/
def Tells (kvs : List (PyData × PyData)) (c : Str → Option Nat) : Prop := ∀ w : Str, dgetD kvs (.inr w) = (c w).map fun k => PyData.int (k : Nat)
def Small (c : Str → Option Nat) : Prop := ∀ w k, c w = some k → k ≤ 3
def F_form : Nat → FD
  | 0 => fun _ _ _ => False
  | m + 1 => bodyD (dB_has_form (F_form m)) 1
def F_int : Nat → FD
  | 0 => fun _ _ _ => False
  | m + 1 => bodyD (dB_is_node_top (F_int m)) 3
theorem not_notB (b : Bool) : (!b) = true ↔ b = false := by cases b <;> decide
theorem form_no {c : Str → Option Nat} {d : Nat} {it : PyData} (h : ∀ w fs, it ≠ .tuple [.str w, .tuple fs]) : formB c d it = false := by
  unfold formB formN
  split
  · exact absurd rfl (h _ _)
  · rfl
theorem filt_none (fs : List PyData) : (fs.filter fun x => !isNoneD x).isEmpty = fs.all isNoneD := by
  induction fs with
  | nil => rfl
  | cons x fs ih =>
    cases h : isNoneD x with
    | true =>
      rw [List.filter_cons_of_neg (by rw [h]; decide), List.all_cons, h, ih]
      rfl
    | false =>
      rw [List.filter_cons_of_pos (by rw [h]; rfl), List.all_cons, h]
      rfl
theorem filt_not (p : PyData → Bool) (fs : List PyData) : (fs.filter fun x => !p x).isEmpty = fs.all p := by
  induction fs with
  | nil => rfl
  | cons x fs ih =>
    cases h : p x with
    | true =>
      rw [List.filter_cons_of_neg (by rw [h]; decide), List.all_cons, h, ih]
      rfl
    | false =>
      rw [List.filter_cons_of_pos (by rw [h]; rfl), List.all_cons, h]
      rfl
theorem bools_map (f : PyData → Bool) : ∀ xs : List PyData, boolsD (xs.map fun x => PyData.bool (f x)) = some (xs.map f)
  | [] => rfl
  | x :: xs => by
    show (boolsD (xs.map fun x => PyData.bool (f x))).map _ = _
    rw [bools_map f xs]
    rfl
theorem all_map (f : PyData → Bool) (xs : List PyData) : (xs.map f).all id = xs.all f := by
  rw [List.all_map]
  rfl
theorem form_eq (c : Str → Option Nat) (deep : Nat) (w : Str) (fs : List PyData) : formB c deep (.tuple [.str w, .tuple fs]) = match c w with
    | none => false
    | some k => decide (fs.length = k) && subs c deep fs := rfl
theorem at2_0 (a b : PyData) : atI [a, b] 0 = some a := by kernel_rfl
theorem at2_1 (a b : PyData) : atI [a, b] 1 = some b := by kernel_rfl
theorem tells_some {kvs : List (PyData × PyData)} {c : Str → Option Nat} (T : Tells kvs c) {w : Str} {k : Nat} (h : c w = some k) : dgetD kvs (.inr w) = some (.int (k : Nat)) := by
  rw [T w, h]
  rfl
theorem tells_none {kvs : List (PyData × PyData)} {c : Str → Option Nat} (T : Tells kvs c) {w : Str} (h : c w = none) : dgetD kvs (.inr w) = none := by
  rw [T w, h]
  rfl
theorem form_spec {kvs : List (PyData × PyData)} {c : Str → Option Nat} (T : Tells kvs c) (S : Small c) : ∀ (m deep n : Nat) (it : PyData) (P : PyData → Nat → Prop), deep < m → P (.bool (formB c deep it)) n → F_form m [.dat (.dict kvs), .dat (.int (deep : Nat)), .dat it] n P
  | 0, _, _, _, _, h, _ => absurd h (Nat.not_lt_zero _)
  | m + 1, deep, n, it, P, hm, hP => by
    unfold F_form bodyD dB_has_form
    walk_at "w"
    refine ⟨_, isa_tup it, ?_⟩
    walk_at "w"
    refine w_ite (fun h => ?_) fun h => ?_
    · refine w_T rfl ?_
      walk_at "w"
      rw [form_no (fun w fs z => by rw [z] at h; cases h)] at hP
      exact hP
    cases it with
    | tuple ds =>
      clear h
      walk_at "w"
      refine w_ite (fun h => ?_) fun h => ?_
      · refine w_T rfl ?_
        walk_at "w"
        rw [form_no (fun w fs z => by
          cases z
          exact not_dec_t h rfl)] at hP
        exact hP
      have hl : ds.length = 2 := by
        have := not_dec_f h
        omega
      match ds, hl with
      | [a, b], _ =>
      clear h
      walk_at "w"
      refine w_ixU (at2_0 a b) ?_
      refine ⟨_, isa_str a, ?_⟩
      walk_at "w"
      refine w_ite (fun h => ?_) fun h => ?_
      · refine w_T rfl ?_
        walk_at "w"
        rw [form_no (fun w fs z => by
          cases z
          cases h)] at hP
        exact hP
      cases a with
      | str w =>
        clear h
        walk_at "w"
        refine w_ixU (at2_1 _ b) ?_
        refine ⟨_, isa_tup b, ?_⟩
        walk_at "w"
        refine w_ite (fun h => ?_) fun h => ?_
        · walk_at "w"
          rw [form_no (fun w fs z => by
            cases z
            cases h)] at hP
          exact hP
        cases b with
        | tuple fs =>
          clear h
          walk_at "w"
          refine w_ixU (at2_0 _ _) ?_
          refine w_inK rfl rfl ?_
          walk_at "w"
          cases hc : c w with
          | none =>
            rw [tells_none T hc]
            refine w_T rfl ?_
            walk_at "w"
            have hF : formB c deep (.tuple [.str w, .tuple fs]) = false := by
              rw [form_eq, hc]
            rw [hF] at hP
            exact hP
          | some k =>
            rw [tells_some T hc]
            refine w_F rfl ?_
            have hk := S w k hc
            have hF : formB c deep (.tuple [.str w, .tuple fs]) = (decide (fs.length = k) && subs c deep fs) := by
              rw [form_eq, hc]
            rw [hF] at hP
            walk_at "w"
            refine w_ixU (at2_1 _ _) ?_
            walk_at "w"
            refine w_ixU (at2_0 _ _) ?_
            refine w_getK rfl rfl (tells_some T hc) ?_
            walk_at "w"
            refine w_ite (fun h => ?_) fun h => ?_
            · walk_at "w"
              have h' := not_dec_t h
              rw [decide_eq_false (fun z => h' (by rw [z]))] at hP
              exact hP
            have hl : fs.length = k := by
              have := not_dec_f h
              omega
            rw [decide_eq_true hl, Bool.true_and] at hP
            clear h hF
            walk_at "w"
            cases deep with
            | zero =>
              refine w_T (by decide) ?_
              walk_at "w"
              refine w_ixU (at2_1 _ _) ?_
              walk_at "w"
              refine ⟨by omega, rfl, lc_filter (fun x => !isNoneD x) (fun d hd Y Z hY hZ => ?_) ?_⟩
              · walk_at "w"
                exact w_ite (fun h => ⟨rfl, hY h⟩) fun h => ⟨rfl, hZ h⟩
              · walk_at "w"
                refine w_eqMtL ?_
                rw [filt_none]
                exact hP
            | succ d =>
              refine w_F (decide_eq_false (by omega)) ?_
              walk_at "w"
              refine w_ixU (at2_1 _ _) ?_
              walk_at "w"
              refine ⟨by omega, rfl, lc_filter (fun x => !formB c d x) (fun x hx Y Z hY hZ => ?_) ?_⟩
              · walk_at "w"
                rw [sub1]
                refine form_spec T S m d n x _ (by omega) ?_
                exact w_ite (fun h => ⟨rfl, hY h⟩) fun h => ⟨rfl, hZ h⟩
              · walk_at "w"
                refine w_eqMtL ?_
                rw [filt_not]
                exact hP
        | _ => cases h
      | _ => cases h
    | _ => cases h
theorem int_spec {kvs : List (PyData × PyData)} {c : Str → Option Nat} (T : Tells kvs c) (S : Small c) : ∀ (m deep n : Nat) (it : PyData) (P : PyData → Nat → Prop), deep < m → P (.bool (formB c deep it)) n → F_int m [.dat (.dict kvs), .dat (.int (deep : Nat)), .dat it] n P
  | 0, _, _, _, _, h, _ => absurd h (Nat.not_lt_zero _)
  | m + 1, deep, n, it, P, hm, hP => by
    unfold F_int bodyD dB_is_node_top
    walk_at "w"
    refine ⟨_, isa_tup it, ?_⟩
    walk_at "w"
    refine w_ite (fun h => ?_) fun h => ?_
    · refine w_T rfl ?_
      walk_at "w"
      rw [form_no (fun w fs z => by rw [z] at h; cases h)] at hP
      exact hP
    cases it with
    | tuple ds =>
      clear h
      walk_at "w"
      refine w_ite (fun h => ?_) fun h => ?_
      · walk_at "w"
        rw [form_no (fun w fs z => by
          cases z
          exact not_dec_t h rfl)] at hP
        exact hP
      have hl : ds.length = 2 := by
        have := not_dec_f h
        omega
      match ds, hl with
      | [a, b], _ =>
      clear h
      walk_at "w"
      refine ⟨_, isa_str a, ?_⟩
      walk_at "w"
      refine w_ite (fun h => ?_) fun h => ?_
      · refine w_T rfl ?_
        walk_at "w"
        rw [form_no (fun w fs z => by
          cases z
          cases h)] at hP
        exact hP
      cases a with
      | str w =>
        clear h
        walk_at "w"
        refine w_inK rfl rfl ?_
        walk_at "w"
        cases hc : c w with
        | none =>
          rw [tells_none T hc]
          refine w_T rfl ?_
          refine w_T rfl ?_
          walk_at "w"
          by_cases hb : ∃ fs, b = .tuple fs
          · obtain ⟨fs, rfl⟩ := hb
            have hF : formB c deep (.tuple [.str w, .tuple fs]) = false := by
              rw [form_eq, hc]
            rw [hF] at hP
            exact hP
          · rw [form_no (fun w fs z => by
              cases z
              exact hb ⟨_, rfl⟩)] at hP
            exact hP
        | some k =>
          rw [tells_some T hc]
          refine w_F rfl ?_
          walk_at "w"
          refine ⟨_, isa_tup b, ?_⟩
          walk_at "w"
          refine w_ite (fun h => ?_) fun h => ?_
          · refine w_T rfl ?_
            walk_at "w"
            rw [form_no (fun w fs z => by
              cases z
              cases h)] at hP
            exact hP
          cases b with
          | tuple fs =>
            clear h
            have hk := S w k hc
            have hF : formB c deep (.tuple [.str w, .tuple fs]) = (decide (fs.length = k) && subs c deep fs) := by
              rw [form_eq, hc]
            rw [hF] at hP
            walk_at "w"
            refine w_getK rfl rfl (tells_some T hc) ?_
            walk_at "w"
            refine w_ite (fun h => ?_) fun h => ?_
            · walk_at "w"
              have h' := not_dec_t h
              rw [decide_eq_false (fun z => h' (by rw [z]))] at hP
              exact hP
            have hl : fs.length = k := by
              have := not_dec_f h
              omega
            rw [decide_eq_true hl, Bool.true_and] at hP
            clear h hF
            walk_at "w"
            cases deep with
            | zero =>
              refine w_T (by decide) ?_
              walk_at "w"
              refine ⟨by omega, rfl, lc_map (fun x => .bool (isNoneD x)) (fun d hd Y Z hY => ?_) ?_⟩
              · walk_at "w"
                refine w_T rfl ?_
                walk_at "w"
                exact hY
              · exact ⟨_, bools_map isNoneD fs, by rw [all_map]; exact hP⟩
            | succ d =>
              refine w_F (decide_eq_false (by omega)) ?_
              walk_at "w"
              refine ⟨by omega, rfl, lc_map (fun x => .bool (formB c d x)) (fun x hx Y Z hY => ?_) ?_⟩
              · walk_at "w"
                refine w_T rfl ?_
                walk_at "w"
                rw [sub1]
                exact int_spec T S m d n x _ (by omega) ⟨rfl, hY⟩
              · exact ⟨_, bools_map (formB c d) fs, by rw [all_map]; exact hP⟩
          | _ => cases h
      | _ => cases h
    | _ => cases h
end K09

set_option Elab.async false
set_option linter.all false
set_option maxRecDepth 100000
set_option maxHeartbeats 4000000
/-! U09e: is_top, and whether a value is recognized as it should. -/
namespace K09
open PySem PySem.Spec PyProof.Rows L2 GG DD PT DL
set_option simprocs false
local macro_rules | `(tactic| walk_at "w1") => `(tactic| with_reducible first
  | refine DL.w_seq ?_ | refine DL.w_next ?_ | refine DL.w_set ?_ | refine DL.w_setO ?_ | refine DL.w_if ?_ | refine DL.w_ret ?_ | refine DL.w_drop ?_
  | refine DL.w_par ?_ | refine DL.w_parL ?_ | refine DL.w_parR ?_ | refine DL.w_parLL ?_ | refine DL.w_asg ?_ | refine DL.w_for ?_ | refine DL.w_vsNil ?_ | refine DL.w_dIn ?_ | refine DL.w_dPut ?_
  | refine DL.w_gdN ?_ | refine DL.w_gdNil ?_ | refine DL.w_gdCons ?_
  | refine DL.w_c ?_ | refine DL.w_asL ?_ | refine DL.w_asU ?_ | refine DL.w_newL ?_ | refine DL.w_nil ?_ | refine DL.w_cons ?_ | refine DL.w_tup ?_ | refine DL.w_lst ?_ | refine DL.w_op ?_
  | refine DL.w_lenL ?_ | refine DL.w_lenD ?_ | refine DL.w_tupOf ?_ | refine DL.w_ifE ?_ | refine DL.w_cat ?_ | refine DL.w_rep ?_ | refine DL.w_call ?_ | refine DL.w_callP ?_
  | refine DL.w_xNil ?_ | refine DL.w_xCons ?_ | refine DL.w_all ?_ | refine DL.w_reprA ?_ | refine DL.w_isi ?_ | refine DL.w_andV ?_ | refine DL.w_newD ?_ | refine DL.w_dict0 ?_
  | refine DL.w_slD ?_ | refine DL.w_slU ?_ | refine DL.w_noP ?_ | refine DL.w_part ?_ | refine DL.w_listZip ?_ | refine DL.w_sortSI ?_ | refine DL.w_listRng ?_ | refine DL.w_setD ?_ | refine DL.w_dictL ?_ | refine DL.w_dictU ?_ | refine DL.w_disp ?_ | refine DL.w_psNil ?_ | refine DL.w_psCons ?_
  | refine DL.w_rng1 ?_ | refine DL.w_comp ?_ | refine DL.w_enum ?_ | refine DL.w_B ?_ | refine DL.w_and ?_ | refine DL.w_or ?_ | refine DL.w_not ?_ | refine DL.w_yes ?_)
local macro_rules | `(tactic| walk_at "w2") => `(tactic| first
  | walk_at "w1"
  | ((with_reducible apply DL.w_var); (· rfl))
  | ((with_reducible apply DL.w_xDeck); (· rfl))
  | ((with_reducible apply DL.w_listO); (· rfl))
  | ((with_reducible apply DL.w_listD); (· rfl))
  | ((with_reducible apply DL.w_app); (· exact trivial))
  | ((with_reducible apply DL.w_popAt); (· exact trivial))
  | ((with_reducible apply DL.w_dGet); (· exact trivial))
  | ((with_reducible apply DL.w_fzO); (· rfl))
  | ((with_reducible apply DL.w_fzD); (· rfl))
  | ((with_reducible apply DL.w_fz); (· rfl))
  | ((with_reducible apply DL.w_gdTup); (· rfl))
  | ((with_reducible refine And.intro ?_ ?_); (· first | rfl | exact True.intro | decide | (dsimp only [List.length_cons, List.length_nil]; decide)))
  | with_reducible refine DL.w_I0 ?_ | with_reducible refine DL.w_eqI ?_ | with_reducible refine DL.w_neI ?_ | with_reducible refine DL.w_isN ?_ | with_reducible refine DL.w_notN ?_)
local macro_rules | `(tactic| walk_at "w") => `(tactic| (repeat walk_at "w2"; try dsimp only [List.set_cons_zero, List.set_cons_succ, List.cons_append, List.nil_append, List.replicate_succ, List.replicate_zero]))
/-- the last count of a word -/
def lastS (w : Str) : List Sign → Option Nat → Option Nat
  | [], o => o
  | s :: r, o => lastS w r (if s.1 = w then some s.2 else o)
def prS (s : Sign) : L2.Key × PyData := (.inr s.1, .int (s.2 : Nat))
theorem last_map (w : Str) : ∀ (ss : List Sign) (o : Option Nat), lastD (.inr w) (ss.map prS) (o.map fun k => PyData.int (k : Nat)) = (lastS w ss o).map fun k => PyData.int (k : Nat)
  | [], o => rfl
  | s :: r, o => by
    show lastD (.inr w) (r.map prS) (if (Sum.inr s.1 : L2.Key) = .inr w then some (.int (s.2 : Nat)) else o.map _) = (lastS w r (if s.1 = w then some s.2 else o)).map _
    rw [← last_map w r]
    congr 1
    by_cases e : s.1 = w
    · rw [if_pos e, if_pos (by rw [e])]
      rfl
    · rw [if_neg e, if_neg (fun z => e (Sum.inr.inj z))]
theorem pairs_signs : ∀ ss : List Sign, pairsD (ss.map signD) = some (ss.map prS)
  | [] => rfl
  | s :: r => by
    rw [List.map_cons, List.map_cons]
    unfold pairsD
    rw [pairs_signs r]
    rfl
theorem last_mem {w : Str} {k : Nat} : ∀ {ss : List Sign} {o : Option Nat}, lastS w ss o = some k → o = some k ∨ (w, k) ∈ ss
  | [], o, h => .inl h
  | s :: r, o, h => by
    rcases last_mem (ss := r) h with z | z
    · by_cases e : s.1 = w
      · rw [if_pos e] at z
        cases z
        subst e
        exact .inr List.mem_cons_self
      · rw [if_neg e] at z
        exact .inl z
    · exact .inr (List.mem_cons_of_mem _ z)
theorem last_filter {w : Str} (hw : w ≠ "void") : ∀ (ss : List Sign) (o : Option Nat), lastS w (ss.filter fun s : Sign => !decide (s.1 = "void")) o = lastS w ss o
  | [], o => rfl
  | s :: r, o => by
    by_cases e : s.1 = "void"
    · rw [List.filter_cons_of_neg (by rw [decide_eq_true e]; decide), last_filter hw r]
      show _ = lastS w r (if s.1 = w then some s.2 else o)
      rw [if_neg (fun z => hw (z.symm.trans e))]
    · rw [List.filter_cons_of_pos (by rw [decide_eq_false e]; rfl)]
      exact last_filter hw r _
/-- how many fields a word has -/
def cntS (ss : List Sign) (w : Str) : Option Nat := if w = "void" then some 0 else lastS w ss none
theorem small_cnt {ss : List Sign} (sg : SgOk ss) : Small (cntS ss) := fun w k h => by
  unfold cntS at h
  by_cases e : w = "void"
  · rw [if_pos e] at h
    cases h
    omega
  · rw [if_neg e] at h
    rcases last_mem h with z | z
    · cases z
    · exact sg.ct _ z
theorem last_append (k : L2.Key) (b : List (L2.Key × PyData)) : ∀ (a : List (L2.Key × PyData)) (o : Option PyData), lastD k (a ++ b) o = lastD k b (lastD k a o)
  | [], _ => rfl
  | p :: r, o => last_append k b r _
theorem tells_law (ss : List Sign) : Tells (mergeD [] (ss.map prS ++ [(.inr "void", .int 0)])) (cntS ss) := fun w => by
  rw [get_merge, last_append]
  show (if (Sum.inr "void" : L2.Key) = .inr w then some (PyData.int 0) else lastD (.inr w) (ss.map prS) none) = _
  unfold cntS
  by_cases e : w = "void"
  · rw [if_pos e, if_pos (by rw [e])]
    rfl
  · rw [if_neg e, if_neg (fun z => e (Sum.inr.inj z).symm)]
    exact last_map w ss none
theorem tells_prog (ss : List Sign) : Tells (dputD (mergeD [] (ss.map prS)) (.inr "void") (.int 0)) (cntS ss) := fun w => by
  rw [get_put, get_merge]
  unfold cntS
  by_cases e : w = "void"
  · rw [if_pos e, if_pos (by rw [e])]
    rfl
  · rw [if_neg e, if_neg (fun z => e (Sum.inr.inj z).symm)]
    exact last_map w ss none
theorem cnt_filter (ss : List Sign) : cntS (ss.filter fun s : Sign => !decide (s.1 = "void")) = cntS ss := by
  funext w
  unfold cntS
  by_cases e : w = "void"
  · rw [if_pos e, if_pos e]
  · rw [if_neg e, if_neg e]
    exact last_filter e ss none
def F_is_top : FD := bodyD (dB_is_top (F_int 6)) 1
theorem is_top_spec {ss : List Sign} (S : Small (cntS ss)) (hl : ss.length ≤ 10) {deep n : Nat} {it : PyData} {P : PyData → Nat → Prop} (hd : deep < 6) (hP : P (.bool (formB (cntS ss) deep it)) n) : F_is_top [.dat (signsD ss), .dat (.int (deep : Nat)), .dat it] n P := by
  unfold F_is_top bodyD dB_is_top
  walk_at "w"
  refine ⟨_, pairs_signs ss, ?_⟩
  walk_at "w"
  have h1 := merge_len (ss.map prS) []
  rw [List.length_map, List.length_nil] at h1
  refine w_putK (kvs := mergeD [] (ss.map prS)) rfl rfl (by omega) ?_
  walk_at "w"
  exact int_spec (tells_prog ss) S 6 deep n it _ hd hP
def F_recognized : FD := bodyD (dB_recognized (F_form 6) F_is_top) 6
def notVoid : PyData → Bool
  | .tuple [.str w, _] => !decide (w = "void")
  | _ => false
theorem filt_signs : ∀ ss : List Sign, (ss.map signD).filter notVoid = (ss.filter fun s : Sign => !decide (s.1 = "void")).map signD
  | [] => rfl
  | s :: r => by
    rw [List.map_cons]
    by_cases e : s.1 = "void"
    · rw [List.filter_cons_of_neg (by show ¬ (!decide (s.1 = "void")) = true; rw [decide_eq_true e]; decide), List.filter_cons_of_neg (by rw [decide_eq_true e]; decide), filt_signs r]
    · rw [List.filter_cons_of_pos (by show (!decide (s.1 = "void")) = true; rw [decide_eq_false e]; rfl), List.filter_cons_of_pos (by rw [decide_eq_false e]; rfl), filt_signs r]
      rfl
theorem rec_spec {ss : List Sign} (sg : SgOk ss) {deep n : Nat} {it : PyData} {P : PyData → Nat → Prop} (hd : deep < 6) (sh : Shows it) (hP : P (.bool true) n) : F_recognized [.dat (signsD ss), .dat (.int (deep : Nat)), .dat it] n P := by
  unfold F_recognized bodyD dB_recognized
  have hl := sg.ln
  walk_at "w"
  refine ⟨by rw [List.length_map]; show ss.length + 1 ≤ _; omega, ?_⟩
  have e0 : ss.map signD ++ [PyData.tuple [.str "void", .int 0]] = (ss ++ [(("void", 0) : Sign)]).map signD := by rw [List.map_append]; rfl
  rw [e0]
  refine ⟨_, pairs_signs _, ?_⟩
  rw [List.map_append]
  walk_at "w"
  refine ⟨sh, ?_⟩
  walk_at "w"
  refine form_spec (tells_law ss) (small_cnt sg) 6 deep n it _ hd ?_
  walk_at "w"
  refine ⟨by rw [List.length_map]; omega, rfl, lc_filter notVoid (fun d hd Y Z hY hZ => ?_) ?_⟩
  · obtain ⟨s, _, rfl⟩ := List.mem_map.mp hd
    walk_at "w"
    refine w_ixU (at2_0 _ _) ?_
    walk_at "w"
    refine w_neS ?_
    exact w_ite (fun h => by
      walk_at "w"
      exact hY h) fun h => ⟨rfl, hZ h⟩
  · rw [filt_signs]
    have hS : Small (cntS (ss.filter fun s : Sign => !decide (s.1 = "void"))) := by
      rw [cnt_filter]
      exact small_cnt sg
    have hl2 : (ss.filter fun s : Sign => !decide (s.1 = "void")).length ≤ 10 := Nat.le_trans (List.length_filter_le _ _) hl
    walk_at "w"
    refine is_top_spec hS hl2 hd ?_
    walk_at "w"
    refine is_top_spec hS hl2 hd ?_
    walk_at "w"
    rw [cnt_filter]
    have hsh : Shows (.list [.bool (formB (cntS ss) deep it), .bool (formB (cntS ss) deep it)]) := (val_lst (D := 1) (W := 10) (vals_mono (vals_cons (V := 0) (val_bool _) (vals_cons (V := 0) (val_bool _) (vals_nil (W := 0)))) (Nat.le_refl _) (by omega))).shows (by omega) (by decide)
    refine ⟨hsh, ?_⟩
    walk_at "w"
    refine ⟨hsh, ?_⟩
    walk_at "w"
    refine w_eqS ?_
    refine w_T (decide_eq_true rfl) ?_
    walk_at "w"
    refine ⟨sh, ?_⟩
    walk_at "w"
    refine w_eqS ?_
    rw [decide_eq_true rfl]
    exact hP
end K09

set_option Elab.async false
set_option linter.all false
set_option maxRecDepth 100000
set_option maxHeartbeats 4000000
/-! U09f: other values, bent values, deep values: their repr can be taken. -/
namespace K09
open PySem PySem.Spec PyProof.Rows L2 GG DD PT DL
set_option simprocs false
local macro_rules | `(tactic| walk_at "w1") => `(tactic| with_reducible first
  | refine DL.w_seq ?_ | refine DL.w_next ?_ | refine DL.w_set ?_ | refine DL.w_setO ?_ | refine DL.w_if ?_ | refine DL.w_ret ?_ | refine DL.w_drop ?_
  | refine DL.w_par ?_ | refine DL.w_parL ?_ | refine DL.w_parR ?_ | refine DL.w_parLL ?_ | refine DL.w_asg ?_ | refine DL.w_for ?_ | refine DL.w_vsNil ?_ | refine DL.w_dIn ?_ | refine DL.w_dPut ?_
  | refine DL.w_gdN ?_ | refine DL.w_gdNil ?_ | refine DL.w_gdCons ?_
  | refine DL.w_c ?_ | refine DL.w_asL ?_ | refine DL.w_asU ?_ | refine DL.w_newL ?_ | refine DL.w_nil ?_ | refine DL.w_cons ?_ | refine DL.w_tup ?_ | refine DL.w_lst ?_ | refine DL.w_op ?_
  | refine DL.w_lenL ?_ | refine DL.w_lenD ?_ | refine DL.w_tupOf ?_ | refine DL.w_ifE ?_ | refine DL.w_cat ?_ | refine DL.w_rep ?_ | refine DL.w_call ?_ | refine DL.w_callP ?_
  | refine DL.w_xNil ?_ | refine DL.w_xCons ?_ | refine DL.w_all ?_ | refine DL.w_reprA ?_ | refine DL.w_isi ?_ | refine DL.w_andV ?_ | refine DL.w_newD ?_ | refine DL.w_dict0 ?_
  | refine DL.w_slD ?_ | refine DL.w_slU ?_ | refine DL.w_noP ?_ | refine DL.w_part ?_ | refine DL.w_listZip ?_ | refine DL.w_sortSI ?_ | refine DL.w_listRng ?_ | refine DL.w_setD ?_ | refine DL.w_dictL ?_ | refine DL.w_dictU ?_ | refine DL.w_disp ?_ | refine DL.w_psNil ?_ | refine DL.w_psCons ?_
  | refine DL.w_rng1 ?_ | refine DL.w_comp ?_ | refine DL.w_enum ?_ | refine DL.w_B ?_ | refine DL.w_and ?_ | refine DL.w_or ?_ | refine DL.w_not ?_ | refine DL.w_yes ?_)
local macro_rules | `(tactic| walk_at "w2") => `(tactic| first
  | walk_at "w1"
  | ((with_reducible apply DL.w_var); (· rfl))
  | ((with_reducible apply DL.w_xDeck); (· rfl))
  | ((with_reducible apply DL.w_listO); (· rfl))
  | ((with_reducible apply DL.w_listD); (· rfl))
  | ((with_reducible apply DL.w_app); (· exact trivial))
  | ((with_reducible apply DL.w_popAt); (· exact trivial))
  | ((with_reducible apply DL.w_dGet); (· exact trivial))
  | ((with_reducible apply DL.w_fzO); (· rfl))
  | ((with_reducible apply DL.w_fzD); (· rfl))
  | ((with_reducible apply DL.w_fz); (· rfl))
  | ((with_reducible apply DL.w_gdTup); (· rfl))
  | ((with_reducible refine And.intro ?_ ?_); (· first | rfl | exact True.intro | decide | (dsimp only [List.length_cons, List.length_nil]; decide)))
  | with_reducible refine DL.w_I0 ?_ | with_reducible refine DL.w_eqI ?_ | with_reducible refine DL.w_neI ?_ | with_reducible refine DL.w_isN ?_ | with_reducible refine DL.w_notN ?_)
local macro_rules | `(tactic| walk_at "w") => `(tactic| (repeat walk_at "w2"; try dsimp only [List.set_cons_zero, List.set_cons_succ, List.cons_append, List.nil_append, List.replicate_succ, List.replicate_zero]))
theorem words_val : ∀ w, w ∈ wordsAll → (PyData.str w).leavesShort 13 = true ∧ w.cps.size ≤ 8 := by decide +kernel
theorem sg_val {ss : List Sign} (sg : SgOk ss) {s : Sign} (h : s ∈ ss) : Val 0 8 (.str s.1) := val_str (words_val _ (sg.wd s h)).1 (words_val _ (sg.wd s h)).2
theorem v_void : Val 0 8 (.str "void") := val_str (by decide +kernel) (by decide +kernel)
theorem v_nothing : Val 0 8 (.str "nothing") := val_str (by decide +kernel) (by decide +kernel)
theorem v_empty : Val 0 8 (.str "") := val_str (by decide +kernel) (by decide +kernel)
def F_odd : FD := bodyD (dB_odd F_pick) 3
theorem odd_spec {ss : List Sign} (sg : SgOk ss) {n D W : Nat} {it : PyData} {P : PyData → Nat → Prop} (hn : n + 2 ≤ 1000000) (hv : Val D W it) (h : ∀ d, Val (D + 4) (2 * W + 60) d → P d (n + 2)) : F_odd [.deck, .dat (signsD ss), .dat it] n P := by
  unfold F_odd bodyD dB_odd
  walk_at "w"
  obtain ⟨s0, hs0, _⟩ := sg.po
  refine pick_tup (by omega) (by rw [List.length_map]; exact List.length_pos_of_mem hs0) (by rw [List.length_map]; have := sg.ln; omega) fun d hd => ?_
  obtain ⟨sn, hsn, rfl⟩ := List.mem_map.mp hd
  have h3 := sg.ct sn hsn
  have hw := sg_val sg hsn
  walk_at "w"
  refine w_rep1 (by omega) ?_
  walk_at "w"
  refine ⟨by omega, by omega, by rw [Int.toNat_natCast]; show 1 * sn.2 ≤ _; omega, ?_⟩
  rw [Int.toNat_natCast, rep_one]
  walk_at "w"
  refine w_rep1 (by omega) ?_
  walk_at "w"
  refine w_rep1 (by omega) ?_
  walk_at "w"
  refine w_rep1 (by omega) ?_
  walk_at "w"
  refine pick_list (by omega) ?_ ?_ fun d hd => h d ?_
  · simp only [List.length_append, List.length_cons]
    omega
  · simp only [List.length_append, List.length_cons, List.length_nil]
    omega
  · have all : AllV (D + 4) (2 * W + 60) _ := av_app (av_app (av_cons (Val.mono vN (by omega) (by omega)) (av_cons (Val.mono vT0 (by omega) (by omega)) (av_cons (Val.mono vL0 (by omega) (by omega)) (av_cons (Val.mono vD0 (by omega) (by omega)) (av_cons (Val.mono vI0 (by omega) (by omega)) (av_cons (Val.mono (vB true) (by omega) (by omega)) (av_cons (Val.mono v_void (by omega) (by omega)) (av_cons (Val.mono hw (by omega) (by omega)) (av_cons (Val.mono (vT2 hw (vTn h3 vN)) (by omega) (by omega)) (av_cons (Val.mono (vT2 hw (vLn h3 vN)) (by omega) (by omega)) (av_cons (Val.mono (vT2 hw vN) (by omega) (by omega)) av_nil))))))))))) (av_cons (Val.mono (vT1 hw) (by omega) (by omega)) (av_cons (Val.mono (vT2 v_void vT0) (by omega) (by omega)) (av_cons (Val.mono (vT2 v_void (vT1 vN)) (by omega) (by omega)) (av_cons (Val.mono (vT2 v_nothing vT0) (by omega) (by omega)) (av_cons (Val.mono (vT2 v_empty vT0) (by omega) (by omega)) (av_cons (Val.mono (vT2 hw (vTn h3 (vB false))) (by omega) (by omega)) av_nil))))))) (av_cons (Val.mono (vT1 hv) (by omega) (by omega)) (av_cons (Val.mono (vT2 hw (vTn h3 (vT2 hw (vTn h3 vN)))) (by omega) (by omega)) (av_cons (Val.mono (vL2 hv hv) (by omega) (by omega)) (av_cons (Val.mono (vT2 hv hv) (by omega) (by omega)) av_nil))))
    exact all d hd
/-! ### bent values -/
def F_bent : Nat → FD
  | 0 => fun _ _ _ => False
  | m + 1 => bodyD (dB_bent F_draw F_odd (F_bent m)) 1
theorem add1 (k : Nat) : ((k : Int) + 1) = ((k + 1 : Nat) : Int) := by omega
theorem bent_spec {ss : List Sign} (sg : SgOk ss) : ∀ (m n D W : Nat) (it : PyData) (P : PyData → Nat → Prop), it.depth < m → W ≤ 900000 → n + 6 * m ≤ 1000000 → Val D W it → (∀ d n', Val (D + 4) (2 * W + 60) d → n' ≤ n + 6 * m → P d n') → F_bent m [.deck, .dat (signsD ss), .dat it] n P
  | 0, _, _, _, _, _, h, _, _, _, _ => absurd h (Nat.not_lt_zero _)
  | m + 1, n, D, W, it, P, hm, hW, hn, hv, hP => by
    have hodd : ∀ n1, n ≤ n1 → n1 ≤ n + 3 → F_odd [.deck, .dat (signsD ss), .dat it] n1 P := fun n1 _ h1 => odd_spec sg (by omega) hv fun d hd => hP d _ hd (by omega)
    unfold F_bent bodyD dB_bent
    walk_at "w"
    refine ⟨_, isa_tup it, ?_⟩
    walk_at "w"
    refine w_ite (fun h => ?_) fun h => ?_
    · refine w_T rfl ?_
      walk_at "w"
      exact hodd n (Nat.le_refl _) (by omega)
    cases it with
    | tuple ds =>
      clear h
      walk_at "w"
      refine w_eqMt ?_
      refine w_ite (fun h => ?_) fun h => ?_
      · refine w_T rfl ?_
        walk_at "w"
        exact hodd n (Nat.le_refl _) (by omega)
      have hpos : 0 < ds.length := by
        cases ds with
        | nil => cases h
        | cons x r => exact Nat.succ_pos _
      clear h
      obtain ⟨D', rfl⟩ := val_depth_pos hv
      have hvs := vals_of_tup hv
      have hlen := vals_len hvs
      walk_at "w"
      refine w_draw (L := 5) (by omega) (by omega) (by omega) fun v hv5 => ?_
      walk_at "w"
      refine w_ite (fun h => ?_) fun h => ?_
      · walk_at "w"
        exact hodd _ (Nat.le_succ _) (by omega)
      clear h
      walk_at "w"
      refine w_draw (by omega) (by omega) (by omega) fun k hk => ?_
      walk_at "w"
      refine w_draw (L := 8) (by omega) (by omega) (by omega) fun v8 hv8 => ?_
      obtain ⟨a, b, c, ha, hb, hc, hw⟩ := vals_at hvs hk
      have la : (ds.take k).length + (ds.drop (k + 1)).length ≤ 900000 := by
        rw [List.length_take, List.length_drop]
        omega
      walk_at "w"
      refine w_ite (fun h => ?_) fun h => ?_
      · walk_at "w"
        rw [add1, cut_to, cut_from]
        refine w_catU (by omega) ?_
        exact hP _ _ ((val_tup (vals_append ha hc)).mono (by omega) (by omega)) (by omega)
      · walk_at "w"
        refine w_ixU (atI_nat (List.getElem?_eq_getElem hk)) ?_
        walk_at "w"
        have hd : ds[k].depth < m := by
          have := depth_at hk
          simp only [PyData.depth] at hm
          omega
        refine bent_spec sg m _ D' b _ _ hd (by omega) (by omega) hb fun d n' hd2 hn' => ?_
        walk_at "w"
        rw [cut_to]
        refine w_catU (by show _ + 1 ≤ _; omega) ?_
        walk_at "w"
        rw [add1, cut_from]
        refine w_catU (by rw [List.length_append]; show _ + 1 + _ ≤ _; omega) ?_
        refine hP _ _ ((val_tup (vals_append (vals_append (vals_mono ha (Nat.le_add_right D' 4) (Nat.le_refl _)) (vals_cons (W := 0) hd2 vals_nil)) (vals_mono hc (Nat.le_add_right D' 4) (Nat.le_refl _)))).mono (by omega) (by omega)) (by omega)
    | _ => cases h
/-! ### deep values -/
def F_deep : FD := bodyD (dB_deep) 5
def posD : PyData → Bool
  | .tuple [_, .int k] => decide (0 < k)
  | _ => false
theorem deep_spec {ss : List Sign} (sg : SgOk ss) {n : Nat} {P : PyData → Nat → Prop} (h : ∀ ys, ys.length = 3 → AllV 40 1000 ys → P (.list ys) n) : F_deep [.dat (signsD ss), .dat (.int 13)] n P := by
  unfold F_deep bodyD dB_deep
  walk_at "w"
  refine loop_rem (fun ds s => ∃ (x : PyData) (i : Nat) (x3 x4 x5 : DV), s.sl = [.dat (signsD ss), .dat (.int 13), .dat x, x3, x4, x5, .un] ∧ i + ds.length = 13 ∧ Val (2 * i) (20 * i) x ∧ s.n = n) (fun d ds s hJ N hN => ?_) (fun s hJ => ?_) _ _ ⟨.none, 0, _, _, _, rfl, by rw [rng_len]; rfl, val_none, rfl⟩
  · obtain ⟨x, i, x3, x4, x5, hs, h1, h2, h3⟩ := hJ
    obtain ⟨sl, n1⟩ := s
    simp only at hs h3
    subst hs
    subst h3
    rw [List.length_cons] at h1
    walk_at "w"
    have hl := sg.ln
    refine ⟨by rw [List.length_map]; omega, rfl, lc_filter posD (fun d hd Y Z hY hZ => ?_) ?_⟩
    · obtain ⟨s, _, rfl⟩ := List.mem_map.mp hd
      walk_at "w"
      refine w_ixU (at2_1 _ _) ?_
      walk_at "w"
      refine w_B0 ?_
      exact w_ite (fun h => by
        walk_at "w"
        exact hY h) fun h => ⟨rfl, hZ h⟩
    · walk_at "w"
      obtain ⟨s0, hs0, hp0⟩ := sg.po
      have hm0 : signD s0 ∈ (ss.map signD).filter posD := List.mem_filter.mpr ⟨List.mem_map.mpr ⟨s0, hs0, rfl⟩, by show decide ((0 : Int) < (s0.2 : Nat)) = true; rw [decide_eq_true_eq]; omega⟩
      cases hf : (ss.map signD).filter posD with
      | nil =>
        rw [hf] at hm0
        exact absurd hm0 List.not_mem_nil
      | cons y ys =>
        have hy : y ∈ (ss.map signD).filter posD := by
          rw [hf]
          exact List.mem_cons_self
        obtain ⟨hy1, hy2⟩ := List.mem_filter.mp hy
        obtain ⟨s, hs, rfl⟩ := List.mem_map.mp hy1
        have h3s := sg.ct s hs
        have hpos : 0 < s.2 := by
          have z : decide ((0 : Int) < (s.2 : Nat)) = true := hy2
          have := of_decide_eq_true z
          omega
        refine w_ixL (atI_nat (j := 0) (xs := signD s :: ys) (v := signD s) rfl) ?_
        walk_at "w"
        have e1 : ((s.2 : Nat) : Int) - 1 = ((s.2 - 1 : Nat) : Int) := by omega
        rw [e1]
        refine w_rep1 (by omega) ?_
        refine w_catU (by rw [List.length_replicate]; show 1 + _ ≤ _; omega) ?_
        walk_at "w"
        refine hN _ ⟨_, i + 1, _, _, _, rfl, by omega, ?_, rfl⟩
        exact Val.mono (vT2 (sg_val sg hs) (val_tup (vals_append (vals_cons (W := 0) h2 vals_nil) (vals_rep (m := 2) (by omega) (val_none (D := 2 * i) (W := 0)))))) (by omega) (by omega)
  · obtain ⟨x, i, x3, x4, x5, hs, h1, h2, h3⟩ := hJ
    obtain ⟨sl, n1⟩ := s
    simp only at hs h3
    subst hs
    subst h3
    rw [List.length_nil, Nat.add_zero] at h1
    subst h1
    walk_at "w"
    refine ⟨_, rfl, ?_⟩
    walk_at "w"
    have ha : Val 0 8 (.str "a") := val_str (by decide +kernel) (by decide +kernel)
    refine h _ rfl (av_cons (h2.mono (by omega) (by omega)) (av_cons ((vL1 (vL1 (vL1 (vL1 h2)))).mono (by omega) (by omega)) (av_cons ?_ av_nil)))
    exact Val.mono (val_dict1 (ha.mono (Nat.zero_le _) (Nat.le_refl _)) (vT1 h2)) (by omega) (by omega)
end K09

set_option Elab.async false
set_option linter.all false
set_option maxRecDepth 100000
set_option maxHeartbeats 4000000
/-! U09g: the law, by data. -/
namespace K09
open PySem PySem.Spec PyProof.Rows L2 GG DD PT DL
set_option simprocs false
local macro_rules | `(tactic| walk_at "w1") => `(tactic| with_reducible first
  | refine DL.w_seq ?_ | refine DL.w_next ?_ | refine DL.w_set ?_ | refine DL.w_setO ?_ | refine DL.w_if ?_ | refine DL.w_ret ?_ | refine DL.w_drop ?_
  | refine DL.w_par ?_ | refine DL.w_parL ?_ | refine DL.w_parR ?_ | refine DL.w_parLL ?_ | refine DL.w_asg ?_ | refine DL.w_for ?_ | refine DL.w_vsNil ?_ | refine DL.w_dIn ?_ | refine DL.w_dPut ?_
  | refine DL.w_gdN ?_ | refine DL.w_gdNil ?_ | refine DL.w_gdCons ?_
  | refine DL.w_c ?_ | refine DL.w_asL ?_ | refine DL.w_asU ?_ | refine DL.w_newL ?_ | refine DL.w_nil ?_ | refine DL.w_cons ?_ | refine DL.w_tup ?_ | refine DL.w_lst ?_ | refine DL.w_op ?_
  | refine DL.w_lenL ?_ | refine DL.w_lenD ?_ | refine DL.w_tupOf ?_ | refine DL.w_ifE ?_ | refine DL.w_cat ?_ | refine DL.w_rep ?_ | refine DL.w_call ?_ | refine DL.w_callP ?_
  | refine DL.w_xNil ?_ | refine DL.w_xCons ?_ | refine DL.w_all ?_ | refine DL.w_reprA ?_ | refine DL.w_isi ?_ | refine DL.w_andV ?_ | refine DL.w_newD ?_ | refine DL.w_dict0 ?_
  | refine DL.w_slD ?_ | refine DL.w_slU ?_ | refine DL.w_noP ?_ | refine DL.w_part ?_ | refine DL.w_listZip ?_ | refine DL.w_sortSI ?_ | refine DL.w_listRng ?_ | refine DL.w_setD ?_ | refine DL.w_dictL ?_ | refine DL.w_dictU ?_ | refine DL.w_disp ?_ | refine DL.w_psNil ?_ | refine DL.w_psCons ?_
  | refine DL.w_rng1 ?_ | refine DL.w_comp ?_ | refine DL.w_enum ?_ | refine DL.w_B ?_ | refine DL.w_and ?_ | refine DL.w_or ?_ | refine DL.w_not ?_ | refine DL.w_yes ?_)
local macro_rules | `(tactic| walk_at "w2") => `(tactic| first
  | walk_at "w1"
  | ((with_reducible apply DL.w_var); (· rfl))
  | ((with_reducible apply DL.w_xDeck); (· rfl))
  | ((with_reducible apply DL.w_listO); (· rfl))
  | ((with_reducible apply DL.w_listD); (· rfl))
  | ((with_reducible apply DL.w_app); (· exact trivial))
  | ((with_reducible apply DL.w_popAt); (· exact trivial))
  | ((with_reducible apply DL.w_dGet); (· exact trivial))
  | ((with_reducible apply DL.w_fzO); (· rfl))
  | ((with_reducible apply DL.w_fzD); (· rfl))
  | ((with_reducible apply DL.w_fz); (· rfl))
  | ((with_reducible apply DL.w_gdTup); (· rfl))
  | ((with_reducible refine And.intro ?_ ?_); (· first | rfl | exact True.intro | decide | (dsimp only [List.length_cons, List.length_nil]; decide)))
  | with_reducible refine DL.w_I0 ?_ | with_reducible refine DL.w_eqI ?_ | with_reducible refine DL.w_neI ?_ | with_reducible refine DL.w_isN ?_ | with_reducible refine DL.w_notN ?_)
local macro_rules | `(tactic| walk_at "w") => `(tactic| (repeat walk_at "w2"; try dsimp only [List.set_cons_zero, List.set_cons_succ, List.cons_append, List.nil_append, List.replicate_succ, List.replicate_zero]))
theorem val_small {D : Nat} : ∀ k : Nat, k < 20 → Val D 5 (.int (k : Nat)) := by
  have h : ∀ k : Nat, k < 20 → (PyData.int (k : Nat)).showable = true ∧ (PyData.int (k : Nat)).leavesShort 13 = true ∧ (PyData.int (k : Nat)).weight ≤ 5 := by decide +kernel
  intro k hk
  exact ⟨(h k hk).1, (h k hk).2.1, by simp only [PyData.depth]; omega, (h k hk).2.2⟩
theorem val_row {ss : List Sign} (sg : SgOk ss) {own : List Row} (oi : OwnIn ss own) {r : Row} (hr : r ∈ own) : Val 2 28 (rowD r) := by
  have h3 := sg.ct _ (oi.sg r hr)
  have hln := oi.ln
  have hfl := oi.fl r hr
  have z : Vals' 0 (r.2.length * 6) (r.2.map fun f => PyData.int (f : Nat)) := by
    have y := vals_all (D := 0) (V := 5) (ds := r.2.map fun f => PyData.int (f : Nat)) fun d hd => by
      obtain ⟨f, hf, rfl⟩ := List.mem_map.mp hd
      exact val_small f (by have := hfl f hf; omega)
    rw [List.length_map] at y
    exact y
  simp only at h3
  exact (vT2 (sg_val sg (oi.sg r hr)) (val_tup z)).mono (by omega) (by omega)
theorem val_own {ss : List Sign} (sg : SgOk ss) {own : List Row} (oi : OwnIn ss own) : Val 3 200 (ownD own) := by
  have y := vals_all (D := 2) (V := 28) (ds := own.map rowD) fun d hd => by
    obtain ⟨r, hr, rfl⟩ := List.mem_map.mp hd
    exact val_row sg oi hr
  rw [List.length_map] at y
  have hln := oi.ln
  exact (val_tup y).mono (by omega) (by omega)
def wB : Nat → Nat
  | 0 => 13
  | d + 1 => 3 * wB d + 13
theorem val_cut {ss : List Sign} (sg : SgOk ss) {own : List Row} (oi : OwnIn ss own) : ∀ d k, k < own.length → Val (2 * d + 2) (wB d) (cutV own d k)
  | 0, k, hk => by
    have h3 := sg.ct _ (oi.sg _ (row_mem hk))
    simp only at h3
    rw [cutV, List.map_const']
    exact (vT2 (sg_val sg (oi.sg _ (row_mem hk))) (vTn h3 vN)).mono (by omega) (by show 8 + 3 * (0 + 1) + 2 ≤ 13; omega)
  | d + 1, k, hk => by
    have h3 := sg.ct _ (oi.sg _ (row_mem hk))
    simp only at h3
    rw [cutV]
    have z := vals_all (D := 2 * d + 2) (V := wB d) (ds := (rowAt own k).2.map fun f => cutV own d f) fun x hx => by
      obtain ⟨f, hf, rfl⟩ := List.mem_map.mp hx
      exact val_cut sg oi d f (oi.fl _ (row_mem hk) f hf)
    rw [List.length_map] at z
    have z2 : (rowAt own k).2.length * (wB d + 1) ≤ 3 * (wB d + 1) := Nat.mul_le_mul_right _ h3
    exact (vT2 (sg_val sg (oi.sg _ (row_mem hk))) (val_tup z)).mono (by omega) (by show _ ≤ 3 * wB d + 13; omega)
theorem wB_le : ∀ d, d < 6 → wB d ≤ 5000 := by decide
theorem law_holds : dB_law F_signs F_rows F_again (F_cut 8) F_top F_deep (F_bent 20) F_odd F_recognized { nx := fun _ => False, rt := fun v _ => v = .bool true } ⟨.un :: .deck :: List.replicate 11 .un, 0⟩ := by
  unfold dB_law
  walk_at "w"
  refine loop_rem (fun ds s => ∃ x2 x3 x4 x5 x6 x7 x8 x9 x10 x11 : DV, s.sl = [.un, .deck, x2, x3, x4, x5, x6, x7, x8, x9, x10, x11, .un] ∧ s.n + 10000 * ds.length ≤ 50000) (fun d ds s hJ N hN => ?_) (fun s hJ => ?_) _ _ ⟨_, _, _, _, _, _, _, _, _, _, rfl, by show 0 + 10000 * 4 ≤ _; omega⟩
  · obtain ⟨x2, x3, x4, x5, x6, x7, x8, x9, x10, x11, hs, h1⟩ := hJ
    obtain ⟨sl, n⟩ := s
    simp only at hs h1
    subst hs
    rw [List.length_cons] at h1
    walk_at "w"
    refine signs_spec (by omega) fun ss sg => ?_
    walk_at "w"
    refine rows_spec sg (by omega) fun own n2 oi hn2 => ?_
    walk_at "w"
    refine again_spec sg oi (by omega) fun far old n3 fo hn3 => ?_
    have ok := oi.ok sg
    have so : Shows (ownD own) := (val_own sg oi).shows (by omega) (by decide)
    walk_at "w"
    refine ⟨so, ?_⟩
    walk_at "w"
    refine loop_rem (fun ds s => ∃ x7 x8 x9 x10 x11 : DV, s.sl = [.un, .deck, .dat d, .dat (signsD ss), .dat (ownD own), .dat (ownD far), .dat (.str (ownD own).shown), x7, x8, x9, x10, x11, .un] ∧ (∀ d, d ∈ ds → ∃ v : Nat, v < 5 ∧ d = .int (v : Nat)) ∧ s.n + 1000 * ds.length ≤ n + 5200) (fun d2 ds2 s hJ N2 hN2 => ?_) (fun s hJ => ?_) _ _ ⟨_, _, _, _, _, rfl, fun d hd => rng_mem hd, by rw [rng_len]; show n3 + 1000 * 5 ≤ _; omega⟩
    · obtain ⟨x7, x8, x9, x10, x11, hs, h2, h3⟩ := hJ
      obtain ⟨sl, n4⟩ := s
      simp only at hs h3
      subst hs
      rw [List.length_cons] at h3
      obtain ⟨v, hv, rfl⟩ := h2 d2 List.mem_cons_self
      have vd := val_cut sg oi v 0 oi.p
      have w1 := wB_le v (by omega)
      have w2 := wB_le (v + 1) (by omega)
      walk_at "w"
      refine cut_spec ok 8 v 0 n4 _ (by omega) oi.p ?_
      walk_at "w"
      refine top_spec ok (by omega) oi.p ?_
      walk_at "w"
      refine top_spec fo.ok (by omega) fo.p ?_
      walk_at "w"
      refine top_spec fo.ok (by omega) fo.p ?_
      rw [cut_far fo v 0 fo.p, fo.z]
      walk_at "w"
      have s3 : Shows (.list [cutV own v 0, cutV own v 0, cutV own v 0]) := (val_lst (vals_all (ds := [cutV own v 0, cutV own v 0, cutV own v 0]) (fun x hx => by
        have e : x = cutV own v 0 := by
          rcases List.mem_cons.mp hx with rfl | hx
          · rfl
          · rcases List.mem_cons.mp hx with rfl | hx
            · rfl
            · exact List.mem_singleton.mp hx
        rw [e]
        exact vd))).shows (by omega) (by show 3 * (wB v + 1) ≤ _; omega)
      refine ⟨s3, ?_⟩
      walk_at "w"
      have e3 : (List.replicate ((3 : Int)).toNat [cutV own v 0]).flatten = [cutV own v 0, cutV own v 0, cutV own v 0] := rfl
      rw [e3]
      refine ⟨s3, ?_⟩
      walk_at "w"
      refine w_neS ?_
      refine w_F (by rw [decide_eq_true rfl]; rfl) ?_
      walk_at "w"
      refine ⟨so, ?_⟩
      walk_at "w"
      refine w_neS ?_
      refine w_F (by rw [decide_eq_true rfl]; rfl) ?_
      walk_at "w"
      rw [add1]
      refine cut_spec ok 8 (v + 1) 0 n4 _ (by omega) oi.p ?_
      have vd2 := val_cut sg oi (v + 1) 0 oi.p
      walk_at "w"
      refine lc_each (Val 40 100000) 120 (fun d hd m hm2 Y Z hY => ?_) fun ys n5 hys hR hm2 => ?_
      · rw [rng_len] at hm2
        have hm2 : m + 120 ≤ n4 + 120 * 6 := hm2
        walk_at "w"
        refine w_T rfl ?_
        walk_at "w"
        exact bent_spec sg 20 m _ _ _ _ (by have := vd.dp; omega) (by omega) (by omega) vd fun d n' hd hn' => ⟨rfl, hY _ _ (hd.mono (by omega) (by omega)) (by omega)⟩
      · rw [rng_len] at hm2 hys
        have hm2 : n5 ≤ n4 + 120 * 6 := hm2
        have hys : ys.length = 6 := hys
        walk_at "w"
        refine ⟨by simp only [List.length_append, List.length_cons, List.length_nil]; omega, ?_⟩
        walk_at "w"
        refine bent_spec sg 20 n5 _ _ _ _ (by have := vd.dp; omega) (by omega) (by omega) vd fun e1 n6 he1 hn6 => ?_
        walk_at "w"
        refine bent_spec sg 20 n6 _ _ _ _ (by have := he1.dp; omega) (by omega) (by omega) he1 fun e2 n7 he2 hn7 => ?_
        walk_at "w"
        refine odd_spec sg (by omega) vd fun e3 he3 => ?_
        walk_at "w"
        refine ⟨by simp only [List.length_append, List.length_cons, List.length_nil]; omega, ?_⟩
        walk_at "w"
        refine deep_spec sg fun zs hzs hz => ?_
        walk_at "w"
        refine ⟨by simp only [List.length_append, List.length_cons, List.length_nil]; omega, ?_⟩
        have all : AllV 40 100000 ((([cutV own v 0, cutV own (v + 1) 0] ++ ys) ++ [e2, e3]) ++ zs) := av_app (av_app (av_app (av_cons (vd.mono (by omega) (by omega)) (av_cons (vd2.mono (by omega) (by omega)) av_nil)) hR) (av_cons (he2.mono (by omega) (by omega)) (av_cons (he3.mono (by omega) (by omega)) av_nil))) fun d hd => (hz d hd).mono (by omega) (by omega)
        refine loop_rem (fun ds s => ∃ x11 : DV, s.sl = [.un, .deck, .dat d, .dat (signsD ss), .dat (ownD own), .dat (ownD far), .dat (.str (ownD own).shown), .dat (.int (v : Nat)), _, _, _, x11, .un] ∧ AllV 40 100000 ds ∧ s.n ≤ n7 + 2) (fun it its s hJ N3 hN3 => ?_) (fun s hJ => ?_) _ _ ⟨_, rfl, all, Nat.le_refl _⟩
        · obtain ⟨x11, hs, h4, h5⟩ := hJ
          obtain ⟨sl, n8⟩ := s
          simp only at hs h5
          subst hs
          have si : Shows it := (h4 it List.mem_cons_self).shows (by omega) (by decide)
          walk_at "w"
          refine rec_spec sg (by omega) si ?_
          walk_at "w"
          refine w_F rfl ?_
          walk_at "w"
          have e4 : (4 : Int) - (v : Int) = ((4 - v : Nat) : Int) := by omega
          rw [e4]
          refine rec_spec sg (by omega) si ?_
          walk_at "w"
          refine w_F rfl ?_
          walk_at "w"
          exact hN3 _ ⟨_, rfl, fun x hx => h4 x (List.mem_cons_of_mem _ hx), h5⟩
        · obtain ⟨x11, hs, h4, h5⟩ := hJ
          obtain ⟨sl, n8⟩ := s
          simp only at hs h5
          subst hs
          exact hN2 _ ⟨_, _, _, _, _, rfl, fun x hx => h2 x (List.mem_cons_of_mem _ hx), by show n8 + _ ≤ _; omega⟩
    · obtain ⟨x7, x8, x9, x10, x11, hs, h2, h3⟩ := hJ
      obtain ⟨sl, n4⟩ := s
      simp only at hs h3
      subst hs
      rw [List.length_nil] at h3
      exact hN _ ⟨_, _, _, _, _, _, _, _, _, _, rfl, by show n4 + _ ≤ _; omega⟩
  · obtain ⟨x2, x3, x4, x5, x6, x7, x8, x9, x10, x11, hs, h1⟩ := hJ
    walk_at "w"
end K09

set_option Elab.async false
set_option linter.all false
set_option maxRecDepth 100000
set_option maxHeartbeats 4000000
/-! FN09: what the head tells, joined. -/
namespace K09
open PySem PySem.Spec PyProof.Rows L2 GG DD PT DL
section
variable {P : Program} {w : World} {K : PySem.W.Frag} {mg : Str → Option Value} {base : Heap}
theorem all_mk {h : Heap} (X : K.In h) (G : h.Ns mainGlobals mg)
    {fa d0 d1 d2 d3 d4 d5 d6 d7 d8 d9 d10 d11 d12 d13 d14 d15 d16 : Addr}
    {oc0 kV0 dc0 pm0 cd0 ct0 oc1 kV1 dc1 pm1 cd1 ct1 oc2 kV2 dc2 pm2 cd2 ct2 oc3 kV3 dc3 pm3 cd3 ct3 oc4 kV4 dc4 pm4 cd4 ct4 oc5 kV5 dc5 pm5 cd5 ct5 oc6 kV6 dc6 pm6 cd6 ct6 oc7 kV7 dc7 pm7 cd7 ct7 oc8 kV8 dc8 pm8 cd8 ct8 oc9 kV9 dc9 pm9 cd9 ct9 oc10 kV10 dc10 pm10 cd10 ct10 oc11 kV11 dc11 pm11 cd11 ct11 oc12 kV12 dc12 pm12 cd12 ct12 oc13 kV13 dc13 pm13 cd13 ct13 oc14 kV14 dc14 pm14 cd14 ct14 oc15 kV15 dc15 pm15 cd15 ct15 oc16 kV16 dc16 pm16 cd16 ct16 : Value}
    {od0 an0 od1 an1 od2 an2 od3 an3 od4 an4 od5 an5 od6 an6 od7 an7 od8 an8 od9 an9 od10 an10 od11 an11 od12 an12 od13 an13 od14 an14 od15 an15 od16 an16 : Option Addr}
    {sl0 sl1 sl2 sl3 sl4 sl5 sl6 sl7 sl8 sl9 sl10 sl11 sl12 sl13 sl14 sl15 sl16 : Array (Option Value)}
    (ad0 : PySem.W.nsIn K mainGlobals "_law_deck" = some (some (.ref d0)))
    (ld0 : K.lookup d0 = some ⟨oc0, od0, .func (PySem.W.fnOf "_law_deck" "_law_deck" (defArgs s_deck) (defBody s_deck) (defScope s_deck) .none kV0 dc0 pm0 an0 cd0 ct0), sl0⟩)
    (cc0 : PySem.W.codeIn K cd0 "_law_deck" = true)
    (kd0 : PySem.W.keepIn K (.ref d0) = true)
    (ad1 : PySem.W.nsIn K mainGlobals "_law_draw" = some (some (.ref d1)))
    (ld1 : K.lookup d1 = some ⟨oc1, od1, .func (PySem.W.fnOf "_law_draw" "_law_draw" (defArgs s_draw) (defBody s_draw) (defScope s_draw) .none kV1 dc1 pm1 an1 cd1 ct1), sl1⟩)
    (cc1 : PySem.W.codeIn K cd1 "_law_draw" = true)
    (kd1 : PySem.W.keepIn K (.ref d1) = true)
    (ad2 : PySem.W.nsIn K mainGlobals "_law_pick" = some (some (.ref d2)))
    (ld2 : K.lookup d2 = some ⟨oc2, od2, .func (PySem.W.fnOf "_law_pick" "_law_pick" (defArgs s_pick) (defBody s_pick) (defScope s_pick) .none kV2 dc2 pm2 an2 cd2 ct2), sl2⟩)
    (cc2 : PySem.W.codeIn K cd2 "_law_pick" = true)
    (kd2 : PySem.W.keepIn K (.ref d2) = true)
    (ad3 : PySem.W.nsIn K mainGlobals "_law_signs" = some (some (.ref d3)))
    (ld3 : K.lookup d3 = some ⟨oc3, od3, .func (PySem.W.fnOf "_law_signs" "_law_signs" (defArgs s_signs) (defBody s_signs) (defScope s_signs) .none kV3 dc3 pm3 an3 cd3 ct3), sl3⟩)
    (cc3 : PySem.W.codeIn K cd3 "_law_signs" = true)
    (kd3 : PySem.W.keepIn K (.ref d3) = true)
    (ad4 : PySem.W.nsIn K mainGlobals "_law_rows" = some (some (.ref d4)))
    (ld4 : K.lookup d4 = some ⟨oc4, od4, .func (PySem.W.fnOf "_law_rows" "_law_rows" (defArgs s_rows) (defBody s_rows) (defScope s_rows) .none kV4 dc4 pm4 an4 cd4 ct4), sl4⟩)
    (cc4 : PySem.W.codeIn K cd4 "_law_rows" = true)
    (kd4 : PySem.W.keepIn K (.ref d4) = true)
    (ad5 : PySem.W.nsIn K mainGlobals "_law_again" = some (some (.ref d5)))
    (ld5 : K.lookup d5 = some ⟨oc5, od5, .func (PySem.W.fnOf "_law_again" "_law_again" (defArgs s_again) (defBody s_again) (defScope s_again) .none kV5 dc5 pm5 an5 cd5 ct5), sl5⟩)
    (cc5 : PySem.W.codeIn K cd5 "_law_again" = true)
    (kd5 : PySem.W.keepIn K (.ref d5) = true)
    (ad6 : PySem.W.nsIn K mainGlobals "_law_cut" = some (some (.ref d6)))
    (ld6 : K.lookup d6 = some ⟨oc6, od6, .func (PySem.W.fnOf "_law_cut" "_law_cut" (defArgs s_cut) (defBody s_cut) (defScope s_cut) .none kV6 dc6 pm6 an6 cd6 ct6), sl6⟩)
    (cc6 : PySem.W.codeIn K cd6 "_law_cut" = true)
    (kd6 : PySem.W.keepIn K (.ref d6) = true)
    (ad7 : PySem.W.nsIn K mainGlobals "top_of_row" = some (some (.ref d7)))
    (ld7 : K.lookup d7 = some ⟨oc7, od7, .func (PySem.W.fnOf "top_of_row" "top_of_row" (defArgs s_top_of_row) (defBody s_top_of_row) (defScope s_top_of_row) .none kV7 dc7 pm7 an7 cd7 ct7), sl7⟩)
    (cc7 : PySem.W.codeIn K cd7 "top_of_row" = true)
    (kd7 : PySem.W.keepIn K (.ref d7) = true)
    (ad8 : PySem.W.nsIn K mainGlobals "top" = some (some (.ref d8)))
    (ld8 : K.lookup d8 = some ⟨oc8, od8, .func (PySem.W.fnOf "top" "top" (defArgs s_top) (defBody s_top) (defScope s_top) .none kV8 dc8 pm8 an8 cd8 ct8), sl8⟩)
    (cc8 : PySem.W.codeIn K cd8 "top" = true)
    (kd8 : PySem.W.keepIn K (.ref d8) = true)
    (ad9 : PySem.W.nsIn K mainGlobals "is_node_top" = some (some (.ref d9)))
    (ld9 : K.lookup d9 = some ⟨oc9, od9, .func (PySem.W.fnOf "is_node_top" "is_node_top" (defArgs s_is_node_top) (defBody s_is_node_top) (defScope s_is_node_top) .none kV9 dc9 pm9 an9 cd9 ct9), sl9⟩)
    (cc9 : PySem.W.codeIn K cd9 "is_node_top" = true)
    (kd9 : PySem.W.keepIn K (.ref d9) = true)
    (ad10 : PySem.W.nsIn K mainGlobals "is_top" = some (some (.ref d10)))
    (ld10 : K.lookup d10 = some ⟨oc10, od10, .func (PySem.W.fnOf "is_top" "is_top" (defArgs s_is_top) (defBody s_is_top) (defScope s_is_top) .none kV10 dc10 pm10 an10 cd10 ct10), sl10⟩)
    (cc10 : PySem.W.codeIn K cd10 "is_top" = true)
    (kd10 : PySem.W.keepIn K (.ref d10) = true)
    (ad11 : PySem.W.nsIn K mainGlobals "_law_has_form" = some (some (.ref d11)))
    (ld11 : K.lookup d11 = some ⟨oc11, od11, .func (PySem.W.fnOf "_law_has_form" "_law_has_form" (defArgs s_has_form) (defBody s_has_form) (defScope s_has_form) .none kV11 dc11 pm11 an11 cd11 ct11), sl11⟩)
    (cc11 : PySem.W.codeIn K cd11 "_law_has_form" = true)
    (kd11 : PySem.W.keepIn K (.ref d11) = true)
    (ad12 : PySem.W.nsIn K mainGlobals "_law_recognized" = some (some (.ref d12)))
    (ld12 : K.lookup d12 = some ⟨oc12, od12, .func (PySem.W.fnOf "_law_recognized" "_law_recognized" (defArgs s_recognized) (defBody s_recognized) (defScope s_recognized) .none kV12 dc12 pm12 an12 cd12 ct12), sl12⟩)
    (cc12 : PySem.W.codeIn K cd12 "_law_recognized" = true)
    (kd12 : PySem.W.keepIn K (.ref d12) = true)
    (ad13 : PySem.W.nsIn K mainGlobals "_law_odd" = some (some (.ref d13)))
    (ld13 : K.lookup d13 = some ⟨oc13, od13, .func (PySem.W.fnOf "_law_odd" "_law_odd" (defArgs s_odd) (defBody s_odd) (defScope s_odd) .none kV13 dc13 pm13 an13 cd13 ct13), sl13⟩)
    (cc13 : PySem.W.codeIn K cd13 "_law_odd" = true)
    (kd13 : PySem.W.keepIn K (.ref d13) = true)
    (ad14 : PySem.W.nsIn K mainGlobals "_law_bent" = some (some (.ref d14)))
    (ld14 : K.lookup d14 = some ⟨oc14, od14, .func (PySem.W.fnOf "_law_bent" "_law_bent" (defArgs s_bent) (defBody s_bent) (defScope s_bent) .none kV14 dc14 pm14 an14 cd14 ct14), sl14⟩)
    (cc14 : PySem.W.codeIn K cd14 "_law_bent" = true)
    (kd14 : PySem.W.keepIn K (.ref d14) = true)
    (ad15 : PySem.W.nsIn K mainGlobals "_law_deep" = some (some (.ref d15)))
    (ld15 : K.lookup d15 = some ⟨oc15, od15, .func (PySem.W.fnOf "_law_deep" "_law_deep" (defArgs s_deep) (defBody s_deep) (defScope s_deep) .none kV15 dc15 pm15 an15 cd15 ct15), sl15⟩)
    (cc15 : PySem.W.codeIn K cd15 "_law_deep" = true)
    (kd15 : PySem.W.keepIn K (.ref d15) = true)
    (ad16 : PySem.W.nsIn K mainGlobals "law" = some (some (.ref d16)))
    (ld16 : K.lookup d16 = some ⟨oc16, od16, .func (PySem.W.fnOf "law" "law" (defArgs s_law) (defBody s_law) (defScope s_law) .none kV16 dc16 pm16 an16 cd16 ct16), sl16⟩)
    (cc16 : PySem.W.codeIn K cd16 "law" = true)
    (kd16 : PySem.W.keepIn K (.ref d16) = true)
    (n_all : PySem.W.nsIn K mainGlobals "all" = some none)
    (n_dict : PySem.W.nsIn K mainGlobals "dict" = some none)
    (n_enumerate : PySem.W.nsIn K mainGlobals "enumerate" = some none)
    (n_isinstance : PySem.W.nsIn K mainGlobals "isinstance" = some none)
    (n_len : PySem.W.nsIn K mainGlobals "len" = some none)
    (n_list : PySem.W.nsIn K mainGlobals "list" = some none)
    (n_range : PySem.W.nsIn K mainGlobals "range" = some none)
    (n_repr : PySem.W.nsIn K mainGlobals "repr" = some none)
    (n_sorted : PySem.W.nsIn K mainGlobals "sorted" = some none)
    (n_str : PySem.W.nsIn K mainGlobals "str" = some none)
    (n_tuple : PySem.W.nsIn K mainGlobals "tuple" = some none)
    (n_zip : PySem.W.nsIn K mainGlobals "zip" = some none)
    {t_VOID_TAG : Tok} (g_VOID_TAG : PySem.W.nsIn K mainGlobals "VOID_TAG" = some (some (.str "void" t_VOID_TAG)))
    (sys : SysK K)
    (hfa : mg "law" = some (.ref fa)) :
    ∃ fd : FuncData, (∀ (s : Shared) (u : Value), BindsTo s fd ⟨[u], []⟩ [("_law_script", u)]) ∧ ∀ base : Heap, K.In base → base.Ns mainGlobals mg → Fg P w K mg base 24 fa fd ["_law_script"] (spLaw K) := by
  have e := hfa.symm.trans (PySem.W.mg_of X G ad16)
  cases e
  have m_all := PySem.W.mg_none_of X G n_all
  have m_dict := PySem.W.mg_none_of X G n_dict
  have m_enumerate := PySem.W.mg_none_of X G n_enumerate
  have m_isinstance := PySem.W.mg_none_of X G n_isinstance
  have m_len := PySem.W.mg_none_of X G n_len
  have m_list := PySem.W.mg_none_of X G n_list
  have m_range := PySem.W.mg_none_of X G n_range
  have m_repr := PySem.W.mg_none_of X G n_repr
  have m_sorted := PySem.W.mg_none_of X G n_sorted
  have m_str := PySem.W.mg_none_of X G n_str
  have m_tuple := PySem.W.mg_none_of X G n_tuple
  have m_zip := PySem.W.mg_none_of X G n_zip
  have m_VOID_TAG := PySem.W.mg_of X G g_VOID_TAG
  have F0 := fun_mk (st := s_deck) ld0 cc0 kd0
  have bd0 := F0.binds (ps := ["_law_script"]) fun _ _ _ _ _ _ us hl => match us, hl with | [_], _ => rfl
  have F1 := fun_mk (st := s_draw) ld1 cc1 kd1
  have bd1 := F1.binds (ps := ["_law_deck_here", "_law_count"]) fun _ _ _ _ _ _ us hl => match us, hl with | [_, _], _ => rfl
  have F2 := fun_mk (st := s_pick) ld2 cc2 kd2
  have bd2 := F2.binds (ps := ["_law_deck_here", "_law_items"]) fun _ _ _ _ _ _ us hl => match us, hl with | [_, _], _ => rfl
  have F3 := fun_mk (st := s_signs) ld3 cc3 kd3
  have bd3 := F3.binds (ps := ["_law_deck_here"]) fun _ _ _ _ _ _ us hl => match us, hl with | [_], _ => rfl
  have F4 := fun_mk (st := s_rows) ld4 cc4 kd4
  have bd4 := F4.binds (ps := ["_law_deck_here", "_law_signs_here", "_law_most"]) fun _ _ _ _ _ _ us hl => match us, hl with | [_, _, _], _ => rfl
  have F5 := fun_mk (st := s_again) ld5 cc5 kd5
  have bd5 := F5.binds (ps := ["_law_deck_here", "_law_own"]) fun _ _ _ _ _ _ us hl => match us, hl with | [_, _], _ => rfl
  have F6 := fun_mk (st := s_cut) ld6 cc6 kd6
  have bd6 := F6.binds (ps := ["_law_own", "_law_k", "_law_deep_here"]) fun _ _ _ _ _ _ us hl => match us, hl with | [_, _, _], _ => rfl
  have F7 := fun_mk (st := s_top_of_row) ld7 cc7 kd7
  have bd7 := F7.binds (ps := ["sheet", "row", "depth"]) fun _ _ _ _ _ _ us hl => match us, hl with | [_, _, _], _ => rfl
  have F8 := fun_mk (st := s_top) ld8 cc8 kd8
  have bd8 := F8.binds (ps := ["sheet", "depth"]) fun _ _ _ _ _ _ us hl => match us, hl with | [_, _], _ => rfl
  have F9 := fun_mk (st := s_is_node_top) ld9 cc9 kd9
  have bd9 := F9.binds (ps := ["counts", "depth", "thing"]) fun _ _ _ _ _ _ us hl => match us, hl with | [_, _, _], _ => rfl
  have F10 := fun_mk (st := s_is_top) ld10 cc10 kd10
  have bd10 := F10.binds (ps := ["signature", "depth", "thing"]) fun _ _ _ _ _ _ us hl => match us, hl with | [_, _, _], _ => rfl
  have F11 := fun_mk (st := s_has_form) ld11 cc11 kd11
  have bd11 := F11.binds (ps := ["_law_counts", "_law_deep_here", "_law_it"]) fun _ _ _ _ _ _ us hl => match us, hl with | [_, _, _], _ => rfl
  have F12 := fun_mk (st := s_recognized) ld12 cc12 kd12
  have bd12 := F12.binds (ps := ["_law_signs_here", "_law_deep_here", "_law_it"]) fun _ _ _ _ _ _ us hl => match us, hl with | [_, _, _], _ => rfl
  have F13 := fun_mk (st := s_odd) ld13 cc13 kd13
  have bd13 := F13.binds (ps := ["_law_deck_here", "_law_signs_here", "_law_it"]) fun _ _ _ _ _ _ us hl => match us, hl with | [_, _, _], _ => rfl
  have F14 := fun_mk (st := s_bent) ld14 cc14 kd14
  have bd14 := F14.binds (ps := ["_law_deck_here", "_law_signs_here", "_law_it"]) fun _ _ _ _ _ _ us hl => match us, hl with | [_, _, _], _ => rfl
  have F15 := fun_mk (st := s_deep) ld15 cc15 kd15
  have bd15 := F15.binds (ps := ["_law_signs_here", "_law_count"]) fun _ _ _ _ _ _ us hl => match us, hl with | [_, _], _ => rfl
  have F16 := fun_mk (st := s_law) ld16 cc16 kd16
  refine ⟨PySem.W.fnOf "law" "law" (defArgs s_law) (defBody s_law) (defScope s_law) .none kV16 dc16 pm16 an16 cd16 ct16, fun s u => .of_eq rfl, fun base hK hG => ?_⟩
  have A0 : Fg P w K mg base 1 _ _ ["_law_script"] (spDeckH K) := ok_deck F0 m_list
  have D0 : Df P w K mg base 1 "_law_deck" ["_law_script"] (spDeckH K) := ⟨⟨_, _, A0, PySem.W.mg_of X G ad0, kd0, bd0⟩⟩
  have A1 : Fg P w K mg base 1 _ _ ["_law_deck_here", "_law_count"] (spOf K 2 (F_draw)) := ok_draw F1
  have D1 : Df P w K mg base 1 "_law_draw" ["_law_deck_here", "_law_count"] (spOf K 2 (F_draw)) := ⟨⟨_, _, A1, PySem.W.mg_of X G ad1, kd1, bd1⟩⟩
  have A2 : Fg P w K mg base 2 _ _ ["_law_deck_here", "_law_items"] (spOf K 2 (F_pick)) := ok_pick F2 D1 m_len (by omega)
  have D2 : Df P w K mg base 2 "_law_pick" ["_law_deck_here", "_law_items"] (spOf K 2 (F_pick)) := ⟨⟨_, _, A2, PySem.W.mg_of X G ad2, kd2, bd2⟩⟩
  have A3 : Fg P w K mg base 3 _ _ ["_law_deck_here"] (spOf K 1 (F_signs)) := ok_signs F3 D2 D1 m_list m_sorted m_tuple m_zip (by omega) (by omega)
  have D3 : Df P w K mg base 3 "_law_signs" ["_law_deck_here"] (spOf K 1 (F_signs)) := ⟨⟨_, _, A3, PySem.W.mg_of X G ad3, kd3, bd3⟩⟩
  have A4 : Fg P w K mg base 3 _ _ ["_law_deck_here", "_law_signs_here", "_law_most"] (spOf K 3 (F_rows)) := ok_rows F4 D2 D1 m_range m_tuple (by omega) (by omega)
  have D4 : Df P w K mg base 3 "_law_rows" ["_law_deck_here", "_law_signs_here", "_law_most"] (spOf K 3 (F_rows)) := ⟨⟨_, _, A4, PySem.W.mg_of X G ad4, kd4, bd4⟩⟩
  have A5 : Fg P w K mg base 3 _ _ ["_law_deck_here", "_law_own"] (spOf K 2 (F_again)) := ok_again F5 D1 D2 m_enumerate m_len m_list m_range m_tuple (by omega) (by omega)
  have D5 : Df P w K mg base 3 "_law_again" ["_law_deck_here", "_law_own"] (spOf K 2 (F_again)) := ⟨⟨_, _, A5, PySem.W.mg_of X G ad5, kd5, bd5⟩⟩
  have A6 : Fg P w K mg base 8 _ _ ["_law_own", "_law_k", "_law_deep_here"] (spOf K 3 (F_cut 8)) := fg_rec (l := 0) (F := F_cut) rfl (fun j Z => by
    have DZ : Df P w K mg base (0 + j) "_law_cut" ["_law_own", "_law_k", "_law_deep_here"] (spOf K 3 (F_cut j)) := ⟨⟨_, _, Z, PySem.W.mg_of X G ad6, kd6, bd6⟩⟩
    exact ok_cut F6 DZ m_tuple) 8
  have D6 : Df P w K mg base 8 "_law_cut" ["_law_own", "_law_k", "_law_deep_here"] (spOf K 3 (F_cut 8)) := ⟨⟨_, _, A6, PySem.W.mg_of X G ad6, kd6, bd6⟩⟩
  have A7 : Fg P w K mg base 8 _ _ ["sheet", "row", "depth"] (spOf K 3 (F_tor 8)) := fg_rec (l := 0) (F := F_tor) rfl (fun j Z => by
    have DZ : Df P w K mg base (0 + j) "top_of_row" ["sheet", "row", "depth"] (spOf K 3 (F_tor j)) := ⟨⟨_, _, Z, PySem.W.mg_of X G ad7, kd7, bd7⟩⟩
    exact ok_top_of_row F7 DZ m_len m_tuple) 8
  have D7 : Df P w K mg base 8 "top_of_row" ["sheet", "row", "depth"] (spOf K 3 (F_tor 8)) := ⟨⟨_, _, A7, PySem.W.mg_of X G ad7, kd7, bd7⟩⟩
  have A8 : Fg P w K mg base 9 _ _ ["sheet", "depth"] (spOf K 2 (F_top)) := ok_top F8 D7 (by omega)
  have D8 : Df P w K mg base 9 "top" ["sheet", "depth"] (spOf K 2 (F_top)) := ⟨⟨_, _, A8, PySem.W.mg_of X G ad8, kd8, bd8⟩⟩
  have DK8_depth_sheet : DfK P w K mg base 9 "top" ["sheet", "depth"] ["depth", "sheet"] [1, 0] (spOf K 2 (F_top)) := ⟨⟨_, _, A8, PySem.W.mg_of X G ad8, kd8, kb F8 (ps := ["sheet", "depth"]) (ks := ["depth", "sheet"]) (π := [1, 0]) fun _ _ _ _ _ _ us hl => match us, hl with | [_, _], _ => rfl⟩⟩
  have A9 : Fg P w K mg base 6 _ _ ["counts", "depth", "thing"] (spOf K 3 (F_int 6)) := fg_rec (l := 0) (F := F_int) rfl (fun j Z => by
    have DZ : Df P w K mg base (0 + j) "is_node_top" ["counts", "depth", "thing"] (spOf K 3 (F_int j)) := ⟨⟨_, _, Z, PySem.W.mg_of X G ad9, kd9, bd9⟩⟩
    exact ok_is_node_top F9 DZ m_all m_isinstance m_len m_str m_tuple) 6
  have D9 : Df P w K mg base 6 "is_node_top" ["counts", "depth", "thing"] (spOf K 3 (F_int 6)) := ⟨⟨_, _, A9, PySem.W.mg_of X G ad9, kd9, bd9⟩⟩
  have A10 : Fg P w K mg base 7 _ _ ["signature", "depth", "thing"] (spOf K 3 (F_is_top)) := ok_is_top F10 D9 m_dict m_VOID_TAG (by omega)
  have D10 : Df P w K mg base 7 "is_top" ["signature", "depth", "thing"] (spOf K 3 (F_is_top)) := ⟨⟨_, _, A10, PySem.W.mg_of X G ad10, kd10, bd10⟩⟩
  have DK10_thing_depth_signature : DfK P w K mg base 7 "is_top" ["signature", "depth", "thing"] ["thing", "depth", "signature"] [2, 1, 0] (spOf K 3 (F_is_top)) := ⟨⟨_, _, A10, PySem.W.mg_of X G ad10, kd10, kb F10 (ps := ["signature", "depth", "thing"]) (ks := ["thing", "depth", "signature"]) (π := [2, 1, 0]) fun _ _ _ _ _ _ us hl => match us, hl with | [_, _, _], _ => rfl⟩⟩
  have A11 : Fg P w K mg base 6 _ _ ["_law_counts", "_law_deep_here", "_law_it"] (spOf K 3 (F_form 6)) := fg_rec (l := 0) (F := F_form) rfl (fun j Z => by
    have DZ : Df P w K mg base (0 + j) "_law_has_form" ["_law_counts", "_law_deep_here", "_law_it"] (spOf K 3 (F_form j)) := ⟨⟨_, _, Z, PySem.W.mg_of X G ad11, kd11, bd11⟩⟩
    exact ok_has_form F11 DZ m_isinstance m_len m_str m_tuple) 6
  have D11 : Df P w K mg base 6 "_law_has_form" ["_law_counts", "_law_deep_here", "_law_it"] (spOf K 3 (F_form 6)) := ⟨⟨_, _, A11, PySem.W.mg_of X G ad11, kd11, bd11⟩⟩
  have A12 : Fg P w K mg base 8 _ _ ["_law_signs_here", "_law_deep_here", "_law_it"] (spOf K 3 (F_recognized)) := ok_recognized F12 D11 D10 DK10_thing_depth_signature m_dict m_list m_repr m_tuple sys (by omega) (by omega)
  have D12 : Df P w K mg base 8 "_law_recognized" ["_law_signs_here", "_law_deep_here", "_law_it"] (spOf K 3 (F_recognized)) := ⟨⟨_, _, A12, PySem.W.mg_of X G ad12, kd12, bd12⟩⟩
  have A13 : Fg P w K mg base 3 _ _ ["_law_deck_here", "_law_signs_here", "_law_it"] (spOf K 3 (F_odd)) := ok_odd F13 D2 (by omega)
  have D13 : Df P w K mg base 3 "_law_odd" ["_law_deck_here", "_law_signs_here", "_law_it"] (spOf K 3 (F_odd)) := ⟨⟨_, _, A13, PySem.W.mg_of X G ad13, kd13, bd13⟩⟩
  have A14 : Fg P w K mg base 23 _ _ ["_law_deck_here", "_law_signs_here", "_law_it"] (spOf K 3 (F_bent 20)) := fg_rec (l := 3) (F := F_bent) rfl (fun j Z => by
    have DZ : Df P w K mg base (3 + j) "_law_bent" ["_law_deck_here", "_law_signs_here", "_law_it"] (spOf K 3 (F_bent j)) := ⟨⟨_, _, Z, PySem.W.mg_of X G ad14, kd14, bd14⟩⟩
    exact ok_bent F14 D1 D13 DZ m_isinstance m_len m_tuple (by omega) (by omega)) 20
  have D14 : Df P w K mg base 23 "_law_bent" ["_law_deck_here", "_law_signs_here", "_law_it"] (spOf K 3 (F_bent 20)) := ⟨⟨_, _, A14, PySem.W.mg_of X G ad14, kd14, bd14⟩⟩
  have A15 : Fg P w K mg base 1 _ _ ["_law_signs_here", "_law_count"] (spOf K 2 (F_deep)) := ok_deep F15 m_range
  have D15 : Df P w K mg base 1 "_law_deep" ["_law_signs_here", "_law_count"] (spOf K 2 (F_deep)) := ⟨⟨_, _, A15, PySem.W.mg_of X G ad15, kd15, bd15⟩⟩
  exact ok_law F16 D0 D3 D4 D5 D6 D8 DK8_depth_sheet D15 D14 D13 D12 m_range m_repr sys (by omega) (by omega) (by omega) (by omega) (by omega) (by omega) (by omega) (by omega) (by omega) (by omega) law_holds
end
end K09

open PySem PySem.W PyProof.Rows
set_option Elab.async false
set_option maxRecDepth 100000
set_option maxHeartbeats 0
open_top head for PySem.Challenge.rw_roundcalls_k09_tops

set_option Elab.async false
set_option linter.all false
set_option maxRecDepth 100000
open PySem PySem.W PyProof.Rows
noncomputable def o1 (p : Params) : Obj := (boot_heap p).objs.getD 1 default
noncomputable def KS (p : Params) : Frag := (fun (K : Frag) (_ : K = (nat_lit 1, o1 p) :: head.heap_39 p) => K) _ (by delta head.heap_39; exact rfl)
def asS : List Addr := 1 :: [2,3,6,15,18,19,20,22,23,25,26,27,30,31,32,34,35,37,38,39,41,42,44,45,46,48,49,51,52,53,55,56,58,59,60,62,63,65,66,67,70,71,72,75,76,77,80,81,82,85,86,87,89,90,92,93,94,96,97,99,100,101,104,105,106,109,110,111,114,115]
theorem sysc (p : Params) : (o1 p).cls = .type "dict" := by kernel_rfl
theorem sysK (p : Params) : DL.SysK (KS p) := ⟨o1 p, rfl, sysc p⟩
set_option maxHeartbeats 0 in
theorem PySem.Challenge.cw_roundcalls_k09_tops_holds : PySem.Challenge.rw_roundcalls_k09_tops.Holds := by
  w_on; o_law
  o_head (kHook KS asS (fun _ => by kernel_rfl))
  case hw => w_witness2
  k_fill
  refine GG.walk_go (l := PySem.Challenge.rw_roundcalls_k09_tops) (n := 63) (k := 24) (sp := DL.spLaw) (x := "_law_script") rfl (by decide) rfl ⟨⟨rfl, by decide, by decide⟩, rfl⟩ (fun w h Y => PySem.W.kIn_of Y) ?F (fun K H a ns hl _ hS => ⟨a, ns, rfl, hS, hl, fun _ => rfl⟩)
  case F =>
    intro w mg fa h KX G hmg
    refine' K09.all_mk KX G ?ad0 ?ld0 ?cc0 ?kd0 ?ad1 ?ld1 ?cc1 ?kd1 ?ad2 ?ld2 ?cc2 ?kd2 ?ad3 ?ld3 ?cc3 ?kd3 ?ad4 ?ld4 ?cc4 ?kd4 ?ad5 ?ld5 ?cc5 ?kd5 ?ad6 ?ld6 ?cc6 ?kd6 ?ad7 ?ld7 ?cc7 ?kd7 ?ad8 ?ld8 ?cc8 ?kd8 ?ad9 ?ld9 ?cc9 ?kd9 ?ad10 ?ld10 ?cc10 ?kd10 ?ad11 ?ld11 ?cc11 ?kd11 ?ad12 ?ld12 ?cc12 ?kd12 ?ad13 ?ld13 ?cc13 ?kd13 ?ad14 ?ld14 ?cc14 ?kd14 ?ad15 ?ld15 ?cc15 ?kd15 ?ad16 ?ld16 ?cc16 ?kd16 ?n_all ?n_dict ?n_enumerate ?n_isinstance ?n_len ?n_list ?n_range ?n_repr ?n_sorted ?n_str ?n_tuple ?n_zip ?g_VOID_TAG (sysK _) hmg
    (case ad0 => k_is)
    (case ld0 => k_is)
    (case cc0 => k_is)
    (case kd0 => k_is)
    (case ad1 => k_is)
    (case ld1 => k_is)
    (case cc1 => k_is)
    (case kd1 => k_is)
    (case ad2 => k_is)
    (case ld2 => k_is)
    (case cc2 => k_is)
    (case kd2 => k_is)
    (case ad3 => k_is)
    (case ld3 => k_is)
    (case cc3 => k_is)
    (case kd3 => k_is)
    (case ad4 => k_is)
    (case ld4 => k_is)
    (case cc4 => k_is)
    (case kd4 => k_is)
    (case ad5 => k_is)
    (case ld5 => k_is)
    (case cc5 => k_is)
    (case kd5 => k_is)
    (case ad6 => k_is)
    (case ld6 => k_is)
    (case cc6 => k_is)
    (case kd6 => k_is)
    (case ad7 => k_is)
    (case ld7 => k_is)
    (case cc7 => k_is)
    (case kd7 => k_is)
    (case ad8 => k_is)
    (case ld8 => k_is)
    (case cc8 => k_is)
    (case kd8 => k_is)
    (case ad9 => k_is)
    (case ld9 => k_is)
    (case cc9 => k_is)
    (case kd9 => k_is)
    (case ad10 => k_is)
    (case ld10 => k_is)
    (case cc10 => k_is)
    (case kd10 => k_is)
    (case ad11 => k_is)
    (case ld11 => k_is)
    (case cc11 => k_is)
    (case kd11 => k_is)
    (case ad12 => k_is)
    (case ld12 => k_is)
    (case cc12 => k_is)
    (case kd12 => k_is)
    (case ad13 => k_is)
    (case ld13 => k_is)
    (case cc13 => k_is)
    (case kd13 => k_is)
    (case ad14 => k_is)
    (case ld14 => k_is)
    (case cc14 => k_is)
    (case kd14 => k_is)
    (case ad15 => k_is)
    (case ld15 => k_is)
    (case cc15 => k_is)
    (case kd15 => k_is)
    (case ad16 => k_is)
    (case ld16 => k_is)
    (case cc16 => k_is)
    (case kd16 => k_is)
    (case n_all => k_is)
    (case n_dict => k_is)
    (case n_enumerate => k_is)
    (case n_isinstance => k_is)
    (case n_len => k_is)
    (case n_list => k_is)
    (case n_range => k_is)
    (case n_repr => k_is)
    (case n_sorted => k_is)
    (case n_str => k_is)
    (case n_tuple => k_is)
    (case n_zip => k_is)
    (case g_VOID_TAG => k_is)
#print axioms PySem.Challenge.cw_roundcalls_k09_tops_holds
