import PyProof.Rows.All
import Wide.All
import OpenK.AllK
import Wide.FinOn
import HandS.ForMost
import HandS.Style
import HandS.TupAny
import HandS.IsInst
import HandS.RaiseMore
import HandS.ExcInit
import HandS.MakeKw
import KE.KExcIs
import KE.KExcInit
import HandS.Evl
import PySem.Challenge.RW_roundcalls_k86_errors
import HandS.FStrTup
import KE.KIsAll
set_option Elab.async false
set_option linter.all false
set_option maxRecDepth 100000
set_option maxHeartbeats 4000000
/-! GG: promises of defs that know that no repr is under way (guards), and repr of data by it. -/
namespace GG
open PySem PySem.Spec PyProof.Rows L2

/-- room for k calls, and no repr runs around -/
structure Rm (k : Nat) (A : Around) : Prop where
  room : Room k A
  plain : A.guards = some []
theorem Rm.mono {j k : Nat} {A : Around} (r : Rm k A) (h : j ≤ k) : Rm j A := ⟨r.room.mono h, r.plain⟩
theorem Rm.deep {k : Nat} {A : Around} (r : Rm (k + 1) A) (env : Env) : Rm k (A.deeper env) := ⟨r.room.deeper env, r.plain⟩

/-- a def keeps a promise wherever no repr runs around; it raises nothing -/
structure Fg (P : Program) (w : World) (K : PySem.W.Frag) (mg : Str → Option Value) (base : Heap) (k : Nat) (f : Addr) (fd : FuncData) (ps : List Str) (sp : Sp) : Prop where
  size : ∀ vs H Q, sp vs H Q E0 → vs.length = ps.length
  go : ∀ (A : Around) (outer : List Env) (s : Shared) (H : Hp) (args : Args) (us : List Value) (vs : List V) (Q : VK), Rm k A → Env0 P w K mg base A outer s H → BindsTo s fd args (ps.zip us) → Vals vs us → sp vs H Q E0 →
    codeAny (model P w) A (.call (.ref f) args) (CR CX0 outer P w H s Q E0) s
section
variable {P : Program} {w : World} {K : PySem.W.Frag} {mg : Str → Option Value} {base : Heap} {j k : Nat} {f : Addr} {fd : FuncData} {ps : List Str} {sp : Sp}
theorem Fg.mono (F : Fg P w K mg base j f fd ps sp) (h : j ≤ k) : Fg P w K mg base k f fd ps sp := ⟨F.size, fun A o s H a us vs Q r => F.go A o s H a us vs Q (r.mono h)⟩
theorem Fg.of (F : FnOk P w K mg base CX0 k f fd ps sp) : Fg P w K mg base k f fd ps sp := ⟨fun vs H Q h => F.len vs H Q E0 h, fun A o s H a us vs Q r e b v h => F.run A o s H a us vs Q E0 r.room e b v h⟩

/-- a def of the text keeps its promise: by its body's reading -/
theorem okg {x qual : Str} {st : Stmt} {N : List Str} (F : L2.Fun K x qual st f fd) (S : FnScope N ps (defScope st)) (size : ∀ vs H Q, sp vs H Q E0 → vs.length = ps.length)
    (body : ∀ (cdv : Value) (A : Around) (outer : List Env) (s : Shared) (H : Hp) (vs : List V) (Q : VK), Rm k (A.deeper (envOfC qual (defScope st) s.heap.objs.size f cdv)) → sp vs H Q E0 →
      ∃ t, PSs (cxOf CX0 P w K mg base N qual (defScope st) f cdv A outer s H E0).nox (defBody st) t ∧ t { nx := fun _ H' => Q .non H', rt := Q } (start N vs) H) :
    Fg P w K mg base (k + 1) f fd ps sp := by
  obtain ⟨oc, od, kV, doc, pm, an, cdv, ct, osl, rfl, lk, hcd⟩ := F.ex
  refine ⟨size, fun A outer s H args us vs Q hr e0 hb r hsp => ?_⟩
  have hl := size _ _ _ hsp
  have keep : ∀ b o, base.get? b = some o → s.heap.get? b = some o := fun b o e => (e0.bs b o e).1
  have KX : K.In s.heap := e0.mod.kin.keeps keep
  have lim : s.heap.NoLimit := e0.mod.nolimit.keeps keep
  have hkind : ∀ y ∈ ps.zip us, (defScope st).names.lookup y.1 = some .local ∨ ((defScope st).names.lookup y.1 = some .cell ∧ ((cellsFrom (s.heap.objs.size + 1) (defScope st).names []).lookup y.1).isSome = true) := by
    rintro ⟨n, v⟩ hy
    rcases S.par n (List.of_mem_zip hy).1 with q | q
    · exact .inl q
    · exact .inr ⟨q, PySem.W.cellsFrom_some _ _ _ (.inl q)⟩
  refine codeAny_call_function hr.room.depth (KX _ _ lk) rfl S.co S.gen rfl (PySem.W.codeRec_of KX hcd) (hb _ _ _ _ ?_)
  refine wpAny_newFunctionEnv_cells S.kind hkind fun env he s1 x => ?_
  subst he
  refine ⟨lim.keeps x.toInCall.keep, codeAny_func ?_⟩
  obtain ⟨t, ht, hq⟩ := body cdv A outer s H vs Q (hr.deep _) hsp
  have I := inv_start (CX := CX0) (E := E0) S hr.room.hd e0 hl r x
  refine wpAny_mono (ht.nox.run [] s1 (start N vs) H _ I hq) (fun fl s' hs => ?_) fun e s' hs => hs
  have fin : ∀ {σ' : L2.St} {H' : Hp} {v : V} {u : Value}, Inv (cxOf CX0 P w K mg base N qual (defScope st) f cdv A outer s H E0) [] σ' H' s' → RelV v u → Q v H' → CE outer P w H s Q u s' :=
    fun {σ' H' v u} J rv q => ⟨v, H', J.os, J.bare, J.base, J.hok, rv, q⟩
  cases fl with
  | ret u => obtain ⟨v, σ', H', J, rv, q⟩ := hs; exact fin J rv q
  | next => obtain ⟨σ', H', J, q⟩ := hs; exact fin (v := V.non) (u := Value.none) J rfl q
  | brk => obtain ⟨_, _, _, q⟩ := hs; exact q.elim
  | cont => obtain ⟨_, _, _, q⟩ := hs; exact q.elim
end

/-! ### calls of such defs -/
section
variable {X : Cx} {k : Nat} {f : Addr} {fd : FuncData} {ps ks : List Str} {sp : Sp} {x : Str} {p pos : Pos} {e : Expr} {es : List Expr} {kws : List Keyword} {t tk : TA} {g : List Value → List Value → List Value} {gV : List V → List V → List V}
def RP (X : Cx) (pins : List (Addr × Obj)) (σ : L2.St) (Q : VK) : Result → Shared → Prop := fun r s' => match r with
  | .ok (.ret v) => EP X pins σ Q v s'
  | .ok _ => False
  | .error e => X.xe e s'
theorem ret_of {pins : List (Addr × Obj)} {σ : L2.St} {H : Hp} {s s' : Shared} {Q : VK} {r : Result} (I : Inv X pins σ H s) (h : CR CX0 X.stack X.prog X.w H s Q E0 r s') : RP X pins σ Q r s' := by
  cases r with
  | error e => exact False.elim h
  | ok fl =>
    cases fl with
    | ret u => exact I.after h
    | next => exact False.elim h
    | brk => exact False.elim h
    | cont => exact False.elim h
/-- f(e, ..) -/
theorem pcall (F : Fg X.prog X.w X.K X.mg X.base k f fd ps sp) (hr : Rm k X.A) (hg : Gl X x) (hm : X.mg x = some (.ref f)) (hk : PySem.W.keepIn X.K (.ref f) = true) (hb : Binds X.K fd ps []) (ha : PA X (e :: es) t)
    (hdb : (x == ("__debug__" : Str)) = false := by decide) (he : starEach (e :: es) X.env = (false, eval e X.env) :: starEach es X.env := by rfl) (hpl : (backTo pos (starEach es X.env)).any (·.1) = false := by rfl) :
    PE X (.Call (.Name x p) (e :: es) [] pos) (tCall sp [] E0 t) := by
  refine ⟨fun pins s σ H Q I h => ?_⟩
  refine wpAny_Call_Name_kw (ld_glob I hg hm ?_ hdb)
  refine PySem.W.callWith_K (h₀ := X.base) I.ok.mod.kin hk (thn (ha.run pos pins s σ H _ I h) fun us s1 ⟨vs, H1, I1, r, q⟩ => ⟨I1.kIn, ?_⟩) he hpl
  have q' : sp vs H1 Q E0 := by rw [← List.append_nil vs]; exact q
  have hl : (us ++ []).length = ps.length := by rw [List.append_nil, ← r.length]; exact F.size _ _ _ q'
  have b := hb s1 us I1.kIn hl
  rw [List.append_nil] at b
  refine wpAny_call (codeAny_mono (F.go X.A X.stack s1 H1 ⟨us, []⟩ us vs Q hr I1.env0 b r q') fun r s' hq => ?_)
  exact ret_of I1 hq
/-- f(e, .., k = v) and f(k = v) -/
def tCallN (sp : Sp) (gV : List V → List V → List V) (t tk : TA) : TE := fun σ H Q => t σ H fun vs H1 => tk σ H1 fun zs H2 => sp (gV vs zs) H2 Q E0
theorem pcallK (F : Fg X.prog X.w X.K X.mg X.base k f fd ps sp) (hr : Rm k X.A) (hg : Gl X x) (hm : X.mg x = some (.ref f)) (hk : PySem.W.keepIn X.K (.ref f) = true) (hb : KBinds X.K fd ps ks g gV) (ha : PA X (e :: es) t) (hkw : PK X kws tk)
    (hall : (backToKw pos (keywordEach kws X.env)).all (·.1.isSome) = true := by rfl) (hks : (backToKw pos (keywordEach kws X.env)).filterMap (·.1) = ks := by rfl)
    (hdb : (x == ("__debug__" : Str)) = false := by decide) (he : starEach (e :: es) X.env = (false, eval e X.env) :: starEach es X.env := by rfl)
    (hpl : ((backTo pos (starEach (e :: es) X.env)).any (·.1) || (backToKw pos (keywordEach kws X.env)).any (·.1.isNone)) = false := by rfl) :
    PE X (.Call (.Name x p) (e :: es) kws pos) (tCallN sp gV t tk) := by
  refine ⟨fun pins s σ H Q I h => ?_⟩
  refine wpAny_Call_Name_kw (ld_glob I hg hm ?_ hdb)
  refine PySem.W.callWith_KW (h₀ := X.base) I.ok.mod.kin hk hall (thn (ha.run pos pins s σ H _ I h) fun us s1 ⟨vs, H1, I1, r, q⟩ => ?_) hpl he
  refine thn (hkw.run pos pins s1 σ H1 _ I1 q) fun ws s2 ⟨zs, H2, I2, rz, q2⟩ => ⟨I2.kIn, ?_⟩
  rw [hks]
  have r2 := hb.rel r rz
  have hl : (g us ws).length = ps.length := by rw [← r2.length]; exact F.size _ _ _ q2
  refine wpAny_call (codeAny_mono (F.go X.A X.stack s2 H2 ⟨us, ks.zip ws⟩ (g us ws) (gV vs zs) Q hr I2.env0 (hb.to s2 us ws I2.kIn hl) r2 q2) fun r s' hq => ?_)
  exact ret_of I2 hq
end

/-! ### the end of a law's row -/
theorem law_go {P : Program} {w : World} {K : PySem.W.Frag} {mg mb : Str → Option Value} {k : Nat} {fa a : Addr} {fd : FuncData} {x : Str} {sp : Sp} {s₁ : Shared} {vs : List Value} {ns : List Int}
    (KX : K.In s₁.heap) (hns : s₁.heap.Ns mainGlobals mg) (hb : s₁.heap.Ns builtinsNs mb) (hbb : ∀ x : Str, x ≠ "__name__" → mb x = bootBuiltins x) (hlim : s₁.heap.NoLimit) (hg : s₁.gens = #[])
    (ha : s₁.heap.get? a = some { cls := .type "list", data := .seq vs.toArray }) (hi : IntsAre vs ns) (hl : ns.length ≤ sizeLine) (hr : Rm k callerA)
    (F : ∀ base : Heap, K.In base → base.Ns mainGlobals mg → Fg P w K mg base k fa fd [x] sp) (hbind : ∀ (s : Shared) (u : Value), BindsTo s fd ⟨[u], []⟩ [(x, u)])
    (hsp : ∀ H : Hp, Only H → SqL K H a (ns.map V.int) → sp [.ref a] H (fun v _ => v = .bl true) E0) :
    codeAny (model P w) callerA (.call (.ref fa) ⟨[.ref a], []⟩) (fun r s' => r = .ok (.ret (.bool true)) ∧ OldK s₁.heap s'.heap ∧ s'.os = s₁.os ∧ AllBare s'.gens) s₁ := by
  have rv := vals_ints hi
  have lenV := hi.length
  have main : ∀ H : Hp, Only H → SqL K H a (ns.map V.int) → HOk P w H s₁.heap → (∀ b, H b ≠ none → b = a) → (H a ≠ none → K.lookup a = none) →
      codeAny (model P w) callerA (.call (.ref fa) ⟨[.ref a], []⟩) (fun r s' => r = .ok (.ret (.bool true)) ∧ OldK s₁.heap s'.heap ∧ s'.os = s₁.os ∧ AllBare s'.gens) s₁ := by
    intro H hO hS hok hA hK
    have only_a : ∀ {b : Addr} {u : HO}, H b = some u → b = a := fun {b u} q => hA b (by rw [q]; exact fun z => nomatch z)
    have free_dict : ∀ {b : Addr} {o : Obj} {es : Array DictEntry} {ep : Nat}, s₁.heap.get? b = some o → o.data = .dict es ep → H b = none := fun {b o es ep} e d => by
      cases q : H b with
      | none => rfl
      | some u =>
        rw [only_a q, ha] at e
        cases e
        exact nomatch (show Data.seq vs.toArray _ = Data.dict es ep from d)
    have ns_of : ∀ {b : Addr} {m : Str → Option Value}, s₁.heap.Ns b m → (hidT s₁.heap H).Ns b m := fun {b m} ⟨o, es, ep, e, d, r⟩ => ⟨o, es, ep, hidT_get e (free_dict e d), d, r⟩
    have hKb : K.In (hidT s₁.heap H) := fun b o e => hidT_get (KX b o e) (by
      cases q : H b with
      | none => rfl
      | some u =>
        have e' := only_a q
        rw [e', hK (by rw [← e', q]; exact fun z => nomatch z)] at e
        cases e)
    have hM : Mod K mg (hidT s₁.heap H) := ⟨hKb, ns_of hns, ⟨mb, ns_of hb, hbb⟩, let ⟨mc, h1, h2⟩ := hlim; ⟨mc, ns_of h1, h2⟩⟩
    have e0 : Env0 P w K mg (hidT s₁.heap H) callerA [] s₁ H := ⟨rfl, hM, fun b o e => of_hidT e, Nat.le_of_eq (hidT_size _ _), trivial, fun b hb => absurd (show b ∈ ([] : List Addr) from hb) List.not_mem_nil, hok, .of_eq hg⟩
    refine codeAny_mono ((F _ hKb (ns_of hns)).go callerA [] s₁ H ⟨[.ref a], []⟩ [.ref a] [.ref a] _ hr e0 (hbind s₁ (.ref a)) (.cons rfl .nil) (hsp H hO hS)) fun r s' h => ?_
    cases r with
    | error e => exact False.elim h
    | ok fl =>
      cases fl with
      | next => exact False.elim h
      | brk => exact False.elim h
      | cont => exact False.elim h
      | ret u =>
        obtain ⟨v, H', os, bare, un, hok', r', q⟩ := h
        obtain rfl : v = .bl true := q
        obtain rfl : u = Value.bool true := r'
        refine ⟨rfl, OldK.of_keep fun b o e => ?_, os, bare⟩
        rcases hO b with z | ⟨ob, xs, z⟩
        · exact un.keep b o e z (fun z => absurd (show b ∈ ([] : List Addr) from z) List.not_mem_nil) List.not_mem_nil
        · obtain ⟨e1, _⟩ := hok b _ z
          obtain ⟨e2, _⟩ := hok' b _ (un.frzs b ob _ z)
          rw [e] at e1
          cases e1
          exact e2
  cases hk : K.lookup a with
  | some o =>
    have e := KX a o hk
    rw [ha] at e
    cases e
    refine main (fun _ => none) (fun _ => .inl rfl) (.inr ⟨_, vs.toArray, _, hk, rfl, rfl, rfl, by rw [List.size_toArray, lenV]; exact hl, by simpa using rv⟩) (fun b u z => nomatch (show (none : Option HO) = some u from z)) (fun b z => absurd rfl z) fun z => absurd rfl z
  | none =>
    refine main (fun b => if b = a then some (.frz { cls := .type "list", data := .seq vs.toArray } (.lst (ns.map V.int))) else none) (fun b => ?_) (.inl (.inr ⟨{ cls := .type "list", data := .seq vs.toArray }, if_pos rfl⟩)) (fun b u z => ?_) (fun b z => ?_) fun _ => hk
    · by_cases hb : b = a
      · exact .inr ⟨_, _, if_pos hb⟩
      · exact .inl (if_neg hb)
    · by_cases hb : b = a
      · have z' := (if_pos hb).symm.trans z
        cases z'
        subst hb
        exact ⟨ha, by rw [List.length_map]; exact hl, vs, _, rv, ha⟩
      · have z' := (if_neg hb).symm.trans z
        cases z'
    · by_cases hb : b = a
      · exact hb
      · exact absurd (if_neg hb) z

theorem walk_go {l : PySem.W.OpenLaw} {n k : Nat} {q : Program} {loose : List Str} {XP : (Str → Option Value) → Heap → Prop} {YP : World → Heap → Prop} {d : DefRec} {K : Params → PySem.W.Frag} {sp : PySem.W.Frag → Sp} {x : Str}
    (hn : l.most = some n) (hn2 : n ≤ sizeLine) (hdf : d.params.defaults = []) (hr : Rm k callerA)
    (hY : ∀ (w : World) (h : Heap), YP w h → (K w.params).In h)
    (F : ∀ (w : World) (mg : Str → Option Value) (fa : Addr) (h : Heap), (K w.params).In h → h.Ns mainGlobals mg → mg d.name = some (.ref fa) →
      ∃ fd : FuncData, (∀ (s : Shared) (u : Value), BindsTo s fd ⟨[u], []⟩ [(x, u)]) ∧
        ∀ base : Heap, (K w.params).In base → base.Ns mainGlobals mg → Fg l.prog w (K w.params) mg base k fa fd [x] (sp (K w.params)))
    (hsp : ∀ (K : PySem.W.Frag) (H : Hp) (a : Addr) (ns : List Int), ns.length ≤ n → Only H → SqL K H a (ns.map V.int) → sp K [.ref a] H (fun v _ => v = .bl true) E0) :
    PySem.W.WalkO q loose XP YP l.row.toRowW d [] (fun f vs => PySem.call f vs) := by
  refine Att.attach_call hn hdf fun w s₀ s₁ mg mb fa o pm cd doc a vs ns G Y ho hd hcd hmg hobj hints hlen hg => ?_
  have KX := hY w _ Y
  obtain ⟨fd, hb, hF⟩ := F w mg fa _ KX G.T.g hmg
  exact law_go KX G.T.g G.T.b G.T.builtins G.T.nolimit hg hobj hints (Nat.le_trans hlen hn2) hr hF hb (fun H hO hS => hsp _ H a ns hlen hO hS)

/-! ### repr of data -/
def keyD : L2.Key → PyData
  | .inl i => .int i
  | .inr z => .str z
def flatV0 : V → Option PyData
  | .non => some .none
  | .bl b => some (.bool b)
  | .int i => some (.int i)
  | .str x => some (.str x)
  | _ => none
/-- the data of a dict's entries, all of them flat -/
def entsD : List (L2.Key × V) → Option (List (PyData × PyData))
  | [] => some []
  | (k, v) :: r => match flatV0 v, entsD r with
    | some d, some ds => some ((keyD k, d) :: ds)
    | _, _ => none
/-- what repr reads: data without dicts; dicts of flat things; tuples of both where no list stands beside a dict -/
inductive Dt (K : PySem.W.Frag) (H : Hp) : V → PyData → Prop
  | base {v : V} {d : PyData} : Dp K H v d → Dt K H v d
  | dic {a : Addr} {kvs : List (L2.Key × V)} {ds : List (PyData × PyData)} : H a = some (.dK kvs) → entsD kvs = some ds → Dt K H (.ref a) (.dict ds)
section
variable {X : Cx} {pins : List (Addr × Obj)} {σ : L2.St} {H : Hp} {s : Shared}
mutual
theorem dp_noDict {K : PySem.W.Frag} {H : Hp} : ∀ (d : PyData) (v : V), Dp K H v d → d.hasDict = false
  | .none, _, _ => by simp only [PyData.hasDict]
  | .bool _, _, _ => by simp only [PyData.hasDict]
  | .int _, _, _ => by simp only [PyData.hasDict]
  | .str _, _, _ => by simp only [PyData.hasDict]
  | .list ds, _, h => by
    cases h with
    | lst _ ha =>
      simp only [PyData.hasDict]
      exact dpAll_noDict ds _ ha
  | .tuple ds, _, h => by
    cases h with
    | tup _ ha =>
      simp only [PyData.hasDict]
      exact dpAll_noDict ds _ ha
  | .dict _, _, h => by cases h
theorem dpAll_noDict {K : PySem.W.Frag} {H : Hp} : ∀ (ds : List PyData) (vs : List V), DpAll K H vs ds → PyData.hasDictAll ds = false
  | [], _, _ => by simp only [PyData.hasDictAll]
  | d :: ds, _, h => by
    cases h with
    | cons h1 h2 => simp only [PyData.hasDictAll, dp_noDict d _ h1, dpAll_noDict ds _ h2, Bool.or_self]
end
mutual
theorem dp_mono {K : PySem.W.Frag} {H H' : Hp} (hl : ∀ a xs, SqL K H a xs → SqL K H' a xs) (ht : ∀ a xs, SqT K H a xs → SqT K H' a xs) : ∀ (d : PyData) (v : V), Dp K H v d → Dp K H' v d
  | .none, _, h => by cases h; exact .non
  | .bool b, _, h => by cases h; exact .bl b
  | .int i, _, h => by cases h; exact .int i
  | .str x, _, h => by cases h; exact .str x
  | .list ds, _, h => by
    cases h with
    | lst hs ha => exact .lst (hl _ _ hs) (dpAll_mono hl ht ds _ ha)
  | .tuple ds, _, h => by
    cases h with
    | tup hs ha => exact .tup (ht _ _ hs) (dpAll_mono hl ht ds _ ha)
  | .dict _, _, h => by cases h
theorem dpAll_mono {K : PySem.W.Frag} {H H' : Hp} (hl : ∀ a xs, SqL K H a xs → SqL K H' a xs) (ht : ∀ a xs, SqT K H a xs → SqT K H' a xs) : ∀ (ds : List PyData) (vs : List V), DpAll K H vs ds → DpAll K H' vs ds
  | [], _, h => by cases h; exact .nil
  | d :: ds, _, h => by
    cases h with
    | cons h1 h2 => exact .cons (dp_mono hl ht d _ h1) (dpAll_mono hl ht ds _ h2)
end
theorem same_t {K : PySem.W.Frag} {H H' : Hp} {a : Addr} {xs : List V} (e : Same H H') (h : SqT K H a xs) : SqT K H' a xs := by
  rcases h with (h | ⟨o, h⟩) | h
  · exact .inl (.inl (e _ _ h))
  · exact .inl (.inr ⟨o, e _ _ h⟩)
  · exact .inr h
theorem Dt.same {K : PySem.W.Frag} {H H' : Hp} {v : V} {d : PyData} (h : Dt K H v d) (e : Same H H') : Dt K H' v d := by
  cases h with
  | base h => exact .base (dp_mono (fun _ _ q => e.seq q) (fun _ _ q => same_t e q) _ _ h)
  | dic h1 h2 => exact .dic (e _ _ h1) h2
theorem flat_reads {h : Heap} {v : V} {u : Value} {d : PyData} (e : flatV0 v = some d) (r : RelV v u) : Reads h u d [] := by
  cases v with
  | non => cases e; cases r; exact .none
  | bl b => cases e; cases r; exact .bool b
  | int i => cases e; obtain ⟨t, rfl⟩ := r; exact .int i t
  | str x => cases e; obtain ⟨t, rfl⟩ := r; exact .str x t
  | byt _ => cases e
  | flt _ => cases e
  | ref _ => cases e
  | ty _ => cases e
theorem key_reads {h : Heap} {k : L2.Key} {u : Value} (e : keyIs k u = true) : Reads h u (keyD k) [] := by
  rcases keyIs_shape e with ⟨i, t, rfl, rfl⟩ | ⟨x, t, rfl, rfl⟩
  · exact .int i t
  · exact .str x t
theorem ents_read {P : Program} {w : World} {h : Heap} : ∀ {kvs : List (L2.Key × V)} {us : List (L2.Key × Value)} {es : List DictEntry} {ds : List (PyData × PyData)}, Pairs (mixKind P w) es us → KV kvs us → entsD kvs = some ds →
    ReadsAll h (es.map (·.key)) (ds.map (·.1)) [] ∧ ReadsAll h (es.map (·.val)) (ds.map (·.2)) []
  | [], _, _, _, hp, hk, e => by
    cases hk
    cases hp
    cases e
    exact ⟨.nil, .nil⟩
  | (k, v) :: r, _, _, _, hp, hk, e => by
    cases hk with
    | cons h1 h2 =>
      cases hp with
      | cons p1 p2 p3 =>
        unfold entsD at e
        cases e1 : flatV0 v with
        | none =>
          rw [e1] at e
          cases e
        | some d =>
          cases e2 : entsD r with
          | none =>
            rw [e1, e2] at e
            cases e
          | some ds =>
            rw [e1, e2] at e
            cases e
            obtain ⟨q1, q2⟩ := ents_read p3 h2 e2
            obtain ⟨ek, rv⟩ := h1
            have e1' : flatV0 (k, v).2 = some d := e1
            refine ⟨?_, ?_⟩
            · have z : Reads h _ (keyD k) [] := key_reads (k := k) (by
                have y := p1
                rw [mixKind_is] at y
                rw [← ek] at y
                exact y)
              exact ReadsAll.cons z q1
            · have z : Reads h _ d [] := flat_reads (u := _) e1' (p2.symm ▸ rv)
              exact ReadsAll.cons z q2
theorem Dt.reads {v : V} {u : Value} {d : PyData} (I : Inv X pins σ H s) (h : Dt X.K H v d) (r : RelV v u) : ∃ as, Reads s.heap u d as ∧ (d.hasDict = true → sysModules ∉ as) := by
  cases h with
  | base h =>
    obtain ⟨as, q⟩ := Dp.reads I d v u h r
    exact ⟨as, q, PyData.noDict_hsm (dp_noDict d v h)⟩
  | @dic a kvs ds h1 h2 =>
    obtain rfl : u = Value.ref a := r
    obtain ⟨hz, hs, us, rk, o, es, ep, ho, hx, hd, _, hp, _⟩ : kvs.length ≤ sizeLine ∧ (a == sysModules) = false ∧ ∃ vs, KV kvs vs ∧ s.heap.DictOf (mixKind X.prog X.w) a vs := I.hok a _ h1
    obtain ⟨q1, q2⟩ := ents_read (h := s.heap) hp rk h2
    refine ⟨_, Reads.dict ho hx.1 hd q1 q2, fun _ z => ?_⟩
    have z' : sysModules ∈ [a] := z
    have e := List.mem_singleton.mp z'
    rw [e, beq_self_eq_true] at hs
    cases hs
/-- repr(x) -/
def rRepr (K : PySem.W.Frag) : List V → Hp → VK → Prop := fun xs H Q => ∃ x d, xs = [x] ∧ Dt K H x d ∧ d.showable = true ∧ d.depth ≤ 60 ∧ d.shown.length ≤ sizeLine ∧ Q (.str d.shown) H
theorem call_repr {k : Nat} (hr : Rm k X.A) : CallR X (.builtin "repr") (rRepr X.K) := by
  intro pins s σ H xs us Q I r h
  obtain ⟨x, d, rfl, hx, hs, hd, hz, q⟩ := h
  obtain ⟨u, rfl, ru⟩ := vals1 r
  obtain ⟨as, hreads, hsm⟩ := hx.reads I ru
  have hu := hr.room.un
  cases x with
  | non =>
    cases ru
    cases hreads
    exact PySem.P.repr_of_none ⟨.str _, H, I.tok _, ⟨_, rfl⟩, q⟩
  | bl b =>
    cases ru
    cases hreads
    refine PySem.P.repr_of_bool ⟨.str _, H, I.tok _, ⟨_, rfl⟩, ?_⟩
    simp only [PyData.shown] at q
    exact q
  | int i =>
    obtain ⟨t, rfl⟩ := ru
    cases hreads
    simp only [PyData.shown] at q
    exact PySem.P.repr_of_int (by simpa [PyData.showable] using hs) ⟨.str _, H, I.tok _, ⟨_, rfl⟩, q⟩
  | str y =>
    obtain ⟨t, rfl⟩ := ru
    cases hreads
    simp only [PyData.shown] at q hz
    exact PySem.P.repr_of_str ⟨.str _, H, I.tok _, ⟨_, rfl⟩, q⟩ hz
  | byt y =>
    obtain ⟨t, rfl⟩ := ru
    cases hreads
  | flt y =>
    obtain ⟨t, rfl⟩ := ru
    cases hreads
  | ty y =>
    cases ru
    cases hreads
  | ref a =>
    cases ru
    exact repr_of_reads' hreads hs hsm hr.plain (by omega) (fun _ _ e => e) (fun h' u tk hk => ⟨.str _, H, I.kept hk, ⟨u, rfl⟩, q⟩) hz
end
end GG

set_option Elab.async false
set_option linter.all false
set_option maxRecDepth 100000
set_option maxHeartbeats 4000000
/-! KX: exceptions of the program's own as values: made, read, asked for their class; over ValueError and over KeyError. -/
namespace KX
open PySem PySem.Spec L2 GG
open PySem.HandSPX (excO)

abbrev keTail : List Value := [.type "KeyError", .type "LookupError", .type "Exception", .type "BaseException", .type "object"]
abbrev veTail : List Value := [.type "ValueError", .type "Exception", .type "BaseException", .type "object"]

/-- what making and initialising lean on: the __new__ of nB, the __init__ of iB -/
structure Ways (nB newId iB initId : String) (tail : List Value) : Prop where
  nKind : builtinKind newId = some .builtinFn
  nSplit : splitId newId = some (nB, "__new__")
  nRow : Manifest.signature? newId = some ⟨.any, nB, nB, .cls, [⟨"args", .varPos, false⟩, ⟨"kwargs", .varKw, false⟩]⟩
  nStar : (nB != "*") = true
  ends : newId.endsWith ".__new__" = true
  owner : newId.dropRight 8 = nB
  entry : entryFor table newId = some Builtin.«BaseException.__new__»
  quiet : newId.startsWith "lifetime." = false
  canon : Manifest.canonical newId = Manifest.canonical "BaseException.__new__"
  iSlot : Slot iB "__init__" initId
  iEntry : entryFor table initId = some Builtin.«BaseException.__init__»
  iSplit : splitId initId = some (iB, "__init__")
  iKind : builtinKind initId = some .slot
  iRow : Manifest.signature? initId = some ⟨.positional, "*", iB, .self, [⟨"args", .varPos, false⟩]⟩
  iStar : (iB != "*") = true
  hasN : tail.contains (.type nB) = true
  hasI : tail.contains (.type iB) = true
  noA : tail.contains (.type "AttributeError") = false
  noN : tail.contains (.type "NameError") = false
  hasO : tail.contains (.type "object") = true
  passes : ∀ self, PySem.refuseLoop self "__setattr__" tail = pure ()
theorem ways_VE : Ways "ValueError" "ValueError.__new__" "ValueError" "ValueError.__init__" veTail :=
  let F := PySem.F.excBase_ValueError
  ⟨F.newKind, F.newSplit, F.newRow, F.noStar, F.ends, F.owner, F.entry, F.quiet, F.canon, F.init, F.initEntry, F.initSplit, F.initKind, F.initRow, F.noStar, F.hasB, F.hasB, F.noAttr, F.noName, by decide +kernel, PySem.F.store_ValueError.passes⟩
theorem ways_KE : Ways "LookupError" "LookupError.__new__" "KeyError" "KeyError.__init__" keTail :=
  let F := PySem.F.excBase_LookupError
  ⟨F.newKind, F.newSplit, F.newRow, F.noStar, F.ends, F.owner, F.entry, F.quiet, F.canon,
    .of (owner := "KeyError") (n := "__init__") (by rw [typeLookup_type, builtinLookup_eq_fast]; kernel_rfl) (by decide +kernel) (by decide +kernel) (by decide +kernel) (by first | exact .inl (by decide +kernel) | exact .inr (by decide +kernel)) (by rw [isSubtype_type]; kernel_rfl),
    entryFor_alias (id' := "BaseException.__init__") (by rw [fastTable_eq_tree]; kernel_rfl) (by first | rfl | decide +kernel) (by decide +kernel) (by rw [fastTable_eq_tree]; kernel_rfl),
    by kernel_rfl, by kernel_rfl, by kernel_rfl, by decide +kernel, by decide +kernel, by decide +kernel, by decide +kernel, by decide +kernel, by decide +kernel, fun self => by kernel_rfl⟩

/-- own classes, then the tail -/
inductive Own (tail : List Value) : List Value → Prop
  | base : Own tail tail
  | more {c : Addr} {r : List Value} : Own tail r → Own tail (.ref c :: r)
theorem Own.has {tail l : List Value} (h : Own tail l) (X : String) : l.contains (.type X) = tail.contains (.type X) := by
  induction h with
  | base => rfl
  | more _ ih => rw [List.contains_cons, ih]; rfl
theorem Own.pass {tail l : List Value} (h : Own tail l) (self : Value) (p : PySem.refuseLoop self "__setattr__" tail = pure ()) : PySem.refuseLoop self "__setattr__" l = pure () := by
  induction h with
  | base => exact p
  | more _ ih => rw [PySem.refuseLoop_ref]; exact ih

/-! ### C(..): type.__call__, the new exception, the own __init__ -/
section
variable {M : Model} {A : Around} {E : Value → Shared → Prop} {h : Heap} {g : Array GenState} {d : Drawn} {t : Nat} {os : OsState}
variable {nm q : Str} {C N : Addr} {bs bm tail : List Value} {hdct : Bool} {sn : List Str} {sub : List Value} {ab : Bool} {col : Option Bool} {dd : Option Addr} {k0 k1 k2 k3 k5 : Option Value} {nB newId iB initId : String}
theorem chk_new (W : Ways nB newId iB initId tail) (O : Own tail bm) {rest : List Value} {kw : List (Str × Value)} {Q : Unit → Shared → Prop} (hC : h.get? C = some (excClassObj nm q C N bs bm hdct sn sub ab col dd k0 k1 k2 k3 k5 newId)) (hq : Q () ⟨h, g, d, t, os⟩) :
    wpAny M A (checkBuiltinCall newId ⟨.ref C :: rest, kw⟩) Q E ⟨h, g, d, t, os⟩ := by
  have hin : (Value.ref C :: bm).contains (.type nB) = true := by rw [List.contains_cons, O.has, W.hasN, Bool.or_true]
  have hs := W.nStar
  simp only [checkBuiltinCall, W.nKind, W.nSplit, W.nRow]
  repeat (first | refine wpAny_loadPart_at hC ?_ | (refine wpAny_isSubtype_exc hC ?_; rw [hin]) | refine wpAny_staticBase_exc hC ?_ | refine wpAny_madeBy_exc hC ?_ | simp only [bne_self_eq_false, Bool.false_eq_true, if_false] | wp_step)
  exact hq
theorem chk_init (W : Ways nB newId iB initId tail) (O : Own tail bm) {e : Addr} {oe : Obj} {rest : List Value} {Q : Unit → Shared → Prop} (hC : h.get? C = some (excClassObj nm q C N bs bm hdct sn sub ab col dd k0 k1 k2 k3 k5 newId))
    (he : h.get? e = some oe) (hcls : oe.cls = .ref C) (hq : Q () ⟨h, g, d, t, os⟩) : wpAny M A (checkBuiltinCall initId ⟨.ref e :: rest, []⟩) Q E ⟨h, g, d, t, os⟩ := by
  have hin : (Value.ref C :: bm).contains (.type iB) = true := by rw [List.contains_cons, O.has, W.hasI, Bool.or_true]
  have hs := W.iStar
  simp only [checkBuiltinCall, W.iKind, W.iSplit, W.iRow]
  repeat (first | (with_reducible refine wpAny_loadPart_at he ?_; rw [hcls]) | with_reducible refine wpAny_loadPart_at hC ?_ | (with_reducible refine wpAny_isSubtype_exc hC ?_; rw [hin]) | wp_step)
  refine wpAny_onRaise ?_
  have hchk : ∀ (a b : String) (n : Nat), Bind.check ⟨.positional, "*", iB, .self, [⟨"args", .varPos, false⟩]⟩ a b n (List.map (fun x => x.fst) ({ pos := Value.ref e :: rest } : Args).kw) = pure () := fun a b n => check_star_args _ _ _ _ _ _
  rw [hchk]
  exact wpAny_pure hq
end
section
variable {prog : Program} {w : World} {A : Around} {E : Value → Shared → Prop} {R : Result → Shared → Prop} {h : Heap} {g : Array GenState} {d : Drawn} {t : Nat} {os : OsState}
variable {nm q : Str} {C N : Addr} {bs bm tail : List Value} {hdct : Bool} {sn : List Str} {sub : List Value} {ab : Bool} {col : Option Bool} {dd : Option Addr} {k0 k1 k2 k3 k5 : Option Value} {nB newId iB initId : String}
/-- the two objects of a new exception: its arguments, itself -/
abbrev laid (h : Heap) (C : Addr) (rest : List Value) : Heap := (h.push (PySem.W.kdv_tup rest)).push (excO C h.objs.size)
theorem run_new (W : Ways nB newId iB initId tail) (O : Own tail bm) {rest : List Value} {kw : List (Str × Value)} (hC : h.get? C = some (excClassObj nm q C N bs bm hdct sn sub ab col dd k0 k1 k2 k3 k5 newId))
    (hq : R (.ok (.ret (.ref (h.objs.size + 1)))) ⟨laid h C rest, g, d, t, os⟩) (hrest : rest.length ≤ sizeLine) : codeAny (model prog w) A (.builtin newId ⟨.ref C :: rest, kw⟩) R ⟨h, g, d, t, os⟩ := by
  have hends := W.ends
  have hB : (Value.ref C :: bm).contains (.type nB) = true := by rw [List.contains_cons, O.has, W.hasN, Bool.or_true]
  have hA : (Value.ref C :: bm).contains (.type "AttributeError") = false := by rw [List.contains_cons, O.has, W.noA]; rfl
  have hN : (Value.ref C :: bm).contains (.type "NameError") = false := by rw [List.contains_cons, O.has, W.noN]; rfl
  refine codeAny_builtinAt W.entry ?_
  unfold Builtin.«BaseException.__new__»
  refine wpAt_bind ?_
  show wpAt _ _ _ (stack >>= _) _ _ _
  refine wpAt_bind (wpAt_stack fun p below => wpAt_of_wpAny ?_)
  wp_walk
  refine wpAt_of_wpAny ?_
  rw [W.owner]
  repeat (first | with_reducible refine wpAny_madeHere_exc W.canon hC ?_ | with_reducible refine wpAny_loadPart_at hC ?_ | (with_reducible refine wpAny_isSubtype_exc hC ?_; first | rw [hB] | rw [hA] | rw [hN]) | wp_step)
  show R _ _
  rw [Heap.size_push]
  exact hq
/-- the class called: init is what the class gives for __init__ (a def of its own, or a built-in one) -/
theorem run_type (W : Ways nB newId iB initId tail) (O : Own tail bm) {rest : List Value} {kw : List (Str × Value)} {fI : Value} {Q : Fin → Shared → Prop} (hC : h.get? C = some (excClassObj nm q C N bs bm hdct sn sub ab col dd k0 k1 k2 k3 k5 newId))
    (hi : PySem.W.Looks (model prog w) h (typeLookup (.ref C) "__init__") (some fI)) (hb : ∀ self, PySem.W.Looks (model prog w) h (bindSpecial fI self) (fI, [self])) (hrest : rest.length ≤ sizeLine)
    (hq : codeAny (model prog w) A (.call fI ⟨.ref (h.objs.size + 1) :: rest, kw⟩)
      (fun r s' => match r with | .ok (.ret v) => v = .none ∧ Q (.done (.ret (.ref (h.objs.size + 1)))) s' | .ok _ => False | .error e => E e s') ⟨laid h C rest, g, d, t, os⟩) :
    wpAny (model prog w) A (Builtin.«type.__call__» ⟨.ref C :: rest, kw⟩) Q E ⟨h, g, d, t, os⟩ := by
  repeat (first | with_reducible refine wpAny_loadPart_at hC ?_ | with_reducible refine wpAny_madeBy_exc hC ?_ | wp_step)
  refine codeAny_call_builtin_code (Code.quiet_builtin _ W.quiet) (chk_new W O hC ?_)
  refine run_new W O hC ?_ hrest
  show wpAny _ _ _ _ _ _
  have kp : ∀ b o, h.get? b = some o → (laid h C rest).get? b = some o := fun b o e => Heap.get?_push_of_some _ (Heap.get?_push_of_some _ e)
  have hC₁ := kp _ _ hC
  have hget : (laid h C rest).get? (h.objs.size + 1) = some (excO C h.objs.size) := by heap_get
  have hcC : (Value.ref C :: bm).contains (.ref C) = true := by simp
  have i1 := hi.keeps kp
  have b1 := (hb (.ref (h.objs.size + 1))).keeps kp
  unfold isInstance
  repeat (first | with_reducible refine wpAny_loadPart_at hget ?_ | (with_reducible refine wpAny_isSubtype_exc hC₁ ?_; rw [hcC]) | wp_step)
  show wpAny _ _ (typeLookup (.ref C) _) _ _ _
  refine i1.at ?_
  refine wpAny_holding (wpAny_bind (b1.at ?_))
  refine wpAny_bind (wpAny_call (codeAny_mono hq fun r s' z => ?_))
  rcases r with e | (v | _ | _ | _) <;> first | exact z | exact z.elim | skip
  obtain ⟨rfl, z⟩ := z
  first
    | exact wpAny_pure (wpAny_pure z)
    | (wp_walk; exact z)
theorem run_call (W : Ways nB newId iB initId tail) (O : Own tail bm) {rest : List Value} {kw : List (Str × Value)} {fI : Value} (hC : h.get? C = some (excClassObj nm q C N bs bm hdct sn sub ab col dd k0 k1 k2 k3 k5 newId))
    (hi : PySem.W.Looks (model prog w) h (typeLookup (.ref C) "__init__") (some fI)) (hb : ∀ self, PySem.W.Looks (model prog w) h (bindSpecial fI self) (fI, [self])) (hrest : rest.length ≤ sizeLine)
    (hq : codeAny (model prog w) (A.under (.builtin "type.__call__" ⟨.ref C :: rest, kw⟩)) (.call fI ⟨.ref (h.objs.size + 1) :: rest, kw⟩) (PySem.W.InitBack (h.objs.size + 1) R) ⟨laid h C rest, g, d, t, os⟩) :
    codeAny (model prog w) A (.call (.ref C) ⟨rest, kw⟩) R ⟨h, g, d, t, os⟩ := by
  have f1 := tc_lookup
  have f2 := tc_bind (.ref C)
  have hTy : (⟨h, g, d, t, os⟩ : Shared).TypeIs (.ref C) "type" := ⟨_, hC, rfl⟩
  refine codeAny_of_tree ?_
  show wpAny _ _ (callAny (.ref C) _) _ _ _
  repeat (any_goals (first | assumption | with_reducible refine wpAny_loadPart_at hC ?_ | wp_step))
  refine ⟨rfl, ?_⟩
  refine codeAny_call_builtin_at (Code.quiet_builtin _ (by decide +kernel)) entry_typeCall (wpAny_check_type_call_sub hC (run_type W O hC hi hb hrest ?_))
  refine codeAny_mono hq fun r s' z => ?_
  rcases r with e | (v | _ | _ | _) <;> exact z
/-- the base's __init__ on a new exception: its arguments are laid anew -/
theorem run_init (W : Ways nB newId iB initId tail) (O : Own tail bm) {e t0 : Addr} {rest : List Value} (hC : h.get? C = some (excClassObj nm q C N bs bm hdct sn sub ab col dd k0 k1 k2 k3 k5 newId)) (he : h.get? e = some (excO C t0)) (hrest : rest.length ≤ sizeLine)
    (hq : ∀ h' t1, (∀ b o, b ≠ e → h.get? b = some o → h'.get? b = some o) → h'.get? e = some (excO C t1) → R (.ok (.ret .none)) ⟨h', g, d, t, os⟩) :
    codeAny (model prog w) A (.call (.builtin initId) ⟨.ref e :: rest, []⟩) R ⟨h, g, d, t, os⟩ := by
  refine codeAny_call_builtin W.iSlot.plain W.iEntry (chk_init W O hC he rfl ?_)
  wp_walk
  refine hq _ h.objs.size (fun b o hb ho => ?_) ?_
  · rw [Heap.get?_update_other _ _ (Ne.symm hb)]
    exact Heap.get?_push_of_some _ ho
  · rw [Heap.get?_update_self _ (Heap.get?_push_of_some _ he) rfl]
    rfl
end
end KX

set_option Elab.async false
set_option linter.all false
set_option maxRecDepth 100000
set_option maxHeartbeats 4000000
/-! KY: the rules over KX: C(), C(e), C(f = e) as values, C.__init__(self, e), self.f = e, e.f, isinstance(e, D). -/
namespace KX
open PySem PySem.Spec L2 GG Builtin Builtin.ObjectAttr
open PySem.HandSPX (excO)
/-- what the written part says of an own exception class -/
structure Xc (K : PySem.W.Frag) (newId : String) (tail : List Value) (C : Addr) : Prop where
  cls : ∃ nm q N bs bm sn sub ab col dd k0 k1 k2 k3 k5, K.lookup C = some (excClassObj nm q C N bs bm true sn sub ab col dd k0 k1 k2 k3 k5 newId) ∧ Own tail bm
  kC : PySem.W.keepIn K (.ref C) = true
  sa : PySem.W.findIn K (.ref C) "__setattr__" = some (some (.builtin "object.__setattr__"))
  ga : PySem.W.findIn K (.ref C) "__getattribute__" = some (some (.builtin "BaseException.__getattribute__"))
  gg : PySem.W.findIn K (.ref C) "__getattr__" = some none
  exC : PySem.W.subIn K (.ref C) (.type "BaseException") = some true
  dC : PySem.W.hasDictIn K C = true
  cC : PySem.W.findIn K (.ref C) "__class__" = some (some (.builtin "object.__class__"))
  mC : PySem.W.mroIn K C (.type "object") = some true
section
variable {prog : Program} {w : World} {A : Around} {E : Value → Shared → Prop} {R : Result → Shared → Prop} {hp : Heap} {g : Array GenState} {d : Drawn} {t : Nat} {os : OsState} {nB newId iB initId : String} {tail : List Value}
/-- object.__setattr__ on an own exception without a dict -/
theorem osa0 (W : Ways nB newId iB initId tail) {K : PySem.W.Frag} {name : Str} {tk : Tok} {v : Value} {x C : Addr} {fv : Array Value} {cd : ClassData} {bm : List Value}
    (X : K.In hp) (hx : hp.get? x = some { cls := .ref C, data := .fields fv }) (hcd : PySem.W.clsIn K C = some cd) (hm : cd.mro = .ref C :: bm) (O : Own tail bm) (hh : cd.hasDict = true) (ha : PySem.W.findIn K (.ref C) name = some none)
    (hq : ∀ h' tk' dx, (∀ b o, b ≠ x → hp.get? b = some o → h'.get? b = some o) → hp.objs.size ≤ dx → dx ≠ x → h'.get? x = some { cls := .ref C, dict := some dx, data := .fields fv } →
      h'.Ns1 dx (fun y => if y = name then some v else none) → R (.ok (.ret .none)) ⟨h', g, d, tk', os⟩) :
    codeAny (model prog w) A (.call (.builtin "object.__setattr__") ⟨[.ref x, .str name tk, v], []⟩) R ⟨hp, g, d, t, os⟩ := by
  have I : PySem.W.InstAt hp x { cls := .ref C, data := .fields fv } C none := ⟨hx, rfl, rfl, trivial⟩
  have SF := F.store_object
  have O' : Own tail cd.mro := by rw [hm]; exact .more O
  have hob : cd.mro.contains (.type "object") = true := (O'.has "object").trans W.hasO
  have hxs : x ≠ hp.objs.size := Nat.ne_of_lt (Heap.lt_size hx)
  have sub : PySem.W.Looks (model prog w) hp (isInstance (.ref x) (.type "object")) true := I.type.andThen (PySem.W.looks_mroIn X (by unfold PySem.W.mroIn; rw [hcd, Option.bind_some, if_neg (by rw [hm]; exact fun z => Bool.noConfusion z), hob]))
  refine codeAny_call_builtin SF.slot.plain SF.entry (@PySem.W.check_slot (model prog w) _ _ ⟨hp, g, d, t, os⟩ "object.__setattr__" "object" "__setattr__" (.ref x) [.str name tk, v] [] _ SF.kind SF.split sub (SF.args (.ref x) (.str name tk) v) ?_)
  have hmr : PySem.W.Looks (model prog w) hp (mroOf (.ref C)) cd.mro := (PySem.W.looks_clsIn X hcd).andThen .now
  have L3 : PySem.W.Looks (model prog w) hp (storeTaker? none) none := .now
  have hcls : PySem.W.Looks (model prog w) hp (classData C) cd := PySem.W.looks_clsIn X hcd
  rw [PySem.W.osa_eq, refuse_eq]
  refine wpAny_bind (wpAny_bind (I.type.at (wpAny_bind (hmr.at ?_))))
  rw [O'.pass _ (W.passes _)]
  refine wpAny_pure (wpAny_bind (I.type.at (wpAny_bind ((PySem.W.looks_findIn X ha).at (wpAny_bind (L3.at ?_))))))
  show wpAny _ _ (storeInOwnDict (.ref x) (.ref C) (.str name tk) name v false) _ _ _
  obtain ⟨nm, bs, mro, ns, qn, hd, sn, sb, ab, col, del⟩ := cd
  dsimp only at hh
  subst hh
  unfold storeInOwnDict ownDictForStores
  repeat (first | with_reducible refine PySem.HandSPX.store_in_new ?_ ?_ | with_reducible refine wpAny_loadPart_at hx ?_ | with_reducible refine hcls.at ?_ | wp_step)
  · exact ⟨_, #[], _, (Heap.get?_update_ne _ _ _ _ hxs.symm).trans (Heap.get?_push_at rfl rfl), rfl, fun e he => absurd he (by simp), fun _ => rfl⟩
  · intro h' tk' hn' hs
    have hx₁ : (hp.push { cls := .type "dict", data := .dict #[] }).get? x = some { cls := .ref C, data := .fields fv } := Heap.get?_push_of_some _ hx
    refine hq h' tk' hp.objs.size (fun b o hb ho => ?_) (Nat.le_refl _) hxs.symm ?_ hn'
    · exact (hs.2 b (Nat.ne_of_lt (Heap.lt_size ho))).trans ((Heap.get?_update_ne _ _ _ _ hb).trans (Heap.get?_push_of_some _ ho))
    · exact (hs.2 x hxs).trans (Heap.get?_update_self _ hx₁ rfl)
end
end KX
namespace KX
open PySem PySem.Spec PyProof.Rows L2 GG
open PySem.HandSPX (excO)
section
variable {X : Cx} {pins : List (Addr × Obj)} {σ : L2.St} {H : Hp} {s : Shared} {a C dx : Addr} {f : Str} {y : V} {u : Value} {fs : List (Str × V)} {nB newId iB initId : String} {tail : List Value}
/-- an exception gets its dict -/
theorem inv_dict {t1 : Addr} {h' : Heap} {tk' : Nat} (I : Inv X pins σ H s) (e : H a = some (exo a C none)) (k : ∀ b o, b ≠ a → s.heap.get? b = some o → h'.get? b = some o) (dn : s.heap.objs.size ≤ dx) (dne : dx ≠ a)
    (hx : h'.get? a = some { cls := .ref C, dict := some dx, data := .fields #[.ref t1, .none, .none, .none, .bool false, .none] }) {mA : Str → Option Value} (hn : h'.Ns1 dx mA) (r : ∀ g, RelO (fs.lookup g) (mA g)) :
    H dx = none ∧ Inv X pins σ (upd (upd H dx (exd dx fs)) a (exo a C (some dx))) { s with heap := h', toks := tk' } := by
  have hnd : H dx = none := I.hok.fresh dn
  have lt : ∀ {b : Addr} {o : Obj}, s.heap.get? b = some o → b ≠ dx := fun {b o} q => Nat.ne_of_lt (Nat.lt_of_lt_of_le (Heap.lt_size q) dn)
  have na : ∀ {b : Addr}, H b = none → b ≠ a := fun {b} n z => by
    rw [z, e] at n
    cases n
  have far : ∀ {b : Addr} {o : HO}, H b = some o → exo a C none ≠ o → upd (upd H dx (exd dx fs)) a (exo a C (some dx)) b = some o := fun {b o} q ne => by
    rw [upd_ne (at_ne e q ne), upd_ne (ne_of_none q hnd)]
    exact q
  refine ⟨hnd, I.un (t' := tk') {
    keep := fun b o q n _ _ => k b o (na n) q
    slot := fun b o q n _ _ => ⟨o.slots, k b o (na n) q⟩
    free := fun b o q n _ => by rw [upd_ne (na n), upd_ne (lt q)]; exact n
    there := fun b o q _ => by
      by_cases hb : b = a
      · rw [hb]
        exact ⟨_, hx⟩
      · exact ⟨o, k b o hb q⟩
    tups := fun b xs q => far q exo_tup
    frzs := fun b o v q => far q exo_frz
    tbls := fun b ps q => ⟨#[], by rw [far q exo_tbl]; simp⟩ } fun b o q => ?_⟩
  by_cases hb : b = a
  · subst hb
    rw [upd_same] at q
    cases q
    exact exo_ok hx
  · rw [upd_ne hb] at q
    by_cases hd : b = dx
    · subst hd
      rw [upd_same] at q
      cases q
      exact exd_ok hn r
    · rw [upd_ne hd] at q
      refine (I.hok b o q).stay (fun c v hc z => k c v ?_ z) (fun c hc => far hc exo_own) (fun c xs hc => far hc exo_tup)
      rcases hc with hc | hc
      · rw [hc]
        exact hb
      · exact at_ne e hc exo_own
/-- self.f = y on an exception without a dict -/
theorem put_new {A : Around} {Q : Unit → Shared → Prop} {E : Value → Shared → Prop} (W : Ways nB newId iB initId tail) (T : Xc X.K newId tail C) (I : Inv X pins σ H s) (e : H a = some (exo a C none)) (hno : PySem.W.findIn X.K (.ref C) f = some none) (ry : RelV y u)
    (h : ∀ dx s', H dx = none → dx ≠ a → Inv X pins σ (upd (upd H dx (exd dx [(f, y)])) a (exo a C (some dx))) s' → Q () s') : wpAny (model X.prog X.w) A (setAttr (.ref a) f u) Q E s := by
  obtain ⟨nm, q, N, bs, bm, sn, sub, ab, col, dd, k0, k1, k2, k3, k5, hC, hO⟩ := T.cls
  have hcl : PySem.W.clsIn X.K C = some { name := nm, bases := bs, mro := .ref C :: bm, ns := N, qualname := q, hasDict := true, slotNames := sn, subclasses := sub, abstract := ab, collection := col, hasDel := false } := by unfold PySem.W.clsIn; rw [hC] <;> rfl
  obtain ⟨t1, ho⟩ := exo_at I.hok e
  obtain ⟨hp, g, d, t, os⟩ := s
  refine PySem.W.set_plain I.kIn (ox := { cls := .ref C, dict := none, data := .fields #[.ref t1, .none, .none, .none, .bool false, .none] }) (od := none) ⟨ho, rfl, rfl, trivial⟩ T.sa ?_
  refine osa0 W I.kIn ho hcl rfl hO rfl hno (fun h' tk' dx k dn dne hx hn => ?_)
  obtain ⟨z, J⟩ := inv_dict (tk' := tk') (fs := [(f, y)]) I e k dn dne hx hn (relO_put (fs := []) ry fun g => True.intro)
  exact h dx _ z dne J
/-- the base's __init__ on a new exception -/
theorem init_go {us : List Value} {A : Around} {Q : Value → Shared → Prop} {E : Value → Shared → Prop} (W : Ways nB newId iB initId tail) (T : Xc X.K newId tail C) (I : Inv X pins σ H s) (e : H a = some (exo a C none)) (hl : us.length ≤ sizeLine) (h : ∀ s', Inv X pins σ H s' → Q .none s') :
    wpAny (model X.prog X.w) A (call (.builtin initId) (.ref a :: us)) Q E s := by
  obtain ⟨nm, q, N, bs, bm, sn, sub, ab, col, dd, k0, k1, k2, k3, k5, hC, hO⟩ := T.cls
  obtain ⟨t1, ho⟩ := exo_at I.hok e
  obtain ⟨hp, g, d, t, os⟩ := s
  refine wpAny_call (run_init W hO (I.kIn _ _ hC) ho hl fun h' t2 k hx => ?_)
  have J := I.write (t' := t) (x := a) (e := a) (o := exo a C none) (by rw [e]; exact True.intro) (.inl rfl) k ⟨_, hx⟩ (exo_ok hx)
  have same : upd H a (exo a C none) = H := by
    funext b
    by_cases hb : b = a
    · rw [hb, upd_same, e]
    · rw [upd_ne hb]
  rw [same] at J
  exact h _ J
end

/-! ### rules -/
/-- B.__init__(self, ..), B an own exception class or a built-in one -/
def tBI (K : PySem.W.Frag) (newId : String) (tail : List Value) (ta : TA) : TE := fun σ H Q => ta σ H fun vs H1 => ∃ (a C : Addr) (ws : List V), vs = .ref a :: ws ∧ ws.length ≤ 1000 ∧ Xc K newId tail C ∧ H1 a = some (exo a C none) ∧ Q .non H1
/-- self.f = e, the first field of a new exception -/
def tPut (K : PySem.W.Frag) (newId : String) (tail : List Value) (f : Str) (to te : TE) : TS := fun D σ H => te σ H fun y H1 => to σ H1 fun x H2 => ∃ a C : Addr, x = .ref a ∧ Xc K newId tail C ∧ PySem.W.findIn K (.ref C) f = some none ∧
  H2 a = some (exo a C none) ∧ ∀ dx, H2 dx = none → dx ≠ a → D.nx σ (upd (upd H2 dx (exd dx [(f, y)])) a (exo a C (some dx)))
section
variable {X : Cx} {o e : Expr} {es : List Expr} {to te : TE} {ta : TA} {f x : Str} {p p' p1 p2 pos : Pos} {nB newId iB initId : String} {tail : List Value}
theorem bi_tail {pins : List (Addr × Obj)} {σ : L2.St} {H : Hp} {s : Shared} {Q : VK} (W : Ways nB newId iB initId tail) (ha : PA X (e :: es) ta) (I : Inv X pins σ H s) (h : tBI X.K newId tail ta σ H Q)
    (he : starEach (e :: es) X.env = (false, eval e X.env) :: starEach es X.env) (hpl : (backTo pos (starEach es X.env)).any (·.1) = false) :
    wpAny (model X.prog X.w) X.A (callWith pos (Value.builtin initId) [] (backTo pos (starEach (e :: es) X.env)) []) (EP X pins σ Q) X.xe s := by
  refine PyProof.Rows.callWith_method1 (thn (ha.run pos pins _ σ H _ I h) fun us s1 ⟨vs, H1, I1, r1, a, C, ws, ev, hl, T, ea, q⟩ => ?_) he hpl
  subst ev
  cases r1 with
  | @cons _ u0 _ ur ra rw' =>
    obtain rfl : u0 = Value.ref a := ra
    have hlen : ur.length ≤ sizeLine := by
      rw [← Paired.length rw', sizeLine_eq]
      omega
    exact init_go W T I1 ea hlen fun s' J => ⟨.non, H1, J, rfl, q⟩
/-- B a class of the text -/
theorem pe_bi {C0 : Addr} {pl : Sem Bool} (W : Ways nB newId iB initId tail) (hg : Gl X x) (hm : X.mg x = some (.ref C0)) (sp : PySem.W.specialIn X.K (.ref C0) "__getattribute__" = some (some (.builtin "type.__getattribute__")))
    (rd : PySem.W.readsIn X.K C0 (.type "type") = true) (fc : PySem.W.findCls X.K (.ref C0) (.type "type") "__init__" = some (.val (.builtin initId))) (hdd : PySem.W.handedIn (.builtin initId) = true) (ha : PA X (e :: es) ta) (hdb : (x == ("__debug__" : Str)) = false := by decide)
    (hc : eval (.Call (.Attribute (.Name x p1) "__init__" p2) (e :: es) [] pos) X.env = (do
      let ov ← eval (.Name x p1) X.env
      standAt p2.atName
      let (f, first) ← holding [ov] (getMethod ov "__init__" pl)
      callWith pos f first (backTo pos (starEach (e :: es) X.env)) (backToKw pos (keywordEach [] X.env))) := by rfl)
    (he : starEach (e :: es) X.env = (false, eval e X.env) :: starEach es X.env := by rfl) (hpl : (backTo pos (starEach es X.env)).any (·.1) = false := by rfl) :
    PE X (.Call (.Attribute (.Name x p1) "__init__" p2) (e :: es) [] pos) (tBI X.K newId tail ta) := by
  refine ⟨fun pins s σ H Q I h => ?_⟩
  refine PySem.W.methodCall_KW (ld_glob I hg hm ?_ hdb) hc
  refine PySem.W.method_cls I.kIn sp (PySem.W.cls_value I.kIn rd fc hdd ?_)
  exact bi_tail W ha (I.tok _) h he hpl
/-- B a built-in class -/
theorem pe_biT {T : String} {pl : Sem Bool} (W : Ways nB newId iB initId tail) (hg : Gl X x) (hm : X.mg x = none) (hv : bootBuiltins x = some (.type T)) (ty : typeOf (.type T) = pure (.type "type")) (st : Manifest.isStub T = false)
    (fc : PySem.W.findCls X.K (.type T) (.type "type") "__init__" = some (.val (.builtin initId))) (hdd : PySem.W.handedIn (.builtin initId) = true) (ha : PA X (e :: es) ta) (hn : x ≠ "__name__" := by decide) (hdb : (x == ("__debug__" : Str)) = false := by decide)
    (hc : eval (.Call (.Attribute (.Name x p1) "__init__" p2) (e :: es) [] pos) X.env = (do
      let ov ← eval (.Name x p1) X.env
      standAt p2.atName
      let (f, first) ← holding [ov] (getMethod ov "__init__" pl)
      callWith pos f first (backTo pos (starEach (e :: es) X.env)) (backToKw pos (keywordEach [] X.env))) := by rfl)
    (he : starEach (e :: es) X.env = (false, eval e X.env) :: starEach es X.env := by rfl) (hpl : (backTo pos (starEach es X.env)).any (·.1) = false := by rfl) :
    PE X (.Call (.Attribute (.Name x p1) "__init__" p2) (e :: es) [] pos) (tBI X.K newId tail ta) := by
  refine ⟨fun pins s σ H Q I h => ?_⟩
  refine PySem.W.methodCall_KW (ld_blt I hg hm hv ?_ hn hdb) hc
  obtain ⟨m, fr⟩ := I.fr
  refine PySem.W.method_type fr I.ok.mod.kin ty st fc hdd ?_
  exact bi_tail W ha (I.tok _) h he hpl
theorem ps_put (W : Ways nB newId iB initId tail) (ho : PE X o to) (he : PE X e te) (hs : swapsWith e (some (.Attribute o f p')) pos.line X.env = pure false := by rfl) : PS X (.Assign [.Attribute o f p'] e pos) (tPut X.K newId tail f to te) := by
  refine ⟨fun pins s σ H D I h => ?_⟩
  refine plainObj_wpAny_Assign_Attribute (thn (he.run pins s σ H _ I h) fun v s1 ⟨y, H1, I1, r1, q1⟩ => thn (ho.run pins s1 σ H1 _ I1 q1) fun u s2 ⟨x, H2, I2, r2, a, C, ex, T, hno, ea, q⟩ => ?_) hs
  subst ex
  obtain rfl : u = Value.ref a := r2
  exact put_new W T I2 ea hno r1 fun dx s' n ne J => ⟨σ, _, J, q dx n ne⟩
end
end KX

set_option Elab.async false
set_option linter.all false
set_option maxRecDepth 100000
set_option maxHeartbeats 4000000
/-! KZ: own exceptions as values: C(), C(e), C(f = e); e.f; isinstance(e, D). -/
namespace KX
open PySem PySem.Spec PyProof.Rows L2 GG
open PySem.HandSPX (excO)
theorem upd_shadow {H : Hp} {a d : Addr} {o u z : HO} (h : d ≠ a) : upd (upd (upd H a o) d z) a u = upd (upd H d z) a u := by
  funext b
  unfold upd
  by_cases e : b = a
  · rw [if_pos e, if_pos e]
  · rw [if_neg e, if_neg e, if_neg e]
/-- a new exception, without a dict -/
def tMk0 (C : Addr) : TE := fun _ H Q => ∀ a, H a = none → Q (.ref a) (upd H a (exo a C none))
/-- a new exception whose own __init__ keeps a field -/
def tMk1 (C : Addr) (f : Str) (ta : TA) : TE := fun σ H Q => ta σ H fun vs H1 => ∃ v, vs = [v] ∧ ∀ a d, H1 a = none → H1 d = none → d ≠ a → Q (.ref a) (upd (upd H1 d (exd d [(f, v)])) a (exo a C (some d)))
/-- the promise of such an __init__ -/
def spI (K : PySem.W.Frag) (newId : String) (tail : List Value) (f : Str) : Sp := fun vs H Q _ => ∃ (a C : Addr) (v : V), vs = [.ref a, v] ∧ Xc K newId tail C ∧ PySem.W.findIn K (.ref C) f = some none ∧ H a = some (exo a C none) ∧
  ∀ d, H d = none → d ≠ a → Q .non (upd (upd H d (exd d [(f, v)])) a (exo a C (some d)))
section
variable {X : Cx} {C fI : Addr} {k : Nat} {fd : FuncData} {f x n : Str} {p pos : Pos} {e : Expr} {es : List Expr} {kws : List Keyword} {ta te : TA} {tx : TE} {nB newId iB initId : String} {tail : List Value}
theorem pe_mk0 (W : Ways nB newId iB initId tail) (T : Xc X.K newId tail C) (iC : PySem.W.findIn X.K (.ref C) "__init__" = some (some (.builtin initId))) (hg : Gl X x) (hm : X.mg x = some (.ref C)) (hdb : (x == ("__debug__" : Str)) = false := by decide) :
    PE X (.Call (.Name x p) [] [] pos) (tMk0 C) := by
  refine ⟨fun pins s σ H Q I h => ?_⟩
  refine wpAny_Call_Name_kw (ld_glob I hg hm ?_ hdb)
  refine PySem.W.callWith_K0 I.kIn T.kC ?_
  obtain ⟨nm, q, N, bs, bm, sn, sub, ab, col, dd, k0, k1, k2, k3, k5, hC, hO⟩ := T.cls
  obtain ⟨hp, g, d, t, os⟩ := s
  have hC' := I.kIn _ _ hC
  have hsz : hp.objs.size ≤ hp.objs.size + 1 := Nat.le_succ _
  have kk : ∀ b o, hp.get? b = some o → (laid hp C []).get? b = some o := fun b o e => Heap.get?_push_of_some _ (Heap.get?_push_of_some _ e)
  have hget : (laid hp C []).get? (hp.objs.size + 1) = some (excO C hp.objs.size) := by heap_get
  refine wpAny_call (run_call (kw := []) W hO hC' (PySem.W.looks_findIn I.kIn iC) (fun self => PySem.W.Looks.of_pure (W.iSlot.bind self)) (Nat.zero_le _) ?_)
  refine run_init W hO (kk _ _ hC') hget (Nat.zero_le _) fun h' t1 k hx => ?_
  refine ⟨rfl, .ref (hp.objs.size + 1), _, I.laid (t' := t) (a := hp.objs.size + 1) (o := exo (hp.objs.size + 1) C none) (h' := h') (fun b o z => ?_) hsz (exo_ok hx), rfl, h _ (I.hok.fresh hsz)⟩
  exact k b o (Nat.ne_of_lt (Nat.lt_succ_of_lt (Heap.lt_size z))) (kk b o z)

/-- the class called with values and keywords, its __init__ a def of the text -/
theorem run_mk {pins : List (Addr × Obj)} {σ : L2.St} {H : Hp} {s : Shared} {Q : VK} {us : List Value} {kw : List (Str × Value)} {v : V} {u : Value} {ps : List Str} (W : Ways nB newId iB initId tail) (T : Xc X.K newId tail C)
    (iC : PySem.W.findIn X.K (.ref C) "__init__" = some (some (.ref fI))) (tI : PySem.W.typeIn X.K (.ref fI) = some (.type "function")) (nF : PySem.W.findIn X.K (.ref C) f = some none)
    (F : FnOk X.prog X.w X.K X.mg X.base CX0 k fI fd ps (spI X.K newId tail f)) (hr : Room (k + 1) X.A) (hu : us.length ≤ 10)
    (hb : ∀ (s : Shared) (a : Value), BindsTo s fd ⟨a :: us, kw⟩ (ps.zip [a, u])) (I : Inv X pins σ H s) (r : RelV v u) (h : ∀ a d, H a = none → H d = none → d ≠ a → Q (.ref a) (upd (upd H d (exd d [(f, v)])) a (exo a C (some d)))) :
    wpAny (model X.prog X.w) X.A (call (.ref C) us kw) (EP X pins σ Q) X.xe s := by
  obtain ⟨nm, q, N, bs, bm, sn, sub, ab, col, dd, k0, k1, k2, k3, k5, hC, hO⟩ := T.cls
  obtain ⟨hp, g, d, t, os⟩ := s
  have hC' := I.kIn _ _ hC
  have hsz : hp.objs.size ≤ hp.objs.size + 1 := Nat.le_succ _
  have hn : H (hp.objs.size + 1) = none := I.hok.fresh hsz
  have kk : ∀ b o, hp.get? b = some o → (laid hp C us).get? b = some o := fun b o e => Heap.get?_push_of_some _ (Heap.get?_push_of_some _ e)
  have hget : (laid hp C us).get? (hp.objs.size + 1) = some (excO C hp.objs.size) := by heap_get
  have I2 : Inv X pins σ (upd H (hp.objs.size + 1) (exo (hp.objs.size + 1) C none)) ⟨laid hp C us, g, d, t, os⟩ := I.laid (t' := t) (a := hp.objs.size + 1) (o := exo (hp.objs.size + 1) C none) (h' := laid hp C us) kk hsz (exo_ok hget)
  have r2 : Vals [V.ref (hp.objs.size + 1), v] [Value.ref (hp.objs.size + 1), u] := .cons rfl (.cons r .nil)
  have hsp : spI X.K newId tail f [V.ref (hp.objs.size + 1), v] (upd H (hp.objs.size + 1) (exo (hp.objs.size + 1) C none)) (fun z H2 => z = .non ∧ Q (.ref (hp.objs.size + 1)) H2) E0 := by
    refine ⟨_, C, v, rfl, T, nF, upd_same, fun d' hd hne => ⟨rfl, ?_⟩⟩
    rw [upd_shadow hne]
    rw [upd_ne hne] at hd
    exact h _ d' hn hd hne
  refine wpAny_call (run_call (kw := kw) W hO hC' (PySem.W.looks_findIn I.kIn iC) (fun self => PySem.W.bind_fn I.kIn self tI) (Nat.le_trans hu (by decide)) ?_)
  refine codeAny_mono (F.run _ X.stack _ _ ⟨Value.ref (hp.objs.size + 1) :: us, kw⟩ [Value.ref (hp.objs.size + 1), u] _ _ E0 (hr.make C us kw) (I2.env0.make C us kw) (hb _ _) r2 hsp) fun r s' hq => ?_
  cases r with
  | error er => exact False.elim hq
  | ok fl =>
    cases fl with
    | ret z =>
      obtain ⟨v', H', I3, rv, ev, q3⟩ := I2.after hq
      subst ev
      exact ⟨rv, ⟨V.ref (hp.objs.size + 1), H', I3, rfl, q3⟩⟩
    | next => exact False.elim hq
    | brk => exact False.elim hq
    | cont => exact False.elim hq
/-- C(e) -/
theorem pe_mk1 (W : Ways nB newId iB initId tail) (T : Xc X.K newId tail C) (iC : PySem.W.findIn X.K (.ref C) "__init__" = some (some (.ref fI))) (tI : PySem.W.typeIn X.K (.ref fI) = some (.type "function")) (nF : PySem.W.findIn X.K (.ref C) f = some none)
    (F : FnOk X.prog X.w X.K X.mg X.base CX0 k fI fd ["self", n] (spI X.K newId tail f)) (hr : Room (k + 1) X.A) (hb : ∀ (s : Shared) (a u : Value), BindsTo s fd ⟨[a, u], []⟩ [("self", a), (n, u)]) (hg : Gl X x) (hm : X.mg x = some (.ref C)) (ha : PA X [e] ta)
    (hdb : (x == ("__debug__" : Str)) = false := by decide) (he : starEach [e] X.env = (false, eval e X.env) :: starEach [] X.env := by rfl) (hpl : (backTo pos (starEach [] X.env)).any (·.1) = false := by rfl) :
    PE X (.Call (.Name x p) [e] [] pos) (tMk1 C f ta) := by
  refine ⟨fun pins s σ H Q I h => ?_⟩
  refine wpAny_Call_Name_kw (ld_glob I hg hm ?_ hdb)
  refine PySem.W.callWith_K (h₀ := X.base) I.ok.mod.kin T.kC (thn (ha.run pos pins s σ H _ I h) fun us s1 ⟨vs, H1, I1, r, v, ev, q⟩ => ⟨I1.kIn, ?_⟩) he hpl
  subst ev
  obtain ⟨u, rfl, ru⟩ := vals1 r
  exact run_mk W T iC tI nF F hr (show 1 ≤ 10 by decide) (fun s a => hb s a u) I1 ru q
/-- C(n = e) -/
theorem pe_mk1k {np : Pos} (W : Ways nB newId iB initId tail) (T : Xc X.K newId tail C) (iC : PySem.W.findIn X.K (.ref C) "__init__" = some (some (.ref fI))) (tI : PySem.W.typeIn X.K (.ref fI) = some (.type "function")) (nF : PySem.W.findIn X.K (.ref C) f = some none)
    (F : FnOk X.prog X.w X.K X.mg X.base CX0 k fI fd ["self", n] (spI X.K newId tail f)) (hr : Room (k + 1) X.A) (hb : ∀ (s : Shared) (a u : Value), BindsTo s fd ⟨[a], [(n, u)]⟩ [("self", a), (n, u)]) (hg : Gl X x) (hm : X.mg x = some (.ref C)) (he1 : PE X e tx)
    (hdb : (x == ("__debug__" : Str)) = false := by decide) :
    PE X (.Call (.Name x p) [] [⟨some n, e, np⟩] pos) (tMk1 C f (tCons tx tNil)) := by
  refine ⟨fun pins s σ H Q I h => ?_⟩
  refine wpAny_Call_Name_kw (ld_glob I hg hm ?_ hdb)
  refine PySem.W.callWith_KW0 (h₀ := X.base) I.ok.mod.kin T.kC (by rfl) (thn ((pk_cons he1 pk_nil).run pos pins s σ H _ I h) fun us s1 ⟨vs, H1, I1, r, v, ev, q⟩ => ⟨I1.kIn, ?_⟩) (by rfl)
  subst ev
  obtain ⟨u, rfl, ru⟩ := vals1 r
  show wpAny _ _ (call (.ref C) [] [(n, u)]) _ _ _
  exact run_mk (us := []) (kw := [(n, u)]) W T iC tI nF F hr (Nat.zero_le _) (fun s a => hb s a u) I1 ru q

/-! ### e.f, isinstance(e, D) -/
def tXat (K : PySem.W.Frag) (f : Str) (te : TE) : TE := fun σ H Q => te σ H fun x H1 => ∃ (a C d : Addr) (newId : String) (tail : List Value) (fs : List (Str × V)) (v : V), x = .ref a ∧ Xc K newId tail C ∧ PySem.W.findIn K (.ref C) f = some none ∧
  H1 a = some (exo a C (some d)) ∧ H1 d = some (exd d fs) ∧ fs.lookup f = some v ∧ Q v H1
theorem pe_xat {te : TE} (he : PE X e te) (hb : attributeBase e n X.env (eval e X.env) = eval e X.env := by rfl) : PE X (.Attribute e n pos) (tXat X.K n te) := by
  refine ⟨fun pins s σ H Q I h => ?_⟩
  refine attr_of hb (thn (he.run pins s σ H _ I h) fun u s1 hh => ?_)
  obtain ⟨x, H1, I1, rx, a, C, d, newId, tail, fs, v, ex, T, hno, ea, ed, l, q⟩ := hh
  subst ex
  obtain rfl : u = Value.ref a := rx
  obtain ⟨t1, ha⟩ := exo_at I1.hok ea
  obtain ⟨mA, hns, hr⟩ := exd_at I1.hok ed
  obtain ⟨od, ho, hl⟩ := lookIn_ns hns
  obtain ⟨w, hw, rw'⟩ := RelO.some_of (v := v) (o := mA n) (by rw [← l]; exact hr n)
  have J : PySem.W.InstAt s1.heap a _ C (some od) := ⟨ha, rfl, by unfold PySem.W.notCls; rfl, ho⟩
  exact HandSPX.exc_get I1.kIn J T.ga T.gg T.exC (PySem.W.findObj_own T.dC hno rfl (by rw [hl, hw])) (handed_of rw') ⟨v, H1, I1.tok _, rw', q⟩
/-- the class of the exception at a -/
def IsX (K : PySem.W.Frag) (H : Hp) (a C : Addr) : Prop := (∃ newId tail, Xc K newId tail C) ∧ (H a = some (exo a C none) ∨ ∃ d fs, H a = some (exo a C (some d)) ∧ H d = some (exd d fs))
structure ClsRead (K : PySem.W.Frag) : Prop where
  gs : PySem.W.specialIn K (.builtin "object.__class__") "__get__" = some (some (.builtin "getset_descriptor.__get__"))
  tk : PySem.W.takesIn K (.builtin "object.__class__") = some true
def rIsX (K : PySem.W.Frag) : List V → Hp → VK → Prop := fun xs H Q => ∃ (a C : Addr) (c : V) (cv : Value) (b : Bool), xs = [.ref a, c] ∧ (∀ u, RelV c u → u = cv) ∧ IsX K H a C ∧ PySem.W.kitOne K (.ref C) cv = some b ∧ Q (.bl b) H
theorem call_isX (G : ClsRead X.K) : CallR X (.builtin "isinstance") (rIsX X.K) := by
  intro pins s σ H xs us Q I r h
  obtain ⟨a, C, c, cv, b, rfl, hcv, ⟨⟨newId, tail, T⟩, ho⟩, e, q⟩ := h
  cases r with
  | cons rx rr =>
    cases rr with
    | cons rt rr =>
      cases rr
      cases rx
      have ec := hcv _ rt
      subst ec
      have hcl : (PySem.W.clsIn X.K C).isSome = true := by
        obtain ⟨nm, q, N, bs, bm, sn, sub, ab, col, dd, k0, k1, k2, k3, k5, hC, _⟩ := T.cls
        unfold PySem.W.clsIn
        rw [hC] <;> rfl
      have J : ∃ ox od, PySem.W.InstAt s.heap a ox C od := by
        rcases ho with ho | ⟨d, fs, ho, hd⟩
        · obtain ⟨t1, ha⟩ := exo_at I.hok ho
          exact ⟨_, none, ha, rfl, rfl, trivial⟩
        · obtain ⟨t1, ha⟩ := exo_at I.hok ho
          obtain ⟨mA, hns, _⟩ := exd_at I.hok hd
          obtain ⟨od, ho', _⟩ := lookIn_ns hns
          exact ⟨_, some od, ha, rfl, rfl, ho'⟩
      obtain ⟨ox, od, J⟩ := J
      exact PySem.W.kia_one (PySem.W.kitx_exc hcl T.ga T.gg T.exC T.cC G.gs G.tk T.mC) I.kIn J e (fun z => nomatch z) fun tk => ⟨.bl b, H, I.kept (t' := tk) fun _ _ z => z, rfl, q⟩
end
end KX

set_option Elab.async false
set_option linter.all false
set_option maxRecDepth 100000
set_option maxHeartbeats 4000000
/-! DD: defs by their names (Df, dcall); heaps; data that is made while a deck stands (EvP). -/
namespace DD
open PySem PySem.Spec PyProof.Rows L2 GG
/-- a def of the text by its name, with its promise -/
structure Df (P : Program) (w : World) (K : PySem.W.Frag) (mg : Str → Option Value) (base : Heap) (k : Nat) (nm : Str) (ps : List Str) (sp : Sp) : Prop where
  ex : ∃ f fd, Fg P w K mg base k f fd ps sp ∧ mg nm = some (.ref f) ∧ PySem.W.keepIn K (.ref f) = true ∧ Binds K fd ps []
section
variable {X : Cx} {k : Nat} {nm : Str} {ps : List Str} {sp : Sp} {p pos : Pos} {e : Expr} {es : List Expr} {t : TA}
theorem dcall (D : Df X.prog X.w X.K X.mg X.base k nm ps sp) (hr : Rm k X.A) (hg : Gl X nm) (ha : PA X (e :: es) t)
    (hdb : (nm == ("__debug__" : Str)) = false := by decide) (he : starEach (e :: es) X.env = (false, eval e X.env) :: starEach es X.env := by rfl) (hpl : (backTo pos (starEach es X.env)).any (·.1) = false := by rfl) :
    PE X (.Call (.Name nm p) (e :: es) [] pos) (tCall sp [] E0 t) := by
  obtain ⟨f, fd, F, hm, hk, hb⟩ := D.ex
  exact pcall F hr hg hm hk hb ha hdb he hpl
end

/-! ### heaps -/
theorem same_upd {H : Hp} {p : Addr} {o : HO} (h : H p = none) : Same H (upd H p o) := fun b x e => by
  rw [upd_ne (ne_of_none e h)]
  exact e
theorem ne_new {H : Hp} {a p : Addr} {o : HO} (e : H a = some o) (n : H p = none) : a ≠ p := ne_of_none e n
/-- what stood stands, but at p and l -/
def But (p l : Addr) (H H' : Hp) : Prop := ∀ b o, b ≠ p → b ≠ l → H b = some o → H' b = some o
theorem But.refl (p l : Addr) (H : Hp) : But p l H H := fun _ _ _ _ h => h
theorem But.trans {p l : Addr} {H H1 H2 : Hp} (a : But p l H H1) (b : But p l H1 H2) : But p l H H2 := fun c o h1 h2 h => b c o h1 h2 (a c o h1 h2 h)
theorem But.of {p l : Addr} {H H' : Hp} (s : Same H H') : But p l H H' := fun b o _ _ h => s b o h
theorem But.left {p l : Addr} {H H' : Hp} {o : HO} (s : But p l H H') : But p l H (upd H' p o) := fun b u h1 h2 h => by
  rw [upd_ne h1]
  exact s b u h1 h2 h
theorem But.right {p l : Addr} {H H' : Hp} {o : HO} (s : But p l H H') : But p l H (upd H' l o) := fun b u h1 h2 h => by
  rw [upd_ne h2]
  exact s b u h1 h2 h
theorem sq {K : PySem.W.Frag} {H : Hp} {a : Addr} {xs : List V} (h : H a = some (.lst xs)) : SqL K H a xs := .inl (.inl h)
theorem sqt {K : PySem.W.Frag} {H : Hp} {a : Addr} {xs : List V} (h : H a = some (.tup xs)) : SqT K H a xs := .inl (.inl h)
theorem szl {n : Nat} (h : n ≤ 1000) : n < sizeLine := Nat.lt_of_le_of_lt h (by decide)
theorem szi {n : Nat} (h : n ≤ 1000) : n ≤ sizeLine := Nat.le_of_lt (szl h)
theorem But.seq {K : PySem.W.Frag} {p l a : Addr} {H H' : Hp} {xs : List V} (b : But p l H H') (h1 : a ≠ p) (h2 : a ≠ l) (h : SqL K H a xs) : SqL K H' a xs := by
  rcases h with (h | ⟨o, h⟩) | h
  · exact .inl (.inl (b _ _ h1 h2 h))
  · exact .inl (.inr ⟨o, b _ _ h1 h2 h⟩)
  · exact .inr h

/-! ### data made while other things (S) stand -/
open Classical in
/-- the heap without the things of S -/
noncomputable def Hd (S : Addr → Prop) (H : Hp) : Hp := fun b => if S b then none else H b
theorem hd_ne {S : Addr → Prop} {b : Addr} {H : Hp} (h : ¬ S b) : Hd S H b = H b := if_neg h
theorem hd_some {S : Addr → Prop} {b : Addr} {H : Hp} {o : HO} (h : Hd S H b = some o) : ¬ S b ∧ H b = some o := by
  unfold Hd at h
  by_cases z : S b
  · rw [if_pos z] at h
    cases h
  · rw [if_neg z] at h
    exact ⟨z, h⟩
theorem hd_sub (S : Addr → Prop) (H : Hp) : Same (Hd S H) H := fun b o h => (hd_some h).2
theorem But.hd {S : Addr → Prop} {p l : Addr} {H H' : Hp} (b : But p l H H') (sp : S p) (sl : S l) : Same (Hd S H) (Hd S H') := fun a o h => by
  obtain ⟨h1, h3⟩ := hd_some h
  rw [hd_ne h1]
  exact b a o (fun e => h1 (by rw [e]; exact sp)) (fun e => h1 (by rw [e]; exact sl)) h3
theorem hdS {S : Addr → Prop} {H H' : Hp} (s : Same H H') : Same (Hd S H) (Hd S H') := fun a o h => by
  obtain ⟨h1, h3⟩ := hd_some h
  rw [hd_ne h1]
  exact s a o h3
/-- something of S is changed -/
theorem hd_upd {S : Addr → Prop} {H : Hp} {a : Addr} {o : HO} (s : S a) : Same (Hd S H) (Hd S (upd H a o)) := fun b u h => by
  obtain ⟨h1, h3⟩ := hd_some h
  rw [hd_ne h1, upd_ne (fun e : b = a => h1 (by rw [e]; exact s))]
  exact h3
/-- the things of S stand -/
def Taken (H : Hp) (S : Addr → Prop) : Prop := ∀ b, S b → ∃ o, H b = some o
theorem Taken.same {H H' : Hp} {S : Addr → Prop} (t : Taken H S) (s : Same H H') : Taken H' S := fun b h => (t b h).imp fun o h => s _ _ h
theorem Taken.ne {H : Hp} {S : Addr → Prop} {q : Addr} (t : Taken H S) (n : H q = none) : ¬ S q := fun h => by
  obtain ⟨o, e⟩ := t q h
  rw [n] at e
  cases e
section
variable {K : PySem.W.Frag} {S : Addr → Prop} {σ : L2.St} {H : Hp}
/-- an expression gives data d, apart from S; nothing that stood changes -/
def EvP (K : PySem.W.Frag) (S : Addr → Prop) (te : TE) (σ : L2.St) (d : PyData) : Prop := ∀ H1, Taken H1 S → ∀ Q : VK, (∀ v H2, Same H1 H2 → Dp K (Hd S H2) v d → Q v H2) → te σ H1 Q
def EvPs (K : PySem.W.Frag) (S : Addr → Prop) (ta : TA) (σ : L2.St) (ds : List PyData) : Prop := ∀ H1, Taken H1 S → ∀ Q : List V → Hp → Prop, (∀ vs H2, Same H1 H2 → DpAll K (Hd S H2) vs ds → Q vs H2) → ta σ H1 Q
theorem dp_same {H H' : Hp} {v : V} {d : PyData} (s : Same H H') (h : Dp K H v d) : Dp K H' v d := dp_mono (fun _ _ q => s.seq q) (fun _ _ q => same_t s q) _ _ h
theorem dpAll_same {H H' : Hp} {vs : List V} {ds : List PyData} (s : Same H H') (h : DpAll K H vs ds) : DpAll K H' vs ds := dpAll_mono (fun _ _ q => s.seq q) (fun _ _ q => same_t s q) _ _ h
theorem dpAll_len {H : Hp} : ∀ {vs : List V} {ds : List PyData}, DpAll K H vs ds → vs.length = ds.length
  | _, _, .nil => rfl
  | _, _, .cons _ h => by rw [List.length_cons, List.length_cons, dpAll_len h]
theorem evp_c {v : V} {d : PyData} (h : ∀ H, Dp K H v d) : EvP K S (tC v) σ d := fun H1 _ Q q => q v H1 (Same.refl _) (h _)
theorem evp_int {i : Int} : EvP K S (tC (.int i)) σ (.int i) := evp_c fun _ => .int i
theorem evp_str {x : Str} : EvP K S (tC (.str x)) σ (.str x) := evp_c fun _ => .str x
theorem evp_bl {b : Bool} : EvP K S (tC (.bl b)) σ (.bool b) := evp_c fun _ => .bl b
theorem evp_non : EvP K S (tC .non) σ .none := evp_c fun _ => .non
theorem evps_nil : EvPs K S tNil σ [] := fun H1 _ Q q => q [] H1 (Same.refl _) .nil
theorem evps_cons {te : TE} {ta : TA} {d : PyData} {ds : List PyData} (h : EvP K S te σ d) (hs : EvPs K S ta σ ds) : EvPs K S (tCons te ta) σ (d :: ds) := fun H1 t Q q =>
  h H1 t _ fun v H2 s2 hv => hs H2 (t.same s2) _ fun vs H3 s3 hvs => q (v :: vs) H3 (s2.trans s3) (.cons (dp_same (hdS s3) hv) hvs)
theorem evp_tup {ta : TA} {ds : List PyData} (hs : EvPs K S ta σ ds) (hl : ds.length ≤ 1000) : EvP K S (tTup ta) σ (.tuple ds) := fun H1 t Q q =>
  hs H1 t _ fun vs H2 s2 hvs => ⟨by rw [dpAll_len hvs]; exact szi hl, fun a na => by
    have n1 := (t.same s2).ne na
    have s3 : Same H2 (upd H2 a (.tup vs)) := same_upd na
    exact q _ _ (s2.trans s3) (.tup (sqt (by rw [hd_ne n1]; exact upd_same)) (dpAll_same (hdS s3) hvs))⟩
theorem evp_lst {ta : TA} {ds : List PyData} (hs : EvPs K S ta σ ds) (hl : ds.length ≤ 1000) : EvP K S (tLst ta) σ (.list ds) := fun H1 t Q q =>
  hs H1 t _ fun vs H2 s2 hvs => ⟨by rw [dpAll_len hvs]; exact szi hl, fun a na => by
    have n1 := (t.same s2).ne na
    have s3 : Same H2 (upd H2 a (.lst vs)) := same_upd na
    exact q _ _ (s2.trans s3) (.lst (sq (by rw [hd_ne n1]; exact upd_same)) (dpAll_same (hdS s3) hvs))⟩
/-- the same for what may hold dicts -/
def EvT (K : PySem.W.Frag) (S : Addr → Prop) (te : TE) (σ : L2.St) (d : PyData) : Prop := ∀ H1, Taken H1 S → ∀ Q : VK, (∀ v H2, Same H1 H2 → Dt K (Hd S H2) v d → Q v H2) → te σ H1 Q
theorem EvP.t {te : TE} {d : PyData} (h : EvP K S te σ d) : EvT K S te σ d := fun H1 t Q q => h H1 t Q fun v H2 s hv => q v H2 s (.base hv)
inductive DtAll (K : PySem.W.Frag) (H : Hp) : List V → List PyData → Prop
  | nil : DtAll K H [] []
  | cons {v : V} {vs : List V} {d : PyData} {ds : List PyData} : Dt K H v d → DtAll K H vs ds → DtAll K H (v :: vs) (d :: ds)
theorem DtAll.len {H : Hp} : ∀ {vs : List V} {ds : List PyData}, DtAll K H vs ds → vs.length = ds.length
  | _, _, .nil => rfl
  | _, _, .cons _ h => by rw [List.length_cons, List.length_cons, DtAll.len h]
theorem DtAll.same {H H' : Hp} (s : Same H H') : ∀ {vs : List V} {ds : List PyData}, DtAll K H vs ds → DtAll K H' vs ds
  | _, _, .nil => .nil
  | _, _, .cons h t => .cons (h.same s) (t.same s)
theorem DtAll.append {H : Hp} : ∀ {vs us : List V} {ds es : List PyData}, DtAll K H vs ds → DtAll K H us es → DtAll K H (vs ++ us) (ds ++ es)
  | _, _, _, _, .nil, h => h
  | _, _, _, _, .cons h t, k => .cons h (t.append k)
theorem DtAll.mem {H : Hp} : ∀ {vs : List V} {ds : List PyData} {v : V}, DtAll K H vs ds → v ∈ vs → ∃ d, d ∈ ds ∧ Dt K H v d
  | _, _, _, .nil, h => absurd h List.not_mem_nil
  | _, _, _, .cons (d := d) h t, m => by
    rcases List.mem_cons.mp m with e | m
    · exact ⟨d, List.mem_cons_self, e ▸ h⟩
    · obtain ⟨d', h1, h2⟩ := t.mem m
      exact ⟨d', List.mem_cons_of_mem _ h1, h2⟩
def EvTs (K : PySem.W.Frag) (S : Addr → Prop) (ta : TA) (σ : L2.St) (ds : List PyData) : Prop := ∀ H1, Taken H1 S → ∀ Q : List V → Hp → Prop, (∀ vs H2, Same H1 H2 → DtAll K (Hd S H2) vs ds → Q vs H2) → ta σ H1 Q
theorem evts_nil : EvTs K S tNil σ [] := fun H1 _ Q q => q [] H1 (Same.refl _) .nil
theorem evts_cons {te : TE} {ta : TA} {d : PyData} {ds : List PyData} (h : EvT K S te σ d) (hs : EvTs K S ta σ ds) : EvTs K S (tCons te ta) σ (d :: ds) := fun H1 t Q q =>
  h H1 t _ fun v H2 s2 hv => hs H2 (t.same s2) _ fun vs H3 s3 hvs => q (v :: vs) H3 (s2.trans s3) (.cons (hv.same (hdS s3)) hvs)
/-- a written dict with one text key and an int -/
theorem evt_dict1 {k : Str} {i : Int} : EvT K S (tDisp [(tC (.str k), tC (.int i))]) σ (.dict [(.str k, .int i)]) := fun H1 t Q q => fun a na => by
  have n1 := t.ne na
  refine ⟨upd_same, [(.inr k, .int i)], rfl, (by show 1 ≤ 15; decide), ?_⟩
  rw [upd_upd]
  refine q _ _ (same_upd na) (.dic (kvs := [(.inr k, .int i)]) (by rw [hd_ne n1]; exact upd_same) rfl)
end
/-! ### one layer of a reading -/
theorem rd_lst {ta : TA} {σ : L2.St} {H : Hp} {Q : VK} (h : ta σ H fun xs H1 => xs.length ≤ sizeLine ∧ ∀ a, H1 a = none → Q (.ref a) (upd H1 a (.lst xs))) : tLst ta σ H Q := h
theorem rd_tup {ta : TA} {σ : L2.St} {H : Hp} {Q : VK} (h : ta σ H fun xs H1 => xs.length ≤ sizeLine ∧ ∀ a, H1 a = none → Q (.ref a) (upd H1 a (.tup xs))) : tTup ta σ H Q := h
theorem rd_set {te : TE} {i : Nat} {u : TS} {D : Ends} {σ : L2.St} {H : Hp} (h : te σ H fun v H1 => u D (σ.set i (some v)) H1) : tSeq (tAsg te (gName i)) u D σ H := h
theorem rd_ret {te : TE} {D : Ends} {σ : L2.St} {H : Hp} (h : te σ H D.rt) : tRet te D σ H := h
theorem rd_op {r : R2} {ta tb : TE} {σ : L2.St} {H : Hp} {Q : VK} (h : ta σ H fun x H1 => tb σ H1 fun y H2 => r x y H2 Q) : tOp r ta tb σ H Q := h
theorem rd_cons {te : TE} {ta : TA} {σ : L2.St} {H : Hp} {Q : List V → Hp → Prop} (h : te σ H fun x H1 => ta σ H1 fun xs H2 => Q (x :: xs) H2) : tCons te ta σ H Q := h
theorem rd_nil {σ : L2.St} {H : Hp} {Q : List V → Hp → Prop} (h : Q [] H) : tNil σ H Q := h
theorem rd_call {sp : Sp} {ta : TA} {σ : L2.St} {H : Hp} {Q : VK} (h : ta σ H fun vs H1 => sp (vs ++ []) H1 Q E0) : tCall sp [] E0 ta σ H Q := h
theorem rd_cb {r : List V → Hp → VK → Prop} {ta : TA} {σ : L2.St} {H : Hp} {Q : VK} (h : ta σ H fun vs H1 => r vs H1 Q) : tCB r ta σ H Q := h
theorem rd_var {i : Nat} {v : V} {σ : L2.St} {H : Hp} {Q : VK} (e : σ[i]? = some (some v)) (h : Q v H) : tVar i σ H Q := ⟨v, e, h⟩
theorem rd_c {v : V} {σ : L2.St} {H : Hp} {Q : VK} (h : Q v H) : tC v σ H Q := h
theorem rd_test {te : TE} {σ : L2.St} {H : Hp} {Q : Bool → Hp → Prop} (h : te σ H fun x H' => ∃ k, x = .bl k ∧ Q k H') : tTest te σ H Q := h
theorem rd_if {c : TT} {t u v : TS} {D : Ends} {σ : L2.St} {H : Hp} (h : c σ H fun b H1 => if b = true then t { D with nx := v D } σ H1 else u { D with nx := v D } σ H1) : tSeq (tIfS c t u) v D σ H := h
end DD

set_option Elab.async false
set_option linter.all false
set_option maxRecDepth 100000
set_option maxHeartbeats 4000000
/-! DK: the deck of a law: _law_deck, _law_draw, _law_pick; promises of defs as one record (Df). -/
namespace K86
open PySem PySem.Spec PyProof.Rows L2 GG DD
def topS (i : Nat) : Stmt := PySem.Challenge.pw_roundcalls_k86_errors.main.body.getD i (.Pass ⟨0, 0, 0, 0⟩)
abbrev s_deck : Stmt := topS 22
abbrev s_draw : Stmt := topS 23
abbrev s_pick : Stmt := topS 24
theorem sc_deck : FnScope ["_law_script", "_law_cells", "_law_total", "_law_cell"] ["_law_script"] (defScope s_deck) := ⟨rfl, rfl, rfl, by decide +kernel, rfl, by decide +kernel, by decide +kernel⟩
theorem sc_draw : FnScope ["_law_deck_here", "_law_limit", "_law_cell", "_law_number"] ["_law_deck_here", "_law_limit"] (defScope s_draw) := ⟨rfl, rfl, rfl, by decide +kernel, rfl, by decide +kernel, by decide +kernel⟩
theorem sc_pick : FnScope ["_law_deck_here", "_law_items"] ["_law_deck_here", "_law_items"] (defScope s_pick) := ⟨rfl, rfl, rfl, by decide +kernel, rfl, by decide +kernel, by decide +kernel⟩

/-- the deck at p, its cells at l, n draws so far -/
structure Deck (H : Hp) (p l : Addr) (n : Nat) : Prop where
  at_ : ∃ (m : Int) (cs : List Int), H p = some (.lst [.ref l, .int m, .int (n : Int)]) ∧ H l = some (.lst (cs.map V.int)) ∧ 0 ≤ m ∧ m < 2147483647 ∧ cs.length ≤ 64
  ne : l ≠ p
theorem Deck.same {H H' : Hp} {p l : Addr} {n : Nat} (d : Deck H p l n) (s : Same H H') : Deck H' p l n := by
  obtain ⟨⟨m, cs, h1, h2, h3⟩, h4⟩ := d
  exact ⟨⟨m, cs, s _ _ h1, s _ _ h2, h3⟩, h4⟩
def intsD (cs : List Int) : List PyData := cs.map PyData.int
theorem dp_intsD {K : PySem.W.Frag} {H : Hp} : ∀ cs : List Int, DpAll K H (cs.map V.int) (intsD cs)
  | [] => .nil
  | c :: cs => .cons (.int c) (dp_intsD cs)
section
variable {P : Program} {w : World} {K : PySem.W.Frag} {mg : Str → Option Value} {base : Heap}
def spDeck (K : PySem.W.Frag) : Sp := fun vs H Q _ => ∃ (a : Addr) (ns : List Int), vs = [.ref a] ∧ SqL K H a (ns.map V.int) ∧ ns.length ≤ 63 ∧ ∀ H' p l, Same H H' → Deck H' p l 0 → H p = none → Q (.ref p) H'
theorem ok_deck {f : Addr} {fd : FuncData} (F : L2.Fun K "_law_deck" "_law_deck" s_deck f fd) (m_list : mg "list" = none) : Fg P w K mg base 1 f fd ["_law_script"] (spDeck K) := by
  refine okg F sc_deck (fun vs H Q h => ?_) (fun cdv A outer s H vs Q hr h => ?_)
  · obtain ⟨a, ns, rfl, _⟩ := h
    rfl
  · obtain ⟨a, ns, rfl, hS, hlen, q⟩ := h
    refine ⟨_, (pss_cons (ps_par (i := 1) (j := 2) (by rfl) sc_deck.nd rfl rfl (by decide) rfl rfl (pa_cons (pe_callTy call_list_of (by rfl) m_list (by decide +kernel) (pa_cons (pe_slice sl_list (pv 0) po_none (po_some pe_int)) pa_nil)) (pa_cons pe_int pa_nil)) (by rfl)) (pss_cons (ps_for PassesOwn.never rfl (pi_list (pv 1)) (pg_name (i := 3) sc_deck.nd rfl (Or.inl rfl)) (pss_one (ps_set (i := 2) sc_deck.nd rfl (Or.inl rfl) (pe_op op_mod (pe_op op_add (pe_op op_add (pe_op op_mul (pv 2) pe_int) (pe_op op_mod (pv 3) pe_int)) pe_int) pe_int)))) (pss_one (ps_ret (pe_lst (pa_cons (pe_revL (pv 1)) (pa_cons (pv 2) (pa_cons pe_int pa_nil)))))))), ?_⟩
    -- list(script[:63]), the seed
    refine ⟨.ref a, rfl, 63, rfl, a, _, rfl, hS, fun p1 n1 => ?_⟩
    refine ⟨p1, _, rfl, .inl (sq upd_same), fun c nc => ?_⟩
    refine ⟨_, _, rfl, ?_⟩
    have hcut : cutV (ns.map V.int) none (some 63) = ns.map V.int := by
      unfold cutV
      rw [show HT.sIx (ns.map V.int).length (ns.map V.int).length (some 63) = min 63 (ns.map V.int).length from HT.sIx_nat _ _ 63, HT.sIx_none, List.drop_zero, Nat.sub_zero]
      exact List.take_of_length_le (by rw [List.length_map]; omega)
    rw [hcut] at nc ⊢
    have s1 : Same H (upd H p1 (.lst (ns.map V.int))) := same_upd n1
    have s2 : Same (upd H p1 (.lst (ns.map V.int))) (upd (upd H p1 (.lst (ns.map V.int))) c (.lst (ns.map V.int))) := same_upd nc
    have ec : (upd (upd H p1 (.lst (ns.map V.int))) c (.lst (ns.map V.int))) c = some (.lst (ns.map V.int)) := upd_same
    generalize hG : upd (upd H p1 (.lst (ns.map V.int))) c (.lst (ns.map V.int)) = G at *
    refine ⟨.ref c, rfl, c, rfl, ⟨_, sq ec⟩, for_list (K := K) (a := c) (xs := ns.map V.int) (fun i σ H' => ∃ (m : Int) (v : Option V), σ = [some (.ref a), some (.ref c), some (.int m), v] ∧ H' = G ∧ 0 ≤ m ∧ m < 2147483629) ⟨91141, none, rfl, rfl, by decide, by decide⟩ ?_ ?_ ?_⟩
    · rintro i σ H' _ ⟨m, v, rfl, rfl, _⟩
      exact sq ec
    · rintro i x σ H' hi ⟨m, v, rfl, rfl, h0, h1⟩
      obtain ⟨z, rfl⟩ : ∃ z, x = V.int z := by
        rw [List.getElem?_map] at hi
        cases e : ns[i]? with
        | none => rw [e] at hi; cases hi
        | some u => rw [e] at hi; exact ⟨u, (Option.some.inj hi).symm⟩
      refine ⟨_, rfl, _, _, rfl, rfl, .inl ⟨by omega, by omega⟩, .int z, rfl, z, 2147483587, rfl, rfl, (by show (0 : Int) < 2147483587; decide), _, _, rfl, rfl, _, _, rfl, rfl, _, _, rfl, rfl, (by show (0 : Int) < 2147483629; decide), ?_⟩
      exact ⟨_, _, rfl, rfl, Int.emod_nonneg _ (by decide), Int.emod_lt_of_pos _ (by decide)⟩
    · rintro σ H' ⟨m, v, rfl, rfl, h0, h1⟩
      refine ⟨.ref c, rfl, c, _, rfl, sq ec, fun l nl => ?_⟩
      refine ⟨_, rfl, (by show 3 ≤ sizeLine; decide), fun p np => ?_⟩
      have nlp : l ≠ p := ne_new upd_same np
      have np' : H' p = none := by rw [upd_ne nlp.symm] at np; exact np
      refine q _ p l (s1.trans (s2.trans ((same_upd nl).trans (same_upd np)))) ⟨⟨m, ns.reverse, upd_same, ?_, h0, by omega, by rw [List.length_reverse]; omega⟩, nlp⟩ (s1.free (s2.free np'))
      rw [upd_ne nlp, upd_same, List.map_reverse]

theorem shaped_ints : ∀ cs : List Int, SeqAt.shaped (PyData.list (intsD cs)) = true := by
  have h1 : ∀ cs : List Int, PyData.canLayAll0 (intsD cs) = true := by
    intro cs
    induction cs with
    | nil => simp only [intsD, List.map_nil, PyData.canLayAll0]
    | cons c cs ih =>
      have ih' : PyData.canLayAll0 (cs.map PyData.int) = true := ih
      simp only [intsD, List.map_cons, PyData.canLayAll0, PyData.canLay0, ih', Bool.and_self]
  have h2 : ∀ cs : List Int, PyData.depthAll (intsD cs) = 0 := by
    intro cs
    induction cs with
    | nil => simp only [intsD, List.map_nil, PyData.depthAll]
    | cons c cs ih =>
      have ih' : PyData.depthAll (cs.map PyData.int) = 0 := ih
      simp only [intsD, List.map_cons, PyData.depthAll, PyData.depth, ih', Nat.max_self]
  intro cs
  unfold SeqAt.shaped
  simp only [PyData.canLay0, PyData.depth, h1, h2, Bool.true_and]
  decide
theorem eqv_ints_nil : ∀ cs : List Int, PyData.eqv (.list (intsD cs)) (.list []) = cs.isEmpty
  | [] => by simp only [intsD, List.map_nil, PyData.eqv, PyData.eqvAll, List.isEmpty_nil]
  | c :: cs => by simp only [intsD, List.map_cons, PyData.eqv, PyData.eqvAll, List.isEmpty_cons]

/-- a draw: an int below the limit; the deck turns -/
def spDraw : Sp := fun vs H Q _ => ∃ (p l : Addr) (n : Nat) (lim : Int), vs = [.ref p, .int lim] ∧ Deck H p l n ∧ n < 1000000 ∧ 1 ≤ lim ∧ lim < 1000000 ∧ ∀ H' v, Deck H' p l (n + 1) → But p l H H' → 0 ≤ v → v < lim → Q (.int v) H'
/-- the mixed end of a draw -/
theorem fin_draw (a b lim : Int) (h : 1 ≤ lim) : 0 ≤ (a % 2147483629).fdiv 128 % lim ∧ (a % 2147483629).fdiv 128 % lim < lim := ⟨Int.emod_nonneg _ (by omega), Int.emod_lt_of_pos _ (by omega)⟩
theorem ok_draw {f : Addr} {fd : FuncData} (F : L2.Fun K "_law_draw" "_law_draw" s_draw f fd) : Fg P w K mg base 1 f fd ["_law_deck_here", "_law_limit"] spDraw := by
  refine okg F sc_draw (fun vs H Q h => ?_) (fun cdv A outer s H vs Q hr h => ?_)
  · obtain ⟨p, l, n, lim, rfl, _⟩ := h
    rfl
  · obtain ⟨p, l, n, lim, rfl, ⟨⟨m, cs, hp, hl, hm0, hm1, hcs⟩, hne⟩, hn, hlim, hlim2, q⟩ := h
    refine ⟨_, (pss_cons (ps_asg (pe_op op_add (pe_ix ix_list (pv 0) pe_int (fun _ _ => rfl)) pe_int) (pg_sub (pv 0) pe_int set_list)) (pss_cons (ps_set (i := 2) sc_draw.nd rfl (Or.inl rfl) (pe_ix ix_list (pv 0) pe_int (fun _ _ => rfl))) (Evl.pss_cut (ps_if (pt_cmpR (op_neD hr.room.units) (pe_ix ix_list (pv 0) pe_int (fun _ _ => rfl)) (pe_lst pa_nil) (nomark _)) (pss_cons (ps_set (i := 2) sc_draw.nd rfl (Or.inl rfl) (pe_bm0 PySem.F.plainAttrs_list PySem.F.slot_list_pop PySem.F.type_list_pop mt_pop (pe_ix ix_list (pv 0) pe_int (fun _ _ => rfl)))) (pss_cons (ps_if (pt_cmpR op_ge (pv 2) (pe_op op_pow pe_int pe_int) (nomark _)) (pss_cons (ps_expr (pe_bm PySem.F.plainAttrs_list PySem.F.slot_list_append PySem.F.type_list_append mt_append (pe_ix ix_list (pv 0) pe_int (fun _ _ => rfl)) (pa_cons (pe_op op_fdivN (pv 2) (pv 1)) pa_nil))) (pss_one (ps_ret (pe_op op_mod (pv 2) (pv 1))))) pss_nil) (pss_one (ps_set (i := 2) sc_draw.nd rfl (Or.inl rfl) (pe_op op_add (pv 2) (pe_ix ix_list (pv 0) pe_int (fun _ _ => rfl))))))) pss_nil) (pss_cons (ps_set (i := 3) sc_draw.nd rfl (Or.inl rfl) (pe_op op_mod (pe_op op_mul (pe_op op_add (pe_op op_add (pe_op op_mod (pv 2) pe_int) (pe_op op_mul (pe_op op_mul pe_int (pe_ix ix_list (pv 0) pe_int (fun _ _ => rfl))) (pe_ix ix_list (pv 0) pe_int (fun _ _ => rfl)))) pe_int) pe_int) pe_int)) (pss_cons (ps_set (i := 3) sc_draw.nd rfl (Or.inl rfl) (pe_op op_mod (pe_op op_add (pe_op op_add (pe_op op_mul (pv 3) (pv 3)) (pe_op op_mul pe_int (pe_ix ix_list (pv 0) pe_int (fun _ _ => rfl)))) pe_int) pe_int)) (pss_one (ps_ret (pe_op op_mod (pe_op op_fdivN (pe_op op_mod (pe_op op_add (pe_op op_mul (pv 3) (pv 3)) (pe_op op_mul pe_int (pv 3))) pe_int) pe_int) (pv 1))))))))), ?_⟩
    -- deck[2] = deck[2] + 1
    refine ⟨.ref p, rfl, p, _, 2, .int (n : Int), rfl, rfl, sq hp, rfl, _, _, rfl, rfl, .ref p, rfl, p, _, 2, 2, rfl, rfl, hp, rfl, ?_⟩
    have hp1 : (upd H p (.lst [.ref l, .int m, .int ((n : Int) + 1)])) p = some (.lst [.ref l, .int m, .int ((n : Int) + 1)]) := upd_same
    have hl1 : (upd H p (.lst [.ref l, .int m, .int ((n : Int) + 1)])) l = some (.lst (cs.map V.int)) := by rw [upd_ne hne]; exact hl
    have b1 : But p l H (upd H p (.lst [.ref l, .int m, .int ((n : Int) + 1)])) := (But.refl p l H).left
    show tSeq _ _ _ _ (upd H p (.lst [.ref l, .int m, .int ((n : Int) + 1)]))
    generalize upd H p (.lst [.ref l, .int m, .int ((n : Int) + 1)]) = H1 at hp1 hl1 b1 ⊢
    -- cell = deck[1]
    refine ⟨.ref p, rfl, p, _, 1, .int m, rfl, rfl, sq hp1, rfl, ?_⟩
    -- what holds behind the if: a cell, the deck
    refine ⟨fun σ2 H2 => ∃ (c : Int) (cs2 : List Int), σ2 = [some (.ref p), some (.int lim), some (.int c), none] ∧ H2 p = some (.lst [.ref l, .int m, .int ((n : Int) + 1)]) ∧ H2 l = some (.lst (cs2.map V.int)) ∧ But p l H H2 ∧ cs2.length ≤ 64, ?_, ?_⟩
    · -- if deck[0] != []
      refine ⟨.ref p, rfl, p, _, 0, .ref l, rfl, rfl, sq hp1, rfl, Nat.zero_le _, fun e ne => ?_⟩
      have sE : Same H1 (upd H1 e (.lst [])) := same_upd ne
      have bE : But p l H (upd H1 e (.lst [])) := b1.trans (.of sE)
      have eE : (upd H1 e (.lst [])) e = some (.lst []) := upd_same
      have hp2 := sE _ _ hp1
      have hl2 := sE _ _ hl1
      generalize upd H1 e (.lst []) = G at sE bE eE hp2 hl2 ⊢
      refine ⟨.list (intsD cs), .list [], .lst (sq hl2) (dp_intsD cs), .lst (sq eE) .nil, shaped_ints cs, shaped_ints [], _, rfl, ?_⟩
      rw [eqv_ints_nil]
      cases cs with
      | nil => exact ⟨m, [], rfl, hp2, hl2, bE, Nat.zero_le _⟩
      | cons c0 cs0 =>
        -- cell = deck[0].pop()
        have hlast : ((c0 :: cs0).map V.int)[((c0 :: cs0).map V.int).length - 1]? = some (.int ((c0 :: cs0).getLast (List.cons_ne_nil _ _))) := by
          rw [List.length_map, List.getElem?_map, ← List.getLast?_eq_getElem?, List.getLast?_eq_getLast (List.cons_ne_nil _ _)]
          rfl
        generalize hz : (c0 :: cs0).getLast (List.cons_ne_nil _ _) = z at hlast
        refine ⟨.ref p, rfl, p, _, 0, .ref l, rfl, rfl, sq hp2, rfl, .inl ⟨rfl, _, sq hl2⟩, l, _, _, rfl, rfl, hl2, hlast, ?_⟩
        have hdl : ((c0 :: cs0).map V.int).dropLast = ((c0 :: cs0).dropLast).map V.int := List.map_dropLast.symm
        rw [hdl]
        generalize hcs : (c0 :: cs0).dropLast = cs1
        have hlen1 : cs1.length ≤ 63 := by
          rw [← hcs, List.length_dropLast]
          omega
        have hp3 : (upd G l (.lst (cs1.map V.int))) p = some (.lst [.ref l, .int m, .int ((n : Int) + 1)]) := by rw [upd_ne hne.symm]; exact hp2
        have hl3 : (upd G l (.lst (cs1.map V.int))) l = some (.lst (cs1.map V.int)) := upd_same
        have b3 : But p l H (upd G l (.lst (cs1.map V.int))) := bE.right
        generalize upd G l (.lst (cs1.map V.int)) = G3 at hp3 hl3 b3 ⊢
        -- if cell >= 10 ** 18
        refine ⟨_, rfl, _, _, rfl, rfl, (by show (0 : Int) ≤ 18 ∧ (18 : Int) ≤ 1000000 ∧ (10 : Int).natAbs < 2 ^ 64; decide), _, _, rfl, rfl, _, rfl, ite2 (fun _ => ?_) (fun _ => ?_)⟩
        · -- deck[0].append(cell // limit); return cell % limit
          refine ⟨.ref p, rfl, p, _, 0, .ref l, rfl, rfl, sq hp3, rfl, .inl ⟨rfl, _, sq hl3⟩, _, rfl, _, rfl, _, _, rfl, rfl, ⟨by omega, by omega⟩, l, _, _, rfl, rfl, hl3, (by rw [List.length_map]; exact szl (by omega)), ?_⟩
          refine ⟨_, rfl, _, rfl, _, _, rfl, rfl, by omega, ?_⟩
          refine q _ _ ⟨⟨m, cs1 ++ [z.fdiv lim], ?_, ?_, hm0, hm1, ?_⟩, hne⟩ b3.right (Int.emod_nonneg _ (by omega)) (Int.emod_lt_of_pos _ (by omega))
          · rw [upd_ne hne.symm]
            exact hp3
          · rw [upd_same, List.map_append]
            rfl
          · rw [List.length_append, List.length_singleton]
            omega
        · -- cell = cell + deck[1]
          refine ⟨_, rfl, .ref p, rfl, p, _, 1, .int m, rfl, rfl, sq hp3, rfl, _, _, rfl, rfl, ?_⟩
          exact ⟨_, cs1, rfl, hp3, hl3, b3, by omega⟩
    · rintro σ2 H2 ⟨c, cs2, rfl, hp2, hl2, b2, hc2⟩
      -- the mixing
      refine ⟨_, rfl, _, _, rfl, rfl, (by show (0 : Int) < 2147483587; decide), .ref p, rfl, p, _, 2, .int ((n : Int) + 1), rfl, rfl, sq hp2, rfl, _, _, rfl, rfl, .inl ⟨by decide, by decide⟩, .ref p, rfl, p, _, 2, .int ((n : Int) + 1), rfl, rfl, sq hp2, rfl, _, _, rfl, rfl, .inl ⟨by omega, by omega⟩, _, _, rfl, rfl, _, _, rfl, rfl, _, _, rfl, rfl, .inr ⟨by decide, by decide⟩, _, _, rfl, rfl, (by show (0 : Int) < 2147483647; decide), ?_⟩
      have hx0 := Int.emod_nonneg ((c % 2147483587 + 65617 * ((n : Int) + 1) * ((n : Int) + 1) + 79) * 40692) (show (2147483647 : Int) ≠ 0 by decide)
      have hx1 := Int.emod_lt_of_pos ((c % 2147483587 + 65617 * ((n : Int) + 1) * ((n : Int) + 1) + 79) * 40692) (show (0 : Int) < 2147483647 by decide)
      show tSeq _ _ _ [some (.ref p), some (.int lim), some (.int c), some (.int ((c % 2147483587 + 65617 * ((n : Int) + 1) * ((n : Int) + 1) + 79) * 40692 % 2147483647))] H2
      generalize (c % 2147483587 + 65617 * ((n : Int) + 1) * ((n : Int) + 1) + 79) * 40692 % 2147483647 = x at hx0 hx1 ⊢
      refine ⟨_, rfl, _, rfl, _, _, rfl, rfl, .inl ⟨by omega, by omega⟩, .ref p, rfl, p, _, 2, .int ((n : Int) + 1), rfl, rfl, sq hp2, rfl, _, _, rfl, rfl, .inl ⟨by decide, by decide⟩, _, _, rfl, rfl, _, _, rfl, rfl, _, _, rfl, rfl, (by show (0 : Int) < 2147483563; decide), ?_⟩
      have hy0 := Int.emod_nonneg (x * x + 39373 * ((n : Int) + 1) + 23) (show (2147483563 : Int) ≠ 0 by decide)
      have hy1 := Int.emod_lt_of_pos (x * x + 39373 * ((n : Int) + 1) + 23) (show (0 : Int) < 2147483563 by decide)
      refine ⟨_, rfl, _, rfl, _, _, rfl, rfl, .inl ⟨Int.lt_of_lt_of_le (by decide) hy0, Int.lt_trans hy1 (by decide)⟩, _, rfl, _, _, rfl, rfl, .inl ⟨by decide, by decide⟩, _, _, rfl, rfl, _, _, rfl, rfl, (by show (0 : Int) < 2147483629; decide), _, _, rfl, rfl, ⟨by decide, by decide⟩, _, rfl, _, _, rfl, rfl, by omega, ?_⟩
      exact q H2 _ ⟨⟨m, cs2, hp2, hl2, hm0, hm1, hc2⟩, hne⟩ b2 (fin_draw _ 0 lim hlim).1 (fin_draw _ 0 lim hlim).2

/-- one of some items -/
def spPick (K : PySem.W.Frag) : Sp := fun vs H Q _ => ∃ (p l : Addr) (n : Nat) (a : Addr) (xs : List V), vs = [.ref p, .ref a] ∧ Deck H p l n ∧ n < 1000000 ∧ SqL K H a xs ∧ a ≠ p ∧ a ≠ l ∧ 1 ≤ xs.length ∧ xs.length ≤ 1000 ∧
  ∀ H' v, Deck H' p l (n + 1) → But p l H H' → v ∈ xs → Q v H'
theorem ok_pick {f : Addr} {fd : FuncData} (F : L2.Fun K "_law_pick" "_law_pick" s_pick f fd) (D_draw : Df P w K mg base 1 "_law_draw" ["_law_deck_here", "_law_limit"] spDraw) (m_len : mg "len" = none) :
    Fg P w K mg base 2 f fd ["_law_deck_here", "_law_items"] (spPick K) := by
  refine okg F sc_pick (fun vs H Q h => ?_) (fun cdv A outer s H vs Q hr h => ?_)
  · obtain ⟨p, l, n, a, xs, rfl, _⟩ := h
    rfl
  · obtain ⟨p, l, n, a, xs, rfl, hD, hn, hS, h1, h2, h3, h4, q⟩ := h
    refine ⟨_, (pss_one (ps_ret (pe_ix ix_list (pv 1) (dcall D_draw (hr.mono (by decide)) (by rfl) (pa_cons (pv 0) (pa_cons (pe_callB call_len_seq (by rfl) m_len (by decide +kernel) (pa_cons (pv 1) pa_nil)) pa_nil))) (fun _ _ => rfl)))), ?_⟩
    refine ⟨.ref a, rfl, .ref p, rfl, .ref a, rfl, a, xs, rfl, .inl hS, p, l, n, (xs.length : Int), rfl, hD, hn, by omega, by omega, fun H' v hD' hB hv0 hv1 => ?_⟩
    obtain ⟨i, rfl⟩ : ∃ i : Nat, v = (i : Int) := ⟨v.toNat, by omega⟩
    have hi : i < xs.length := by omega
    exact ⟨a, xs, i, xs[i], rfl, rfl, hB.seq h1 h2 hS, atI_nat (List.getElem?_eq_getElem hi), q H' _ hD' hB (List.getElem_mem hi)⟩
end
end K86

set_option Elab.async false
set_option linter.all false
set_option maxRecDepth 100000
set_option maxHeartbeats 4000000
/-! OD: _law_odd: one of eighteen things, all of them data whose repr is known. -/
namespace K86
open PySem PySem.Spec PyProof.Rows L2 GG DD
abbrev s_odd : Stmt := topS 25
theorem sc_odd : FnScope ["_law_deck_here", "_law_some"] ["_law_deck_here"] (defScope s_odd) := ⟨rfl, rfl, rfl, by decide +kernel, rfl, by decide +kernel, by decide +kernel⟩
/-- a text so many times -/
def timesS (x : Str) (n : Nat) : Str := ⟨(List.replicate n x.cps).foldl (· ++ ·) #[]⟩
theorem times_list (a : Array Nat) : ∀ (n : Nat) (acc : Array Nat), ((List.replicate n a).foldl (· ++ ·) acc).toList = acc.toList ++ (List.replicate n a.toList).flatten
  | 0, acc => by simp
  | n + 1, acc => by
    rw [List.replicate_succ, List.foldl_cons, times_list a n, List.replicate_succ, List.flatten_cons, Array.toList_append, List.append_assoc]
def rMulS : R2 := fun x y H Q => ∃ (z : Str) (n : Int), x = .str z ∧ y = .int n ∧ 2 ≤ n ∧ n ≤ 10000 ∧ 1 ≤ z.length ∧ z.length ≤ 100 ∧ Q (.str (timesS z n.toNat)) H
theorem times_len (x : Str) (n : Nat) : (timesS x n).length = n * x.length := by
  have h := congrArg List.length (times_list x.cps n #[])
  have e1 : (timesS x n).length = (timesS x n).cps.toList.length := by simp [Str.length]
  rw [e1]
  show ((List.replicate n x.cps).foldl (· ++ ·) #[]).toList.length = _
  rw [h]
  simp [Str.length]
theorem op_mulS {X : Cx} : OpR X (binaryOp .Mult) rMulS := by
  intro pins s σ H x y v u Q I rx ry h
  obtain ⟨z, n, rfl, rfl, h1, h2, h3, h4, q⟩ := h
  obtain ⟨t, rfl⟩ := rx
  obtain ⟨t', rfl⟩ := ry
  have hp : z.length * n.toNat ≤ 1000000 := by
    have a : z.length * n.toNat ≤ 100 * 10000 := Nat.mul_le_mul h4 (by omega)
    omega
  have e1 : ¬ n < 1 := by omega
  have e2 : (n == 1 || z.length == 0) = false := by
    rw [Bool.or_eq_false_iff]
    exact ⟨beq_eq_false_iff_ne.mpr (by omega), beq_eq_false_iff_ne.mpr (by omega)⟩
  refine PySem.P.mul_str ?_ (fun _ _ => ?_) (fun _ _ => ?_) ?_
  · rw [Bool.or_eq_false_iff]
    exact ⟨decide_eq_false (by omega), decide_eq_false (by omega)⟩
  · have a : (2 ^ 63 - 1 : Int) / n ≥ 100 := by
      rw [ge_iff_le, Int.le_ediv_iff_mul_le (by omega)]
      omega
    omega
  · exact decide_eq_false (by
      have a : sizeLine ≥ 1000000 := by decide
      omega)
  · rw [if_neg e1, if_neg (by rw [e2]; exact Bool.false_ne_true)]
    refine ⟨?_, .str (timesS z n.toNat), H, I.tok _, ⟨_, rfl⟩, q⟩
    have e := times_len z n.toNat
    have a : sizeLine ≥ 1000000 := by decide
    rw [Nat.mul_comm] at hp
    show (timesS z n.toNat).length ≤ sizeLine
    omega
/-- data whose repr can be taken -/
structure Good (d : PyData) : Prop where
  sh : d.showable = true
  dp : d.depth ≤ 60
  sz : d.shown.length ≤ sizeLine
def oddA : List PyData := [.str "cons", .str "", .str "a b", .tuple [], .tuple [.int 0], .tuple [.int 1, .int 0, .int 1, .int 0, .int 3], .int 0, .int 7, .int (-1), .int ((10 : Int) ^ (39 : Int).toNat), .none, .bool true, .list [.int 0], .dict [(.str "a", .int 0)], .tuple [.str "f", .tuple []]]
def oddC : List PyData := [.tuple [.str "some", .tuple [.tuple [.tuple [.str "cons", .tuple [.int 0, .int 0]]]]], .list [.str "x", .list [.str "y"]]]
def bigX : PyData := .str (timesS "x" (2000 : Int).toNat)
def oddB : List PyData := [.tuple [.str "some", .tuple [.tuple [.tuple [.str "cons", .tuple [.int 0, .int 0]]]]], .list [.str "x", .list [.str "y"]], bigX]
theorem oddB_eq : oddB = oddC ++ [bigX] := rfl
theorem lenA : oddA.length = 15 := rfl
theorem lenB : oddB.length = 3 := rfl
theorem good_of {d : PyData} (h : (d.showable && decide (d.depth ≤ 60) && decide (d.shown.length ≤ 10000)) = true) : Good d := by
  rw [Bool.and_eq_true, Bool.and_eq_true] at h
  exact ⟨h.1.1, of_decide_eq_true h.1.2, Nat.le_trans (of_decide_eq_true h.2) (by decide)⟩
theorem good_str {x : Str} (hc : ∀ c ∈ x.cps.toList, c < 16 ^ 8) (hl : x.length ≤ 100000) : Good (.str x) := by
  refine ⟨by simp only [PyData.showable], by simp only [PyData.depth]; exact Nat.zero_le _, ?_⟩
  simp only [PyData.shown]
  have h1 := StrLaws.reprText_len x hc
  have h4 : sizeLine ≥ 2000000 := by decide
  omega
theorem good_times {x : Str} {n : Nat} (hc : ∀ c ∈ x.cps.toList, c < 16 ^ 8) (hl : n * x.length ≤ 100000) : Good (.str (timesS x n)) := by
  refine good_str (fun c h => ?_) (by rw [times_len]; exact hl)
  have e := times_list x.cps n #[]
  have h' : c ∈ ((List.replicate n x.cps).foldl (· ++ ·) #[]).toList := h
  rw [e] at h'
  simp only [List.nil_append, List.mem_flatten, List.mem_replicate] at h'
  obtain ⟨l, ⟨_, rfl⟩, hm⟩ := h'
  exact hc c hm
theorem good_x : Good bigX := by
  unfold bigX
  refine good_times (fun c h => ?_) ?_
  · have ex : ("x" : Str).cps.toList = [120] := by decide +kernel
    rw [ex] at h
    rw [List.mem_singleton.mp h]
    decide
  · have e : ("x" : Str).length = 1 := by decide +kernel
    rw [e, show (2000 : Int).toNat = 2000 from rfl]
    decide
theorem good_odd : ∀ d, d ∈ oddA ++ oddB → Good d := by
  have kA : oddA.all (fun d => d.showable && decide (d.depth ≤ 60) && decide (d.shown.length ≤ 10000)) = true := by decide +kernel
  have kC : oddC.all (fun d => d.showable && decide (d.depth ≤ 60) && decide (d.shown.length ≤ 10000)) = true := by decide +kernel
  intro d hd
  rcases List.mem_append.mp hd with hd | hd
  · exact good_of (List.all_eq_true.mp kA d hd)
  · rw [oddB_eq] at hd
    rcases List.mem_append.mp hd with hd | hd
    · exact good_of (List.all_eq_true.mp kC d hd)
    · rw [List.mem_singleton.mp hd]
      exact good_x
section
variable {K : PySem.W.Frag} {S : Addr → Prop} {σ : L2.St}
theorem evp_neg {i : Int} : EvP K S (tUn (rU fun i => .int (-i)) (tC (.int i))) σ (.int (-i)) := fun H1 _ Q q => ⟨i, rfl, q _ _ (Same.refl _) (.int _)⟩
theorem evp_pow {i j : Int} (h : CPow i j) : EvP K S (tOp (rI CPow fun i j => .int (i ^ j.toNat)) (tC (.int i)) (tC (.int j))) σ (.int (i ^ j.toNat)) := fun H1 _ Q q => ⟨i, j, rfl, rfl, h, q _ _ (Same.refl _) (.int _)⟩
theorem evp_big : EvP K S (tOp rMulS (tC (.str "x")) (tC (.int 2000))) σ bigX := fun H1 _ Q q => ⟨"x", 2000, rfl, rfl, by decide, by decide, by decide +kernel, by decide +kernel, q (.str (timesS "x" (2000 : Int).toNat)) _ (Same.refl _) (by unfold bigX; exact .str _)⟩
theorem evp_mulS {z : Str} {n : Int} (h : 2 ≤ n ∧ n ≤ 10000 ∧ 1 ≤ z.length ∧ z.length ≤ 100) : EvP K S (tOp rMulS (tC (.str z)) (tC (.int n))) σ (.str (timesS z n.toNat)) := fun H1 _ Q q => ⟨z, n, rfl, rfl, h.1, h.2.1, h.2.2.1, h.2.2.2, q _ _ (Same.refl _) (.str _)⟩
end
section
variable {P : Program} {w : World} {K : PySem.W.Frag} {mg : Str → Option Value} {base : Heap}
def spOdd (K : PySem.W.Frag) : Sp := fun vs H Q _ => ∃ (p l : Addr) (n : Nat) (S : Addr → Prop), vs = [.ref p] ∧ Deck H p l n ∧ n < 1000000 ∧ S p ∧ S l ∧ Taken H S ∧ ∀ H' v d, Deck H' p l (n + 1) → But p l H H' → Dt K (Hd S H') v d → Good d → Q v H'
theorem Deck.new {H : Hp} {p l q : Addr} {n : Nat} (d : Deck H p l n) (nq : H q = none) : q ≠ p ∧ q ≠ l := by
  obtain ⟨⟨m, cs, h1, h2, _⟩, _⟩ := d
  exact ⟨(ne_of_none h1 nq).symm, (ne_of_none h2 nq).symm⟩
theorem ok_odd {f : Addr} {fd : FuncData} (F : L2.Fun K "_law_odd" "_law_odd" s_odd f fd) (D_pick : Df P w K mg base 2 "_law_pick" ["_law_deck_here", "_law_items"] (spPick K)) :
    Fg P w K mg base 3 f fd ["_law_deck_here"] (spOdd K) := by
  refine okg F sc_odd (fun vs H Q h => ?_) (fun cdv A outer s H vs Q hr h => ?_)
  · obtain ⟨p, l, n, S, rfl, _⟩ := h
    rfl
  · obtain ⟨p, l, n, S, rfl, hD, hn, sp, sl, hT, q⟩ := h
    refine ⟨_, (pss_cons (ps_set (i := 1) sc_odd.nd rfl (Or.inl rfl) (pe_lst (pa_cons pe_str (pa_cons pe_str (pa_cons pe_str (pa_cons (pe_tup pa_nil) (pa_cons (pe_tup (pa_cons pe_int pa_nil)) (pa_cons (pe_tup (pa_cons pe_int (pa_cons pe_int (pa_cons pe_int (pa_cons pe_int (pa_cons pe_int pa_nil)))))) (pa_cons pe_int (pa_cons pe_int (pa_cons (pe_un un_neg pe_int) (pa_cons (pe_op op_pow pe_int pe_int) (pa_cons pe_non (pa_cons pe_bl (pa_cons (pe_lst (pa_cons pe_int pa_nil)) (pa_cons (pe_disp (pps_cons pe_str pe_int pps_nil) (by rfl) (by rfl) (fun z => by cases z) (by decide)) (pa_cons (pe_tup (pa_cons pe_str (pa_cons (pe_tup pa_nil) pa_nil))) pa_nil))))))))))))))))) (pss_one (ps_ret (dcall D_pick (hr.mono (by decide)) (by rfl) (pa_cons (pv 0) (pa_cons (pe_op op_cat (pv 1) (pe_lst (pa_cons (pe_tup (pa_cons pe_str (pa_cons (pe_tup (pa_cons (pe_tup (pa_cons (pe_tup (pa_cons pe_str (pa_cons (pe_tup (pa_cons pe_int (pa_cons pe_int pa_nil))) pa_nil))) pa_nil)) pa_nil)) pa_nil))) (pa_cons (pe_lst (pa_cons pe_str (pa_cons (pe_lst (pa_cons pe_str pa_nil)) pa_nil))) (pa_cons (pe_op op_mulS pe_str pe_int) pa_nil))))) pa_nil)))))), ?_⟩
    have A1 : ∀ σ, EvTs K S (tCons (tC (.str "cons")) (tCons (tC (.str "")) (tCons (tC (.str "a b")) (tCons (tTup tNil) (tCons (tTup (tCons (tC (.int 0)) tNil)) (tCons (tTup (tCons (tC (.int 1)) (tCons (tC (.int 0)) (tCons (tC (.int 1)) (tCons (tC (.int 0)) (tCons (tC (.int 3)) tNil)))))) (tCons (tC (.int 0)) (tCons (tC (.int 7))
        (tCons (tUn (rU fun i => .int (-i)) (tC (.int 1))) (tCons (tOp (rI CPow fun i j => .int (i ^ j.toNat)) (tC (.int 10)) (tC (.int 39))) (tCons (tC .non) (tCons (tC (.bl true)) (tCons (tLst (tCons (tC (.int 0)) tNil)) (tCons (tDisp [(tC (.str "a"), tC (.int 0))]) (tCons (tTup (tCons (tC (.str "f")) (tCons (tTup tNil) tNil))) tNil))))))))))))))) σ oddA := fun σ =>
      evts_cons evp_str.t (evts_cons evp_str.t (evts_cons evp_str.t (evts_cons (evp_tup evps_nil (by decide)).t (evts_cons (evp_tup (evps_cons evp_int evps_nil) (by decide)).t (evts_cons (evp_tup (evps_cons evp_int (evps_cons evp_int (evps_cons evp_int (evps_cons evp_int (evps_cons evp_int evps_nil))))) (by decide)).t (evts_cons evp_int.t (evts_cons evp_int.t
        (evts_cons evp_neg.t (evts_cons (evp_pow (by show (0 : Int) ≤ 39 ∧ (39 : Int) ≤ 1000000 ∧ (10 : Int).natAbs < 2 ^ 64; decide)).t (evts_cons evp_non.t (evts_cons evp_bl.t (evts_cons (evp_lst (evps_cons evp_int evps_nil) (by decide)).t (evts_cons evt_dict1 (evts_cons (evp_tup (evps_cons evp_str (evps_cons (evp_tup evps_nil (by decide)) evps_nil)) (by decide)).t evts_nil))))))))))))))
    have B1 : ∀ σ, EvTs K S (tCons (tTup (tCons (tC (.str "some")) (tCons (tTup (tCons (tTup (tCons (tTup (tCons (tC (.str "cons")) (tCons (tTup (tCons (tC (.int 0)) (tCons (tC (.int 0)) tNil))) tNil))) tNil)) tNil)) tNil))) (tCons (tLst (tCons (tC (.str "x")) (tCons (tLst (tCons (tC (.str "y")) tNil)) tNil))) (tCons (tOp rMulS (tC (.str "x")) (tC (.int 2000))) tNil))) σ oddB := fun σ =>
      evts_cons (evp_tup (evps_cons evp_str (evps_cons (evp_tup (evps_cons (evp_tup (evps_cons (evp_tup (evps_cons evp_str (evps_cons (evp_tup (evps_cons evp_int (evps_cons evp_int evps_nil)) (by decide)) evps_nil)) (by decide)) evps_nil) (by decide)) evps_nil) (by decide)) evps_nil)) (by decide)).t
        (evts_cons (evp_lst (evps_cons evp_str (evps_cons (evp_lst (evps_cons evp_str evps_nil) (by decide)) evps_nil)) (by decide)).t (evts_cons evp_big.t evts_nil))
    -- some = [..]
    refine rd_set (rd_lst (A1 _ H hT _ fun vs1 H1 s1 h1 => ⟨by rw [h1.len, lenA]; exact szi (by decide), fun a na => ?_⟩))
    have s2 : Same H1 (upd H1 a (.lst vs1)) := same_upd na
    have ea : (upd H1 a (.lst vs1)) a = some (.lst vs1) := upd_same
    have t2 : Taken (upd H1 a (.lst vs1)) S := (hT.same s1).same s2
    generalize upd H1 a (.lst vs1) = H2 at s2 ea t2 ⊢
    -- pick(deck, some + [..])
    refine rd_ret (rd_call (rd_cons (rd_var (v := .ref p) rfl (rd_cons (rd_op (rd_var (v := .ref a) rfl (rd_lst (B1 _ H2 t2 _ fun vs2 H3 s3 h3 => ⟨by rw [h3.len, lenB]; exact szi (by decide), fun b nb => ?_⟩))))))))
    have s4 : Same H3 (upd H3 b (.lst vs2)) := same_upd nb
    have eb : (upd H3 b (.lst vs2)) b = some (.lst vs2) := upd_same
    have t4 : Taken (upd H3 b (.lst vs2)) S := (t2.same s3).same s4
    have ea4 := s4 _ _ (s3 _ _ ea)
    generalize upd H3 b (.lst vs2) = H4 at s4 eb t4 ea4 ⊢
    refine ⟨a, b, vs1, vs2, rfl, rfl, ea4, eb, by rw [h1.len, h3.len, lenA, lenB]; exact szi (by decide), fun c nc => ?_⟩
    have s5 : Same H4 (upd H4 c (.lst (vs1 ++ vs2))) := same_upd nc
    have ec : (upd H4 c (.lst (vs1 ++ vs2))) c = some (.lst (vs1 ++ vs2)) := upd_same
    obtain ⟨n1, n2⟩ := ((((hD.same s1).same s2).same s3).same s4).new nc
    generalize upd H4 c (.lst (vs1 ++ vs2)) = H5 at s5 ec ⊢
    have hs : Same H H5 := s1.trans (s2.trans (s3.trans (s4.trans s5)))
    have hall : DtAll K (Hd S H5) (vs1 ++ vs2) (oddA ++ oddB) := (h1.same (hdS (s2.trans (s3.trans (s4.trans s5))))).append (h3.same (hdS (s4.trans s5)))
    refine ⟨p, l, n, c, vs1 ++ vs2, rfl, hD.same hs, hn, sq ec, n1, n2, by rw [hall.len, List.length_append, lenA, lenB]; decide, by rw [hall.len, List.length_append, lenA, lenB]; decide, fun H' v hD' hB hv => ?_⟩
    obtain ⟨d, hd, hdt⟩ := hall.mem hv
    exact q H' v d hD' ((But.of hs).trans hB) (hdt.same (hB.hd sp sl)) (good_odd d hd)
end
end K86

set_option Elab.async false
set_option linter.all false
set_option maxRecDepth 100000
set_option maxHeartbeats 4000000
/-! EX: the classes of roundcalls.errors by their numbers, their __init__, the rules that make and ask them. -/
namespace K86
open PySem PySem.Spec PyProof.Rows L2 GG DD KX
def names : List Str := ["InvalidText", "InvalidCommand", "NoPath", "UnknownName", "UnknownTag", "WrongCount", "WrongSort", "WrongPlace", "WrongArguments", "NoCertificate", "NoRuns", "NotPending", "NotFinished", "NotPlain", "NotSimple", "NoMaker", "NameTaken", "UnknownFunction", "UnknownItem", "RoundCallsError"]
def fields : List (Option Str) := [none, none, some "path", some "path", some "path", some "path", some "path", some "path", some "count", some "name", some "name", some "call", none, some "name", some "name", some "name", some "name", some "name", some "name", none]

/-! ### an __init__ of the text -/
section
variable {P : Program} {w : World} {K : PySem.W.Frag} {mg : Str → Option Value} {base : Heap}
theorem init_VE {nB newId iB initId : String} {tail : List Value} {fI C0 : Addr} {fd : FuncData} {st : Stmt} {qual f : Str} {p1 p2 p3 p4 p5 p6 p7 p8 p9 p10 : Pos} (W : Ways nB newId iB initId tail) (F : L2.Fun K "__init__" qual st fI fd) (S : FnScope ["self", f] ["self", f] (defScope st))
    (hb : defBody st = [.Expr (.Call (.Attribute (.Name "RoundCallsError" p1) "__init__" p2) [.Name "self" p3, .Name f p4] [] p5) p6, .Assign [.Attribute (.Name "self" p7) f p8] (.Name f p9) p10])
    (hx : (defScope st).names.lookup ("RoundCallsError" : Str) = some .globalImplicit) (hs : (defScope st).names.lookup ("self" : Str) = some .local) (hf : (defScope st).names.lookup f = some .local) (hd : (f == ("__debug__" : Str)) = false) (hcd : (f == ("__classdict__" : Str)) = false)
    (how : (mg "RoundCallsError" = some (.ref C0) ∧ PySem.W.specialIn K (.ref C0) "__getattribute__" = some (some (.builtin "type.__getattribute__")) ∧ PySem.W.readsIn K C0 (.type "type") = true ∧ PySem.W.findCls K (.ref C0) (.type "type") "__init__" = some (.val (.builtin initId))))
    (hc : ∀ env : Env, ∃ pl : Sem Bool, eval (.Call (.Attribute (.Name "RoundCallsError" p1) "__init__" p2) [.Name "self" p3, .Name f p4] [] p5) env = (do
      let ov ← eval (.Name "RoundCallsError" p1) env
      standAt p2.atName
      let (g, first) ← holding [ov] (getMethod ov "__init__" pl)
      callWith p5 g first (backTo p5 (starEach [.Name "self" p3, .Name f p4] env)) (backToKw p5 (keywordEach [] env))))
    (hdd : PySem.W.handedIn (.builtin initId) = true) : FnOk P w K mg base CX0 1 fI fd ["self", f] (spI K newId tail f) := by
  refine F.ok S (fun vs H Q E h => ?_) (fun cdv A outer s H vs Q E hr h => ?_)
  · obtain ⟨a, C, v, rfl, _⟩ := h
    rfl
  · obtain ⟨a, C, v, rfl, T, hno, ha, q⟩ := h
    have q2 : ∀ (sg : L2.St), sg = [some (.ref a), some v] → tPut K newId tail f (tVar 0) (tVar 1) { nx := fun _ H' => Q .non H', rt := Q } sg H := fun sg e => by
      subst e
      exact ⟨v, rfl, .ref a, rfl, a, C, rfl, T, hno, ha, fun dx n ne => q dx n ne⟩
    rw [hb]
    obtain ⟨pl, hc⟩ := hc (cxOf CX0 P w K mg base ["self", f] qual (defScope st) fI cdv A outer s H E).nox.env
    obtain ⟨hm, h1, h2, h3⟩ := how
    refine ⟨_, pss_cons (ps_expr (pe_bi (pl := pl) (hc := hc) W hx hm h1 h2 h3 hdd (pa_cons (pv 0 rfl (.inl hs)) (pa_cons (pv 1 rfl (.inl hf) hd hcd) pa_nil)))) (pss_one (ps_put W (pv 0 rfl (.inl hs)) (pv 1 rfl (.inl hf) hd hcd))), ?_⟩
    exact ⟨.ref a, rfl, v, rfl, a, C, [v], rfl, (by show 1 ≤ 1000; decide), T, ha, q2 _ rfl⟩
theorem init_KE {nB newId iB initId : String} {tail : List Value} {fI C0 : Addr} {fd : FuncData} {st : Stmt} {qual f : Str} {p1 p2 p3 p4 p5 p6 p7 p8 p9 p10 : Pos} (W : Ways nB newId iB initId tail) (F : L2.Fun K "__init__" qual st fI fd) (S : FnScope ["self", f] ["self", f] (defScope st))
    (hb : defBody st = [.Expr (.Call (.Attribute (.Name "KeyError" p1) "__init__" p2) [.Name "self" p3, .Name f p4] [] p5) p6, .Assign [.Attribute (.Name "self" p7) f p8] (.Name f p9) p10])
    (hx : (defScope st).names.lookup ("KeyError" : Str) = some .globalImplicit) (hs : (defScope st).names.lookup ("self" : Str) = some .local) (hf : (defScope st).names.lookup f = some .local) (hd : (f == ("__debug__" : Str)) = false) (hcd : (f == ("__classdict__" : Str)) = false)
    (how : mg "KeyError" = none ∧ ∃ T : String, bootBuiltins "KeyError" = some (.type T) ∧ typeOf (.type T) = pure (.type "type") ∧ Manifest.isStub T = false ∧ PySem.W.findCls K (.type T) (.type "type") "__init__" = some (.val (.builtin initId)))
    (hc : ∀ env : Env, ∃ pl : Sem Bool, eval (.Call (.Attribute (.Name "KeyError" p1) "__init__" p2) [.Name "self" p3, .Name f p4] [] p5) env = (do
      let ov ← eval (.Name "KeyError" p1) env
      standAt p2.atName
      let (g, first) ← holding [ov] (getMethod ov "__init__" pl)
      callWith p5 g first (backTo p5 (starEach [.Name "self" p3, .Name f p4] env)) (backToKw p5 (keywordEach [] env))))
    (hdd : PySem.W.handedIn (.builtin initId) = true) : FnOk P w K mg base CX0 1 fI fd ["self", f] (spI K newId tail f) := by
  refine F.ok S (fun vs H Q E h => ?_) (fun cdv A outer s H vs Q E hr h => ?_)
  · obtain ⟨a, C, v, rfl, _⟩ := h
    rfl
  · obtain ⟨a, C, v, rfl, T, hno, ha, q⟩ := h
    have q2 : ∀ (sg : L2.St), sg = [some (.ref a), some v] → tPut K newId tail f (tVar 0) (tVar 1) { nx := fun _ H' => Q .non H', rt := Q } sg H := fun sg e => by
      subst e
      exact ⟨v, rfl, .ref a, rfl, a, C, rfl, T, hno, ha, fun dx n ne => q dx n ne⟩
    rw [hb]
    obtain ⟨pl, hc⟩ := hc (cxOf CX0 P w K mg base ["self", f] qual (defScope st) fI cdv A outer s H E).nox.env
    obtain ⟨hm, TT, h0, h1, h2, h3⟩ := how
    refine ⟨_, pss_cons (ps_expr (pe_biT (pl := pl) (hc := hc) W hx hm h0 h1 h2 h3 hdd (pa_cons (pv 0 rfl (.inl hs)) (pa_cons (pv 1 rfl (.inl hf) hd hcd) pa_nil)))) (pss_one (ps_put W (pv 0 rfl (.inl hs)) (pv 1 rfl (.inl hf) hd hcd))), ?_⟩
    exact ⟨.ref a, rfl, v, rfl, a, C, [v], rfl, (by show 1 ≤ 1000; decide), T, ha, q2 _ rfl⟩

/-! ### the classes -/
structure C1 (P : Program) (w : World) (K : PySem.W.Frag) (mg : Str → Option Value) (base : Heap) (C : Addr) (fo : Option Str) : Prop where
  ex : ∃ (nB newId iB initId : String) (tail : List Value), Ways nB newId iB initId tail ∧ Xc K newId tail C ∧
    (match fo with
    | none => PySem.W.findIn K (.ref C) "__init__" = some (some (.builtin initId))
    | some f => ∃ (fI : Addr) (fd : FuncData), PySem.W.findIn K (.ref C) "__init__" = some (some (.ref fI)) ∧ PySem.W.typeIn K (.ref fI) = some (.type "function") ∧ PySem.W.findIn K (.ref C) f = some none ∧ FnOk P w K mg base CX0 1 fI fd ["self", f] (spI K newId tail f) ∧
        (∀ (s : Shared) (a u : Value), BindsTo s fd ⟨[a, u], []⟩ [("self", a), (f, u)]) ∧ ∀ (s : Shared) (a u : Value), BindsTo s fd ⟨[a], [(f, u)]⟩ [("self", a), (f, u)])
structure Cs (P : Program) (w : World) (K : PySem.W.Frag) (mg : Str → Option Value) (base : Heap) (C : Nat → Addr) : Prop where
  one : ∀ i fo, fields[i]? = some fo → C1 P w K mg base (C i) fo
  nm : ∀ i n, names[i]? = some n → mg n = some (.ref (C i))
  cr : ClsRead K
  kinds : ∀ i j, i < 20 → j < 20 → PySem.W.kitOne K (.ref (C i)) (.ref (C j)) = some (decide (i = j ∨ (j = 19 ∧ i < 17)))
  isV : ∀ i, i < 20 → PySem.W.kitOne K (.ref (C i)) (.type "ValueError") = some (decide (i < 17 ∨ i = 19))
  isK : ∀ i, i < 20 → PySem.W.kitOne K (.ref (C i)) (.type "KeyError") = some (decide (i = 17 ∨ i = 18))
/-- an exception of the i-th class stands at e; it carries x -/
def ExcAt (C : Nat → Addr) (x : V) (H : Hp) (e : Addr) (i : Nat) : Prop := match fields[i]? with
  | some (some f) => ∃ d, H e = some (exo e (C i) (some d)) ∧ H d = some (exd d [(f, x)])
  | some none => H e = some (exo e (C i) none)
  | none => False
theorem ExcAt.same {C : Nat → Addr} {x : V} {H H' : Hp} {e : Addr} {i : Nat} (s : Same H H') (h : ExcAt C x H e i) : ExcAt C x H' e i := by
  unfold ExcAt at *
  split at h
  · obtain ⟨d, h1, h2⟩ := h
    exact ⟨d, s _ _ h1, s _ _ h2⟩
  · exact s _ _ h
  · exact h
theorem ExcAt.lt {C : Nat → Addr} {x : V} {H : Hp} {e : Addr} {i : Nat} (h : ExcAt C x H e i) : i < 20 := by
  unfold ExcAt at h
  split at h
  · rename_i f hf
    exact (List.getElem?_eq_some_iff.mp hf).1
  · rename_i hf
    exact (List.getElem?_eq_some_iff.mp hf).1
  · exact h.elim
section
variable {X : Cx} {C : Nat → Addr} {nm f : Str} {p pos : Pos} {e : Expr} {ta : TA} {tx : TE} {np : Pos}
theorem mk0 (T : Cs X.prog X.w X.K X.mg X.base C) (i : Nat) (hn : names[i]? = some nm) (hf : fields[i]? = some none) (hg : Gl X nm) (hdb : (nm == ("__debug__" : Str)) = false := by decide) : PE X (.Call (.Name nm p) [] [] pos) (tMk0 (C i)) := by
  obtain ⟨nB, newId, iB, initId, tail, W, Tx, ini⟩ := (T.one i none hf).ex
  exact pe_mk0 W Tx ini hg (T.nm i nm hn) hdb
theorem mk1 (T : Cs X.prog X.w X.K X.mg X.base C) (i : Nat) (hn : names[i]? = some nm) (hf : fields[i]? = some (some f)) (hg : Gl X nm) (hr : Room 2 X.A) (ha : PA X [e] ta) (hdb : (nm == ("__debug__" : Str)) = false := by decide)
    (he : starEach [e] X.env = (false, eval e X.env) :: starEach [] X.env := by rfl) (hpl : (backTo pos (starEach [] X.env)).any (·.1) = false := by rfl) : PE X (.Call (.Name nm p) [e] [] pos) (tMk1 (C i) f ta) := by
  obtain ⟨nB, newId, iB, initId, tail, W, Tx, fI, fd, iC, tI, nF, F, b1, b2⟩ := (T.one i (some f) hf).ex
  exact pe_mk1 W Tx iC tI nF F hr b1 hg (T.nm i nm hn) ha hdb he hpl
theorem mk1k (T : Cs X.prog X.w X.K X.mg X.base C) (i : Nat) (hn : names[i]? = some nm) (hf : fields[i]? = some (some f)) (hg : Gl X nm) (hr : Room 2 X.A) (he : PE X e tx) (hdb : (nm == ("__debug__" : Str)) = false := by decide) :
    PE X (.Call (.Name nm p) [] [⟨some f, e, np⟩] pos) (tMk1 (C i) f (tCons tx tNil)) := by
  obtain ⟨nB, newId, iB, initId, tail, W, Tx, fI, fd, iC, tI, nF, F, b1, b2⟩ := (T.one i (some f) hf).ex
  exact pe_mk1k W Tx iC tI nF F hr b2 hg (T.nm i nm hn) he hdb
theorem clsv (T : Cs X.prog X.w X.K X.mg X.base C) (i : Nat) (hn : names[i]? = some nm) (hg : Gl X nm) (hd : (nm == ("__debug__" : Str)) = false := by decide) : PE X (.Name nm pos) (tC (.ref (C i))) :=
  pe_glob hg (T.nm i nm hn) rfl (hd := hd)
theorem isx_of (T : Cs X.prog X.w X.K X.mg X.base C) {x : V} {H : Hp} {a : Addr} {i : Nat} (h : ExcAt C x H a i) : IsX X.K H a (C i) := by
  have key : ∀ fo, fields[i]? = some fo → ∃ newId tail, Xc X.K newId tail (C i) := fun fo hf => by
    obtain ⟨nB, newId, iB, initId, tail, W, Tx, ini⟩ := (T.one i fo hf).ex
    exact ⟨newId, tail, Tx⟩
  unfold ExcAt at h
  split at h
  · rename_i f hf
    obtain ⟨d, h1, h2⟩ := h
    exact ⟨key _ hf, .inr ⟨d, _, h1, h2⟩⟩
  · rename_i hf
    exact ⟨key _ hf, .inl h⟩
  · exact h.elim
end

/-! ### lists of numbered things -/
section
variable {It : Hp → V → Nat → Prop} {σ : L2.St} {H : Hp}
inductive All2 (It : Hp → V → Nat → Prop) (H : Hp) : List V → List Nat → Prop
  | nil : All2 It H [] []
  | cons {v : V} {vs : List V} {i : Nat} {is : List Nat} : It H v i → All2 It H vs is → All2 It H (v :: vs) (i :: is)
theorem All2.len : ∀ {vs : List V} {is : List Nat}, All2 It H vs is → vs.length = is.length
  | _, _, .nil => rfl
  | _, _, .cons _ h => by rw [List.length_cons, List.length_cons, All2.len h]
theorem All2.same (st : ∀ H H' v i, Same H H' → It H v i → It H' v i) {H' : Hp} (s : Same H H') : ∀ {vs : List V} {is : List Nat}, All2 It H vs is → All2 It H' vs is
  | _, _, .nil => .nil
  | _, _, .cons h t => .cons (st _ _ _ _ s h) (t.same st s)
theorem All2.append : ∀ {vs us : List V} {is js : List Nat}, All2 It H vs is → All2 It H us js → All2 It H (vs ++ us) (is ++ js)
  | _, _, _, _, .nil, h => h
  | _, _, _, _, .cons h t, k => .cons h (t.append k)
theorem All2.take (n : Nat) : ∀ {vs : List V} {is : List Nat}, All2 It H vs is → All2 It H (vs.take n) (is.take n) := by
  induction n with
  | zero => intro vs is h; exact .nil
  | succ n ih =>
    intro vs is h
    cases h with
    | nil => exact .nil
    | cons h t => exact .cons h (ih t)
theorem All2.drop (n : Nat) : ∀ {vs : List V} {is : List Nat}, All2 It H vs is → All2 It H (vs.drop n) (is.drop n) := by
  induction n with
  | zero => intro vs is h; exact h
  | succ n ih =>
    intro vs is h
    cases h with
    | nil => exact .nil
    | cons h t => exact ih t
theorem All2.get : ∀ {vs : List V} {is : List Nat} {k : Nat} {v : V}, All2 It H vs is → vs[k]? = some v → ∃ i, is[k]? = some i ∧ It H v i
  | _, _, _, _, .nil, e => by simp at e
  | _, _, 0, _, .cons h _, e => by
    simp at e
    subst e
    exact ⟨_, rfl, h⟩
  | _, _, k + 1, v, .cons _ t, e => by
    obtain ⟨i, h1, h2⟩ := t.get (k := k) (v := v) (by simpa using e)
    exact ⟨i, by simpa using h1, h2⟩
/-- an expression gives such a thing; what stood stands -/
def EvM (It : Hp → V → Nat → Prop) (te : TE) (σ : L2.St) (R : Hp → Prop) (i : Nat) : Prop := ∀ H1, R H1 → ∀ Q : VK, (∀ v H2, Same H1 H2 → It H2 v i → Q v H2) → te σ H1 Q
def EvMs (It : Hp → V → Nat → Prop) (ta : TA) (σ : L2.St) (R : Hp → Prop) (is : List Nat) : Prop := ∀ H1, R H1 → ∀ Q : List V → Hp → Prop, (∀ vs H2, Same H1 H2 → All2 It H2 vs is → Q vs H2) → ta σ H1 Q
theorem evm_nil {R : Hp → Prop} : EvMs It tNil σ R [] := fun H1 _ Q q => q [] H1 (Same.refl _) .nil
theorem evm_cons {R : Hp → Prop} (st : ∀ H H' v i, Same H H' → It H v i → It H' v i) (sr : ∀ H H', Same H H' → R H → R H') {te : TE} {ta : TA} {i : Nat} {is : List Nat} (h : EvM It te σ R i) (hs : EvMs It ta σ R is) : EvMs It (tCons te ta) σ R (i :: is) := fun H1 r Q q =>
  h H1 r _ fun v H2 s2 hv => hs H2 (sr _ _ s2 r) _ fun vs H3 s3 hvs => q (v :: vs) H3 (s2.trans s3) (.cons (st _ _ _ _ s3 hv) hvs)
/-- a list of them at a -/
def LAt (It : Hp → V → Nat → Prop) (H : Hp) (a : Addr) (is : List Nat) : Prop := ∃ vs, H a = some (.lst vs) ∧ All2 It H vs is
theorem LAt.same (st : ∀ H H' v i, Same H H' → It H v i → It H' v i) {H' : Hp} {a : Addr} {is : List Nat} (s : Same H H') (h : LAt It H a is) : LAt It H' a is := by
  obtain ⟨vs, h1, h2⟩ := h
  exact ⟨vs, s _ _ h1, h2.same st s⟩
/-- [..] -/
theorem m_lst {R : Hp → Prop} {ta : TA} {is : List Nat} {Q : VK} (st : ∀ H H' v i, Same H H' → It H v i → It H' v i) (h : EvMs It ta σ R is) (r : R H) (hl : is.length ≤ 1000) (q : ∀ a H2, Same H H2 → H a = none → LAt It H2 a is → Q (.ref a) H2) : tLst ta σ H Q :=
  rd_lst (h H r _ fun vs H2 s2 hvs => ⟨by rw [hvs.len]; exact szi hl, fun a na => q a _ (s2.trans (same_upd na)) (s2.free na) ⟨vs, upd_same, hvs.same st (same_upd na)⟩⟩)
/-- xs + [..], xs made already -/
theorem m_cat {R : Hp → Prop} {te : TE} {ta : TA} {is js : List Nat} {Q : VK} (st : ∀ H H' v i, Same H H' → It H v i → It H' v i) (sr : ∀ H H', Same H H' → R H → R H')
    (he : ∀ Q1 : VK, (∀ a H2, Same H H2 → LAt It H2 a is → Q1 (.ref a) H2) → te σ H Q1) (h : EvMs It ta σ R js) (r : R H) (hl : is.length + js.length ≤ 1000) (q : ∀ a H2, Same H H2 → H a = none → LAt It H2 a (is ++ js) → Q (.ref a) H2) : tOp rCat te (tLst ta) σ H Q :=
  rd_op (he _ fun a H2 s2 ha => m_lst st h (sr _ _ s2 r) (by omega) fun b H3 s3 _ hb => by
    obtain ⟨vs, h1, h2⟩ := ha
    obtain ⟨us, h3, h4⟩ := hb
    have h2' := h2.same st s3
    exact ⟨a, b, vs, us, rfl, rfl, s3 _ _ h1, h3, by rw [h2.len, h4.len]; exact szi hl, fun c nc => q c _ (s2.trans (s3.trans (same_upd nc))) (s2.free (s3.free nc)) ⟨_, upd_same, (h2'.append h4).same st (same_upd nc)⟩⟩)
theorem m_var {i : Nat} {a : Addr} {is : List Nat} (e : σ[i]? = some (some (.ref a))) (h : LAt It H a is) : ∀ Q1 : VK, (∀ a H2, Same H H2 → LAt It H2 a is → Q1 (.ref a) H2) → tVar i σ H Q1 := fun _ q => rd_var e (q a H (Same.refl _) h)
end
end
end K86

set_option Elab.async false
set_option linter.all false
set_option maxRecDepth 100000
set_option maxHeartbeats 4000000
/-! MD: _law_made, _law_named, _law_carried, _law_kinds. -/
namespace K86
open PySem PySem.Spec PyProof.Rows L2 GG DD KX
abbrev s_made : Stmt := topS 26
abbrev s_named : Stmt := topS 27
abbrev s_carried : Stmt := topS 28
abbrev s_kinds : Stmt := topS 29
theorem sc_made : FnScope ["_law_it", "_law_bare", "_law_found"] ["_law_it"] (defScope s_made) := ⟨rfl, rfl, rfl, by decide +kernel, rfl, by decide +kernel, by decide +kernel⟩
theorem sc_named : FnScope ["_law_it", "_law_found"] ["_law_it"] (defScope s_named) := ⟨rfl, rfl, rfl, by decide +kernel, rfl, by decide +kernel, by decide +kernel⟩
theorem sc_carried : FnScope ["_law_e", "_law_word"] ["_law_e", "_law_word"] (defScope s_carried) := ⟨rfl, rfl, rfl, by decide +kernel, rfl, by decide +kernel, by decide +kernel⟩
theorem sc_kinds : FnScope ["_law_e", "_law_found"] ["_law_e"] (defScope s_kinds) := ⟨rfl, rfl, rfl, by decide +kernel, rfl, by decide +kernel, by decide +kernel⟩
/-- the word beside the i-th error -/
def wordV (i : Nat) : V := match fields[i]? with
  | some (some f) => .str f
  | _ => .non
/-- a pair of the i-th error and its word -/
def ItP (C : Nat → Addr) (x : V) (H : Hp) (v : V) (i : Nat) : Prop := ∃ b e, v = .ref b ∧ H b = some (.tup [.ref e, wordV i]) ∧ ExcAt C x H e i
theorem itp_st (C : Nat → Addr) (x : V) : ∀ H H' v i, Same H H' → ItP C x H v i → ItP C x H' v i := fun H H' v i s ⟨b, e, h1, h2, h3⟩ => ⟨b, e, h1, s _ _ h2, h3.same s⟩
/-- the i-th error alone -/
def ItE (C : Nat → Addr) (x : V) (H : Hp) (v : V) (i : Nat) : Prop := ∃ e, v = .ref e ∧ ExcAt C x H e i
theorem ite_st (C : Nat → Addr) (x : V) : ∀ H H' v i, Same H H' → ItE C x H v i → ItE C x H' v i := fun H H' v i s ⟨e, h1, h2⟩ => ⟨e, h1, h2.same s⟩
abbrev RT : Hp → Prop := fun _ => True
theorem rt_st : ∀ H H' : Hp, Same H H' → RT H → RT H' := fun _ _ _ h => h
section
variable {C : Nat → Addr} {x : V} {σ : L2.St} {H : Hp} {K : PySem.W.Frag}
theorem made0 {i : Nat} (hf : fields[i]? = some none) {Q : VK} (q : ∀ e H2, Same H H2 → ExcAt C x H2 e i → Q (.ref e) H2) : tMk0 (C i) σ H Q := fun a na => q a _ (same_upd na) (by
  unfold ExcAt
  rw [hf]
  exact upd_same)
theorem same2 {a d : Addr} {o u : HO} (h1 : H a = none) (h2 : H d = none) (h3 : d ≠ a) : Same H (upd (upd H d o) a u) := fun b z e => by
  rw [upd_ne (ne_of_none e h1), upd_ne (ne_of_none e h2)]
  exact e
theorem made1 {i : Nat} {f : Str} (hf : fields[i]? = some (some f)) (e0 : σ[0]? = some (some x)) {Q : VK} (q : ∀ e H2, Same H H2 → ExcAt C x H2 e i → Q (.ref e) H2) : tMk1 (C i) f (tCons (tVar 0) tNil) σ H Q :=
  rd_cons (rd_var e0 (rd_nil ⟨x, rfl, fun a d na nd hne => q a _ (same2 na nd hne) (by
    unfold ExcAt
    rw [hf]
    exact ⟨d, upd_same, by rw [upd_ne hne]; exact upd_same⟩)⟩))
theorem evp0 {i : Nat} (hf : fields[i]? = some none) : EvM (ItP C x) (tTup (tCons (tMk0 (C i)) (tCons (tC .non) tNil))) σ RT i := fun H1 _ Q q =>
  rd_tup (rd_cons (made0 (C := C) (x := x) hf fun e H2 s2 he => rd_cons (rd_c (rd_nil ⟨by show 2 ≤ sizeLine; decide, fun b nb => q _ _ (s2.trans (same_upd nb)) ⟨b, e, rfl, by
    rw [upd_same]
    unfold wordV
    rw [hf], he.same (same_upd nb)⟩⟩))))
theorem evp1 {i : Nat} {f : Str} (hf : fields[i]? = some (some f)) (e0 : σ[0]? = some (some x)) : EvM (ItP C x) (tTup (tCons (tMk1 (C i) f (tCons (tVar 0) tNil)) (tCons (tC (.str f)) tNil))) σ RT i := fun H1 _ Q q =>
  rd_tup (rd_cons (made1 hf e0 fun e H2 s2 he => rd_cons (rd_c (rd_nil ⟨by show 2 ≤ sizeLine; decide, fun b nb => q _ _ (s2.trans (same_upd nb)) ⟨b, e, rfl, by
    rw [upd_same]
    unfold wordV
    rw [hf], he.same (same_upd nb)⟩⟩))))
theorem eve1 {i : Nat} {f : Str} (hf : fields[i]? = some (some f)) (e0 : σ[0]? = some (some x)) : EvM (ItE C x) (tMk1 (C i) f (tCons (tVar 0) tNil)) σ RT i := fun H1 _ Q q => made1 hf e0 fun e H2 s2 he => q _ _ s2 ⟨e, rfl, he⟩
theorem pcons {te : TE} {ta : TA} {i : Nat} {is : List Nat} (h : EvM (ItP C x) te σ RT i) (hs : EvMs (ItP C x) ta σ RT is) : EvMs (ItP C x) (tCons te ta) σ RT (i :: is) := evm_cons (itp_st C x) rt_st h hs
theorem econs {te : TE} {ta : TA} {i : Nat} {is : List Nat} (h : EvM (ItE C x) te σ RT i) (hs : EvMs (ItE C x) ta σ RT is) : EvMs (ItE C x) (tCons te ta) σ RT (i :: is) := evm_cons (ite_st C x) rt_st h hs
theorem pcat {te : TE} {ta : TA} {is js : List Nat} {Q : VK} (he : ∀ Q1 : VK, (∀ a H2, Same H H2 → LAt (ItP C x) H2 a is → Q1 (.ref a) H2) → te σ H Q1) (h : EvMs (ItP C x) ta σ RT js) (hl : is.length + js.length ≤ 1000)
    (q : ∀ a H2, Same H H2 → H a = none → LAt (ItP C x) H2 a (is ++ js) → Q (.ref a) H2) : tOp rCat te (tLst ta) σ H Q := m_cat (itp_st C x) rt_st he h True.intro hl q
theorem ecat {te : TE} {ta : TA} {is js : List Nat} {Q : VK} (he : ∀ Q1 : VK, (∀ a H2, Same H H2 → LAt (ItE C x) H2 a is → Q1 (.ref a) H2) → te σ H Q1) (h : EvMs (ItE C x) ta σ RT js) (hl : is.length + js.length ≤ 1000)
    (q : ∀ a H2, Same H H2 → H a = none → LAt (ItE C x) H2 a (is ++ js) → Q (.ref a) H2) : tOp rCat te (tLst ta) σ H Q := m_cat (ite_st C x) rt_st he h True.intro hl q
theorem pcat2 {te tf : TE} {is js : List Nat} {Q : VK} (he : ∀ Q1 : VK, (∀ a H2, Same H H2 → LAt (ItP C x) H2 a is → Q1 (.ref a) H2) → te σ H Q1) (hf : ∀ H1, Same H H1 → ∀ Q1 : VK, (∀ a H2, Same H1 H2 → LAt (ItP C x) H2 a js → Q1 (.ref a) H2) → tf σ H1 Q1) (hl : is.length + js.length ≤ 1000)
    (q : ∀ a H2, Same H H2 → H a = none → LAt (ItP C x) H2 a (is ++ js) → Q (.ref a) H2) : tOp rCat te tf σ H Q :=
  rd_op (he _ fun a H2 s2 ha => hf H2 s2 _ fun b H3 s3 hb => by
    obtain ⟨vs, h1, h2⟩ := ha
    obtain ⟨us, h3, h4⟩ := hb
    exact ⟨a, b, vs, us, rfl, rfl, s3 _ _ h1, h3, by rw [h2.len, h4.len]; exact szi hl, fun c nc => q c _ (s2.trans (s3.trans (same_upd nc))) (s2.free (s3.free nc)) ⟨_, upd_same, ((h2.same (itp_st C x) s3).append h4).same (itp_st C x) (same_upd nc)⟩⟩)
/-- xs[:2], xs[2:] of a list of three -/
theorem p_lo {j : Nat} {a : Addr} {is : List Nat} (e : σ[j]? = some (some (.ref a))) (h : LAt (ItP C x) H a is) (hl : is.length = 3) :
    ∀ Q1 : VK, (∀ a H2, Same H H2 → LAt (ItP C x) H2 a (is.take 2) → Q1 (.ref a) H2) → tSl (rSlL K) (tVar j) tNoPart (tPart (tC (.int 2))) σ H Q1 := fun Q1 q => by
  obtain ⟨vs, h1, h2⟩ := h
  have e3 := h2.len
  refine ⟨.ref a, e, 2, rfl, a, vs, rfl, sq h1, fun b nb => ?_⟩
  have hc : cutV vs none (some 2) = vs.take 2 := by
    unfold cutV
    rw [show HT.sIx vs.length vs.length (some 2) = min 2 vs.length from HT.sIx_nat _ _ 2, HT.sIx_none, List.drop_zero, Nat.sub_zero]
    congr 1
    omega
  rw [hc]
  exact q b _ (same_upd nb) ⟨_, upd_same, (h2.take 2).same (itp_st C x) (same_upd nb)⟩
theorem p_hi {j : Nat} {a : Addr} {is : List Nat} (e : σ[j]? = some (some (.ref a))) (h : LAt (ItP C x) H a is) (hl : is.length = 3) :
    ∀ Q1 : VK, (∀ a H2, Same H H2 → LAt (ItP C x) H2 a (is.drop 2) → Q1 (.ref a) H2) → tSl (rSlL K) (tVar j) (tPart (tC (.int 2))) tNoPart σ H Q1 := fun Q1 q => by
  obtain ⟨vs, h1, h2⟩ := h
  have e3 := h2.len
  refine ⟨.ref a, e, 2, rfl, a, vs, rfl, sq h1, fun b nb => ?_⟩
  have hc : cutV vs (some 2) none = vs.drop 2 := by
    unfold cutV
    rw [show HT.sIx vs.length 0 (some 2) = min 2 vs.length from HT.sIx_nat _ _ 2, HT.sIx_none, show min 2 vs.length = 2 by omega]
    exact List.take_of_length_le (by rw [List.length_drop]; exact Nat.le_refl _)
  rw [hc]
  exact q b _ (same_upd nb) ⟨_, upd_same, (h2.drop 2).same (itp_st C x) (same_upd nb)⟩
end
section
variable {P : Program} {w : World} {K : PySem.W.Frag} {mg : Str → Option Value} {base : Heap} {C : Nat → Addr}
def order : List Nat := [0, 1] ++ [2, 3, 4] ++ [5, 6, 7] ++ [8, 9, 10] ++ ([11] ++ [12] ++ [13, 14]) ++ [15, 16] ++ [17, 18]
def spMade (C : Nat → Addr) : Sp := fun vs H Q _ => ∃ x, vs = [x] ∧ ∀ H' a, Same H H' → H a = none → LAt (ItP C x) H' a (List.range 19) → Q (.ref a) H'
theorem ok_made {f : Addr} {fd : FuncData} (F : L2.Fun K "_law_made" "_law_made" s_made f fd) (T : Cs P w K mg base C) : Fg P w K mg base 3 f fd ["_law_it"] (spMade C) := by
  refine okg F sc_made (fun vs H Q h => ?_) (fun cdv A outer s H vs Q hr h => ?_)
  · obtain ⟨x, rfl, _⟩ := h
    rfl
  · obtain ⟨x, rfl, q⟩ := h
    refine ⟨_, (pss_cons (ps_set (i := 1) sc_made.nd rfl (Or.inl rfl) (pe_lst (pa_cons (pe_tup (pa_cons (mk0 T 0 rfl rfl (by rfl)) (pa_cons pe_non pa_nil))) (pa_cons (pe_tup (pa_cons (mk0 T 1 rfl rfl (by rfl)) (pa_cons pe_non pa_nil))) (pa_cons (pe_tup (pa_cons (mk0 T 12 rfl rfl (by rfl)) (pa_cons pe_non pa_nil))) pa_nil))))) (pss_cons (ps_set (i := 2) sc_made.nd rfl (Or.inl rfl) (pe_op op_cat (pe_slice sl_list (pv 1) po_none (po_some pe_int)) (pe_lst (pa_cons (pe_tup (pa_cons (mk1 T 2 rfl rfl (by rfl) (hr.mono (by decide)).room (pa_cons (pv 0) pa_nil)) (pa_cons pe_str pa_nil))) (pa_cons (pe_tup (pa_cons (mk1 T 3 rfl rfl (by rfl) (hr.mono (by decide)).room (pa_cons (pv 0) pa_nil)) (pa_cons pe_str pa_nil))) (pa_cons (pe_tup (pa_cons (mk1 T 4 rfl rfl (by rfl) (hr.mono (by decide)).room (pa_cons (pv 0) pa_nil)) (pa_cons pe_str pa_nil))) pa_nil)))))) (pss_cons (ps_set (i := 2) sc_made.nd rfl (Or.inl rfl) (pe_op op_cat (pv 2) (pe_lst (pa_cons (pe_tup (pa_cons (mk1 T 5 rfl rfl (by rfl) (hr.mono (by decide)).room (pa_cons (pv 0) pa_nil)) (pa_cons pe_str pa_nil))) (pa_cons (pe_tup (pa_cons (mk1 T 6 rfl rfl (by rfl) (hr.mono (by decide)).room (pa_cons (pv 0) pa_nil)) (pa_cons pe_str pa_nil))) (pa_cons (pe_tup (pa_cons (mk1 T 7 rfl rfl (by rfl) (hr.mono (by decide)).room (pa_cons (pv 0) pa_nil)) (pa_cons pe_str pa_nil))) pa_nil)))))) (pss_cons (ps_set (i := 2) sc_made.nd rfl (Or.inl rfl) (pe_op op_cat (pv 2) (pe_lst (pa_cons (pe_tup (pa_cons (mk1 T 8 rfl rfl (by rfl) (hr.mono (by decide)).room (pa_cons (pv 0) pa_nil)) (pa_cons pe_str pa_nil))) (pa_cons (pe_tup (pa_cons (mk1 T 9 rfl rfl (by rfl) (hr.mono (by decide)).room (pa_cons (pv 0) pa_nil)) (pa_cons pe_str pa_nil))) (pa_cons (pe_tup (pa_cons (mk1 T 10 rfl rfl (by rfl) (hr.mono (by decide)).room (pa_cons (pv 0) pa_nil)) (pa_cons pe_str pa_nil))) pa_nil)))))) (pss_cons (ps_set (i := 2) sc_made.nd rfl (Or.inl rfl) (pe_op op_cat (pe_op op_cat (pe_op op_cat (pv 2) (pe_lst (pa_cons (pe_tup (pa_cons (mk1 T 11 rfl rfl (by rfl) (hr.mono (by decide)).room (pa_cons (pv 0) pa_nil)) (pa_cons pe_str pa_nil))) pa_nil))) (pe_slice sl_list (pv 1) (po_some pe_int) po_none)) (pe_lst (pa_cons (pe_tup (pa_cons (mk1 T 13 rfl rfl (by rfl) (hr.mono (by decide)).room (pa_cons (pv 0) pa_nil)) (pa_cons pe_str pa_nil))) (pa_cons (pe_tup (pa_cons (mk1 T 14 rfl rfl (by rfl) (hr.mono (by decide)).room (pa_cons (pv 0) pa_nil)) (pa_cons pe_str pa_nil))) pa_nil))))) (pss_cons (ps_set (i := 2) sc_made.nd rfl (Or.inl rfl) (pe_op op_cat (pv 2) (pe_lst (pa_cons (pe_tup (pa_cons (mk1 T 15 rfl rfl (by rfl) (hr.mono (by decide)).room (pa_cons (pv 0) pa_nil)) (pa_cons pe_str pa_nil))) (pa_cons (pe_tup (pa_cons (mk1 T 16 rfl rfl (by rfl) (hr.mono (by decide)).room (pa_cons (pv 0) pa_nil)) (pa_cons pe_str pa_nil))) pa_nil))))) (pss_one (ps_ret (pe_op op_cat (pv 2) (pe_lst (pa_cons (pe_tup (pa_cons (mk1 T 17 rfl rfl (by rfl) (hr.mono (by decide)).room (pa_cons (pv 0) pa_nil)) (pa_cons pe_str pa_nil))) (pa_cons (pe_tup (pa_cons (mk1 T 18 rfl rfl (by rfl) (hr.mono (by decide)).room (pa_cons (pv 0) pa_nil)) (pa_cons pe_str pa_nil))) pa_nil)))))))))))), ?_⟩
    refine rd_set (m_lst (itp_st C x) (pcons (evp0 rfl) (pcons (evp0 rfl) (pcons (evp0 rfl) evm_nil))) True.intro (by decide) fun a H1 s1 na ha => ?_)
    refine rd_set (pcat (p_lo (K := K) rfl ha rfl) (pcons (evp1 rfl rfl) (pcons (evp1 rfl rfl) (pcons (evp1 rfl rfl) evm_nil))) (by decide) fun b H2 s2 _ hb => ?_)
    refine rd_set (pcat (m_var rfl hb) (pcons (evp1 rfl rfl) (pcons (evp1 rfl rfl) (pcons (evp1 rfl rfl) evm_nil))) (by decide) fun c H3 s3 _ hc => ?_)
    refine rd_set (pcat (m_var rfl hc) (pcons (evp1 rfl rfl) (pcons (evp1 rfl rfl) (pcons (evp1 rfl rfl) evm_nil))) (by decide) fun d H4 s4 _ hd => ?_)
    have ha4 := ((ha.same (itp_st C x) s2).same (itp_st C x) s3).same (itp_st C x) s4
    refine rd_set (pcat (is := ([0, 1] ++ [2, 3, 4] ++ [5, 6, 7] ++ [8, 9, 10]) ++ [11] ++ [12]) (fun Q1 q1 => pcat2 (fun Q2 q2 => pcat (m_var rfl hd) (pcons (evp1 rfl rfl) evm_nil) (by decide) fun e H5 s5 _ he => q2 e H5 s5 he)
      (fun H5 s5 => p_hi (K := K) rfl (ha4.same (itp_st C x) s5) rfl) (by decide) fun e H5 s5 _ he => q1 e H5 s5 he) (pcons (evp1 rfl rfl) (pcons (evp1 rfl rfl) evm_nil)) (by decide) fun e H5 s5 _ he => ?_)
    refine rd_set (pcat (m_var rfl he) (pcons (evp1 rfl rfl) (pcons (evp1 rfl rfl) evm_nil)) (by decide) fun g H6 s6 _ hg => ?_)
    refine rd_ret (pcat (m_var rfl hg) (pcons (evp1 rfl rfl) (pcons (evp1 rfl rfl) evm_nil)) (by decide) fun k H7 s7 nk hk => ?_)
    have hs : Same H H6 := s1.trans (s2.trans (s3.trans (s4.trans (s5.trans s6))))
    have e19 : List.range 19 = [0, 1, 2, 3, 4, 5, 6, 7, 8, 9, 10, 11, 12, 13, 14, 15, 16, 17, 18] := by decide
    exact q H7 k (hs.trans s7) (hs.free nk) (by rw [e19]; exact hk)
/-- the errors made by keywords, in the order of the words -/
def named : List Nat := [2, 3, 4, 5, 6, 7, 8, 9, 10, 11, 13, 14, 15, 16, 17, 18]
def spNamed (C : Nat → Addr) : Sp := fun vs H Q _ => ∃ x, vs = [x] ∧ ∀ H' a, Same H H' → H a = none → LAt (ItE C x) H' a named → Q (.ref a) H'
theorem ok_named {f : Addr} {fd : FuncData} (F : L2.Fun K "_law_named" "_law_named" s_named f fd) (T : Cs P w K mg base C) : Fg P w K mg base 3 f fd ["_law_it"] (spNamed C) := by
  refine okg F sc_named (fun vs H Q h => ?_) (fun cdv A outer s H vs Q hr h => ?_)
  · obtain ⟨x, rfl, _⟩ := h
    rfl
  · obtain ⟨x, rfl, q⟩ := h
    refine ⟨_, (pss_cons (ps_set (i := 1) sc_named.nd rfl (Or.inl rfl) (pe_lst (pa_cons (mk1k T 2 rfl rfl (by rfl) (hr.mono (by decide)).room (pv 0)) (pa_cons (mk1k T 3 rfl rfl (by rfl) (hr.mono (by decide)).room (pv 0)) (pa_cons (mk1k T 4 rfl rfl (by rfl) (hr.mono (by decide)).room (pv 0)) (pa_cons (mk1k T 5 rfl rfl (by rfl) (hr.mono (by decide)).room (pv 0)) (pa_cons (mk1k T 6 rfl rfl (by rfl) (hr.mono (by decide)).room (pv 0)) pa_nil))))))) (pss_cons (ps_set (i := 1) sc_named.nd rfl (Or.inl rfl) (pe_op op_cat (pv 1) (pe_lst (pa_cons (mk1k T 7 rfl rfl (by rfl) (hr.mono (by decide)).room (pv 0)) (pa_cons (mk1k T 8 rfl rfl (by rfl) (hr.mono (by decide)).room (pv 0)) (pa_cons (mk1k T 9 rfl rfl (by rfl) (hr.mono (by decide)).room (pv 0)) (pa_cons (mk1k T 10 rfl rfl (by rfl) (hr.mono (by decide)).room (pv 0)) pa_nil))))))) (pss_cons (ps_set (i := 1) sc_named.nd rfl (Or.inl rfl) (pe_op op_cat (pv 1) (pe_lst (pa_cons (mk1k T 11 rfl rfl (by rfl) (hr.mono (by decide)).room (pv 0)) (pa_cons (mk1k T 13 rfl rfl (by rfl) (hr.mono (by decide)).room (pv 0)) (pa_cons (mk1k T 14 rfl rfl (by rfl) (hr.mono (by decide)).room (pv 0)) (pa_cons (mk1k T 15 rfl rfl (by rfl) (hr.mono (by decide)).room (pv 0)) (pa_cons (mk1k T 16 rfl rfl (by rfl) (hr.mono (by decide)).room (pv 0)) pa_nil)))))))) (pss_one (ps_ret (pe_op op_cat (pv 1) (pe_lst (pa_cons (mk1k T 17 rfl rfl (by rfl) (hr.mono (by decide)).room (pv 0)) (pa_cons (mk1k T 18 rfl rfl (by rfl) (hr.mono (by decide)).room (pv 0)) pa_nil))))))))), ?_⟩
    refine rd_set (m_lst (ite_st C x) (econs (eve1 rfl rfl) (econs (eve1 rfl rfl) (econs (eve1 rfl rfl) (econs (eve1 rfl rfl) (econs (eve1 rfl rfl) evm_nil))))) True.intro (by decide) fun a H1 s1 na ha => ?_)
    refine rd_set (ecat (m_var rfl ha) (econs (eve1 rfl rfl) (econs (eve1 rfl rfl) (econs (eve1 rfl rfl) (econs (eve1 rfl rfl) evm_nil)))) (by decide) fun b H2 s2 _ hb => ?_)
    refine rd_set (ecat (m_var rfl hb) (econs (eve1 rfl rfl) (econs (eve1 rfl rfl) (econs (eve1 rfl rfl) (econs (eve1 rfl rfl) (econs (eve1 rfl rfl) evm_nil))))) (by decide) fun c H3 s3 _ hc => ?_)
    refine rd_ret (ecat (m_var rfl hc) (econs (eve1 rfl rfl) (econs (eve1 rfl rfl) evm_nil)) (by decide) fun d H4 s4 nd hd => ?_)
    have hs : Same H H3 := s1.trans (s2.trans s3)
    exact q H4 d (hs.trans s4) (hs.free nd) hd
theorem rd_next {u : TS} {D : Ends} {σ : L2.St} {H : Hp} (h : u D σ H) : tNext { D with nx := u D } σ H := h
/-- what an error carries under its word -/
def spCarried (C : Nat → Addr) : Sp := fun vs H Q _ => ∃ (e : Addr) (i : Nat) (f : Str) (x : V), vs = [.ref e, .str f] ∧ fields[i]? = some (some f) ∧ ExcAt C x H e i ∧ Q x H
theorem ok_carried {f : Addr} {fd : FuncData} (F : L2.Fun K "_law_carried" "_law_carried" s_carried f fd) (T : Cs P w K mg base C) : Fg P w K mg base 1 f fd ["_law_e", "_law_word"] (spCarried C) := by
  refine okg F sc_carried (fun vs H Q h => ?_) (fun cdv A outer s H vs Q hr h => ?_)
  · obtain ⟨e, i, g, x, rfl, _⟩ := h
    rfl
  · obtain ⟨e, i, g, x, rfl, hf, hE, q⟩ := h
    refine ⟨_, (pss_cons (ps_if (pt_cmpR op_eq (pv 1) pe_str (nomark _)) (pss_one (ps_ret (pe_xat (pv 0)))) pss_nil) (pss_cons (ps_if (pt_cmpR op_eq (pv 1) pe_str (nomark _)) (pss_one (ps_ret (pe_xat (pv 0)))) pss_nil) (pss_one (ps_ret (pe_ifExp (pt_cmpR op_eq (pv 1) pe_str (nomark _)) (pe_xat (pv 0)) (pe_xat (pv 0))))))), ?_⟩
    have hC := (T.one i (some g) hf).ex
    obtain ⟨nB, newId, iB, initId, tail, W, Tx, fI, fd', iC, tI, nF, F', b1, b2⟩ := hC
    unfold ExcAt at hE
    rw [hf] at hE
    obtain ⟨d, hE1, hE2⟩ := hE
    have at_ : ∀ (Q' : VK), Q' x H → tXat K g (tVar 0) [some (.ref e), some (.str g)] H Q' := fun Q' q' => ⟨.ref e, rfl, e, C i, d, newId, tail, [(g, x)], x, rfl, Tx, nF, hE1, hE2, by simp [List.lookup], q'⟩
    have hg : g = "path" ∨ g = "name" ∨ g = "call" ∨ g = "count" := by
      have hm := List.mem_of_getElem? hf
      simp only [fields, List.mem_cons, Option.some.injEq, reduceCtorEq, List.not_mem_nil, or_false, false_or] at hm
      have key : g = "path" ∨ g = "count" ∨ g = "name" ∨ g = "call" := by
        rcases hm with h | h | h | h | h | h | h | h | h | h | h | h | h | h | h | h <;> simp [h]
      rcases key with h | h | h | h <;> simp [h]
    have pT : ∀ {c : Prop} [Decidable c] {a b : Prop}, c → a → ite c a b := fun hc ha => (if_pos hc).mpr ha
    have pF : ∀ {c : Prop} [Decidable c] {a b : Prop}, ¬ c → b → ite c a b := fun hc ha => (if_neg hc).mpr ha
    rcases hg with rfl | rfl | rfl | rfl
    · refine rd_if ⟨_, rfl, rfl, _, rfl, ?_⟩
      exact pT (decide_eq_true rfl) (rd_ret (at_ _ q))
    · refine rd_if ⟨_, rfl, rfl, _, rfl, ?_⟩
      refine pF (by decide +kernel) ?_
      refine rd_next ?_
      refine rd_if ⟨_, rfl, rfl, _, rfl, ?_⟩
      exact pT (decide_eq_true rfl) (rd_ret (at_ _ q))
    · refine rd_if ⟨_, rfl, rfl, _, rfl, ?_⟩
      refine pF (by decide +kernel) ?_
      refine rd_next ?_
      refine rd_if ⟨_, rfl, rfl, _, rfl, ?_⟩
      refine pF (by decide +kernel) ?_
      refine rd_next ?_
      refine rd_ret ?_
      refine ⟨_, rfl, rfl, _, rfl, ?_⟩
      exact pT (decide_eq_true rfl) (at_ _ q)
    · refine rd_if ⟨_, rfl, rfl, _, rfl, ?_⟩
      refine pF (by decide +kernel) ?_
      refine rd_next ?_
      refine rd_if ⟨_, rfl, rfl, _, rfl, ?_⟩
      refine pF (by decide +kernel) ?_
      refine rd_next ?_
      refine rd_ret ?_
      refine ⟨_, rfl, rfl, _, rfl, ?_⟩
      exact pF (by decide +kernel) (at_ _ q)
end
end K86

set_option Elab.async false
set_option linter.all false
set_option maxRecDepth 100000
set_option maxHeartbeats 4000000
/-! KD: _law_kinds. -/
namespace K86
open PySem PySem.Spec PyProof.Rows L2 GG DD KX
/-- is it of the j-th class? -/
def ItK (i : Nat) (H : Hp) (v : V) (j : Nat) : Prop := v = .bl (decide (i = j))
theorem itk_st (i : Nat) : ∀ H H' v j, Same H H' → ItK i H v j → ItK i H' v j := fun _ _ _ _ _ h => h
theorem itk_map {i : Nat} {H : Hp} : ∀ {vs : List V} {js : List Nat}, All2 (ItK i) H vs js → vs = js.map fun j => V.bl (decide (i = j))
  | _, _, .nil => rfl
  | _, _, .cons h t => by
    rw [List.map_cons, ← itk_map t]
    unfold ItK at h
    rw [h]
abbrev RE (C : Nat → Addr) (x : V) (e : Addr) (i : Nat) : Hp → Prop := fun H => ExcAt C x H e i
theorem re_st (C : Nat → Addr) (x : V) (e : Addr) (i : Nat) : ∀ H H', Same H H' → RE C x e i H → RE C x e i H' := fun _ _ s h => h.same s
section
variable {P : Program} {w : World} {K : PySem.W.Frag} {mg : Str → Option Value} {base : Heap} {C : Nat → Addr}
/-- isinstance(e, cls), whatever the class -/
theorem rd_isx {A : Cx} (T : Cs A.prog A.w A.K A.mg A.base C) {x : V} {e : Addr} {i k : Nat} {σ : L2.St} {H : Hp} {c : V} {cv : Value} {b : Bool} {Q : VK} (e0 : σ[k]? = some (some (.ref e))) (h : ExcAt C x H e i) (hcv : ∀ u, RelV c u → u = cv) (hk : PySem.W.kitOne A.K (.ref (C i)) cv = some b) (q : Q (.bl b) H) :
    tCB (rIsX A.K) (tCons (tVar k) (tCons (tC c) tNil)) σ H Q :=
  rd_cb (rd_cons (rd_var e0 (rd_cons (rd_c (rd_nil ⟨e, C i, c, cv, b, rfl, hcv, isx_of T h, hk, q⟩)))))
theorem evk {A : Cx} (T : Cs A.prog A.w A.K A.mg A.base C) {x : V} {e : Addr} {i : Nat} {σ : L2.St} (j : Nat) (hj : j < 19) (e0 : σ[0]? = some (some (.ref e))) : EvM (ItK i) (tCB (rIsX A.K) (tCons (tVar 0) (tCons (tC (.ref (C j))) tNil))) σ (RE C x e i) j := fun H1 r Q q => by
  refine rd_isx T e0 r (cv := .ref (C j)) (fun u r => ?_) (T.kinds i j r.lt (by omega)) (q _ _ (Same.refl _) ?_)
  · cases r; rfl
  · unfold ItK
    congr 1
    exact decide_eq_decide.mpr ⟨fun h => by omega, fun h => .inl h⟩
theorem kcons {x : V} {e : Addr} {σ : L2.St} {i j : Nat} {js : List Nat} {te : TE} {ta : TA} (h : EvM (ItK i) te σ (RE C x e i) j) (hs : EvMs (ItK i) ta σ (RE C x e i) js) : EvMs (ItK i) (tCons te ta) σ (RE C x e i) (j :: js) := evm_cons (itk_st i) (re_st C x e i) h hs
theorem kcat {x : V} {e : Addr} {σ : L2.St} {H : Hp} {i : Nat} {te : TE} {ta : TA} {is js : List Nat} {Q : VK} (he : ∀ Q1 : VK, (∀ a H2, Same H H2 → LAt (ItK i) H2 a is → Q1 (.ref a) H2) → te σ H Q1) (h : EvMs (ItK i) ta σ (RE C x e i) js) (r : ExcAt C x H e i) (hl : is.length + js.length ≤ 1000)
    (q : ∀ a H2, Same H H2 → H a = none → LAt (ItK i) H2 a (is ++ js) → Q (.ref a) H2) : tOp rCat te (tLst ta) σ H Q := m_cat (itk_st i) (re_st C x e i) he h r hl q
def spKinds (C : Nat → Addr) : Sp := fun vs H Q _ => ∃ (e : Addr) (i : Nat) (x : V), vs = [.ref e] ∧ ExcAt C x H e i ∧ ∀ H' a, Same H H' → H a = none → H' a = some (.lst ((List.range 19).map fun j => V.bl (decide (i = j)))) → Q (.ref a) H'
theorem ok_kinds {f : Addr} {fd : FuncData} (F : L2.Fun K "_law_kinds" "_law_kinds" s_kinds f fd) (T : Cs P w K mg base C) (m_isinstance : mg "isinstance" = none) : Fg P w K mg base 3 f fd ["_law_e"] (spKinds C) := by
  refine okg F sc_kinds (fun vs H Q h => ?_) (fun cdv A outer s H vs Q hr h => ?_)
  · obtain ⟨e, i, x, rfl, _⟩ := h
    rfl
  · obtain ⟨e, i, x, rfl, hE, q⟩ := h
    refine ⟨_, (pss_cons (ps_set (i := 1) sc_kinds.nd rfl (Or.inl rfl) (pe_lst (pa_cons (pe_callB (call_isX T.cr) (by rfl) m_isinstance (by decide +kernel) (pa_cons (pv 0) (pa_cons (clsv T 0 rfl (by rfl)) pa_nil))) (pa_cons (pe_callB (call_isX T.cr) (by rfl) m_isinstance (by decide +kernel) (pa_cons (pv 0) (pa_cons (clsv T 1 rfl (by rfl)) pa_nil))) (pa_cons (pe_callB (call_isX T.cr) (by rfl) m_isinstance (by decide +kernel) (pa_cons (pv 0) (pa_cons (clsv T 2 rfl (by rfl)) pa_nil))) pa_nil))))) (pss_cons (ps_set (i := 1) sc_kinds.nd rfl (Or.inl rfl) (pe_op op_cat (pv 1) (pe_lst (pa_cons (pe_callB (call_isX T.cr) (by rfl) m_isinstance (by decide +kernel) (pa_cons (pv 0) (pa_cons (clsv T 3 rfl (by rfl)) pa_nil))) (pa_cons (pe_callB (call_isX T.cr) (by rfl) m_isinstance (by decide +kernel) (pa_cons (pv 0) (pa_cons (clsv T 4 rfl (by rfl)) pa_nil))) (pa_cons (pe_callB (call_isX T.cr) (by rfl) m_isinstance (by decide +kernel) (pa_cons (pv 0) (pa_cons (clsv T 5 rfl (by rfl)) pa_nil))) pa_nil)))))) (pss_cons (ps_set (i := 1) sc_kinds.nd rfl (Or.inl rfl) (pe_op op_cat (pv 1) (pe_lst (pa_cons (pe_callB (call_isX T.cr) (by rfl) m_isinstance (by decide +kernel) (pa_cons (pv 0) (pa_cons (clsv T 6 rfl (by rfl)) pa_nil))) pa_nil)))) (pss_cons (ps_set (i := 1) sc_kinds.nd rfl (Or.inl rfl) (pe_op op_cat (pv 1) (pe_lst (pa_cons (pe_callB (call_isX T.cr) (by rfl) m_isinstance (by decide +kernel) (pa_cons (pv 0) (pa_cons (clsv T 7 rfl (by rfl)) pa_nil))) (pa_cons (pe_callB (call_isX T.cr) (by rfl) m_isinstance (by decide +kernel) (pa_cons (pv 0) (pa_cons (clsv T 8 rfl (by rfl)) pa_nil))) (pa_cons (pe_callB (call_isX T.cr) (by rfl) m_isinstance (by decide +kernel) (pa_cons (pv 0) (pa_cons (clsv T 9 rfl (by rfl)) pa_nil))) pa_nil)))))) (pss_cons (ps_set (i := 1) sc_kinds.nd rfl (Or.inl rfl) (pe_op op_cat (pv 1) (pe_lst (pa_cons (pe_callB (call_isX T.cr) (by rfl) m_isinstance (by decide +kernel) (pa_cons (pv 0) (pa_cons (clsv T 10 rfl (by rfl)) pa_nil))) (pa_cons (pe_callB (call_isX T.cr) (by rfl) m_isinstance (by decide +kernel) (pa_cons (pv 0) (pa_cons (clsv T 11 rfl (by rfl)) pa_nil))) (pa_cons (pe_callB (call_isX T.cr) (by rfl) m_isinstance (by decide +kernel) (pa_cons (pv 0) (pa_cons (clsv T 12 rfl (by rfl)) pa_nil))) pa_nil)))))) (pss_cons (ps_set (i := 1) sc_kinds.nd rfl (Or.inl rfl) (pe_op op_cat (pv 1) (pe_lst (pa_cons (pe_callB (call_isX T.cr) (by rfl) m_isinstance (by decide +kernel) (pa_cons (pv 0) (pa_cons (clsv T 13 rfl (by rfl)) pa_nil))) (pa_cons (pe_callB (call_isX T.cr) (by rfl) m_isinstance (by decide +kernel) (pa_cons (pv 0) (pa_cons (clsv T 14 rfl (by rfl)) pa_nil))) (pa_cons (pe_callB (call_isX T.cr) (by rfl) m_isinstance (by decide +kernel) (pa_cons (pv 0) (pa_cons (clsv T 15 rfl (by rfl)) pa_nil))) pa_nil)))))) (pss_one (ps_ret (pe_op op_cat (pv 1) (pe_lst (pa_cons (pe_callB (call_isX T.cr) (by rfl) m_isinstance (by decide +kernel) (pa_cons (pv 0) (pa_cons (clsv T 16 rfl (by rfl)) pa_nil))) (pa_cons (pe_callB (call_isX T.cr) (by rfl) m_isinstance (by decide +kernel) (pa_cons (pv 0) (pa_cons (clsv T 17 rfl (by rfl)) pa_nil))) (pa_cons (pe_callB (call_isX T.cr) (by rfl) m_isinstance (by decide +kernel) (pa_cons (pv 0) (pa_cons (clsv T 18 rfl (by rfl)) pa_nil))) pa_nil))))))))))))), ?_⟩
    refine rd_set (m_lst (itk_st i) (kcons (evk T 0 (by decide) rfl) (kcons (evk T 1 (by decide) rfl) (kcons (evk T 2 (by decide) rfl) evm_nil))) hE (by decide) fun a H1 s1 na h1 => ?_)
    have e1 := hE.same s1
    refine rd_set (kcat (m_var rfl h1) (kcons (evk T 3 (by decide) rfl) (kcons (evk T 4 (by decide) rfl) (kcons (evk T 5 (by decide) rfl) evm_nil))) e1 (by decide) fun b H2 s2 nb h2 => ?_)
    have e2 := e1.same s2
    refine rd_set (kcat (m_var rfl h2) (kcons (evk T 6 (by decide) rfl) evm_nil) e2 (by decide) fun c H3 s3 nc h3 => ?_)
    have e3 := e2.same s3
    refine rd_set (kcat (m_var rfl h3) (kcons (evk T 7 (by decide) rfl) (kcons (evk T 8 (by decide) rfl) (kcons (evk T 9 (by decide) rfl) evm_nil))) e3 (by decide) fun d H4 s4 nd h4 => ?_)
    have e4 := e3.same s4
    refine rd_set (kcat (m_var rfl h4) (kcons (evk T 10 (by decide) rfl) (kcons (evk T 11 (by decide) rfl) (kcons (evk T 12 (by decide) rfl) evm_nil))) e4 (by decide) fun g H5 s5 ng h5 => ?_)
    have e5 := e4.same s5
    refine rd_set (kcat (m_var rfl h5) (kcons (evk T 13 (by decide) rfl) (kcons (evk T 14 (by decide) rfl) (kcons (evk T 15 (by decide) rfl) evm_nil))) e5 (by decide) fun k H6 s6 nk h6 => ?_)
    have e6 := e5.same s6
    refine rd_ret (kcat (m_var rfl h6) (kcons (evk T 16 (by decide) rfl) (kcons (evk T 17 (by decide) rfl) (kcons (evk T 18 (by decide) rfl) evm_nil))) e6 (by decide) fun l H7 s7 nl h7 => ?_)
    have hs : Same H H6 := s1.trans (s2.trans (s3.trans (s4.trans (s5.trans s6))))
    obtain ⟨vs, h8, h9⟩ := h7
    have e9 := itk_map h9
    subst e9
    exact q H7 l (hs.trans s7) (hs.free nl) h8
end
end K86

set_option Elab.async false
set_option linter.all false
set_option maxRecDepth 100000
set_option maxHeartbeats 4000000
/-! LP: loops and comprehensions of a known number of turns. -/
namespace DD
open PySem PySem.Spec PyProof.Rows L2 GG
theorem pT {c : Prop} [Decidable c] {a b : Prop} (hc : c) (h : a) : ite c a b := (if_pos hc).mpr h
theorem pF {c : Prop} [Decidable c] {a b : Prop} (hc : ¬ c) (h : b) : ite c a b := (if_neg hc).mpr h
theorem rd_next {u : TS} {D : Ends} {σ : L2.St} {H : Hp} (h : u D σ H) : tNext { D with nx := u D } σ H := h
theorem rd_nx {D : Ends} {σ : L2.St} {H : Hp} (h : D.nx σ H) : tNext D σ H := h
theorem rd_ifS {c : TT} {t u : TS} {D : Ends} {σ : L2.St} {H : Hp} (h : c σ H fun b H1 => if b = true then t D σ H1 else u D σ H1) : tIfS c t u D σ H := h
theorem rd_seq {u v : TS} {D : Ends} {σ : L2.St} {H : Hp} (h : u { D with nx := v D } σ H) : tSeq u v D σ H := h
theorem rd_asg {te : TE} {g : TG} {u : TS} {D : Ends} {σ : L2.St} {H : Hp} (h : te σ H fun x H1 => g x σ H1 (u D)) : tSeq (tAsg te g) u D σ H := h
theorem rd_par {i j : Nat} {ta : TA} {u : TS} {D : Ends} {σ : L2.St} {H : Hp} (h : ta σ H fun vs H1 => ∃ v w, vs = [v, w] ∧ u D ((σ.set i (some v)).set j (some w)) H1) : tSeq (tPar i j ta) u D σ H := h
theorem rd_yes {σ : L2.St} {H : Hp} {P R : Hp → Prop} (h : P H) : tYes σ H fun b H4 => if b = true then P H4 else R H4 := (if_pos rfl : (if true = true then P H else R H) = P H).mpr h
section
variable {wi : TI} {J : It} {g : TG} {tt : TT} {tb : TS} {te : TE} {vs : List Nat} {σ : L2.St} {H H1 : Hp} {Q : VK} {D : Ends}
def ForOk (J : It) (g : TG) (tb : TS) (D : Ends) (σ : L2.St) (H1 : Hp) : Prop := ∃ W : Nat → Nat → L2.St → Hp → Prop, (∃ m, W 0 m σ H1) ∧ ∀ i m σ H, W i m σ H →
  (J.stop i H ∧ D.nx σ H) ∨ (J.go i H ∧ ∃ N : L2.St → Hp → Prop, (∀ σ' H', N σ' H' → ∃ m', m' < m ∧ W (i + 1) m' σ' H') ∧ ∀ x H', J.yld i H x H' → g x σ H' fun σ2 H2 => tb { D with nx := N, ct := N, bk := D.nx } σ2 H2)
theorem rd_for (h : wi σ H fun J H1 => ForOk J g tb D σ H1) : tFor wi g tb D σ H := h
/-- for, n turns: I by the turn -/
theorem for_in (n : Nat) (I : Nat → L2.St → Hp → Prop) (h0 : I 0 σ H1)
    (hstop : ∀ σ' H', I n σ' H' → J.stop n H' ∧ D.nx σ' H')
    (hgo : ∀ i σ' H', i < n → I i σ' H' → J.go i H' ∧ ∀ N : L2.St → Hp → Prop, (∀ σ2 H2, I (i + 1) σ2 H2 → N σ2 H2) → ∀ x H2, J.yld i H' x H2 → g x σ' H2 fun σ3 H3 => tb { D with nx := N, ct := N, bk := D.nx } σ3 H3) :
    ForOk J g tb D σ H1 := by
  refine ⟨fun i m σ' H' => i + m = n ∧ I i σ' H', ⟨n, Nat.zero_add n, h0⟩, fun i m σ' H' ⟨e, h⟩ => ?_⟩
  by_cases hm : m = 0
  · subst hm
    have e' : i = n := by omega
    subst e'
    exact .inl (hstop _ _ h)
  · obtain ⟨h1, h2⟩ := hgo i σ' H' (by omega) h
    exact .inr ⟨h1, fun σ2 H2 => I (i + 1) σ2 H2, fun σ2 H2 k => ⟨m - 1, by omega, by omega, k⟩, h2 _ fun _ _ k => k⟩
def LcOk (J : It) (g : TG) (tt : TT) (te : TE) (vs : List Nat) (Q : VK) (σ : L2.St) (H1 : Hp) : Prop := ∀ D, H1 D = none → ∃ W : Nat → Nat → Hp → Prop, (∃ m, W 0 m (upd H1 D (.lst []))) ∧ ∀ i m H, W i m H →
  (J.stop i H ∧ Q (.ref D) H) ∨ (J.go i H ∧ ∃ Nx : Hp → Prop, (∀ H', Nx H' → ∃ m', m' < m ∧ W (i + 1) m' H') ∧ ∀ x H', J.yld i H x H' → g x (wipe σ vs) H' fun σ2 H2 => wipe σ2 vs = wipe σ vs ∧ tt σ2 H2 fun b H3 =>
    if b = true then te σ2 H3 fun y H4 => ∃ acc, H4 D = some (.lst acc) ∧ acc.length < sizeLine ∧ Nx (upd H4 D (.lst (acc ++ [y]))) else Nx H3)
theorem rd_lc (h : wi σ H fun J H1 => LcOk J g tt te vs Q σ H1) : tLc wi g tt te vs σ H Q := h
/-- a comprehension, n turns: I by the new list, the turn, what is there -/
theorem lc_in (n : Nat) (hn : n ≤ 1000) (I : Addr → Nat → List V → Hp → Prop)
    (h0 : ∀ L, H1 L = none → I L 0 [] (upd H1 L (.lst [])))
    (hstop : ∀ L acc H', H' L = some (.lst acc) → I L n acc H' → J.stop n H' ∧ Q (.ref L) H')
    (hgo : ∀ L i acc H', i < n → H' L = some (.lst acc) → I L i acc H' → J.go i H' ∧ ∀ (P : VK) (R : Hp → Prop), (∀ y H2, H2 L = some (.lst acc) → I L (i + 1) (acc ++ [y]) (upd H2 L (.lst (acc ++ [y]))) → P y H2) → (∀ H2, H2 L = some (.lst acc) → I L (i + 1) acc H2 → R H2) →
      ∀ x H2, J.yld i H' x H2 → g x (wipe σ vs) H2 fun σ2 H3 => wipe σ2 vs = wipe σ vs ∧ tt σ2 H3 fun b H4 => if b = true then te σ2 H4 P else R H4) :
    LcOk J g tt te vs Q σ H1 := by
  refine fun L hL => ⟨fun i m H' => i + m = n ∧ ∃ acc, H' L = some (.lst acc) ∧ acc.length ≤ i ∧ I L i acc H', ⟨n, Nat.zero_add n, [], upd_same, Nat.zero_le _, h0 L hL⟩, fun i m H' ⟨e, acc, h1, h2, h3⟩ => ?_⟩
  by_cases hm : m = 0
  · subst hm
    have e' : i = n := by omega
    subst e'
    exact .inl (hstop L acc H' h1 h3)
  · obtain ⟨k1, k2⟩ := hgo L i acc H' (by omega) h1 h3
    refine .inr ⟨k1, fun H2 => ∃ acc', H2 L = some (.lst acc') ∧ acc'.length ≤ i + 1 ∧ I L (i + 1) acc' H2, fun H2 k => ⟨m - 1, by omega, by omega, k⟩, k2 _ _ (fun y H2 z1 z2 => ⟨acc, z1, szl (by omega), acc ++ [y], upd_same, by rw [List.length_append]; exact Nat.succ_le_succ h2, z2⟩) fun H2 z1 z2 => ⟨acc, z1, by omega, z2⟩⟩
theorem rd_rng1 {ta : TA} {R : It → Hp → Prop} (h : ta σ H fun vs H1 => ∃ j : Int, vs = [.int j] ∧ -(2 ^ 62) ≤ j ∧ j < 2 ^ 62 ∧ R (Itr 0 j.toNat) H1) : iRng1 ta σ H R := h
theorem rng_n {n : Nat} (hn : n ≤ 1000) : -(2 ^ 62) ≤ (n : Int) ∧ (n : Int) < 2 ^ 62 := by
  constructor
  · have a : (0 : Int) ≤ (n : Int) := Int.natCast_nonneg n
    exact Int.le_trans (by decide) a
  · have a : (n : Int) ≤ 1000 := by omega
    exact Int.lt_of_le_of_lt a (by decide)
theorem rd_enum {K : PySem.W.Frag} {ta : TA} {R : It → Hp → Prop} (h : ta σ H fun vs H1 => ∃ a xs, vs = [.ref a] ∧ SqL K H1 a xs ∧ R (Ite K a) H1) : iEnum K ta σ H R := h
theorem rd_zip {K : PySem.W.Frag} {ta : TA} {R : It → Hp → Prop} (h : ta σ H fun vs H1 => ∃ a b xs ys, vs = [.ref a, .ref b] ∧ SqL K H1 a xs ∧ SqL K H1 b ys ∧ R (Itz K a b) H1) : iZip K ta σ H R := h
theorem rd_ilist {K : PySem.W.Frag} {tl : TE} {R : It → Hp → Prop} (h : tl σ H fun x H1 => ∃ a, x = .ref a ∧ (∃ xs, SqL K H1 a xs) ∧ R (Itl K a) H1) : iList K tl σ H R := h
theorem rd_or {t u : TT} {Q : Bool → Hp → Prop} (h : t σ H fun c H1 => if c = true then Q true H1 else u σ H1 Q) : tOr t u σ H Q := h
theorem rd_and {t u : TT} {Q : Bool → Hp → Prop} (h : t σ H fun c H1 => if c = true then u σ H1 Q else Q false H1) : tAnd t u σ H Q := h
theorem rd_not {t : TT} {Q : Bool → Hp → Prop} (h : t σ H fun c H1 => Q (!c) H1) : tNot t σ H Q := h
theorem rd_tb {te : TE} {Q : Bool → Hp → Prop} (h : te σ H fun x H1 => ∃ c, x = .bl c ∧ Q c H1) : tB te σ H Q := h
theorem rd_gnn {K : PySem.W.Frag} {i j : Nat} {a : Addr} {v w : V} {Q : L2.St → Hp → Prop} (h : SqT K H a [v, w]) (q : Q ((σ.set i (some v)).set j (some w)) H) : gTup K 2 (gCons (gName i) (gCons (gName j) gNil)) (.ref a) σ H Q := ⟨a, _, rfl, h, rfl, _, _, rfl, _, _, rfl, rfl, q⟩
theorem rd_gnt {K : PySem.W.Frag} {i j k : Nat} {a b : Addr} {v w z : V} {Q : L2.St → Hp → Prop} (h : SqT K H a [v, .ref b]) (h2 : SqT K H b [w, z]) (q : Q (((σ.set i (some v)).set j (some w)).set k (some z)) H) : gTup K 2 (gCons (gName i) (gCons (gTup K 2 (gCons (gName j) (gCons (gName k) gNil))) gNil)) (.ref a) σ H Q :=
  ⟨a, _, rfl, h, rfl, _, _, rfl, _, _, rfl, b, _, rfl, h2, rfl, _, _, rfl, _, _, rfl, rfl, rfl, q⟩
theorem dp_bools {K : PySem.W.Frag} {a : Addr} (js : List Nat) (f : Nat → Bool) (h : H a = some (.lst (js.map fun j => V.bl (f j)))) : Dp K H (.ref a) (.list (js.map fun j => .bool (f j))) := by
  refine .lst (sq h) ?_
  induction js generalizing a with
  | nil => exact .nil
  | cons j js ih => 
    have key : ∀ js : List Nat, DpAll K H (js.map fun j => V.bl (f j)) (js.map fun j => .bool (f j)) := fun js => by
      induction js with
      | nil => exact .nil
      | cons j js ih => exact .cons (.bl _) ih
    exact key _
/-- [e for j in range(n)], e reads what stands and changes nothing -/
theorem lc_rng {ta : TA} {i9 : Nat} (n : Nat) (hn : n ≤ 1000) (f : Nat → V) (hta : ∀ R : List V → Hp → Prop, R [.int n] H → ta σ H R) (hw : ∀ j : Int, wipe ((wipe σ vs).set i9 (some (.int j))) vs = wipe σ vs)
    (he : ∀ j, j < n → ∀ H', Same H H' → ∀ P : VK, P (f j) H' → te ((wipe σ vs).set i9 (some (.int j))) H' P)
    (q : ∀ L H', Same H H' → H L = none → H' L = some (.lst ((List.range n).map f)) → Q (.ref L) H') : tLc (iRng1 ta) (gName i9) tYes te vs σ H Q := by
  refine rd_lc (rd_rng1 (hta _ ⟨n, rfl, (rng_n hn).1, (rng_n hn).2, ?_⟩))
  rw [Int.toNat_natCast]
  refine lc_in n hn (fun L i acc H' => H L = none ∧ Same H H' ∧ acc = (List.range i).map f) (fun L hL => ⟨hL, same_upd hL, rfl⟩) (fun L acc H' h1 ⟨h2, h3, h4⟩ => ⟨Nat.le_refl n, q L H' h3 h2 (by rw [h1, h4])⟩) fun L i acc H' hi h1 ⟨h2, h3, h4⟩ => ⟨hi, fun P R hP hR x H2 ⟨e1, e2⟩ => ?_⟩
  subst e1
  subst e2
  subst h4
  rw [Int.zero_add]
  refine ⟨hw _, rd_yes (he i hi H2 h3 _ (hP _ _ h1 ⟨h2, ?_, ?_⟩))⟩
  · exact fun b o z => by
      rw [upd_ne (ne_of_none z h2)]
      exact h3 b o z
  · rw [List.range_succ, List.map_append]
    rfl
end
end DD

set_option Elab.async false
set_option linter.all false
set_option maxRecDepth 100000
set_option maxHeartbeats 4000000
/-! RT: _law_right. -/
namespace K86
open PySem PySem.Spec PyProof.Rows L2 GG DD KX
abbrev s_right : Stmt := topS 30
theorem sc_right : FnScope ["_law_it", "_law_made_here", "_law_kept", "_law_k", "_law_e", "_law_word", "_law_own", "_law_bases", "_law_words", "_law_j"] ["_law_it"] (defScope s_right) := ⟨rfl, rfl, rfl, by decide +kernel, rfl, by decide +kernel, by decide +kernel⟩
def wordO (j : Nat) : Option V := match fields[j]? with
  | some (some f) => some (.str f)
  | _ => none
def ws (i : Nat) : List V := (List.range i).filterMap wordO
theorem ws_none {i : Nat} (h : fields[i]? = some none) : ws (i + 1) = ws i := by
  unfold ws
  rw [List.range_succ, List.filterMap_append]
  have e : wordO i = none := by unfold wordO; rw [h]
  simp [e]
theorem ws_some {i : Nat} {f : Str} (h : fields[i]? = some (some f)) : ws (i + 1) = ws i ++ [.str f] := by
  unfold ws
  rw [List.range_succ, List.filterMap_append]
  have e : wordO i = some (.str f) := by unfold wordO; rw [h]
  simp [e]
theorem ws_all : ws 19 = named.map wordV := by decide +kernel
theorem kinds_own : ∀ i : Nat, i < 19 → PyData.eqv (.list ((List.range 19).map fun j => .bool (decide (i = j)))) (.list ((List.range 19).map fun j : Nat => .bool (decide (V.int (i : Int) = V.int (j : Int))))) = true := by decide +kernel
theorem bases_own : ∀ i : Nat, i < 19 → PyData.eqv (.list [.bool (decide (i = 19 ∨ (19 = 19 ∧ i < 17))), .bool (decide (i < 17 ∨ i = 19)), .bool (decide (i = 17 ∨ i = 18))]) (.list [.bool (decide ((i : Int) < 17)), .bool (decide ((i : Int) < 17)), .bool (decide (17 ≤ (i : Int)))]) = true := by decide +kernel
theorem named_f : ∀ j ∈ named, ∃ fw, fields[j]? = some (some fw) := fun j h => by
  have k : ∀ j ∈ named, ((fields[j]?.getD none).isSome && (fields[j]?).isSome) = true := by decide +kernel
  have k1 := k j h
  cases e : fields[j]? with
  | none => rw [e] at k1; cases k1
  | some fo =>
    cases fo with
    | none => rw [e] at k1; cases k1
    | some f => exact ⟨f, rfl⟩
theorem rd_proj {u : TS} {D : Ends} {σ : L2.St} {H : Hp} (h : u D σ H) : ({ D with nx := u D } : Ends).nx σ H := h
theorem f_lt {i : Nat} (h : i < 20) : ∃ fo, fields[i]? = some fo := ⟨_, List.getElem?_eq_getElem h⟩
section
variable {P : Program} {w : World} {K : PySem.W.Frag} {mg : Str → Option Value} {base : Heap} {C : Nat → Addr}
def spRight (K : PySem.W.Frag) : Sp := fun vs H Q _ => ∃ x d, vs = [x] ∧ Dt K H x d ∧ Good d ∧ ∀ H', Same H H' → Q (.bl true) H'
/-- repr(carried(e, word)) != kept is false -/
theorem kept_ok {A : Cx} {x : V} {d : PyData} {σ : L2.St} {H : Hp} {e : Addr} {i : Nat} {f : Str} {Q : Bool → Hp → Prop} (hG : Good d) (h4 : σ[4]? = some (some (.ref e))) (h5 : σ[5]? = some (some (.str f))) (h2 : σ[2]? = some (some (.str d.shown))) (hf : fields[i]? = some (some f)) (hE : ExcAt C x H e i) (hx : Dt A.K H x d) (q : Q false H) :
    tTest (tOp rNe (tCB (rRepr A.K) (tCons (tCall (spCarried C) [] E0 (tCons (tVar 4) (tCons (tVar 5) tNil))) tNil)) (tVar 2)) σ H Q :=
  rd_test (rd_op (rd_cb (rd_cons (rd_call (rd_cons (rd_var h4 (rd_cons (rd_var h5 (rd_nil ⟨e, i, f, x, rfl, hf, hE, rd_nil ⟨x, d, rfl, hx, hG.sh, hG.dp, hG.sz, rd_var h2 ⟨rfl, _, rfl, by
    have e1 : decide (V.str d.shown = V.str d.shown) = true := decide_eq_true rfl
    rw [e1]
    exact q⟩⟩⟩))))))))) 
theorem ok_right {f : Addr} {fd : FuncData} (F : L2.Fun K "_law_right" "_law_right" s_right f fd) (T : Cs P w K mg base C)
    (D_made : Df P w K mg base 3 "_law_made" ["_law_it"] (spMade C)) (D_named : Df P w K mg base 3 "_law_named" ["_law_it"] (spNamed C)) (D_carried : Df P w K mg base 1 "_law_carried" ["_law_e", "_law_word"] (spCarried C)) (D_kinds : Df P w K mg base 3 "_law_kinds" ["_law_e"] (spKinds C))
    (m_isinstance : mg "isinstance" = none) (m_repr : mg "repr" = none) (m_enumerate : mg "enumerate" = none) (m_range : mg "range" = none) (m_len : mg "len" = none) (m_zip : mg "zip" = none) (m_ValueError : mg "ValueError" = none) (m_KeyError : mg "KeyError" = none) :
    Fg P w K mg base 4 f fd ["_law_it"] (spRight K) := by
  refine okg F sc_right (fun vs H Q h => ?_) (fun cdv A outer s H vs Q hr h => ?_)
  · obtain ⟨x, d, rfl, _⟩ := h
    rfl
  · obtain ⟨x, d, rfl, hx, hG, q⟩ := h
    refine ⟨_, (pss_cons (ps_par (i := 1) (j := 2) (by rfl) sc_right.nd rfl rfl (by decide) rfl rfl (pa_cons (dcall D_made (hr.mono (by decide)) (by rfl) (pa_cons (pv 0) pa_nil)) (pa_cons (pe_callB (call_repr hr) (by rfl) m_repr (by decide +kernel) (pa_cons (pv 0) pa_nil)) pa_nil)) (by rfl)) (pss_cons (ps_for PassesOwn.never rfl (pi_enum (by rfl) m_enumerate (pa_cons (pv 1) pa_nil)) (pg_tup rfl (pgs_cons (pg_name (i := 3) sc_right.nd rfl (Or.inr rfl)) (pgs_cons (pg_tup rfl (pgs_cons (pg_name (i := 4) sc_right.nd rfl (Or.inl rfl)) (pgs_cons (pg_name (i := 5) sc_right.nd rfl (Or.inl rfl)) pgs_nil))) pgs_nil))) (pss_cons (ps_setLc (i := 6) (own := [("_law_j", 9)]) (g := (gName 9)) rfl sc_right.nd rfl rfl (sw_true rfl rfl rfl (by decide +kernel)) (pi_range1 (by rfl) m_range (pa_cons (pe_callB call_len_seq (by rfl) m_len (by decide +kernel) (pa_cons (pv 1) pa_nil)) pa_nil)) (blkOk_by (own := [("_law_j", 9)]) (N := ["_law_it", "_law_made_here", "_law_kept", "_law_k", "_law_e", "_law_word", "_law_own", "_law_bases", "_law_words", "_law_j"]) (sc := defScope s_right) (by decide +kernel)) (fun _ _ _ _ _ => (pg_name (i := 9) sc_right.nd rfl (Or.inl rfl))) (fun _ _ _ _ _ => pts_nil) (fun _ _ _ _ _ => (pe_cmpR op_eq (pv 3) (pv 9) (nomark _)))) (pss_cons (ps_set (i := 7) sc_right.nd rfl (Or.inl rfl) (pe_lst (pa_cons (pe_callB (call_isX T.cr) (by rfl) m_isinstance (by decide +kernel) (pa_cons (pv 4) (pa_cons (clsv T 19 rfl (by rfl)) pa_nil))) (pa_cons (pe_callB (call_isX T.cr) (by rfl) m_isinstance (by decide +kernel) (pa_cons (pv 4) (pa_cons (pe_bltn (v := .ty "ValueError") (by rfl) m_ValueError (by decide +kernel) rfl) pa_nil))) (pa_cons (pe_callB (call_isX T.cr) (by rfl) m_isinstance (by decide +kernel) (pa_cons (pv 4) (pa_cons (pe_bltn (v := .ty "KeyError") (by rfl) m_KeyError (by decide +kernel) rfl) pa_nil))) pa_nil))))) (pss_cons (ps_if (PW.pt (pw_or (pt_cmpR (op_neD hr.room.units) (dcall D_kinds (hr.mono (by decide)) (by rfl) (pa_cons (pv 4) pa_nil)) (pv 6) (nomark _)) (pw_or1 (pt_cmpR (op_neD hr.room.units) (pv 7) (pe_lst (pa_cons (pe_cmpR op_lt (pv 3) pe_int (nomark _)) (pa_cons (pe_cmpR op_lt (pv 3) pe_int (nomark _)) (pa_cons (pe_cmpR op_ge (pv 3) pe_int (nomark _)) pa_nil)))) (nomark _))))) (pss_one (ps_ret pe_bl)) pss_nil) (pss_one (ps_if (PW.pt (pw_and (pt_cmpR op_notN (pv 5) pe_non (nomark _)) (pw_and1 (pt_cmpR op_ne (pe_callB (call_repr hr) (by rfl) m_repr (by decide +kernel) (pa_cons (dcall D_carried (hr.mono (by decide)) (by rfl) (pa_cons (pv 4) (pa_cons (pv 5) pa_nil))) pa_nil)) (pv 2) (nomark _))))) (pss_one (ps_ret pe_bl)) pss_nil)))))) (pss_cons (ps_setLc (i := 8) (own := [("_law_e", 4), ("_law_word", 5)]) (g := gTup K 2 (gCons (gName 4) (gCons (gName 5) gNil))) rfl sc_right.nd rfl rfl (sw_true rfl rfl rfl (by decide +kernel)) (pi_list (pv 1)) (blkOk_by (own := [("_law_e", 4), ("_law_word", 5)]) (N := ["_law_it", "_law_made_here", "_law_kept", "_law_k", "_law_e", "_law_word", "_law_own", "_law_bases", "_law_words", "_law_j"]) (sc := defScope s_right) (by decide +kernel)) (fun _ _ _ _ _ => (pg_tup rfl (pgs_cons (pg_name (i := 4) sc_right.nd rfl (Or.inl rfl)) (pgs_cons (pg_name (i := 5) sc_right.nd rfl (Or.inl rfl)) pgs_nil)))) (fun _ _ _ _ _ => (pts_one (pt_cmpR op_notN (pv 5) pe_non (nomark _)))) (fun _ _ _ _ _ => (pv 5))) (pss_cons (ps_for PassesOwn.never rfl (pi_zip (by rfl) m_zip (pa_cons (dcall D_named (hr.mono (by decide)) (by rfl) (pa_cons (pv 0) pa_nil)) (pa_cons (pv 8) pa_nil))) (pg_tup rfl (pgs_cons (pg_name (i := 4) sc_right.nd rfl (Or.inl rfl)) (pgs_cons (pg_name (i := 5) sc_right.nd rfl (Or.inl rfl)) pgs_nil))) (pss_one (ps_if (pt_cmpR op_ne (pe_callB (call_repr hr) (by rfl) m_repr (by decide +kernel) (pa_cons (dcall D_carried (hr.mono (by decide)) (by rfl) (pa_cons (pv 4) (pa_cons (pv 5) pa_nil))) pa_nil)) (pv 2) (nomark _)) (pss_one (ps_ret pe_bl)) pss_nil))) (pss_one (ps_ret (pe_cmpR op_eq (pe_callB (call_repr hr) (by rfl) m_repr (by decide +kernel) (pa_cons (pv 0) pa_nil)) (pv 2) (nomark _)))))))), ?_⟩
    refine rd_par (rd_cons (rd_call (rd_cons (rd_var (v := x) rfl (rd_nil ⟨x, rfl, fun H1 a s1 na h1 => ?_⟩)))))
    have hx1 := hx.same s1
    refine rd_cons (rd_cb (rd_cons (rd_var (v := x) rfl (rd_nil ⟨x, d, rfl, hx1, hG.sh, hG.dp, hG.sz, rd_nil ⟨.ref a, .str d.shown, rfl, ?_⟩⟩))))
    obtain ⟨vs, v1, v2⟩ := h1
    have hl : vs.length = 19 := by rw [v2.len, List.length_range]
    refine rd_seq (rd_for (rd_enum (rd_cons (rd_var (v := .ref a) rfl (rd_nil ⟨a, vs, rfl, sq v1, for_in 19 (fun i σ' H' => Same H1 H' ∧ ∃ s3 s4 s5 s6 s7, σ' = [some x, some (.ref a), some (.str d.shown), s3, s4, s5, s6, s7, none, none]) ⟨Same.refl _, none, none, none, none, none, rfl⟩ (fun σ' H2 hI => ⟨⟨vs, sq (hI.1 _ _ v1), by omega⟩, ?_⟩) (fun i σ' H2 hi hI => ⟨?_, fun N hN y H3 hy => ?_⟩)⟩)))))
    · obtain ⟨s2, s3, s4, s5, s6, s7, rfl⟩ := hI
      refine rd_proj ?_
      refine rd_set (rd_lc (rd_ilist (rd_var (v := .ref a) rfl ⟨a, rfl, ⟨vs, sq (s2 _ _ v1)⟩, lc_in 19 (by decide) (fun L i acc H' => H2 L = none ∧ Same H2 H' ∧ acc = ws i) (fun L nL => ⟨nL, same_upd nL, rfl⟩) (fun L acc H3 h1 h2 => ⟨⟨vs, sq ((s2.trans h2.2.1) _ _ v1), by omega⟩, ?_⟩) (fun L i acc H3 hi h1 h2 => ⟨⟨vs, vs[i], sq ((s2.trans h2.2.1) _ _ v1), List.getElem?_eq_getElem (by omega)⟩, fun Pk R hP hR y H4 hy => ?_⟩)⟩)))
      · obtain ⟨n3, s13, rfl⟩ := h2
        have hs3 := s2.trans s13
        refine rd_seq (rd_for (rd_zip (rd_cons (rd_call (rd_cons (rd_var (v := x) rfl (rd_nil ⟨x, rfl, fun H4 b sb nb h4 => ?_⟩)))))))
        obtain ⟨us, u1, u2⟩ := h4
        have hl2 : us.length = 16 := by rw [u2.len]; rfl
        have hl3 : (ws 19).length = 16 := by rw [ws_all]; rfl
        refine rd_cons (rd_var (v := .ref L) rfl (rd_nil ⟨b, L, us, ws 19, rfl, sq u1, sq (sb _ _ h1), for_in 16 (fun i σ' H' => Same H4 H' ∧ ∃ e4 e5, σ' = [some x, some (.ref a), some (.str d.shown), s3, e4, e5, s6, s7, some (.ref L), none]) ⟨Same.refl _, _, _, rfl⟩ (fun σ' H5 hI => ⟨⟨us, ws 19, sq (hI.1 _ _ u1), sq ((sb.trans hI.1) _ _ h1), .inl (by omega)⟩, ?_⟩) (fun i σ' H5 hi hI => ⟨?_, fun N hN y H6 hy => ?_⟩)⟩))
        · obtain ⟨s5, e4, e5, rfl⟩ := hI
          refine rd_proj (rd_ret (rd_op (rd_cb (rd_cons (rd_var (v := x) rfl (rd_nil ⟨x, d, rfl, hx1.same (hs3.trans (sb.trans s5)), hG.sh, hG.dp, hG.sz, rd_var (v := .str d.shown) rfl ⟨rfl, ?_⟩⟩)))))) 
          have e1 : decide (V.str d.shown = V.str d.shown) = true := decide_eq_true rfl
          rw [e1]
          exact q _ (s1.trans (hs3.trans (sb.trans s5)))
        · exact ⟨us, ws 19, us[i], (ws 19)[i], sq (hI.1 _ _ u1), sq ((sb.trans hI.1) _ _ h1), List.getElem?_eq_getElem (by omega), List.getElem?_eq_getElem (by omega)⟩
        · obtain ⟨s5, e4, e5, rfl⟩ := hI
          obtain ⟨Tp, x1, y1, rfl, nT, rfl, hz1, hz2⟩ := hy
          have hz1' := hz1 us (sq (s5 _ _ u1))
          have hz2' := hz2 (ws 19) (sq ((sb.trans s5) _ _ h1))
          obtain ⟨j, hj, e, rfl, hE⟩ := (u2.same (ite_st C x) s5).get hz1'
          rw [ws_all, List.getElem?_map, hj] at hz2'
          have ey : wordV j = y1 := Option.some.inj hz2'
          obtain ⟨fw, hf⟩ := named_f j (List.mem_of_getElem? hj)
          have hw : wordV j = .str fw := by unfold wordV; rw [hf]
          rw [hw] at ey
          subst ey
          have s6 : Same H5 (upd H5 Tp (.tup [.ref e, .str fw])) := same_upd nT
          have eT : (upd H5 Tp (.tup [.ref e, .str fw])) Tp = some (.tup [.ref e, .str fw]) := upd_same
          generalize upd H5 Tp (.tup [.ref e, .str fw]) = H6 at s6 eT ⊢
          refine rd_gnn (sqt eT) (rd_ifS (kept_ok hG rfl rfl rfl hf (hE.same s6) (hx1.same (hs3.trans (sb.trans (s5.trans s6)))) (pF (by decide) (rd_nx (hN _ _ ⟨s5.trans s6, _, _, rfl⟩)))))
      · obtain ⟨n3, s13, rfl⟩ := h2
        obtain ⟨rfl, hy⟩ := hy
        have hy' := hy vs (sq ((s2.trans s13) _ _ v1))
        obtain ⟨j, hj, hIt⟩ := (v2.same (itp_st C x) (s2.trans s13)).get hy'
        have ej : j = i := by
          rw [List.getElem?_range hi] at hj
          exact (Option.some.inj hj).symm
        subst ej
        obtain ⟨b, e, rfl, hb, hE⟩ := hIt
        refine rd_gnn (sqt hb) ⟨rfl, rd_test (rd_op (rd_var (v := wordV j) rfl (rd_c ⟨rfl, _, rfl, ?_⟩)))⟩
        obtain ⟨fo, hf⟩ := f_lt hE.lt
        cases fo with
        | none =>
          have hw : wordV j = .non := by unfold wordV; rw [hf]
          rw [hw]
          exact pF (by decide) (hR _ h1 ⟨n3, s13, (ws_none hf).symm⟩)
        | some fw =>
          have hw : wordV j = .str fw := by unfold wordV; rw [hf]
          rw [hw]
          refine pT (by rfl) (rd_var (v := .str fw) rfl (hP _ _ h1 ⟨n3, ?_, (ws_some hf).symm⟩))
          exact fun b o z => by
            rw [upd_ne (ne_of_none z n3)]
            exact s13 b o z
    · exact ⟨vs, vs[i], sq (hI.1 _ _ v1), List.getElem?_eq_getElem (by omega)⟩
    · obtain ⟨s2, c3, c4, c5, c6, c7, rfl⟩ := hI
      obtain ⟨Tp, y', rfl, nT, rfl, hy⟩ := hy
      have hy' := hy vs (sq (s2 _ _ v1))
      obtain ⟨j, hj, hIt⟩ := (v2.same (itp_st C x) s2).get hy'
      have ej : j = i := by
        rw [List.getElem?_range hi] at hj
        exact (Option.some.inj hj).symm
      subst ej
      obtain ⟨b, e, rfl, hb, hE⟩ := hIt
      have s3 : Same H2 (upd H2 Tp (.tup [.int (j : Nat), .ref b])) := same_upd nT
      have eT : (upd H2 Tp (.tup [.int (j : Nat), .ref b])) Tp = some (.tup [.int (j : Nat), .ref b]) := upd_same
      generalize upd H2 Tp (.tup [.int (j : Nat), .ref b]) = H3 at s3 eT ⊢
      have hb3 := s3 _ _ hb
      have hE3 := hE.same s3
      have sv := s2.trans s3
      refine rd_gnt (sqt eT) (sqt hb3) ?_
      refine rd_set (lc_rng vs.length (by omega) (fun k => .bl (decide (V.int (j : Int) = V.int (k : Int)))) (fun R r => rd_cons (rd_cb (rd_cons (rd_var (v := .ref a) rfl (rd_nil ⟨a, vs, rfl, .inl (sq (sv _ _ v1)), rd_nil r⟩))))) (fun _ => rfl)
        (fun k hk H' sH P p => rd_op (rd_var (v := .int (j : Int)) rfl (rd_var (v := .int (k : Int)) rfl ⟨rfl, p⟩))) fun L H4 s4 nL eL => ?_)
      rw [hl] at eL
      have hE4 := hE3.same s4
      refine rd_set (rd_lst (rd_cons (rd_isx T (e := e) rfl hE4 (cv := .ref (C 19)) (fun u r => by cases r; rfl) (T.kinds j 19 (by omega) (by decide)) (rd_cons (rd_isx T (e := e) rfl hE4 (cv := .type "ValueError") (fun u r => by cases r; rfl) (T.isV j (by omega)) (rd_cons (rd_isx T (e := e) rfl hE4 (cv := .type "KeyError") (fun u r => by cases r; rfl) (T.isK j (by omega)) (rd_nil ⟨by show 3 ≤ sizeLine; decide, fun B nB => ?_⟩))))))))
      have s5 : Same H4 (upd H4 B (.lst [.bl (decide (j = 19 ∨ (19 = 19 ∧ j < 17))), .bl (decide (j < 17 ∨ j = 19)), .bl (decide (j = 17 ∨ j = 18))])) := same_upd nB
      have eB : (upd H4 B (.lst [.bl (decide (j = 19 ∨ (19 = 19 ∧ j < 17))), .bl (decide (j < 17 ∨ j = 19)), .bl (decide (j = 17 ∨ j = 18))])) B = some (.lst [.bl (decide (j = 19 ∨ (19 = 19 ∧ j < 17))), .bl (decide (j < 17 ∨ j = 19)), .bl (decide (j = 17 ∨ j = 18))]) := upd_same
      generalize upd H4 B (.lst [.bl (decide (j = 19 ∨ (19 = 19 ∧ j < 17))), .bl (decide (j < 17 ∨ j = 19)), .bl (decide (j = 17 ∨ j = 18))]) = H5 at s5 eB ⊢
      have hE5 := hE4.same s5
      refine rd_if (rd_or (rd_test (rd_op (rd_call (rd_cons (rd_var (v := .ref e) rfl (rd_nil ⟨e, j, x, rfl, hE5, fun H6 k s6 nk ek => rd_var (v := .ref L) rfl ⟨_, _, dp_bools _ _ ek, dp_bools _ _ ((s5.trans s6) _ _ eL), rfl, rfl, _, rfl, ?_⟩⟩)))))))
      refine pF (by rw [kinds_own j hi]; decide) ?_
      refine rd_test (rd_op (rd_var (v := .ref B) rfl (rd_lst (rd_cons (rd_op (rd_var (v := .int (j : Int)) rfl (rd_c ⟨_, _, rfl, rfl, rd_cons (rd_op (rd_var (v := .int (j : Int)) rfl (rd_c ⟨_, _, rfl, rfl, rd_cons (rd_op (rd_var (v := .int (j : Int)) rfl (rd_c ⟨_, _, rfl, rfl, rd_nil ⟨by show 3 ≤ sizeLine; decide, fun Z nZ => ?_⟩⟩)))⟩)))⟩)))))))
      have s7 : Same H6 (upd H6 Z (.lst [.bl (decide ((j : Int) < 17)), .bl (decide ((j : Int) < 17)), .bl (decide (17 ≤ (j : Int)))])) := same_upd nZ
      have eZ : (upd H6 Z (.lst [.bl (decide ((j : Int) < 17)), .bl (decide ((j : Int) < 17)), .bl (decide (17 ≤ (j : Int)))])) Z = some (.lst [.bl (decide ((j : Int) < 17)), .bl (decide ((j : Int) < 17)), .bl (decide (17 ≤ (j : Int)))]) := upd_same
      generalize upd H6 Z (.lst [.bl (decide ((j : Int) < 17)), .bl (decide ((j : Int) < 17)), .bl (decide (17 ≤ (j : Int)))]) = H7 at s7 eZ ⊢
      refine ⟨_, _, .lst (sq ((s6.trans s7) _ _ eB)) (.cons (.bl _) (.cons (.bl _) (.cons (.bl _) .nil))), .lst (sq eZ) (.cons (.bl _) (.cons (.bl _) (.cons (.bl _) .nil))), rfl, rfl, _, rfl, ?_⟩
      refine pF (by rw [bases_own j hi]; decide) (rd_next ?_)
      have s17 : Same H1 H7 := sv.trans (s4.trans (s5.trans (s6.trans s7)))
      have hE7 := ((hE5.same s6).same s7)
      obtain ⟨fo, hf⟩ := f_lt hE.lt
      have fin : ∀ (H' : Hp), Same H7 H' → ∀ e5 : Option V, N ([some x, some (.ref a), some (.str d.shown), some (.int (j : Int)), some (.ref e), e5, some (.ref L), some (.ref B), none, none]) H' := fun H' s8 e5 => hN _ _ ⟨s17.trans s8, _, _, _, _, _, rfl⟩
      refine rd_ifS (rd_and (rd_test (rd_op (rd_var (v := wordV j) rfl (rd_c ⟨rfl, _, rfl, ?_⟩)))))
      cases fo with
      | none =>
        have hw : wordV j = .non := by unfold wordV; rw [hf]
        rw [hw]
        exact pF (by decide) (pF (by decide) (rd_nx (fin _ (Same.refl _) _)))
      | some fw =>
        have hw : wordV j = .str fw := by unfold wordV; rw [hf]
        rw [hw]
        exact pT (by rfl) (kept_ok hG rfl rfl rfl hf hE7 (hx1.same s17) (pF (by decide) (rd_nx (fin _ (Same.refl _) _))))
end
end K86

set_option Elab.async false
set_option linter.all false
set_option maxRecDepth 100000
set_option maxHeartbeats 4000000
/-! LW: law. -/
namespace K86
open PySem PySem.Spec PyProof.Rows L2 GG DD KX
abbrev s_law : Stmt := topS 31
theorem sc_law : FnScope ["_law_script", "_law_deck_here", "_law_some", "_law_base", "_law_k", "_law_it"] ["_law_script"] (defScope s_law) := ⟨rfl, rfl, rfl, by decide +kernel, rfl, by decide +kernel, by decide +kernel⟩
def GoodV (K : PySem.W.Frag) (H : Hp) (v : V) : Prop := ∃ d, Dt K H v d ∧ Good d
theorem GoodV.same {K : PySem.W.Frag} {H H' : Hp} {v : V} (s : Same H H') (h : GoodV K H v) : GoodV K H' v := by
  obtain ⟨d, h1, h2⟩ := h
  exact ⟨d, h1.same s, h2⟩
def sevenD : List PyData := [.none, .str "", .tuple [], .list [], .int 0, .bool true, .bool false]
theorem good_seven : ∀ d, d ∈ sevenD → Good d := by
  have kA : sevenD.all (fun d => d.showable && decide (d.depth ≤ 60) && decide (d.shown.length ≤ 10000)) = true := by decide +kernel
  exact fun d hd => good_of (List.all_eq_true.mp kA d hd)
theorem base_b : PyData.eqv (.list [.bool (decide (19 < 17 ∨ 19 = 19)), .bool (decide (19 = 17 ∨ 19 = 18))]) (.list [.bool true, .bool false]) = true := by decide +kernel
theorem base_flat : ((List.range 19).map fun j => V.bl (decide (19 = j))).all flatV = true := by decide +kernel
theorem base_in : (!inV (.bl true) ((List.range 19).map fun j => V.bl (decide (19 = j)))) = true := by decide +kernel
section
variable {P : Program} {w : World} {K : PySem.W.Frag} {mg : Str → Option Value} {base : Heap} {C : Nat → Addr}
theorem deck_taken {H : Hp} {p l : Addr} {n : Nat} (d : Deck H p l n) : Taken H (fun b => b = p ∨ b = l) := by
  obtain ⟨⟨m, cs, h1, h2, _⟩, _⟩ := d
  intro b hb
  rcases hb with rfl | rfl
  · exact ⟨_, h1⟩
  · exact ⟨_, h2⟩
theorem deck_at {H : Hp} {p l L : Addr} {n : Nat} {o : HO} (d : Deck H p l n) (h1 : L ≠ p) (h2 : L ≠ l) : Deck (upd H L o) p l n := by
  obtain ⟨⟨m, cs, e1, e2, h⟩, h4⟩ := d
  exact ⟨⟨m, cs, by rw [upd_ne h1.symm]; exact e1, by rw [upd_ne h2.symm]; exact e2, h⟩, h4⟩
def spLaw (K : PySem.W.Frag) : Sp := fun vs H Q _ => ∃ (a : Addr) (ns : List Int), vs = [.ref a] ∧ SqL K H a (ns.map V.int) ∧ ns.length ≤ 63 ∧ ∀ H', Q (.bl true) H'
theorem ok_law {f : Addr} {fd : FuncData} (F : L2.Fun K "law" "law" s_law f fd) (T : Cs P w K mg base C)
    (D_deck : Df P w K mg base 1 "_law_deck" ["_law_script"] (spDeck K)) (D_odd : Df P w K mg base 3 "_law_odd" ["_law_deck_here"] (spOdd K)) (D_right : Df P w K mg base 4 "_law_right" ["_law_it"] (spRight K)) (D_kinds : Df P w K mg base 3 "_law_kinds" ["_law_e"] (spKinds C))
    (m_isinstance : mg "isinstance" = none) (m_range : mg "range" = none) (m_ValueError : mg "ValueError" = none) (m_KeyError : mg "KeyError" = none) :
    Fg P w K mg base 5 f fd ["_law_script"] (spLaw K) := by
  refine okg F sc_law (fun vs H Q h => ?_) (fun cdv A outer s H vs Q hr h => ?_)
  · obtain ⟨a, ns, rfl, _⟩ := h
    rfl
  · obtain ⟨a, ns, rfl, hS, hlen, q⟩ := h
    refine ⟨_, (pss_cons (ps_set (i := 1) sc_law.nd rfl (Or.inr rfl) (dcall D_deck (hr.mono (by decide)) (by rfl) (pa_cons (pv 0) pa_nil))) (pss_cons (ps_set (i := 2) sc_law.nd rfl (Or.inl rfl) (pe_op op_cat (pe_lst (pa_cons pe_non (pa_cons pe_str (pa_cons (pe_tup pa_nil) (pa_cons (pe_lst pa_nil) (pa_cons pe_int (pa_cons pe_bl (pa_cons pe_bl pa_nil)))))))) (pe_lc (own := [("_law_k", 4)]) (g := (gName 4)) rfl sc_law.nd (pi_range1 (by rfl) m_range (pa_cons pe_int pa_nil)) (blkOk_by (own := [("_law_k", 4)]) (N := ["_law_script", "_law_deck_here", "_law_some", "_law_base", "_law_k", "_law_it"]) (sc := defScope s_law) (by decide +kernel)) (fun _ _ _ _ _ => (pg_name (i := 4) sc_law.nd rfl (Or.inl rfl))) (fun _ _ _ _ _ => pts_nil) (fun _ _ _ _ _ => (dcall D_odd (hr.mono (by decide)) (by rfl) (pa_cons (pv 1) pa_nil)))))) (pss_cons (ps_if (pt_cmpR (op_neD hr.room.units) (pe_lc (own := [("_law_it", 5)]) (g := (gName 5)) rfl sc_law.nd (pi_list (pv 2)) (blkOk_by (own := [("_law_it", 5)]) (N := ["_law_script", "_law_deck_here", "_law_some", "_law_base", "_law_k", "_law_it"]) (sc := defScope s_law) (by decide +kernel)) (fun _ _ _ _ _ => (pg_name (i := 5) sc_law.nd rfl (Or.inl rfl))) (fun _ _ _ _ _ => (pts_one (pt_not (pt_val (dcall D_right (hr.mono (by decide)) (by rfl) (pa_cons (pv 5) pa_nil)))))) (fun _ _ _ _ _ => (pv 5))) (pe_lst pa_nil) (nomark _)) (pss_one (ps_ret pe_bl)) pss_nil) (pss_cons (ps_set (i := 3) sc_law.nd rfl (Or.inl rfl) (mk0 T 19 rfl rfl (by rfl))) (pss_one (ps_ret (pe_and (pe_cmpR (op_eqD hr.room.units) (pe_lst (pa_cons (pe_callB (call_isX T.cr) (by rfl) m_isinstance (by decide +kernel) (pa_cons (pv 3) (pa_cons (pe_bltn (v := .ty "ValueError") (by rfl) m_ValueError (by decide +kernel) rfl) pa_nil))) (pa_cons (pe_callB (call_isX T.cr) (by rfl) m_isinstance (by decide +kernel) (pa_cons (pv 3) (pa_cons (pe_bltn (v := .ty "KeyError") (by rfl) m_KeyError (by decide +kernel) rfl) pa_nil))) pa_nil))) (pe_lst (pa_cons pe_bl (pa_cons pe_bl pa_nil))) (nomark _)) (pe_one (pe_cmpR op_notIn_seq pe_bl (dcall D_kinds (hr.mono (by decide)) (by rfl) (pa_cons (pv 3) pa_nil)) (by rfl)))))))))), ?_⟩
    refine rd_set (rd_call (rd_cons (rd_var (v := .ref a) rfl (rd_nil ⟨a, ns, rfl, hS, hlen, fun H1 p l s1 hD np => ?_⟩))))
    have hT := deck_taken hD
    have A1 : ∀ σ, EvTs K (fun b => b = p ∨ b = l) (tCons (tC .non) (tCons (tC (.str "")) (tCons (tTup tNil) (tCons (tLst tNil) (tCons (tC (.int 0)) (tCons (tC (.bl true)) (tCons (tC (.bl false)) tNil))))))) σ sevenD := fun σ =>
      evts_cons evp_non.t (evts_cons evp_str.t (evts_cons (evp_tup evps_nil (by decide)).t (evts_cons (evp_lst evps_nil (by decide)).t (evts_cons evp_int.t (evts_cons evp_bl.t (evts_cons evp_bl.t evts_nil))))))
    refine rd_set (rd_op (rd_lst (A1 _ H1 hT _ fun vs1 H2 s2 h2 => ⟨by rw [h2.len]; exact szi (by decide), fun S nS => ?_⟩)))
    have s3 : Same H2 (upd H2 S (.lst vs1)) := same_upd nS
    have eS : (upd H2 S (.lst vs1)) S = some (.lst vs1) := upd_same
    obtain ⟨nSp, nSl⟩ := (hD.same s2).new nS
    generalize upd H2 S (.lst vs1) = H3 at s3 eS ⊢
    have hD3 := hD.same (s2.trans s3)
    have h3 := h2.same (hdS s3)
    refine rd_lc (rd_rng1 (rd_cons (rd_c (rd_nil ⟨6, rfl, by decide, by decide, lc_in 6 (by decide) (fun L i acc H' => H3 L = none ∧ L ≠ p ∧ L ≠ l ∧ Deck H' p l i ∧ But p l H3 H' ∧ acc.length = i ∧ ∀ v ∈ acc, GoodV K (Hd (fun b => b = p ∨ b = l ∨ b = L) H') v)
      (fun L nL => ⟨nL, (hD3.new nL).1, (hD3.new nL).2, hD3.same (same_upd nL), But.of (same_upd nL), rfl, fun v hv => absurd hv List.not_mem_nil⟩)
      (fun L acc H' e1 e2 => ⟨Nat.le_refl 6, ?_⟩) (fun L i acc H' hi e1 e2 => ⟨hi, fun Pk R hP hR y H4 hy => ?_⟩)⟩))))
    · obtain ⟨nL, nLp, nLl, hD4, hB, hl4, hG4⟩ := e2
      have eS4 := hB _ _ nSp nSl eS
      refine ⟨S, L, vs1, acc, rfl, rfl, eS4, e1, by rw [h2.len, hl4]; exact szi (by decide), fun M nM => ?_⟩
      have s5 : Same H' (upd H' M (.lst (vs1 ++ acc))) := same_upd nM
      have eM : (upd H' M (.lst (vs1 ++ acc))) M = some (.lst (vs1 ++ acc)) := upd_same
      generalize upd H' M (.lst (vs1 ++ acc)) = H5 at s5 eM ⊢
      have hall : ∀ v ∈ vs1 ++ acc, GoodV K H5 v := fun v hv => by
        rcases List.mem_append.mp hv with hv | hv
        · obtain ⟨d, hd, hdt⟩ := h3.mem hv
          exact ⟨d, ((hdt.same (hB.hd (.inl rfl) (.inr rfl))).same (hd_sub _ H')).same s5, good_seven d hd⟩
        · exact ((hG4 v hv).same (hd_sub _ H')).same s5
      have hlen2 : (vs1 ++ acc).length = 13 := by
        rw [List.length_append, hl4, h2.len]
        rfl
      generalize vs1 ++ acc = tot at eM hall hlen2
      refine rd_if (rd_test (rd_op (rd_lc (rd_ilist (rd_var (v := .ref M) rfl ⟨M, rfl, ⟨tot, sq eM⟩, lc_in 13 (by decide) (fun L i acc H' => H5 L = none ∧ Same H5 H' ∧ acc = []) (fun L nL => ⟨nL, same_upd nL, rfl⟩) (fun L acc H6 z1 z2 => ⟨⟨tot, sq (z2.2.1 _ _ eM), by omega⟩, ?_⟩) (fun L i acc H6 hi z1 z2 => ⟨⟨tot, tot[i], sq (z2.2.1 _ _ eM), List.getElem?_eq_getElem (by omega)⟩, fun Pk R hP hR y H7 hy => ?_⟩)⟩)))))
      · obtain ⟨z3, s6, rfl⟩ := z2
        refine rd_lst (rd_nil ⟨by decide, fun Z nZ => ?_⟩)
        have s7 : Same H6 (upd H6 Z (.lst [])) := same_upd nZ
        have eZ : (upd H6 Z (.lst [])) Z = some (.lst []) := upd_same
        generalize upd H6 Z (.lst []) = H7 at s7 eZ ⊢
        refine ⟨.list [], .list [], .lst (sq (s7 _ _ z1)) .nil, .lst (sq eZ) .nil, rfl, rfl, _, rfl, pF (by decide) (rd_next ?_)⟩
        refine rd_set (made0 (C := C) (x := .non) rfl fun e H8 s8 hE => ?_)
        refine rd_ret ?_
        refine rd_op (rd_lst (rd_cons (rd_isx T (e := e) rfl hE (cv := .type "ValueError") (fun u r => by cases r; rfl) (T.isV 19 (by decide)) (rd_cons (rd_isx T (e := e) rfl hE (cv := .type "KeyError") (fun u r => by cases r; rfl) (T.isK 19 (by decide)) (rd_nil ⟨by show 2 ≤ sizeLine; decide, fun B nB => ?_⟩))))))
        have s9 : Same H8 (upd H8 B (.lst [.bl (decide (19 < 17 ∨ 19 = 19)), .bl (decide (19 = 17 ∨ 19 = 18))])) := same_upd nB
        have eB : (upd H8 B (.lst [.bl (decide (19 < 17 ∨ 19 = 19)), .bl (decide (19 = 17 ∨ 19 = 18))])) B = some (.lst [.bl (decide (19 < 17 ∨ 19 = 19)), .bl (decide (19 = 17 ∨ 19 = 18))]) := upd_same
        generalize upd H8 B (.lst [.bl (decide (19 < 17 ∨ 19 = 19)), .bl (decide (19 = 17 ∨ 19 = 18))]) = H9 at s9 eB ⊢
        refine rd_lst (rd_cons (rd_c (rd_cons (rd_c (rd_nil ⟨by show 2 ≤ sizeLine; decide, fun Y nY => ?_⟩)))))
        have s10 : Same H9 (upd H9 Y (.lst [.bl true, .bl false])) := same_upd nY
        have eY : (upd H9 Y (.lst [.bl true, .bl false])) Y = some (.lst [.bl true, .bl false]) := upd_same
        generalize upd H9 Y (.lst [.bl true, .bl false]) = H10 at s10 eY ⊢
        refine ⟨_, _, .lst (sq (s10 _ _ eB)) (.cons (.bl _) (.cons (.bl _) .nil)), .lst (sq eY) (.cons (.bl _) (.cons (.bl _) .nil)), rfl, rfl, _, rfl, pT base_b ?_⟩
        refine rd_op (rd_c (rd_call (rd_cons (rd_var (v := .ref e) rfl (rd_nil ⟨e, 19, .non, rfl, (hE.same s9).same s10, fun H11 k s11 nk ek => ⟨k, _, rfl, .inl (sq ek), rfl, base_flat, ?_⟩⟩)))))
        rw [if_pos rfl, base_in]
        exact q _
      · obtain ⟨z3, s6, rfl⟩ := z2
        obtain ⟨rfl, hy⟩ := hy
        have hy' := hy tot (sq (s6 _ _ eM))
        obtain ⟨d, hdt, hgd⟩ := hall y (List.mem_of_getElem? hy')
        refine ⟨rfl, rd_not (rd_tb (rd_call (rd_cons (rd_var (v := y) rfl (rd_nil ⟨y, d, rfl, hdt.same s6, hgd, fun H8 s8 => ⟨true, rfl, pF (by decide) (hR _ (s8 _ _ z1) ⟨z3, s6.trans s8, rfl⟩)⟩⟩)))))⟩
    · obtain ⟨nL, nLp, nLl, hD4, hB, hl4, hG4⟩ := e2
      obtain ⟨rfl, rfl⟩ := hy
      refine ⟨rfl, rd_yes (rd_call (rd_cons (rd_var (v := .ref p) rfl (rd_nil ⟨p, l, i, fun b => b = p ∨ b = l ∨ b = L, rfl, hD4, by omega, .inl rfl, .inr (.inl rfl), (fun b hb => by
        rcases hb with rfl | rfl | rfl
        · exact (deck_taken hD4) _ (.inl rfl)
        · exact (deck_taken hD4) _ (.inr rfl)
        · exact ⟨_, e1⟩), fun H5 v d hD5 hB5 hdt hgd => hP v H5 (hB5 _ _ nLp nLl e1) ⟨nL, nLp, nLl, ?_, ?_, ?_, ?_⟩⟩))))⟩
      · exact deck_at hD5 nLp nLl
      · exact fun b o h1 h2 h3 => by
          rw [upd_ne (ne_of_none h3 nL)]
          exact hB5 b o h1 h2 (hB b o h1 h2 h3)
      · rw [List.length_append, hl4]
        rfl
      · intro z hz
        refine GoodV.same (hd_upd (.inr (.inr rfl))) ?_
        rcases List.mem_append.mp hz with hz | hz
        · exact (hG4 z hz).same (hB5.hd (.inl rfl) (.inr (.inl rfl)))
        · rw [List.mem_singleton.mp hz]
          exact ⟨d, hdt, hgd⟩
end
end K86

set_option Elab.async false
set_option linter.all false
set_option maxRecDepth 100000
set_option maxHeartbeats 4000000
/-! CK: what the head tells of the error classes, as one truth that the kernel works out. -/
namespace KX
open PySem PySem.Spec L2 GG
def ownB (tail : List Value) : List Value → Bool
  | .ref c :: r => ownB tail r
  | l => l == tail
theorem own_of {tail : List Value} : ∀ {l : List Value}, ownB tail l = true → Own tail l
  | [], h => by
    have e : ([] : List Value) = tail := beq_iff_eq.mp h
    rw [← e]
    exact .base
  | v :: r, h => by
    cases v with
    | ref c => exact .more (own_of h)
    | _ =>
      have e := beq_iff_eq.mp h
      rw [e]
      exact .base
def clsOk (K : PySem.W.Frag) (newId : String) (tail : List Value) (C : Addr) : Bool := match K.lookup C with
  | some ⟨cl, _, .cls cd, sl⟩ => (match cd.mro, sl.toList with
    | .ref C' :: bm, [_, _, _, _, some (.builtin n), _] => cl == .type "type" && C' == C && n == newId && !cd.hasDel && cd.hasDict && ownB tail bm
    | _, _ => false)
  | _ => false
theorem clsOk_of {K : PySem.W.Frag} {newId : String} {tail : List Value} {C : Addr} (q : clsOk K newId tail C = true) : ∃ nm q N bs bm sn sub ab col dd k0 k1 k2 k3 k5, K.lookup C = some (excClassObj nm q C N bs bm true sn sub ab col dd k0 k1 k2 k3 k5 newId) ∧ Own tail bm := by
  unfold clsOk at q
  split at q
  · rename_i cl dd cd sl ho
    split at q
    · rename_i C' bm k0 k1 k2 k3 n k5 hm hs
      simp only [Bool.and_eq_true, beq_iff_eq, Bool.not_eq_true'] at q
      obtain ⟨⟨⟨⟨⟨rfl, rfl⟩, rfl⟩, hdel⟩, hdd⟩, ht⟩ := q
      obtain ⟨nm, bs, mro, ns, qn, hd, sn, sub, ab, col, del⟩ := cd
      dsimp only at hm hdel hdd
      subst hm hdel hdd
      have hsl : sl = #[k0, k1, k2, k3, some (.builtin n), k5] := by
        obtain ⟨l⟩ := sl
        simp only at hs
        rw [hs]
      subst hsl
      exact ⟨nm, qn, ns, bs, bm, sn, sub, ab, col, dd, k0, k1, k2, k3, k5, ho, own_of ht⟩
    · cases q
  · cases q
def xcOk (K : PySem.W.Frag) (newId : String) (tail : List Value) (C : Addr) : Bool := clsOk K newId tail C && (PySem.W.keepIn K (.ref C) && (PySem.W.findIn K (.ref C) "__setattr__" == some (some (.builtin "object.__setattr__")) && (PySem.W.findIn K (.ref C) "__getattribute__" == some (some (.builtin "BaseException.__getattribute__")) && (PySem.W.findIn K (.ref C) "__getattr__" == some none &&
  (PySem.W.subIn K (.ref C) (.type "BaseException") == some true && (PySem.W.hasDictIn K C && (PySem.W.findIn K (.ref C) "__class__" == some (some (.builtin "object.__class__")) && PySem.W.mroIn K C (.type "object") == some true)))))))
theorem xc_of {K : PySem.W.Frag} {newId : String} {tail : List Value} {C : Addr} (q : xcOk K newId tail C = true) : Xc K newId tail C := by
  unfold xcOk at q
  simp only [Bool.and_eq_true, beq_iff_eq] at q
  obtain ⟨h0, h1, h2, h3, h4, h5, h6, h7, h8⟩ := q
  exact ⟨clsOk_of h0, h1, h2, h3, h4, h5, h6, h7, h8⟩
end KX

set_option Elab.async false
set_option linter.all false
set_option maxRecDepth 100000
set_option maxHeartbeats 4000000
/-! FN: what the head tells, joined. -/
namespace K86
open PySem PySem.Spec PyProof.Rows L2 GG DD KX
abbrev s_i2 : Stmt := inClass (topS 4) 0
theorem sc_i2 : FnScope ["self", "path"] ["self", "path"] (defScope s_i2) := ⟨rfl, rfl, rfl, by decide +kernel, rfl, by decide +kernel, by decide +kernel⟩
abbrev s_i3 : Stmt := inClass (topS 5) 0
theorem sc_i3 : FnScope ["self", "path"] ["self", "path"] (defScope s_i3) := ⟨rfl, rfl, rfl, by decide +kernel, rfl, by decide +kernel, by decide +kernel⟩
abbrev s_i4 : Stmt := inClass (topS 6) 0
theorem sc_i4 : FnScope ["self", "path"] ["self", "path"] (defScope s_i4) := ⟨rfl, rfl, rfl, by decide +kernel, rfl, by decide +kernel, by decide +kernel⟩
abbrev s_i5 : Stmt := inClass (topS 7) 0
theorem sc_i5 : FnScope ["self", "path"] ["self", "path"] (defScope s_i5) := ⟨rfl, rfl, rfl, by decide +kernel, rfl, by decide +kernel, by decide +kernel⟩
abbrev s_i6 : Stmt := inClass (topS 8) 0
theorem sc_i6 : FnScope ["self", "path"] ["self", "path"] (defScope s_i6) := ⟨rfl, rfl, rfl, by decide +kernel, rfl, by decide +kernel, by decide +kernel⟩
abbrev s_i7 : Stmt := inClass (topS 9) 0
theorem sc_i7 : FnScope ["self", "path"] ["self", "path"] (defScope s_i7) := ⟨rfl, rfl, rfl, by decide +kernel, rfl, by decide +kernel, by decide +kernel⟩
abbrev s_i8 : Stmt := inClass (topS 10) 0
theorem sc_i8 : FnScope ["self", "count"] ["self", "count"] (defScope s_i8) := ⟨rfl, rfl, rfl, by decide +kernel, rfl, by decide +kernel, by decide +kernel⟩
abbrev s_i9 : Stmt := inClass (topS 11) 0
theorem sc_i9 : FnScope ["self", "name"] ["self", "name"] (defScope s_i9) := ⟨rfl, rfl, rfl, by decide +kernel, rfl, by decide +kernel, by decide +kernel⟩
abbrev s_i10 : Stmt := inClass (topS 12) 0
theorem sc_i10 : FnScope ["self", "name"] ["self", "name"] (defScope s_i10) := ⟨rfl, rfl, rfl, by decide +kernel, rfl, by decide +kernel, by decide +kernel⟩
abbrev s_i11 : Stmt := inClass (topS 13) 0
theorem sc_i11 : FnScope ["self", "call"] ["self", "call"] (defScope s_i11) := ⟨rfl, rfl, rfl, by decide +kernel, rfl, by decide +kernel, by decide +kernel⟩
abbrev s_i13 : Stmt := inClass (topS 15) 0
theorem sc_i13 : FnScope ["self", "name"] ["self", "name"] (defScope s_i13) := ⟨rfl, rfl, rfl, by decide +kernel, rfl, by decide +kernel, by decide +kernel⟩
abbrev s_i14 : Stmt := inClass (topS 16) 0
theorem sc_i14 : FnScope ["self", "name"] ["self", "name"] (defScope s_i14) := ⟨rfl, rfl, rfl, by decide +kernel, rfl, by decide +kernel, by decide +kernel⟩
abbrev s_i15 : Stmt := inClass (topS 17) 0
theorem sc_i15 : FnScope ["self", "name"] ["self", "name"] (defScope s_i15) := ⟨rfl, rfl, rfl, by decide +kernel, rfl, by decide +kernel, by decide +kernel⟩
abbrev s_i16 : Stmt := inClass (topS 18) 0
theorem sc_i16 : FnScope ["self", "name"] ["self", "name"] (defScope s_i16) := ⟨rfl, rfl, rfl, by decide +kernel, rfl, by decide +kernel, by decide +kernel⟩
abbrev s_i17 : Stmt := inClass (topS 19) 0
theorem sc_i17 : FnScope ["self", "name"] ["self", "name"] (defScope s_i17) := ⟨rfl, rfl, rfl, by decide +kernel, rfl, by decide +kernel, by decide +kernel⟩
abbrev s_i18 : Stmt := inClass (topS 20) 0
theorem sc_i18 : FnScope ["self", "name"] ["self", "name"] (defScope s_i18) := ⟨rfl, rfl, rfl, by decide +kernel, rfl, by decide +kernel, by decide +kernel⟩
/-- the classes' own truths -/
def chk (K : PySem.W.Frag) (i : Nat) (C : Addr) : Bool := xcOk K (if i = 17 ∨ i = 18 then "LookupError.__new__" else "ValueError.__new__") (if i = 17 ∨ i = 18 then keTail else veTail) C
def chkI (K : PySem.W.Frag) (f : Str) (C fI : Addr) : Bool := PySem.W.typeIn K (.ref fI) == some (.type "function") && (PySem.W.findIn K (.ref C) f == some none && PySem.W.keepIn K (.ref fI))
def chkN (K : PySem.W.Frag) (C : Addr) : Bool := PySem.W.findIn K (.ref C) "__init__" == some (some (.builtin "ValueError.__init__"))
def chkK (K : PySem.W.Frag) (cl : List Addr) : Bool := (List.range 20).all fun i => (PySem.W.kitOne K (.ref (cl.getD i 0)) (.type "ValueError") == some (decide (i < 17 ∨ i = 19))) && ((PySem.W.kitOne K (.ref (cl.getD i 0)) (.type "KeyError") == some (decide (i = 17 ∨ i = 18))) &&
  (List.range 20).all fun j => PySem.W.kitOne K (.ref (cl.getD i 0)) (.ref (cl.getD j 0)) == some (decide (i = j ∨ (j = 19 ∧ i < 17))))
theorem chkK_of {K : PySem.W.Frag} {cl : List Addr} (h : chkK K cl = true) : ∀ i, i < 20 → PySem.W.kitOne K (.ref (cl.getD i 0)) (.type "ValueError") = some (decide (i < 17 ∨ i = 19)) ∧ PySem.W.kitOne K (.ref (cl.getD i 0)) (.type "KeyError") = some (decide (i = 17 ∨ i = 18)) ∧
    ∀ j, j < 20 → PySem.W.kitOne K (.ref (cl.getD i 0)) (.ref (cl.getD j 0)) = some (decide (i = j ∨ (j = 19 ∧ i < 17))) := fun i hi => by
  have h1 := List.all_eq_true.mp h i (List.mem_range.mpr hi)
  rw [Bool.and_eq_true, Bool.and_eq_true] at h1
  exact ⟨beq_iff_eq.mp h1.1, beq_iff_eq.mp h1.2.1, fun j hj => beq_iff_eq.mp (List.all_eq_true.mp h1.2.2 j (List.mem_range.mpr hj))⟩
section
variable {P : Program} {w : World} {K : PySem.W.Frag} {mg : Str → Option Value} {base : Heap}
theorem c1_none {C : Addr} (h : xcOk K "ValueError.__new__" veTail C = true) (n : chkN K C = true) : C1 P w K mg base C none := ⟨⟨"ValueError", "ValueError.__new__", "ValueError", "ValueError.__init__", veTail, ways_VE, xc_of h, beq_iff_eq.mp n⟩⟩
theorem c1_2 {C fI : Addr} {oc kV dc pm cd ct : Value} {od an : Option Addr} {sl : Array (Option Value)} (h : xcOk K "ValueError.__new__" veTail C = true) (b : PySem.W.findIn K (.ref C) "__init__" = some (some (.ref fI))) (hI : chkI K "path" C fI = true)
    (l : K.lookup fI = some ⟨oc, od, .func (PySem.W.fnOf "__init__" "NoPath.__init__" (defArgs s_i2) (defBody s_i2) (defScope s_i2) .none kV dc pm an cd ct), sl⟩) (c : PySem.W.codeIn K cd "NoPath.__init__" = true) {C0 : Addr} (mR : mg "RoundCallsError" = some (.ref C0)) (s1 : PySem.W.specialIn K (.ref C0) "__getattribute__" = some (some (.builtin "type.__getattribute__"))) (s2 : PySem.W.readsIn K C0 (.type "type") = true) (s3 : PySem.W.findCls K (.ref C0) (.type "type") "__init__" = some (.val (.builtin "ValueError.__init__"))) : C1 P w K mg base C (some "path") := by
  unfold chkI at hI
  simp only [Bool.and_eq_true, beq_iff_eq] at hI
  have F := fun_mk (st := s_i2) l c hI.2.2
  have T := init_VE (P := P) (w := w) (mg := mg) (base := base) (f := "path") ways_VE F sc_i2 rfl (by rfl) (by rfl) (by rfl) (by decide) (by decide) ⟨mR, s1, s2, s3⟩ (fun _ => ⟨_, rfl⟩) (by rfl)
  exact ⟨⟨"ValueError", "ValueError.__new__", "ValueError", "ValueError.__init__", veTail, ways_VE, xc_of h, fI, _, b, hI.1, hI.2.1, T, fun s a u => .of_eq rfl, fun s a u => .of_eq rfl⟩⟩
theorem c1_3 {C fI : Addr} {oc kV dc pm cd ct : Value} {od an : Option Addr} {sl : Array (Option Value)} (h : xcOk K "ValueError.__new__" veTail C = true) (b : PySem.W.findIn K (.ref C) "__init__" = some (some (.ref fI))) (hI : chkI K "path" C fI = true)
    (l : K.lookup fI = some ⟨oc, od, .func (PySem.W.fnOf "__init__" "UnknownName.__init__" (defArgs s_i3) (defBody s_i3) (defScope s_i3) .none kV dc pm an cd ct), sl⟩) (c : PySem.W.codeIn K cd "UnknownName.__init__" = true) {C0 : Addr} (mR : mg "RoundCallsError" = some (.ref C0)) (s1 : PySem.W.specialIn K (.ref C0) "__getattribute__" = some (some (.builtin "type.__getattribute__"))) (s2 : PySem.W.readsIn K C0 (.type "type") = true) (s3 : PySem.W.findCls K (.ref C0) (.type "type") "__init__" = some (.val (.builtin "ValueError.__init__"))) : C1 P w K mg base C (some "path") := by
  unfold chkI at hI
  simp only [Bool.and_eq_true, beq_iff_eq] at hI
  have F := fun_mk (st := s_i3) l c hI.2.2
  have T := init_VE (P := P) (w := w) (mg := mg) (base := base) (f := "path") ways_VE F sc_i3 rfl (by rfl) (by rfl) (by rfl) (by decide) (by decide) ⟨mR, s1, s2, s3⟩ (fun _ => ⟨_, rfl⟩) (by rfl)
  exact ⟨⟨"ValueError", "ValueError.__new__", "ValueError", "ValueError.__init__", veTail, ways_VE, xc_of h, fI, _, b, hI.1, hI.2.1, T, fun s a u => .of_eq rfl, fun s a u => .of_eq rfl⟩⟩
theorem c1_4 {C fI : Addr} {oc kV dc pm cd ct : Value} {od an : Option Addr} {sl : Array (Option Value)} (h : xcOk K "ValueError.__new__" veTail C = true) (b : PySem.W.findIn K (.ref C) "__init__" = some (some (.ref fI))) (hI : chkI K "path" C fI = true)
    (l : K.lookup fI = some ⟨oc, od, .func (PySem.W.fnOf "__init__" "UnknownTag.__init__" (defArgs s_i4) (defBody s_i4) (defScope s_i4) .none kV dc pm an cd ct), sl⟩) (c : PySem.W.codeIn K cd "UnknownTag.__init__" = true) {C0 : Addr} (mR : mg "RoundCallsError" = some (.ref C0)) (s1 : PySem.W.specialIn K (.ref C0) "__getattribute__" = some (some (.builtin "type.__getattribute__"))) (s2 : PySem.W.readsIn K C0 (.type "type") = true) (s3 : PySem.W.findCls K (.ref C0) (.type "type") "__init__" = some (.val (.builtin "ValueError.__init__"))) : C1 P w K mg base C (some "path") := by
  unfold chkI at hI
  simp only [Bool.and_eq_true, beq_iff_eq] at hI
  have F := fun_mk (st := s_i4) l c hI.2.2
  have T := init_VE (P := P) (w := w) (mg := mg) (base := base) (f := "path") ways_VE F sc_i4 rfl (by rfl) (by rfl) (by rfl) (by decide) (by decide) ⟨mR, s1, s2, s3⟩ (fun _ => ⟨_, rfl⟩) (by rfl)
  exact ⟨⟨"ValueError", "ValueError.__new__", "ValueError", "ValueError.__init__", veTail, ways_VE, xc_of h, fI, _, b, hI.1, hI.2.1, T, fun s a u => .of_eq rfl, fun s a u => .of_eq rfl⟩⟩
theorem c1_5 {C fI : Addr} {oc kV dc pm cd ct : Value} {od an : Option Addr} {sl : Array (Option Value)} (h : xcOk K "ValueError.__new__" veTail C = true) (b : PySem.W.findIn K (.ref C) "__init__" = some (some (.ref fI))) (hI : chkI K "path" C fI = true)
    (l : K.lookup fI = some ⟨oc, od, .func (PySem.W.fnOf "__init__" "WrongCount.__init__" (defArgs s_i5) (defBody s_i5) (defScope s_i5) .none kV dc pm an cd ct), sl⟩) (c : PySem.W.codeIn K cd "WrongCount.__init__" = true) {C0 : Addr} (mR : mg "RoundCallsError" = some (.ref C0)) (s1 : PySem.W.specialIn K (.ref C0) "__getattribute__" = some (some (.builtin "type.__getattribute__"))) (s2 : PySem.W.readsIn K C0 (.type "type") = true) (s3 : PySem.W.findCls K (.ref C0) (.type "type") "__init__" = some (.val (.builtin "ValueError.__init__"))) : C1 P w K mg base C (some "path") := by
  unfold chkI at hI
  simp only [Bool.and_eq_true, beq_iff_eq] at hI
  have F := fun_mk (st := s_i5) l c hI.2.2
  have T := init_VE (P := P) (w := w) (mg := mg) (base := base) (f := "path") ways_VE F sc_i5 rfl (by rfl) (by rfl) (by rfl) (by decide) (by decide) ⟨mR, s1, s2, s3⟩ (fun _ => ⟨_, rfl⟩) (by rfl)
  exact ⟨⟨"ValueError", "ValueError.__new__", "ValueError", "ValueError.__init__", veTail, ways_VE, xc_of h, fI, _, b, hI.1, hI.2.1, T, fun s a u => .of_eq rfl, fun s a u => .of_eq rfl⟩⟩
theorem c1_6 {C fI : Addr} {oc kV dc pm cd ct : Value} {od an : Option Addr} {sl : Array (Option Value)} (h : xcOk K "ValueError.__new__" veTail C = true) (b : PySem.W.findIn K (.ref C) "__init__" = some (some (.ref fI))) (hI : chkI K "path" C fI = true)
    (l : K.lookup fI = some ⟨oc, od, .func (PySem.W.fnOf "__init__" "WrongSort.__init__" (defArgs s_i6) (defBody s_i6) (defScope s_i6) .none kV dc pm an cd ct), sl⟩) (c : PySem.W.codeIn K cd "WrongSort.__init__" = true) {C0 : Addr} (mR : mg "RoundCallsError" = some (.ref C0)) (s1 : PySem.W.specialIn K (.ref C0) "__getattribute__" = some (some (.builtin "type.__getattribute__"))) (s2 : PySem.W.readsIn K C0 (.type "type") = true) (s3 : PySem.W.findCls K (.ref C0) (.type "type") "__init__" = some (.val (.builtin "ValueError.__init__"))) : C1 P w K mg base C (some "path") := by
  unfold chkI at hI
  simp only [Bool.and_eq_true, beq_iff_eq] at hI
  have F := fun_mk (st := s_i6) l c hI.2.2
  have T := init_VE (P := P) (w := w) (mg := mg) (base := base) (f := "path") ways_VE F sc_i6 rfl (by rfl) (by rfl) (by rfl) (by decide) (by decide) ⟨mR, s1, s2, s3⟩ (fun _ => ⟨_, rfl⟩) (by rfl)
  exact ⟨⟨"ValueError", "ValueError.__new__", "ValueError", "ValueError.__init__", veTail, ways_VE, xc_of h, fI, _, b, hI.1, hI.2.1, T, fun s a u => .of_eq rfl, fun s a u => .of_eq rfl⟩⟩
theorem c1_7 {C fI : Addr} {oc kV dc pm cd ct : Value} {od an : Option Addr} {sl : Array (Option Value)} (h : xcOk K "ValueError.__new__" veTail C = true) (b : PySem.W.findIn K (.ref C) "__init__" = some (some (.ref fI))) (hI : chkI K "path" C fI = true)
    (l : K.lookup fI = some ⟨oc, od, .func (PySem.W.fnOf "__init__" "WrongPlace.__init__" (defArgs s_i7) (defBody s_i7) (defScope s_i7) .none kV dc pm an cd ct), sl⟩) (c : PySem.W.codeIn K cd "WrongPlace.__init__" = true) {C0 : Addr} (mR : mg "RoundCallsError" = some (.ref C0)) (s1 : PySem.W.specialIn K (.ref C0) "__getattribute__" = some (some (.builtin "type.__getattribute__"))) (s2 : PySem.W.readsIn K C0 (.type "type") = true) (s3 : PySem.W.findCls K (.ref C0) (.type "type") "__init__" = some (.val (.builtin "ValueError.__init__"))) : C1 P w K mg base C (some "path") := by
  unfold chkI at hI
  simp only [Bool.and_eq_true, beq_iff_eq] at hI
  have F := fun_mk (st := s_i7) l c hI.2.2
  have T := init_VE (P := P) (w := w) (mg := mg) (base := base) (f := "path") ways_VE F sc_i7 rfl (by rfl) (by rfl) (by rfl) (by decide) (by decide) ⟨mR, s1, s2, s3⟩ (fun _ => ⟨_, rfl⟩) (by rfl)
  exact ⟨⟨"ValueError", "ValueError.__new__", "ValueError", "ValueError.__init__", veTail, ways_VE, xc_of h, fI, _, b, hI.1, hI.2.1, T, fun s a u => .of_eq rfl, fun s a u => .of_eq rfl⟩⟩
theorem c1_8 {C fI : Addr} {oc kV dc pm cd ct : Value} {od an : Option Addr} {sl : Array (Option Value)} (h : xcOk K "ValueError.__new__" veTail C = true) (b : PySem.W.findIn K (.ref C) "__init__" = some (some (.ref fI))) (hI : chkI K "count" C fI = true)
    (l : K.lookup fI = some ⟨oc, od, .func (PySem.W.fnOf "__init__" "WrongArguments.__init__" (defArgs s_i8) (defBody s_i8) (defScope s_i8) .none kV dc pm an cd ct), sl⟩) (c : PySem.W.codeIn K cd "WrongArguments.__init__" = true) {C0 : Addr} (mR : mg "RoundCallsError" = some (.ref C0)) (s1 : PySem.W.specialIn K (.ref C0) "__getattribute__" = some (some (.builtin "type.__getattribute__"))) (s2 : PySem.W.readsIn K C0 (.type "type") = true) (s3 : PySem.W.findCls K (.ref C0) (.type "type") "__init__" = some (.val (.builtin "ValueError.__init__"))) : C1 P w K mg base C (some "count") := by
  unfold chkI at hI
  simp only [Bool.and_eq_true, beq_iff_eq] at hI
  have F := fun_mk (st := s_i8) l c hI.2.2
  have T := init_VE (P := P) (w := w) (mg := mg) (base := base) (f := "count") ways_VE F sc_i8 rfl (by rfl) (by rfl) (by rfl) (by decide) (by decide) ⟨mR, s1, s2, s3⟩ (fun _ => ⟨_, rfl⟩) (by rfl)
  exact ⟨⟨"ValueError", "ValueError.__new__", "ValueError", "ValueError.__init__", veTail, ways_VE, xc_of h, fI, _, b, hI.1, hI.2.1, T, fun s a u => .of_eq rfl, fun s a u => .of_eq rfl⟩⟩
theorem c1_9 {C fI : Addr} {oc kV dc pm cd ct : Value} {od an : Option Addr} {sl : Array (Option Value)} (h : xcOk K "ValueError.__new__" veTail C = true) (b : PySem.W.findIn K (.ref C) "__init__" = some (some (.ref fI))) (hI : chkI K "name" C fI = true)
    (l : K.lookup fI = some ⟨oc, od, .func (PySem.W.fnOf "__init__" "NoCertificate.__init__" (defArgs s_i9) (defBody s_i9) (defScope s_i9) .none kV dc pm an cd ct), sl⟩) (c : PySem.W.codeIn K cd "NoCertificate.__init__" = true) {C0 : Addr} (mR : mg "RoundCallsError" = some (.ref C0)) (s1 : PySem.W.specialIn K (.ref C0) "__getattribute__" = some (some (.builtin "type.__getattribute__"))) (s2 : PySem.W.readsIn K C0 (.type "type") = true) (s3 : PySem.W.findCls K (.ref C0) (.type "type") "__init__" = some (.val (.builtin "ValueError.__init__"))) : C1 P w K mg base C (some "name") := by
  unfold chkI at hI
  simp only [Bool.and_eq_true, beq_iff_eq] at hI
  have F := fun_mk (st := s_i9) l c hI.2.2
  have T := init_VE (P := P) (w := w) (mg := mg) (base := base) (f := "name") ways_VE F sc_i9 rfl (by rfl) (by rfl) (by rfl) (by decide) (by decide) ⟨mR, s1, s2, s3⟩ (fun _ => ⟨_, rfl⟩) (by rfl)
  exact ⟨⟨"ValueError", "ValueError.__new__", "ValueError", "ValueError.__init__", veTail, ways_VE, xc_of h, fI, _, b, hI.1, hI.2.1, T, fun s a u => .of_eq rfl, fun s a u => .of_eq rfl⟩⟩
theorem c1_10 {C fI : Addr} {oc kV dc pm cd ct : Value} {od an : Option Addr} {sl : Array (Option Value)} (h : xcOk K "ValueError.__new__" veTail C = true) (b : PySem.W.findIn K (.ref C) "__init__" = some (some (.ref fI))) (hI : chkI K "name" C fI = true)
    (l : K.lookup fI = some ⟨oc, od, .func (PySem.W.fnOf "__init__" "NoRuns.__init__" (defArgs s_i10) (defBody s_i10) (defScope s_i10) .none kV dc pm an cd ct), sl⟩) (c : PySem.W.codeIn K cd "NoRuns.__init__" = true) {C0 : Addr} (mR : mg "RoundCallsError" = some (.ref C0)) (s1 : PySem.W.specialIn K (.ref C0) "__getattribute__" = some (some (.builtin "type.__getattribute__"))) (s2 : PySem.W.readsIn K C0 (.type "type") = true) (s3 : PySem.W.findCls K (.ref C0) (.type "type") "__init__" = some (.val (.builtin "ValueError.__init__"))) : C1 P w K mg base C (some "name") := by
  unfold chkI at hI
  simp only [Bool.and_eq_true, beq_iff_eq] at hI
  have F := fun_mk (st := s_i10) l c hI.2.2
  have T := init_VE (P := P) (w := w) (mg := mg) (base := base) (f := "name") ways_VE F sc_i10 rfl (by rfl) (by rfl) (by rfl) (by decide) (by decide) ⟨mR, s1, s2, s3⟩ (fun _ => ⟨_, rfl⟩) (by rfl)
  exact ⟨⟨"ValueError", "ValueError.__new__", "ValueError", "ValueError.__init__", veTail, ways_VE, xc_of h, fI, _, b, hI.1, hI.2.1, T, fun s a u => .of_eq rfl, fun s a u => .of_eq rfl⟩⟩
theorem c1_11 {C fI : Addr} {oc kV dc pm cd ct : Value} {od an : Option Addr} {sl : Array (Option Value)} (h : xcOk K "ValueError.__new__" veTail C = true) (b : PySem.W.findIn K (.ref C) "__init__" = some (some (.ref fI))) (hI : chkI K "call" C fI = true)
    (l : K.lookup fI = some ⟨oc, od, .func (PySem.W.fnOf "__init__" "NotPending.__init__" (defArgs s_i11) (defBody s_i11) (defScope s_i11) .none kV dc pm an cd ct), sl⟩) (c : PySem.W.codeIn K cd "NotPending.__init__" = true) {C0 : Addr} (mR : mg "RoundCallsError" = some (.ref C0)) (s1 : PySem.W.specialIn K (.ref C0) "__getattribute__" = some (some (.builtin "type.__getattribute__"))) (s2 : PySem.W.readsIn K C0 (.type "type") = true) (s3 : PySem.W.findCls K (.ref C0) (.type "type") "__init__" = some (.val (.builtin "ValueError.__init__"))) : C1 P w K mg base C (some "call") := by
  unfold chkI at hI
  simp only [Bool.and_eq_true, beq_iff_eq] at hI
  have F := fun_mk (st := s_i11) l c hI.2.2
  have T := init_VE (P := P) (w := w) (mg := mg) (base := base) (f := "call") ways_VE F sc_i11 rfl (by rfl) (by rfl) (by rfl) (by decide) (by decide) ⟨mR, s1, s2, s3⟩ (fun _ => ⟨_, rfl⟩) (by rfl)
  exact ⟨⟨"ValueError", "ValueError.__new__", "ValueError", "ValueError.__init__", veTail, ways_VE, xc_of h, fI, _, b, hI.1, hI.2.1, T, fun s a u => .of_eq rfl, fun s a u => .of_eq rfl⟩⟩
theorem c1_13 {C fI : Addr} {oc kV dc pm cd ct : Value} {od an : Option Addr} {sl : Array (Option Value)} (h : xcOk K "ValueError.__new__" veTail C = true) (b : PySem.W.findIn K (.ref C) "__init__" = some (some (.ref fI))) (hI : chkI K "name" C fI = true)
    (l : K.lookup fI = some ⟨oc, od, .func (PySem.W.fnOf "__init__" "NotPlain.__init__" (defArgs s_i13) (defBody s_i13) (defScope s_i13) .none kV dc pm an cd ct), sl⟩) (c : PySem.W.codeIn K cd "NotPlain.__init__" = true) {C0 : Addr} (mR : mg "RoundCallsError" = some (.ref C0)) (s1 : PySem.W.specialIn K (.ref C0) "__getattribute__" = some (some (.builtin "type.__getattribute__"))) (s2 : PySem.W.readsIn K C0 (.type "type") = true) (s3 : PySem.W.findCls K (.ref C0) (.type "type") "__init__" = some (.val (.builtin "ValueError.__init__"))) : C1 P w K mg base C (some "name") := by
  unfold chkI at hI
  simp only [Bool.and_eq_true, beq_iff_eq] at hI
  have F := fun_mk (st := s_i13) l c hI.2.2
  have T := init_VE (P := P) (w := w) (mg := mg) (base := base) (f := "name") ways_VE F sc_i13 rfl (by rfl) (by rfl) (by rfl) (by decide) (by decide) ⟨mR, s1, s2, s3⟩ (fun _ => ⟨_, rfl⟩) (by rfl)
  exact ⟨⟨"ValueError", "ValueError.__new__", "ValueError", "ValueError.__init__", veTail, ways_VE, xc_of h, fI, _, b, hI.1, hI.2.1, T, fun s a u => .of_eq rfl, fun s a u => .of_eq rfl⟩⟩
theorem c1_14 {C fI : Addr} {oc kV dc pm cd ct : Value} {od an : Option Addr} {sl : Array (Option Value)} (h : xcOk K "ValueError.__new__" veTail C = true) (b : PySem.W.findIn K (.ref C) "__init__" = some (some (.ref fI))) (hI : chkI K "name" C fI = true)
    (l : K.lookup fI = some ⟨oc, od, .func (PySem.W.fnOf "__init__" "NotSimple.__init__" (defArgs s_i14) (defBody s_i14) (defScope s_i14) .none kV dc pm an cd ct), sl⟩) (c : PySem.W.codeIn K cd "NotSimple.__init__" = true) {C0 : Addr} (mR : mg "RoundCallsError" = some (.ref C0)) (s1 : PySem.W.specialIn K (.ref C0) "__getattribute__" = some (some (.builtin "type.__getattribute__"))) (s2 : PySem.W.readsIn K C0 (.type "type") = true) (s3 : PySem.W.findCls K (.ref C0) (.type "type") "__init__" = some (.val (.builtin "ValueError.__init__"))) : C1 P w K mg base C (some "name") := by
  unfold chkI at hI
  simp only [Bool.and_eq_true, beq_iff_eq] at hI
  have F := fun_mk (st := s_i14) l c hI.2.2
  have T := init_VE (P := P) (w := w) (mg := mg) (base := base) (f := "name") ways_VE F sc_i14 rfl (by rfl) (by rfl) (by rfl) (by decide) (by decide) ⟨mR, s1, s2, s3⟩ (fun _ => ⟨_, rfl⟩) (by rfl)
  exact ⟨⟨"ValueError", "ValueError.__new__", "ValueError", "ValueError.__init__", veTail, ways_VE, xc_of h, fI, _, b, hI.1, hI.2.1, T, fun s a u => .of_eq rfl, fun s a u => .of_eq rfl⟩⟩
theorem c1_15 {C fI : Addr} {oc kV dc pm cd ct : Value} {od an : Option Addr} {sl : Array (Option Value)} (h : xcOk K "ValueError.__new__" veTail C = true) (b : PySem.W.findIn K (.ref C) "__init__" = some (some (.ref fI))) (hI : chkI K "name" C fI = true)
    (l : K.lookup fI = some ⟨oc, od, .func (PySem.W.fnOf "__init__" "NoMaker.__init__" (defArgs s_i15) (defBody s_i15) (defScope s_i15) .none kV dc pm an cd ct), sl⟩) (c : PySem.W.codeIn K cd "NoMaker.__init__" = true) {C0 : Addr} (mR : mg "RoundCallsError" = some (.ref C0)) (s1 : PySem.W.specialIn K (.ref C0) "__getattribute__" = some (some (.builtin "type.__getattribute__"))) (s2 : PySem.W.readsIn K C0 (.type "type") = true) (s3 : PySem.W.findCls K (.ref C0) (.type "type") "__init__" = some (.val (.builtin "ValueError.__init__"))) : C1 P w K mg base C (some "name") := by
  unfold chkI at hI
  simp only [Bool.and_eq_true, beq_iff_eq] at hI
  have F := fun_mk (st := s_i15) l c hI.2.2
  have T := init_VE (P := P) (w := w) (mg := mg) (base := base) (f := "name") ways_VE F sc_i15 rfl (by rfl) (by rfl) (by rfl) (by decide) (by decide) ⟨mR, s1, s2, s3⟩ (fun _ => ⟨_, rfl⟩) (by rfl)
  exact ⟨⟨"ValueError", "ValueError.__new__", "ValueError", "ValueError.__init__", veTail, ways_VE, xc_of h, fI, _, b, hI.1, hI.2.1, T, fun s a u => .of_eq rfl, fun s a u => .of_eq rfl⟩⟩
theorem c1_16 {C fI : Addr} {oc kV dc pm cd ct : Value} {od an : Option Addr} {sl : Array (Option Value)} (h : xcOk K "ValueError.__new__" veTail C = true) (b : PySem.W.findIn K (.ref C) "__init__" = some (some (.ref fI))) (hI : chkI K "name" C fI = true)
    (l : K.lookup fI = some ⟨oc, od, .func (PySem.W.fnOf "__init__" "NameTaken.__init__" (defArgs s_i16) (defBody s_i16) (defScope s_i16) .none kV dc pm an cd ct), sl⟩) (c : PySem.W.codeIn K cd "NameTaken.__init__" = true) {C0 : Addr} (mR : mg "RoundCallsError" = some (.ref C0)) (s1 : PySem.W.specialIn K (.ref C0) "__getattribute__" = some (some (.builtin "type.__getattribute__"))) (s2 : PySem.W.readsIn K C0 (.type "type") = true) (s3 : PySem.W.findCls K (.ref C0) (.type "type") "__init__" = some (.val (.builtin "ValueError.__init__"))) : C1 P w K mg base C (some "name") := by
  unfold chkI at hI
  simp only [Bool.and_eq_true, beq_iff_eq] at hI
  have F := fun_mk (st := s_i16) l c hI.2.2
  have T := init_VE (P := P) (w := w) (mg := mg) (base := base) (f := "name") ways_VE F sc_i16 rfl (by rfl) (by rfl) (by rfl) (by decide) (by decide) ⟨mR, s1, s2, s3⟩ (fun _ => ⟨_, rfl⟩) (by rfl)
  exact ⟨⟨"ValueError", "ValueError.__new__", "ValueError", "ValueError.__init__", veTail, ways_VE, xc_of h, fI, _, b, hI.1, hI.2.1, T, fun s a u => .of_eq rfl, fun s a u => .of_eq rfl⟩⟩
theorem c1_17 {C fI : Addr} {oc kV dc pm cd ct : Value} {od an : Option Addr} {sl : Array (Option Value)} (h : xcOk K "LookupError.__new__" keTail C = true) (b : PySem.W.findIn K (.ref C) "__init__" = some (some (.ref fI))) (hI : chkI K "name" C fI = true)
    (l : K.lookup fI = some ⟨oc, od, .func (PySem.W.fnOf "__init__" "UnknownFunction.__init__" (defArgs s_i17) (defBody s_i17) (defScope s_i17) .none kV dc pm an cd ct), sl⟩) (c : PySem.W.codeIn K cd "UnknownFunction.__init__" = true) (mK : mg "KeyError" = none) (s4 : PySem.W.findCls K (.type "KeyError") (.type "type") "__init__" = some (.val (.builtin "KeyError.__init__"))) : C1 P w K mg base C (some "name") := by
  unfold chkI at hI
  simp only [Bool.and_eq_true, beq_iff_eq] at hI
  have F := fun_mk (st := s_i17) l c hI.2.2
  have T := init_KE (P := P) (w := w) (mg := mg) (base := base) (f := "name") (C0 := 0) ways_KE F sc_i17 rfl (by rfl) (by rfl) (by rfl) (by decide) (by decide) ⟨mK, "KeyError", by decide +kernel, PySem.W.kitMeta_of (by decide +kernel), by decide +kernel, s4⟩ (fun _ => ⟨_, rfl⟩) (by rfl)
  exact ⟨⟨"LookupError", "LookupError.__new__", "KeyError", "KeyError.__init__", keTail, ways_KE, xc_of h, fI, _, b, hI.1, hI.2.1, T, fun s a u => .of_eq rfl, fun s a u => .of_eq rfl⟩⟩
theorem c1_18 {C fI : Addr} {oc kV dc pm cd ct : Value} {od an : Option Addr} {sl : Array (Option Value)} (h : xcOk K "LookupError.__new__" keTail C = true) (b : PySem.W.findIn K (.ref C) "__init__" = some (some (.ref fI))) (hI : chkI K "name" C fI = true)
    (l : K.lookup fI = some ⟨oc, od, .func (PySem.W.fnOf "__init__" "UnknownItem.__init__" (defArgs s_i18) (defBody s_i18) (defScope s_i18) .none kV dc pm an cd ct), sl⟩) (c : PySem.W.codeIn K cd "UnknownItem.__init__" = true) (mK : mg "KeyError" = none) (s4 : PySem.W.findCls K (.type "KeyError") (.type "type") "__init__" = some (.val (.builtin "KeyError.__init__"))) : C1 P w K mg base C (some "name") := by
  unfold chkI at hI
  simp only [Bool.and_eq_true, beq_iff_eq] at hI
  have F := fun_mk (st := s_i18) l c hI.2.2
  have T := init_KE (P := P) (w := w) (mg := mg) (base := base) (f := "name") (C0 := 0) ways_KE F sc_i18 rfl (by rfl) (by rfl) (by rfl) (by decide) (by decide) ⟨mK, "KeyError", by decide +kernel, PySem.W.kitMeta_of (by decide +kernel), by decide +kernel, s4⟩ (fun _ => ⟨_, rfl⟩) (by rfl)
  exact ⟨⟨"LookupError", "LookupError.__new__", "KeyError", "KeyError.__init__", keTail, ways_KE, xc_of h, fI, _, b, hI.1, hI.2.1, T, fun s a u => .of_eq rfl, fun s a u => .of_eq rfl⟩⟩
theorem all_mk {h : Heap} (X : K.In h) (G : h.Ns mainGlobals mg) {dn : Str} (hd : dn = "law")
    {fa c0 c1 c2 c3 c4 c5 c6 c7 c8 c9 c10 c11 c12 c13 c14 c15 c16 c17 c18 c19 i2 i3 i4 i5 i6 i7 i8 i9 i10 i11 i13 i14 i15 i16 i17 i18 d0 d1 d2 d3 d4 d5 d6 d7 d8 d9 : Addr}
    {oci2 kVi2 dci2 pmi2 cdi2 cti2 oci3 kVi3 dci3 pmi3 cdi3 cti3 oci4 kVi4 dci4 pmi4 cdi4 cti4 oci5 kVi5 dci5 pmi5 cdi5 cti5 oci6 kVi6 dci6 pmi6 cdi6 cti6 oci7 kVi7 dci7 pmi7 cdi7 cti7 oci8 kVi8 dci8 pmi8 cdi8 cti8 oci9 kVi9 dci9 pmi9 cdi9 cti9 oci10 kVi10 dci10 pmi10 cdi10 cti10 oci11 kVi11 dci11 pmi11 cdi11 cti11 oci13 kVi13 dci13 pmi13 cdi13 cti13 oci14 kVi14 dci14 pmi14 cdi14 cti14 oci15 kVi15 dci15 pmi15 cdi15 cti15 oci16 kVi16 dci16 pmi16 cdi16 cti16 oci17 kVi17 dci17 pmi17 cdi17 cti17 oci18 kVi18 dci18 pmi18 cdi18 cti18 ocd0 kVd0 dcd0 pmd0 cdd0 ctd0 ocd1 kVd1 dcd1 pmd1 cdd1 ctd1 ocd2 kVd2 dcd2 pmd2 cdd2 ctd2 ocd3 kVd3 dcd3 pmd3 cdd3 ctd3 ocd4 kVd4 dcd4 pmd4 cdd4 ctd4 ocd5 kVd5 dcd5 pmd5 cdd5 ctd5 ocd6 kVd6 dcd6 pmd6 cdd6 ctd6 ocd7 kVd7 dcd7 pmd7 cdd7 ctd7 ocd8 kVd8 dcd8 pmd8 cdd8 ctd8 ocd9 kVd9 dcd9 pmd9 cdd9 ctd9 : Value}
    {odi2 ani2 odi3 ani3 odi4 ani4 odi5 ani5 odi6 ani6 odi7 ani7 odi8 ani8 odi9 ani9 odi10 ani10 odi11 ani11 odi13 ani13 odi14 ani14 odi15 ani15 odi16 ani16 odi17 ani17 odi18 ani18 odd0 and0 odd1 and1 odd2 and2 odd3 and3 odd4 and4 odd5 and5 odd6 and6 odd7 and7 odd8 and8 odd9 and9 : Option Addr}
    {sli2 sli3 sli4 sli5 sli6 sli7 sli8 sli9 sli10 sli11 sli13 sli14 sli15 sli16 sli17 sli18 sld0 sld1 sld2 sld3 sld4 sld5 sld6 sld7 sld8 sld9 : Array (Option Value)}
    (ac0 : PySem.W.nsIn K mainGlobals "InvalidText" = some (some (.ref c0)))
    (ac1 : PySem.W.nsIn K mainGlobals "InvalidCommand" = some (some (.ref c1)))
    (ac2 : PySem.W.nsIn K mainGlobals "NoPath" = some (some (.ref c2)))
    (ac3 : PySem.W.nsIn K mainGlobals "UnknownName" = some (some (.ref c3)))
    (ac4 : PySem.W.nsIn K mainGlobals "UnknownTag" = some (some (.ref c4)))
    (ac5 : PySem.W.nsIn K mainGlobals "WrongCount" = some (some (.ref c5)))
    (ac6 : PySem.W.nsIn K mainGlobals "WrongSort" = some (some (.ref c6)))
    (ac7 : PySem.W.nsIn K mainGlobals "WrongPlace" = some (some (.ref c7)))
    (ac8 : PySem.W.nsIn K mainGlobals "WrongArguments" = some (some (.ref c8)))
    (ac9 : PySem.W.nsIn K mainGlobals "NoCertificate" = some (some (.ref c9)))
    (ac10 : PySem.W.nsIn K mainGlobals "NoRuns" = some (some (.ref c10)))
    (ac11 : PySem.W.nsIn K mainGlobals "NotPending" = some (some (.ref c11)))
    (ac12 : PySem.W.nsIn K mainGlobals "NotFinished" = some (some (.ref c12)))
    (ac13 : PySem.W.nsIn K mainGlobals "NotPlain" = some (some (.ref c13)))
    (ac14 : PySem.W.nsIn K mainGlobals "NotSimple" = some (some (.ref c14)))
    (ac15 : PySem.W.nsIn K mainGlobals "NoMaker" = some (some (.ref c15)))
    (ac16 : PySem.W.nsIn K mainGlobals "NameTaken" = some (some (.ref c16)))
    (ac17 : PySem.W.nsIn K mainGlobals "UnknownFunction" = some (some (.ref c17)))
    (ac18 : PySem.W.nsIn K mainGlobals "UnknownItem" = some (some (.ref c18)))
    (ac19 : PySem.W.nsIn K mainGlobals "RoundCallsError" = some (some (.ref c19)))
    (b2 : PySem.W.findIn K (.ref c2) "__init__" = some (some (.ref i2)))
    (li2 : K.lookup i2 = some ⟨oci2, odi2, .func (PySem.W.fnOf "__init__" "NoPath.__init__" (defArgs s_i2) (defBody s_i2) (defScope s_i2) .none kVi2 dci2 pmi2 ani2 cdi2 cti2), sli2⟩)
    (ci2 : PySem.W.codeIn K cdi2 "NoPath.__init__" = true)
    (b3 : PySem.W.findIn K (.ref c3) "__init__" = some (some (.ref i3)))
    (li3 : K.lookup i3 = some ⟨oci3, odi3, .func (PySem.W.fnOf "__init__" "UnknownName.__init__" (defArgs s_i3) (defBody s_i3) (defScope s_i3) .none kVi3 dci3 pmi3 ani3 cdi3 cti3), sli3⟩)
    (ci3 : PySem.W.codeIn K cdi3 "UnknownName.__init__" = true)
    (b4 : PySem.W.findIn K (.ref c4) "__init__" = some (some (.ref i4)))
    (li4 : K.lookup i4 = some ⟨oci4, odi4, .func (PySem.W.fnOf "__init__" "UnknownTag.__init__" (defArgs s_i4) (defBody s_i4) (defScope s_i4) .none kVi4 dci4 pmi4 ani4 cdi4 cti4), sli4⟩)
    (ci4 : PySem.W.codeIn K cdi4 "UnknownTag.__init__" = true)
    (b5 : PySem.W.findIn K (.ref c5) "__init__" = some (some (.ref i5)))
    (li5 : K.lookup i5 = some ⟨oci5, odi5, .func (PySem.W.fnOf "__init__" "WrongCount.__init__" (defArgs s_i5) (defBody s_i5) (defScope s_i5) .none kVi5 dci5 pmi5 ani5 cdi5 cti5), sli5⟩)
    (ci5 : PySem.W.codeIn K cdi5 "WrongCount.__init__" = true)
    (b6 : PySem.W.findIn K (.ref c6) "__init__" = some (some (.ref i6)))
    (li6 : K.lookup i6 = some ⟨oci6, odi6, .func (PySem.W.fnOf "__init__" "WrongSort.__init__" (defArgs s_i6) (defBody s_i6) (defScope s_i6) .none kVi6 dci6 pmi6 ani6 cdi6 cti6), sli6⟩)
    (ci6 : PySem.W.codeIn K cdi6 "WrongSort.__init__" = true)
    (b7 : PySem.W.findIn K (.ref c7) "__init__" = some (some (.ref i7)))
    (li7 : K.lookup i7 = some ⟨oci7, odi7, .func (PySem.W.fnOf "__init__" "WrongPlace.__init__" (defArgs s_i7) (defBody s_i7) (defScope s_i7) .none kVi7 dci7 pmi7 ani7 cdi7 cti7), sli7⟩)
    (ci7 : PySem.W.codeIn K cdi7 "WrongPlace.__init__" = true)
    (b8 : PySem.W.findIn K (.ref c8) "__init__" = some (some (.ref i8)))
    (li8 : K.lookup i8 = some ⟨oci8, odi8, .func (PySem.W.fnOf "__init__" "WrongArguments.__init__" (defArgs s_i8) (defBody s_i8) (defScope s_i8) .none kVi8 dci8 pmi8 ani8 cdi8 cti8), sli8⟩)
    (ci8 : PySem.W.codeIn K cdi8 "WrongArguments.__init__" = true)
    (b9 : PySem.W.findIn K (.ref c9) "__init__" = some (some (.ref i9)))
    (li9 : K.lookup i9 = some ⟨oci9, odi9, .func (PySem.W.fnOf "__init__" "NoCertificate.__init__" (defArgs s_i9) (defBody s_i9) (defScope s_i9) .none kVi9 dci9 pmi9 ani9 cdi9 cti9), sli9⟩)
    (ci9 : PySem.W.codeIn K cdi9 "NoCertificate.__init__" = true)
    (b10 : PySem.W.findIn K (.ref c10) "__init__" = some (some (.ref i10)))
    (li10 : K.lookup i10 = some ⟨oci10, odi10, .func (PySem.W.fnOf "__init__" "NoRuns.__init__" (defArgs s_i10) (defBody s_i10) (defScope s_i10) .none kVi10 dci10 pmi10 ani10 cdi10 cti10), sli10⟩)
    (ci10 : PySem.W.codeIn K cdi10 "NoRuns.__init__" = true)
    (b11 : PySem.W.findIn K (.ref c11) "__init__" = some (some (.ref i11)))
    (li11 : K.lookup i11 = some ⟨oci11, odi11, .func (PySem.W.fnOf "__init__" "NotPending.__init__" (defArgs s_i11) (defBody s_i11) (defScope s_i11) .none kVi11 dci11 pmi11 ani11 cdi11 cti11), sli11⟩)
    (ci11 : PySem.W.codeIn K cdi11 "NotPending.__init__" = true)
    (b13 : PySem.W.findIn K (.ref c13) "__init__" = some (some (.ref i13)))
    (li13 : K.lookup i13 = some ⟨oci13, odi13, .func (PySem.W.fnOf "__init__" "NotPlain.__init__" (defArgs s_i13) (defBody s_i13) (defScope s_i13) .none kVi13 dci13 pmi13 ani13 cdi13 cti13), sli13⟩)
    (ci13 : PySem.W.codeIn K cdi13 "NotPlain.__init__" = true)
    (b14 : PySem.W.findIn K (.ref c14) "__init__" = some (some (.ref i14)))
    (li14 : K.lookup i14 = some ⟨oci14, odi14, .func (PySem.W.fnOf "__init__" "NotSimple.__init__" (defArgs s_i14) (defBody s_i14) (defScope s_i14) .none kVi14 dci14 pmi14 ani14 cdi14 cti14), sli14⟩)
    (ci14 : PySem.W.codeIn K cdi14 "NotSimple.__init__" = true)
    (b15 : PySem.W.findIn K (.ref c15) "__init__" = some (some (.ref i15)))
    (li15 : K.lookup i15 = some ⟨oci15, odi15, .func (PySem.W.fnOf "__init__" "NoMaker.__init__" (defArgs s_i15) (defBody s_i15) (defScope s_i15) .none kVi15 dci15 pmi15 ani15 cdi15 cti15), sli15⟩)
    (ci15 : PySem.W.codeIn K cdi15 "NoMaker.__init__" = true)
    (b16 : PySem.W.findIn K (.ref c16) "__init__" = some (some (.ref i16)))
    (li16 : K.lookup i16 = some ⟨oci16, odi16, .func (PySem.W.fnOf "__init__" "NameTaken.__init__" (defArgs s_i16) (defBody s_i16) (defScope s_i16) .none kVi16 dci16 pmi16 ani16 cdi16 cti16), sli16⟩)
    (ci16 : PySem.W.codeIn K cdi16 "NameTaken.__init__" = true)
    (b17 : PySem.W.findIn K (.ref c17) "__init__" = some (some (.ref i17)))
    (li17 : K.lookup i17 = some ⟨oci17, odi17, .func (PySem.W.fnOf "__init__" "UnknownFunction.__init__" (defArgs s_i17) (defBody s_i17) (defScope s_i17) .none kVi17 dci17 pmi17 ani17 cdi17 cti17), sli17⟩)
    (ci17 : PySem.W.codeIn K cdi17 "UnknownFunction.__init__" = true)
    (b18 : PySem.W.findIn K (.ref c18) "__init__" = some (some (.ref i18)))
    (li18 : K.lookup i18 = some ⟨oci18, odi18, .func (PySem.W.fnOf "__init__" "UnknownItem.__init__" (defArgs s_i18) (defBody s_i18) (defScope s_i18) .none kVi18 dci18 pmi18 ani18 cdi18 cti18), sli18⟩)
    (ci18 : PySem.W.codeIn K cdi18 "UnknownItem.__init__" = true)
    (ad0 : PySem.W.nsIn K mainGlobals "_law_deck" = some (some (.ref d0)))
    (ld0 : K.lookup d0 = some ⟨ocd0, odd0, .func (PySem.W.fnOf "_law_deck" "_law_deck" (defArgs s_deck) (defBody s_deck) (defScope s_deck) .none kVd0 dcd0 pmd0 and0 cdd0 ctd0), sld0⟩)
    (cd0_ : PySem.W.codeIn K cdd0 "_law_deck" = true)
    (kd0 : PySem.W.keepIn K (.ref d0) = true)
    (ad1 : PySem.W.nsIn K mainGlobals "_law_draw" = some (some (.ref d1)))
    (ld1 : K.lookup d1 = some ⟨ocd1, odd1, .func (PySem.W.fnOf "_law_draw" "_law_draw" (defArgs s_draw) (defBody s_draw) (defScope s_draw) .none kVd1 dcd1 pmd1 and1 cdd1 ctd1), sld1⟩)
    (cd1_ : PySem.W.codeIn K cdd1 "_law_draw" = true)
    (kd1 : PySem.W.keepIn K (.ref d1) = true)
    (ad2 : PySem.W.nsIn K mainGlobals "_law_pick" = some (some (.ref d2)))
    (ld2 : K.lookup d2 = some ⟨ocd2, odd2, .func (PySem.W.fnOf "_law_pick" "_law_pick" (defArgs s_pick) (defBody s_pick) (defScope s_pick) .none kVd2 dcd2 pmd2 and2 cdd2 ctd2), sld2⟩)
    (cd2_ : PySem.W.codeIn K cdd2 "_law_pick" = true)
    (kd2 : PySem.W.keepIn K (.ref d2) = true)
    (ad3 : PySem.W.nsIn K mainGlobals "_law_odd" = some (some (.ref d3)))
    (ld3 : K.lookup d3 = some ⟨ocd3, odd3, .func (PySem.W.fnOf "_law_odd" "_law_odd" (defArgs s_odd) (defBody s_odd) (defScope s_odd) .none kVd3 dcd3 pmd3 and3 cdd3 ctd3), sld3⟩)
    (cd3_ : PySem.W.codeIn K cdd3 "_law_odd" = true)
    (kd3 : PySem.W.keepIn K (.ref d3) = true)
    (ad4 : PySem.W.nsIn K mainGlobals "_law_made" = some (some (.ref d4)))
    (ld4 : K.lookup d4 = some ⟨ocd4, odd4, .func (PySem.W.fnOf "_law_made" "_law_made" (defArgs s_made) (defBody s_made) (defScope s_made) .none kVd4 dcd4 pmd4 and4 cdd4 ctd4), sld4⟩)
    (cd4_ : PySem.W.codeIn K cdd4 "_law_made" = true)
    (kd4 : PySem.W.keepIn K (.ref d4) = true)
    (ad5 : PySem.W.nsIn K mainGlobals "_law_named" = some (some (.ref d5)))
    (ld5 : K.lookup d5 = some ⟨ocd5, odd5, .func (PySem.W.fnOf "_law_named" "_law_named" (defArgs s_named) (defBody s_named) (defScope s_named) .none kVd5 dcd5 pmd5 and5 cdd5 ctd5), sld5⟩)
    (cd5_ : PySem.W.codeIn K cdd5 "_law_named" = true)
    (kd5 : PySem.W.keepIn K (.ref d5) = true)
    (ad6 : PySem.W.nsIn K mainGlobals "_law_carried" = some (some (.ref d6)))
    (ld6 : K.lookup d6 = some ⟨ocd6, odd6, .func (PySem.W.fnOf "_law_carried" "_law_carried" (defArgs s_carried) (defBody s_carried) (defScope s_carried) .none kVd6 dcd6 pmd6 and6 cdd6 ctd6), sld6⟩)
    (cd6_ : PySem.W.codeIn K cdd6 "_law_carried" = true)
    (kd6 : PySem.W.keepIn K (.ref d6) = true)
    (ad7 : PySem.W.nsIn K mainGlobals "_law_kinds" = some (some (.ref d7)))
    (ld7 : K.lookup d7 = some ⟨ocd7, odd7, .func (PySem.W.fnOf "_law_kinds" "_law_kinds" (defArgs s_kinds) (defBody s_kinds) (defScope s_kinds) .none kVd7 dcd7 pmd7 and7 cdd7 ctd7), sld7⟩)
    (cd7_ : PySem.W.codeIn K cdd7 "_law_kinds" = true)
    (kd7 : PySem.W.keepIn K (.ref d7) = true)
    (ad8 : PySem.W.nsIn K mainGlobals "_law_right" = some (some (.ref d8)))
    (ld8 : K.lookup d8 = some ⟨ocd8, odd8, .func (PySem.W.fnOf "_law_right" "_law_right" (defArgs s_right) (defBody s_right) (defScope s_right) .none kVd8 dcd8 pmd8 and8 cdd8 ctd8), sld8⟩)
    (cd8_ : PySem.W.codeIn K cdd8 "_law_right" = true)
    (kd8 : PySem.W.keepIn K (.ref d8) = true)
    (ad9 : PySem.W.nsIn K mainGlobals "law" = some (some (.ref d9)))
    (ld9 : K.lookup d9 = some ⟨ocd9, odd9, .func (PySem.W.fnOf "law" "law" (defArgs s_law) (defBody s_law) (defScope s_law) .none kVd9 dcd9 pmd9 and9 cdd9 ctd9), sld9⟩)
    (cd9_ : PySem.W.codeIn K cdd9 "law" = true)
    (kd9 : PySem.W.keepIn K (.ref d9) = true)
    (n_isinstance : PySem.W.nsIn K mainGlobals "isinstance" = some none)
    (n_repr : PySem.W.nsIn K mainGlobals "repr" = some none)
    (n_enumerate : PySem.W.nsIn K mainGlobals "enumerate" = some none)
    (n_range : PySem.W.nsIn K mainGlobals "range" = some none)
    (n_len : PySem.W.nsIn K mainGlobals "len" = some none)
    (n_zip : PySem.W.nsIn K mainGlobals "zip" = some none)
    (n_list : PySem.W.nsIn K mainGlobals "list" = some none)
    (n_ValueError : PySem.W.nsIn K mainGlobals "ValueError" = some none)
    (n_KeyError : PySem.W.nsIn K mainGlobals "KeyError" = some none)
    (s1 : PySem.W.specialIn K (.ref c19) "__getattribute__" = some (some (.builtin "type.__getattribute__"))) (s2 : PySem.W.readsIn K c19 (.type "type") = true) (s3 : PySem.W.findCls K (.ref c19) (.type "type") "__init__" = some (.val (.builtin "ValueError.__init__")))
    (s4 : PySem.W.findCls K (.type "KeyError") (.type "type") "__init__" = some (.val (.builtin "KeyError.__init__")))
    (g1 : PySem.W.specialIn K (.builtin "object.__class__") "__get__" = some (some (.builtin "getset_descriptor.__get__"))) (g2 : PySem.W.takesIn K (.builtin "object.__class__") = some true)
    (x0 : xcOk K "ValueError.__new__" veTail c0 = true)
    (y0 : chkN K c0 = true)
    (x1 : xcOk K "ValueError.__new__" veTail c1 = true)
    (y1 : chkN K c1 = true)
    (x2 : xcOk K "ValueError.__new__" veTail c2 = true)
    (y2 : chkI K "path" c2 i2 = true)
    (x3 : xcOk K "ValueError.__new__" veTail c3 = true)
    (y3 : chkI K "path" c3 i3 = true)
    (x4 : xcOk K "ValueError.__new__" veTail c4 = true)
    (y4 : chkI K "path" c4 i4 = true)
    (x5 : xcOk K "ValueError.__new__" veTail c5 = true)
    (y5 : chkI K "path" c5 i5 = true)
    (x6 : xcOk K "ValueError.__new__" veTail c6 = true)
    (y6 : chkI K "path" c6 i6 = true)
    (x7 : xcOk K "ValueError.__new__" veTail c7 = true)
    (y7 : chkI K "path" c7 i7 = true)
    (x8 : xcOk K "ValueError.__new__" veTail c8 = true)
    (y8 : chkI K "count" c8 i8 = true)
    (x9 : xcOk K "ValueError.__new__" veTail c9 = true)
    (y9 : chkI K "name" c9 i9 = true)
    (x10 : xcOk K "ValueError.__new__" veTail c10 = true)
    (y10 : chkI K "name" c10 i10 = true)
    (x11 : xcOk K "ValueError.__new__" veTail c11 = true)
    (y11 : chkI K "call" c11 i11 = true)
    (x12 : xcOk K "ValueError.__new__" veTail c12 = true)
    (y12 : chkN K c12 = true)
    (x13 : xcOk K "ValueError.__new__" veTail c13 = true)
    (y13 : chkI K "name" c13 i13 = true)
    (x14 : xcOk K "ValueError.__new__" veTail c14 = true)
    (y14 : chkI K "name" c14 i14 = true)
    (x15 : xcOk K "ValueError.__new__" veTail c15 = true)
    (y15 : chkI K "name" c15 i15 = true)
    (x16 : xcOk K "ValueError.__new__" veTail c16 = true)
    (y16 : chkI K "name" c16 i16 = true)
    (x17 : xcOk K "LookupError.__new__" keTail c17 = true)
    (y17 : chkI K "name" c17 i17 = true)
    (x18 : xcOk K "LookupError.__new__" keTail c18 = true)
    (y18 : chkI K "name" c18 i18 = true)
    (x19 : xcOk K "ValueError.__new__" veTail c19 = true)
    (y19 : chkN K c19 = true)
    (kk : chkK K [c0, c1, c2, c3, c4, c5, c6, c7, c8, c9, c10, c11, c12, c13, c14, c15, c16, c17, c18, c19] = true)
    (hfa : mg dn = some (.ref fa)) :
    ∃ fd : FuncData, (∀ (s : Shared) (u : Value), BindsTo s fd ⟨[u], []⟩ [("_law_script", u)]) ∧ ∀ base : Heap, K.In base → base.Ns mainGlobals mg → Fg P w K mg base 5 fa fd ["_law_script"] (spLaw K) := by
  subst hd
  have e := hfa.symm.trans (PySem.W.mg_of X G ad9)
  cases e
  have m_isinstance := PySem.W.mg_none_of X G n_isinstance
  have m_repr := PySem.W.mg_none_of X G n_repr
  have m_enumerate := PySem.W.mg_none_of X G n_enumerate
  have m_range := PySem.W.mg_none_of X G n_range
  have m_len := PySem.W.mg_none_of X G n_len
  have m_zip := PySem.W.mg_none_of X G n_zip
  have m_list := PySem.W.mg_none_of X G n_list
  have m_ValueError := PySem.W.mg_none_of X G n_ValueError
  have m_KeyError := PySem.W.mg_none_of X G n_KeyError
  have mR := PySem.W.mg_of X G ac19
  have F0 := fun_mk (st := s_deck) ld0 cd0_ kd0
  have bd0 := F0.binds (ps := ["_law_script"]) fun _ _ _ _ _ _ us hl => match us, hl with | [_], _ => rfl
  have F1 := fun_mk (st := s_draw) ld1 cd1_ kd1
  have bd1 := F1.binds (ps := ["_law_deck_here", "_law_limit"]) fun _ _ _ _ _ _ us hl => match us, hl with | [_, _], _ => rfl
  have F2 := fun_mk (st := s_pick) ld2 cd2_ kd2
  have bd2 := F2.binds (ps := ["_law_deck_here", "_law_items"]) fun _ _ _ _ _ _ us hl => match us, hl with | [_, _], _ => rfl
  have F3 := fun_mk (st := s_odd) ld3 cd3_ kd3
  have bd3 := F3.binds (ps := ["_law_deck_here"]) fun _ _ _ _ _ _ us hl => match us, hl with | [_], _ => rfl
  have F4 := fun_mk (st := s_made) ld4 cd4_ kd4
  have bd4 := F4.binds (ps := ["_law_it"]) fun _ _ _ _ _ _ us hl => match us, hl with | [_], _ => rfl
  have F5 := fun_mk (st := s_named) ld5 cd5_ kd5
  have bd5 := F5.binds (ps := ["_law_it"]) fun _ _ _ _ _ _ us hl => match us, hl with | [_], _ => rfl
  have F6 := fun_mk (st := s_carried) ld6 cd6_ kd6
  have bd6 := F6.binds (ps := ["_law_e", "_law_word"]) fun _ _ _ _ _ _ us hl => match us, hl with | [_, _], _ => rfl
  have F7 := fun_mk (st := s_kinds) ld7 cd7_ kd7
  have bd7 := F7.binds (ps := ["_law_e"]) fun _ _ _ _ _ _ us hl => match us, hl with | [_], _ => rfl
  have F8 := fun_mk (st := s_right) ld8 cd8_ kd8
  have bd8 := F8.binds (ps := ["_law_it"]) fun _ _ _ _ _ _ us hl => match us, hl with | [_], _ => rfl
  have F9 := fun_mk (st := s_law) ld9 cd9_ kd9
  refine ⟨PySem.W.fnOf "law" "law" (defArgs s_law) (defBody s_law) (defScope s_law) .none kVd9 dcd9 pmd9 and9 cdd9 ctd9, fun s u => .of_eq rfl, fun base hK hG => ?_⟩
  have T : Cs P w K mg base (fun i => [c0, c1, c2, c3, c4, c5, c6, c7, c8, c9, c10, c11, c12, c13, c14, c15, c16, c17, c18, c19].getD i 0) := by
    refine ⟨fun i fo hf => ?_, fun i n hn => ?_, ⟨g1, g2⟩, fun i j hi hj => (chkK_of kk i hi).2.2 j hj, fun i hi => (chkK_of kk i hi).1, fun i hi => (chkK_of kk i hi).2.1⟩
    · have hi : i < 20 := (List.getElem?_eq_some_iff.mp hf).1
      match i, hi, hf with
      | 0, _, hf =>
        have e : fo = none := (Option.some.inj hf).symm
        subst e
        exact c1_none x0 y0
      | 1, _, hf =>
        have e : fo = none := (Option.some.inj hf).symm
        subst e
        exact c1_none x1 y1
      | 2, _, hf =>
        have e : fo = some "path" := (Option.some.inj hf).symm
        subst e
        exact c1_2 x2 b2 y2 li2 ci2 mR s1 s2 s3
      | 3, _, hf =>
        have e : fo = some "path" := (Option.some.inj hf).symm
        subst e
        exact c1_3 x3 b3 y3 li3 ci3 mR s1 s2 s3
      | 4, _, hf =>
        have e : fo = some "path" := (Option.some.inj hf).symm
        subst e
        exact c1_4 x4 b4 y4 li4 ci4 mR s1 s2 s3
      | 5, _, hf =>
        have e : fo = some "path" := (Option.some.inj hf).symm
        subst e
        exact c1_5 x5 b5 y5 li5 ci5 mR s1 s2 s3
      | 6, _, hf =>
        have e : fo = some "path" := (Option.some.inj hf).symm
        subst e
        exact c1_6 x6 b6 y6 li6 ci6 mR s1 s2 s3
      | 7, _, hf =>
        have e : fo = some "path" := (Option.some.inj hf).symm
        subst e
        exact c1_7 x7 b7 y7 li7 ci7 mR s1 s2 s3
      | 8, _, hf =>
        have e : fo = some "count" := (Option.some.inj hf).symm
        subst e
        exact c1_8 x8 b8 y8 li8 ci8 mR s1 s2 s3
      | 9, _, hf =>
        have e : fo = some "name" := (Option.some.inj hf).symm
        subst e
        exact c1_9 x9 b9 y9 li9 ci9 mR s1 s2 s3
      | 10, _, hf =>
        have e : fo = some "name" := (Option.some.inj hf).symm
        subst e
        exact c1_10 x10 b10 y10 li10 ci10 mR s1 s2 s3
      | 11, _, hf =>
        have e : fo = some "call" := (Option.some.inj hf).symm
        subst e
        exact c1_11 x11 b11 y11 li11 ci11 mR s1 s2 s3
      | 12, _, hf =>
        have e : fo = none := (Option.some.inj hf).symm
        subst e
        exact c1_none x12 y12
      | 13, _, hf =>
        have e : fo = some "name" := (Option.some.inj hf).symm
        subst e
        exact c1_13 x13 b13 y13 li13 ci13 mR s1 s2 s3
      | 14, _, hf =>
        have e : fo = some "name" := (Option.some.inj hf).symm
        subst e
        exact c1_14 x14 b14 y14 li14 ci14 mR s1 s2 s3
      | 15, _, hf =>
        have e : fo = some "name" := (Option.some.inj hf).symm
        subst e
        exact c1_15 x15 b15 y15 li15 ci15 mR s1 s2 s3
      | 16, _, hf =>
        have e : fo = some "name" := (Option.some.inj hf).symm
        subst e
        exact c1_16 x16 b16 y16 li16 ci16 mR s1 s2 s3
      | 17, _, hf =>
        have e : fo = some "name" := (Option.some.inj hf).symm
        subst e
        exact c1_17 x17 b17 y17 li17 ci17 m_KeyError s4
      | 18, _, hf =>
        have e : fo = some "name" := (Option.some.inj hf).symm
        subst e
        exact c1_18 x18 b18 y18 li18 ci18 m_KeyError s4
      | 19, _, hf =>
        have e : fo = none := (Option.some.inj hf).symm
        subst e
        exact c1_none x19 y19
    · have hi : i < 20 := (List.getElem?_eq_some_iff.mp hn).1
      match i, hi, hn with
      | 0, _, hn =>
        have e : n = "InvalidText" := (Option.some.inj hn).symm
        subst e
        exact PySem.W.mg_of X G ac0
      | 1, _, hn =>
        have e : n = "InvalidCommand" := (Option.some.inj hn).symm
        subst e
        exact PySem.W.mg_of X G ac1
      | 2, _, hn =>
        have e : n = "NoPath" := (Option.some.inj hn).symm
        subst e
        exact PySem.W.mg_of X G ac2
      | 3, _, hn =>
        have e : n = "UnknownName" := (Option.some.inj hn).symm
        subst e
        exact PySem.W.mg_of X G ac3
      | 4, _, hn =>
        have e : n = "UnknownTag" := (Option.some.inj hn).symm
        subst e
        exact PySem.W.mg_of X G ac4
      | 5, _, hn =>
        have e : n = "WrongCount" := (Option.some.inj hn).symm
        subst e
        exact PySem.W.mg_of X G ac5
      | 6, _, hn =>
        have e : n = "WrongSort" := (Option.some.inj hn).symm
        subst e
        exact PySem.W.mg_of X G ac6
      | 7, _, hn =>
        have e : n = "WrongPlace" := (Option.some.inj hn).symm
        subst e
        exact PySem.W.mg_of X G ac7
      | 8, _, hn =>
        have e : n = "WrongArguments" := (Option.some.inj hn).symm
        subst e
        exact PySem.W.mg_of X G ac8
      | 9, _, hn =>
        have e : n = "NoCertificate" := (Option.some.inj hn).symm
        subst e
        exact PySem.W.mg_of X G ac9
      | 10, _, hn =>
        have e : n = "NoRuns" := (Option.some.inj hn).symm
        subst e
        exact PySem.W.mg_of X G ac10
      | 11, _, hn =>
        have e : n = "NotPending" := (Option.some.inj hn).symm
        subst e
        exact PySem.W.mg_of X G ac11
      | 12, _, hn =>
        have e : n = "NotFinished" := (Option.some.inj hn).symm
        subst e
        exact PySem.W.mg_of X G ac12
      | 13, _, hn =>
        have e : n = "NotPlain" := (Option.some.inj hn).symm
        subst e
        exact PySem.W.mg_of X G ac13
      | 14, _, hn =>
        have e : n = "NotSimple" := (Option.some.inj hn).symm
        subst e
        exact PySem.W.mg_of X G ac14
      | 15, _, hn =>
        have e : n = "NoMaker" := (Option.some.inj hn).symm
        subst e
        exact PySem.W.mg_of X G ac15
      | 16, _, hn =>
        have e : n = "NameTaken" := (Option.some.inj hn).symm
        subst e
        exact PySem.W.mg_of X G ac16
      | 17, _, hn =>
        have e : n = "UnknownFunction" := (Option.some.inj hn).symm
        subst e
        exact PySem.W.mg_of X G ac17
      | 18, _, hn =>
        have e : n = "UnknownItem" := (Option.some.inj hn).symm
        subst e
        exact PySem.W.mg_of X G ac18
      | 19, _, hn =>
        have e : n = "RoundCallsError" := (Option.some.inj hn).symm
        subst e
        exact PySem.W.mg_of X G ac19
  have D0 : Df P w K mg base 1 "_law_deck" ["_law_script"] (spDeck K) := ⟨⟨_, _, ok_deck F0 m_list, PySem.W.mg_of X G ad0, kd0, bd0⟩⟩
  have D1 : Df P w K mg base 1 "_law_draw" ["_law_deck_here", "_law_limit"] (spDraw) := ⟨⟨_, _, ok_draw F1, PySem.W.mg_of X G ad1, kd1, bd1⟩⟩
  have D2 : Df P w K mg base 2 "_law_pick" ["_law_deck_here", "_law_items"] (spPick K) := ⟨⟨_, _, ok_pick F2 D1 m_len, PySem.W.mg_of X G ad2, kd2, bd2⟩⟩
  have D3 : Df P w K mg base 3 "_law_odd" ["_law_deck_here"] (spOdd K) := ⟨⟨_, _, ok_odd F3 D2, PySem.W.mg_of X G ad3, kd3, bd3⟩⟩
  have D4 : Df P w K mg base 3 "_law_made" ["_law_it"] (spMade _) := ⟨⟨_, _, ok_made F4 T, PySem.W.mg_of X G ad4, kd4, bd4⟩⟩
  have D5 : Df P w K mg base 3 "_law_named" ["_law_it"] (spNamed _) := ⟨⟨_, _, ok_named F5 T, PySem.W.mg_of X G ad5, kd5, bd5⟩⟩
  have D6 : Df P w K mg base 1 "_law_carried" ["_law_e", "_law_word"] (spCarried _) := ⟨⟨_, _, ok_carried F6 T, PySem.W.mg_of X G ad6, kd6, bd6⟩⟩
  have D7 : Df P w K mg base 3 "_law_kinds" ["_law_e"] (spKinds _) := ⟨⟨_, _, ok_kinds F7 T m_isinstance, PySem.W.mg_of X G ad7, kd7, bd7⟩⟩
  have D8 : Df P w K mg base 4 "_law_right" ["_law_it"] (spRight K) := ⟨⟨_, _, ok_right F8 T D4 D5 D6 D7 m_isinstance m_repr m_enumerate m_range m_len m_zip m_ValueError m_KeyError, PySem.W.mg_of X G ad8, kd8, bd8⟩⟩
  exact ok_law F9 T D0 D3 D8 D7 m_isinstance m_range m_ValueError m_KeyError
end
end K86

open PySem PySem.W PyProof.Rows
set_option Elab.async false
set_option maxRecDepth 100000
set_option maxHeartbeats 0
open_top head for PySem.Challenge.rw_roundcalls_k86_errors

set_option Elab.async false
set_option linter.all false
open PySem PySem.W PyProof.Rows
set_option maxRecDepth 100000 in
set_option maxHeartbeats 0 in
theorem PySem.Challenge.cw_roundcalls_k86_errors_holds : PySem.Challenge.rw_roundcalls_k86_errors.Holds := by
  refine head ?_
  k_fill
  refine GG.walk_go (l := PySem.Challenge.rw_roundcalls_k86_errors) (n := 63) (k := 5) (sp := K86.spLaw) (x := "_law_script") rfl (by decide) rfl ⟨⟨rfl, by decide, by decide⟩, rfl⟩ (fun w h Y => PySem.W.kIn_of Y) ?F (fun K H a ns hl _ hS => ⟨a, ns, rfl, hS, hl, fun _ => rfl⟩)
  case F =>
    intro w mg fa h KX G hmg
    refine' K86.all_mk KX G rfl ?ac0 ?ac1 ?ac2 ?ac3 ?ac4 ?ac5 ?ac6 ?ac7 ?ac8 ?ac9 ?ac10 ?ac11 ?ac12 ?ac13 ?ac14 ?ac15 ?ac16 ?ac17 ?ac18 ?ac19 ?b2 ?li2 ?ci2 ?b3 ?li3 ?ci3 ?b4 ?li4 ?ci4 ?b5 ?li5 ?ci5 ?b6 ?li6 ?ci6 ?b7 ?li7 ?ci7 ?b8 ?li8 ?ci8 ?b9 ?li9 ?ci9 ?b10 ?li10 ?ci10 ?b11 ?li11 ?ci11 ?b13 ?li13 ?ci13 ?b14 ?li14 ?ci14 ?b15 ?li15 ?ci15 ?b16 ?li16 ?ci16 ?b17 ?li17 ?ci17 ?b18 ?li18 ?ci18 ?ad0 ?ld0 ?cd0_ ?kd0 ?ad1 ?ld1 ?cd1_ ?kd1 ?ad2 ?ld2 ?cd2_ ?kd2 ?ad3 ?ld3 ?cd3_ ?kd3 ?ad4 ?ld4 ?cd4_ ?kd4 ?ad5 ?ld5 ?cd5_ ?kd5 ?ad6 ?ld6 ?cd6_ ?kd6 ?ad7 ?ld7 ?cd7_ ?kd7 ?ad8 ?ld8 ?cd8_ ?kd8 ?ad9 ?ld9 ?cd9_ ?kd9 ?n_isinstance ?n_repr ?n_enumerate ?n_range ?n_len ?n_zip ?n_list ?n_ValueError ?n_KeyError ?s1 ?s2 ?s3 ?s4 ?g1 ?g2 ?x0 ?y0 ?x1 ?y1 ?x2 ?y2 ?x3 ?y3 ?x4 ?y4 ?x5 ?y5 ?x6 ?y6 ?x7 ?y7 ?x8 ?y8 ?x9 ?y9 ?x10 ?y10 ?x11 ?y11 ?x12 ?y12 ?x13 ?y13 ?x14 ?y14 ?x15 ?y15 ?x16 ?y16 ?x17 ?y17 ?x18 ?y18 ?x19 ?y19 ?kk hmg
    (case ac0 => k_is)
    (case ac1 => k_is)
    (case ac2 => k_is)
    (case ac3 => k_is)
    (case ac4 => k_is)
    (case ac5 => k_is)
    (case ac6 => k_is)
    (case ac7 => k_is)
    (case ac8 => k_is)
    (case ac9 => k_is)
    (case ac10 => k_is)
    (case ac11 => k_is)
    (case ac12 => k_is)
    (case ac13 => k_is)
    (case ac14 => k_is)
    (case ac15 => k_is)
    (case ac16 => k_is)
    (case ac17 => k_is)
    (case ac18 => k_is)
    (case ac19 => k_is)
    (case b2 => k_is)
    (case li2 => k_is)
    (case ci2 => k_is)
    (case b3 => k_is)
    (case li3 => k_is)
    (case ci3 => k_is)
    (case b4 => k_is)
    (case li4 => k_is)
    (case ci4 => k_is)
    (case b5 => k_is)
    (case li5 => k_is)
    (case ci5 => k_is)
    (case b6 => k_is)
    (case li6 => k_is)
    (case ci6 => k_is)
    (case b7 => k_is)
    (case li7 => k_is)
    (case ci7 => k_is)
    (case b8 => k_is)
    (case li8 => k_is)
    (case ci8 => k_is)
    (case b9 => k_is)
    (case li9 => k_is)
    (case ci9 => k_is)
    (case b10 => k_is)
    (case li10 => k_is)
    (case ci10 => k_is)
    (case b11 => k_is)
    (case li11 => k_is)
    (case ci11 => k_is)
    (case b13 => k_is)
    (case li13 => k_is)
    (case ci13 => k_is)
    (case b14 => k_is)
    (case li14 => k_is)
    (case ci14 => k_is)
    (case b15 => k_is)
    (case li15 => k_is)
    (case ci15 => k_is)
    (case b16 => k_is)
    (case li16 => k_is)
    (case ci16 => k_is)
    (case b17 => k_is)
    (case li17 => k_is)
    (case ci17 => k_is)
    (case b18 => k_is)
    (case li18 => k_is)
    (case ci18 => k_is)
    (case ad0 => k_is)
    (case ld0 => k_is)
    (case cd0_ => k_is)
    (case kd0 => k_is)
    (case ad1 => k_is)
    (case ld1 => k_is)
    (case cd1_ => k_is)
    (case kd1 => k_is)
    (case ad2 => k_is)
    (case ld2 => k_is)
    (case cd2_ => k_is)
    (case kd2 => k_is)
    (case ad3 => k_is)
    (case ld3 => k_is)
    (case cd3_ => k_is)
    (case kd3 => k_is)
    (case ad4 => k_is)
    (case ld4 => k_is)
    (case cd4_ => k_is)
    (case kd4 => k_is)
    (case ad5 => k_is)
    (case ld5 => k_is)
    (case cd5_ => k_is)
    (case kd5 => k_is)
    (case ad6 => k_is)
    (case ld6 => k_is)
    (case cd6_ => k_is)
    (case kd6 => k_is)
    (case ad7 => k_is)
    (case ld7 => k_is)
    (case cd7_ => k_is)
    (case kd7 => k_is)
    (case ad8 => k_is)
    (case ld8 => k_is)
    (case cd8_ => k_is)
    (case kd8 => k_is)
    (case ad9 => k_is)
    (case ld9 => k_is)
    (case cd9_ => k_is)
    (case kd9 => k_is)
    (case n_isinstance => k_is)
    (case n_repr => k_is)
    (case n_enumerate => k_is)
    (case n_range => k_is)
    (case n_len => k_is)
    (case n_zip => k_is)
    (case n_list => k_is)
    (case n_ValueError => k_is)
    (case n_KeyError => k_is)
    (case s1 => k_is)
    (case s2 => k_is)
    (case s3 => k_is)
    (case s4 => k_is)
    (case g1 => k_is)
    (case g2 => k_is)
    (case x0 => kernel_rfl)
    (case y0 => kernel_rfl)
    (case x1 => kernel_rfl)
    (case y1 => kernel_rfl)
    (case x2 => kernel_rfl)
    (case y2 => kernel_rfl)
    (case x3 => kernel_rfl)
    (case y3 => kernel_rfl)
    (case x4 => kernel_rfl)
    (case y4 => kernel_rfl)
    (case x5 => kernel_rfl)
    (case y5 => kernel_rfl)
    (case x6 => kernel_rfl)
    (case y6 => kernel_rfl)
    (case x7 => kernel_rfl)
    (case y7 => kernel_rfl)
    (case x8 => kernel_rfl)
    (case y8 => kernel_rfl)
    (case x9 => kernel_rfl)
    (case y9 => kernel_rfl)
    (case x10 => kernel_rfl)
    (case y10 => kernel_rfl)
    (case x11 => kernel_rfl)
    (case y11 => kernel_rfl)
    (case x12 => kernel_rfl)
    (case y12 => kernel_rfl)
    (case x13 => kernel_rfl)
    (case y13 => kernel_rfl)
    (case x14 => kernel_rfl)
    (case y14 => kernel_rfl)
    (case x15 => kernel_rfl)
    (case y15 => kernel_rfl)
    (case x16 => kernel_rfl)
    (case y16 => kernel_rfl)
    (case x17 => kernel_rfl)
    (case y17 => kernel_rfl)
    (case x18 => kernel_rfl)
    (case y18 => kernel_rfl)
    (case x19 => kernel_rfl)
    (case y19 => kernel_rfl)
    (case kk => kernel_rfl)
#print axioms PySem.Challenge.cw_roundcalls_k86_errors_holds
